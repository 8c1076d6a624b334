import PyProof.Rows.All
import Wide.All
import OpenK.AllK
import Wide.FinOn
import KE.KeyNested
import KE.KDictKeyed
import KE.KDictDisplayH
import HandS.ForMost
import HandS.TupLen
import HandS.DictComp
import HandS.Conv
import HandS.TupAny
import HandS.SortRule
import HandS.SortInts
import HandS.IsInst
import HandS.TupMul
import HandS.Star
import PyProof.Rows.SortShellAny
import PyProof.TupleOfSeq
import HandS.Base
import HandS.Call
import HandS.List
import HandS.Set
import HandS.SetFor
import HandS.Strs
import HandS.ExcValue
import HandS.SlotsOwn
import PyProof.Conv_bool
import PySem.Challenge.RW_firstbreach_k63_whole_sequences_of_acts
section
set_option autoImplicit false
set_option linter.all false
namespace Gr
variable {N L : Type}

abbrev Ways (N L : Type) := N → List (L × N × Int)
def Edge (W : Ways N L) (u v : N) : Prop := ∃ l w, (l, v, w) ∈ W u
inductive Way (W : Ways N L) (s : N) : List L → N → Prop
  | nil : Way W s [] s
  | snoc {ls : List L} {u : N} {l : L} {v : N} {w : Int} : Way W s ls u → (l, v, w) ∈ W u → Way W s (ls ++ [l]) v
def Rch (W : Ways N L) (u v : N) : Prop := ∃ ls, Way W u ls v

section
variable {W : Ways N L} {a b c s : N}
theorem Way.app {ls ms : List L} (x : Way W a ls b) (y : Way W b ms c) : Way W a (ls ++ ms) c := by
  induction y with
  | nil => simpa using x
  | snoc _ h ih => rw [← List.append_assoc]; exact .snoc ih h
theorem Way.cons {ls : List L} {l : L} {w : Int} (h : (l, b, w) ∈ W a) (y : Way W b ls c) : Way W a (l :: ls) c := by
  have x : Way W a ([] ++ [l]) b := .snoc .nil h
  exact Way.app x y
theorem Rch.refl (W : Ways N L) (a : N) : Rch W a a := ⟨[], .nil⟩
theorem Rch.trans (x : Rch W a b) (y : Rch W b c) : Rch W a c := let ⟨_, p⟩ := x; let ⟨_, q⟩ := y; ⟨_, p.app q⟩
theorem Rch.edge (h : Edge W a b) : Rch W a b := let ⟨_, _, m⟩ := h; ⟨_, .snoc .nil m⟩
theorem Rch.tail (x : Rch W a b) (h : Edge W b c) : Rch W a c := x.trans (.edge h)
/-- a set closed under steps holds all that is reached from its members -/
theorem Rch.closed {S : N → Prop} (hS : ∀ u v, S u → Edge W u v → S v) (x : Rch W a b) (ha : S a) : S b := by
  obtain ⟨ls, p⟩ := x
  induction p with
  | nil => exact ha
  | snoc _ h ih => exact hS _ _ ih ⟨_, _, h⟩
theorem Way.mono {V : Ways N L} (h : ∀ u x, x ∈ W u → x ∈ V u) {ls : List L} (x : Way W a ls b) : Way V a ls b := by
  induction x with
  | nil => exact .nil
  | snoc _ m ih => exact .snoc ih (h _ _ m)
end

/-! ### lists -/
theorem len_le_of_sub {α : Type} : ∀ {l m : List α}, l.Nodup → (∀ x ∈ l, x ∈ m) → l.length ≤ m.length
  | [], _, _, _ => Nat.zero_le _
  | x :: l, m, nd, h => by
    rw [List.nodup_cons] at nd
    obtain ⟨m1, m2, rfl⟩ := List.append_of_mem (h x (List.mem_cons_self ..))
    have := len_le_of_sub (l := l) (m := m1 ++ m2) nd.2 (fun y hy => by
      have := h y (List.mem_cons_of_mem _ hy)
      rcases List.mem_append.mp this with q | q
      · exact List.mem_append_left _ q
      · rcases List.mem_cons.mp q with q | q
        · subst q; exact absurd hy nd.1
        · exact List.mem_append_right _ q)
    simp only [List.length_append, List.length_cons] at this ⊢
    omega
theorem nodup_snoc {α : Type} {l : List α} {x : α} (h : l.Nodup) (hx : x ∉ l) : (l ++ [x]).Nodup := by
  rw [List.nodup_append]
  refine ⟨h, by simp, fun a ha b hb => ?_⟩
  simp at hb; subst hb
  intro e; subst e; exact hx ha
theorem nodup_get {α : Type} {l : List α} (h : l.Nodup) {i j : Nat} {x : α} (a : l[i]? = some x) (b : l[j]? = some x) : i = j := by
  obtain ⟨h1, e1⟩ := List.getElem?_eq_some_iff.mp a
  obtain ⟨h2, e2⟩ := List.getElem?_eq_some_iff.mp b
  exact (List.getElem_inj h).mp (e1.trans e2.symm)
theorem get_snoc {α : Type} {l : List α} {y : α} {i : Nat} {x : α} (h : (l ++ [y])[i]? = some x) : (l[i]? = some x ∧ i < l.length) ∨ (i = l.length ∧ x = y) := by
  by_cases hi : i < l.length
  · rw [List.getElem?_append_left hi] at h
    exact .inl ⟨h, hi⟩
  · rw [List.getElem?_append_right (by omega)] at h
    have : i - l.length = 0 := by
      cases e : i - l.length with
      | zero => rfl
      | succ k => rw [e] at h; simp at h
    rw [this] at h
    simp at h
    exact .inr ⟨by omega, h.symm⟩
theorem get_lt {α : Type} {l : List α} {i : Nat} {x : α} (h : l[i]? = some x) : i < l.length := (List.getElem?_eq_some_iff.mp h).1
theorem get_mem {α : Type} {l : List α} {i : Nat} {x : α} (h : l[i]? = some x) : x ∈ l := List.mem_of_getElem? h
theorem mem_get {α : Type} {l : List α} {x : α} (h : x ∈ l) : ∃ i : Nat, l[i]? = some x := List.mem_iff_getElem?.mp h
theorem get_left {α : Type} {l m : List α} {i : Nat} {x : α} (h : l[i]? = some x) : (l ++ m)[i]? = some x := by
  rw [List.getElem?_append_left (get_lt h)]; exact h
theorem get_last {α : Type} (l : List α) (x : α) : (l ++ [x])[l.length]? = some x := by simp

/-! ### the search in breadth: nodes, the origins, the place, the steps of the node there that are done -/
structure RI (W : Ways N L) (s : N) (nodes : List N) (org : N → Option (Option (N × L))) (at_ : Nat) (pre : List (L × N × Int)) : Prop where
  nd : nodes.Nodup
  first : nodes[0]? = some s
  dom : ∀ n, (org n).isSome = true ↔ n ∈ nodes
  root : ∀ n, org n = some none → n = s
  val : ∀ n p l, org n = some (some (p, l)) → ∃ (i j : Nat) (w : Int), nodes[i]? = some p ∧ nodes[j]? = some n ∧ i < j ∧ (l, n, w) ∈ W p
  cl : ∀ (i : Nat) n, i < at_ → nodes[i]? = some n → ∀ x ∈ W n, x.2.1 ∈ nodes
  clp : ∀ x ∈ pre, x.2.1 ∈ nodes
  le : at_ ≤ nodes.length
  rch : ∀ n ∈ nodes, Rch W s n

section
variable [DecidableEq N] {W : Ways N L} {s : N} {nodes : List N} {org : N → Option (Option (N × L))} {at_ : Nat} {pre : List (L × N × Int)}
theorem RI.init (W : Ways N L) (s : N) {org : N → Option (Option (N × L))} (h : ∀ n, org n = if n = s then some none else none) : RI W s [s] org 0 [] where
  nd := by simp
  first := rfl
  dom := fun n => by
    rw [h]
    by_cases e : n = s <;> simp [e]
  root := fun n e => by
    rw [h] at e
    by_cases q : n = s
    · exact q
    · rw [if_neg q] at e; cases e
  val := fun n p l e => by
    rw [h] at e
    by_cases q : n = s
    · rw [if_pos q] at e; cases e
    · rw [if_neg q] at e; cases e
  cl := fun i n h => by omega
  clp := fun x h => by cases h
  le := Nat.zero_le _
  rch := fun n h => by
    have : n = s := by simpa using h
    subst this; exact .refl W _
theorem RI.old (r : RI W s nodes org at_ pre) {x : L × N × Int} (h : x.2.1 ∈ nodes) : RI W s nodes org at_ (pre ++ [x]) :=
  have k : ∀ y ∈ pre ++ [x], y.2.1 ∈ nodes := fun y hy => by
    rcases List.mem_append.mp hy with q | q
    · exact r.clp y q
    · have : y = x := by simpa using q
      subst this; exact h
  { r with clp := k }
theorem RI.new (r : RI W s nodes org at_ pre) {n t : N} {l : L} {w : Int} (hn : nodes[at_]? = some n) (hx : (l, t, w) ∈ W n) (ht : t ∉ nodes) {org' : N → Option (Option (N × L))}
    (ho : ∀ m, org' m = if m = t then some (some (n, l)) else org m) : RI W s (nodes ++ [t]) org' at_ (pre ++ [(l, t, w)]) where
  nd := nodup_snoc r.nd ht
  first := get_left r.first
  dom := fun m => by
    rw [ho]
    by_cases e : m = t
    · simp [e]
    · rw [if_neg e, r.dom]; simp [e]
  root := fun m e => by
    rw [ho] at e
    by_cases q : m = t
    · rw [if_pos q] at e; cases e
    · rw [if_neg q] at e; exact r.root m e
  val := fun m p k e => by
    rw [ho] at e
    by_cases q : m = t
    · rw [if_pos q] at e
      cases e
      subst q
      exact ⟨at_, nodes.length, w, get_left hn, get_last _ _, get_lt hn, hx⟩
    · rw [if_neg q] at e
      obtain ⟨i, j, w', h1, h2, h3, h4⟩ := r.val m p k e
      exact ⟨i, j, w', get_left h1, get_left h2, h3, h4⟩
  cl := fun i m hi hm x hx' => by
    rcases get_snoc hm with ⟨q, _⟩ | ⟨q, _⟩
    · exact List.mem_append_left _ (r.cl i m hi q x hx')
    · have := get_lt hn; omega
  clp := fun y hy => by
    rcases List.mem_append.mp hy with q | q
    · exact List.mem_append_left _ (r.clp y q)
    · have : y = (l, t, w) := by simpa using q
      subst this; simp
  le := by have := r.le; simp; omega
  rch := fun m hm => by
    rcases List.mem_append.mp hm with q | q
    · exact r.rch m q
    · have : m = t := by simpa using q
      subst this
      exact (r.rch n (get_mem hn)).tail ⟨l, w, hx⟩
theorem RI.next (r : RI W s nodes org at_ pre) {n : N} (hn : nodes[at_]? = some n) (h : ∀ x ∈ W n, x ∈ pre) : RI W s nodes org (at_ + 1) [] :=
  { r with
    cl := fun i m hi hm x hx => by
      by_cases e : i < at_
      · exact r.cl i m e hm x hx
      · have : i = at_ := by omega
        subst this
        rw [hn] at hm; cases hm
        exact r.clp x (h x hx)
    clp := fun x h => by cases h
    le := get_lt hn }
/-- all nodes, nearest first, and where each comes from -/
structure ROut (W : Ways N L) (s : N) (nodes : List N) (org : N → Option (Option (N × L))) : Prop where
  nd : nodes.Nodup
  first : nodes[0]? = some s
  dom : ∀ n, (org n).isSome = true ↔ n ∈ nodes
  root : ∀ n, org n = some none → n = s
  val : ∀ n p l, org n = some (some (p, l)) → ∃ (i j : Nat) (w : Int), nodes[i]? = some p ∧ nodes[j]? = some n ∧ i < j ∧ (l, n, w) ∈ W p
  cl : ∀ n ∈ nodes, ∀ x ∈ W n, x.2.1 ∈ nodes
  rch : ∀ n ∈ nodes, Rch W s n
theorem RI.done (r : RI W s nodes org at_ pre) (h : nodes.length ≤ at_) : ROut W s nodes org :=
  { nd := r.nd, first := r.first, dom := r.dom, root := r.root, val := r.val, rch := r.rch
    cl := fun n hn x hx => by
      obtain ⟨i, hi⟩ := mem_get hn
      exact r.cl i n (by have := get_lt hi; omega) hi x hx }
theorem RI.all (r : RI W s nodes org at_ pre) (h : nodes.length ≤ at_) {n : N} (q : Rch W s n) : n ∈ nodes := by
  have o := r.done h
  exact q.closed (S := fun x => x ∈ nodes) (fun u v hu ⟨l, w, e⟩ => o.cl u hu _ e) (get_mem o.first)
theorem ROut.all (o : ROut W s nodes org) {n : N} (q : Rch W s n) : n ∈ nodes :=
  q.closed (S := fun x => x ∈ nodes) (fun u v hu ⟨l, w, e⟩ => o.cl u hu _ e) (get_mem o.first)
/-- what way_to leans on: a rank that falls towards the root -/
structure Org (W : Ways N L) (s : N) (org : N → Option (Option (N × L))) (rk : N → Nat) (bd : Nat) : Prop where
  root : ∀ n, org n = some none → n = s
  val : ∀ n p l, org n = some (some (p, l)) → (org p).isSome = true ∧ rk p < rk n ∧ ∃ w, (l, n, w) ∈ W p
  bd : ∀ n, (org n).isSome = true → rk n < bd
theorem idx_get {nodes : List N} (nd : nodes.Nodup) {i : Nat} {n : N} (h : nodes[i]? = some n) : nodes.idxOf n = i := by
  have h1 : nodes.idxOf n < nodes.length := List.idxOf_lt_length_iff.mpr (get_mem h)
  have h2 : nodes[nodes.idxOf n]? = some n := by
    rw [List.getElem?_eq_getElem h1, List.getElem_idxOf]
  exact nodup_get nd h2 h
theorem RI.orgOk (r : RI W s nodes org at_ pre) : Org W s org (fun n => nodes.idxOf n) nodes.length where
  root := r.root
  val := fun n p l e => by
    obtain ⟨i, j, w, h1, h2, h3, h4⟩ := r.val n p l e
    refine ⟨(r.dom p).mpr (get_mem h1), ?_, w, h4⟩
    rw [idx_get r.nd h1, idx_get r.nd h2]; exact h3
  bd := fun n h => List.idxOf_lt_length_iff.mpr ((r.dom n).mp h)
theorem ROut.orgOk (r : ROut W s nodes org) : Org W s org (fun n => nodes.idxOf n) nodes.length where
  root := r.root
  val := fun n p l e => by
    obtain ⟨i, j, w, h1, h2, h3, h4⟩ := r.val n p l e
    refine ⟨(r.dom p).mpr (get_mem h1), ?_, w, h4⟩
    rw [idx_get r.nd h1, idx_get r.nd h2]; exact h3
  bd := fun n h => List.idxOf_lt_length_iff.mpr ((r.dom n).mp h)
end
end Gr
end
section
set_option autoImplicit false
set_option linter.all false
namespace Gr
variable {N L : Type}
/-! ### the walk in depth: ord (left), seen, the stack with its places, lo: how many had been left when a node was seen -/
structure DI (W : Ways N L) (nodes ord seen : List N) (stk : List (N × Nat)) (lo : N → Nat) : Prop where
  ordnd : ord.Nodup
  stknd : (stk.map (·.1)).Nodup
  disj : ∀ n ∈ ord, n ∉ stk.map (·.1)
  seenI : ∀ n, n ∈ seen ↔ n ∈ ord ∨ n ∈ stk.map (·.1)
  seennd : seen.Nodup
  inn : ∀ n ∈ seen, n ∈ nodes
  lo1 : ∀ (i : Nat) u, ord[i]? = some u → lo u ≤ i
  lo2 : ∀ p ∈ stk, lo p.1 ≤ ord.length
  edg : ∀ (i : Nat) u t, ord[i]? = some u → Edge W u t → t ∈ seen ∧ lo t ≤ i
  stke : ∀ p ∈ stk, p.2 ≤ (W p.1).length ∧ ∀ (j : Nat) x, j < p.2 → (W p.1)[j]? = some x → x.2.1 ∈ seen
  stkp : stk.Pairwise fun p q => Rch W p.1 q.1 ∧ lo p.1 ≤ lo q.1
  dsc : ∀ (i j : Nat) r a, ord[j]? = some r → ord[i]? = some a → i ≤ j → lo r ≤ i → Rch W r a ∧ lo r ≤ lo a
  dscs : ∀ p ∈ stk, ∀ (i : Nat) a, ord[i]? = some a → lo p.1 ≤ i → Rch W p.1 a ∧ lo p.1 ≤ lo a

section
variable [DecidableEq N] {W : Ways N L} {nodes ord seen : List N} {stk : List (N × Nat)} {lo : N → Nat}
theorem DI.init (W : Ways N L) (nodes : List N) : DI W nodes [] [] [] (fun _ => 0) where
  ordnd := by simp
  stknd := by simp
  disj := by simp
  seenI := by simp
  seennd := by simp
  inn := by simp
  lo1 := by simp
  lo2 := by simp
  edg := by simp
  stke := by simp
  stkp := by simp
  dsc := by simp
  dscs := by simp
/-- a node is seen for the first time, from the top of the stack (or as a root) -/
theorem DI.push (d : DI W nodes ord seen stk lo) {t : N} (ht : t ∉ seen) (hn : t ∈ nodes) (hr : ∀ p ∈ stk, Rch W p.1 t) :
    DI W nodes ord (seen ++ [t]) (stk ++ [(t, 0)]) (fun n => if n = t then ord.length else lo n) := by
  have nord : t ∉ ord := fun h => ht ((d.seenI t).mpr (.inl h))
  have nstk : t ∉ stk.map (·.1) := fun h => ht ((d.seenI t).mpr (.inr h))
  have ne1 : ∀ (i : Nat) u, ord[i]? = some u → u ≠ t := fun i u h e => nord (e ▸ get_mem h)
  have ne2 : ∀ p ∈ stk, p.1 ≠ t := fun p h e => nstk (e ▸ List.mem_map_of_mem h)
  have split : ∀ p ∈ stk ++ [(t, 0)], p ∈ stk ∨ p = (t, 0) := fun p h => by
    rcases List.mem_append.mp h with q | q
    · exact .inl q
    · exact .inr (by simpa using q)
  refine ⟨d.ordnd, ?_, ?_, ?_, nodup_snoc d.seennd ht, ?_, ?_, ?_, ?_, ?_, ?_, ?_, ?_⟩
  · rw [List.map_append]; exact nodup_snoc d.stknd nstk
  · intro n h
    rw [List.map_append, List.mem_append]
    rintro (q | q)
    · exact d.disj n h q
    · have : n = t := by simpa using q
      subst this; exact nord h
  · intro n
    rw [List.mem_append, List.map_append, List.mem_append, d.seenI n]
    simp [or_assoc]
  · intro n h
    rcases List.mem_append.mp h with q | q
    · exact d.inn n q
    · have : n = t := by simpa using q
      subst this; exact hn
  · intro i u h
    rw [if_neg (ne1 i u h)]; exact d.lo1 i u h
  · intro p h
    rcases split p h with q | q
    · rw [if_neg (ne2 p q)]; exact d.lo2 p q
    · subst q; simp
  · intro i u v h e
    obtain ⟨h1, h2⟩ := d.edg i u v h e
    refine ⟨List.mem_append_left _ h1, ?_⟩
    rw [if_neg (fun (z : v = t) => ht (z ▸ h1))]; exact h2
  · intro p h
    rcases split p h with q | q
    · obtain ⟨h1, h2⟩ := d.stke p q
      exact ⟨h1, fun j x hj hx => List.mem_append_left _ (h2 j x hj hx)⟩
    · subst q; exact ⟨Nat.zero_le _, fun j x hj => absurd hj (Nat.not_lt_zero _)⟩
  · rw [List.pairwise_append]
    refine ⟨?_, by simp, fun p hp q hq => ?_⟩
    · exact d.stkp.imp_of_mem fun {p q} hp hq h => by rw [if_neg (ne2 p hp), if_neg (ne2 q hq)]; exact h
    · have : q = (t, 0) := by simpa using hq
      subst this
      rw [if_neg (ne2 p hp), if_pos rfl]
      exact ⟨hr p hp, d.lo2 p hp⟩
  · intro i j r a h1 h2 h3 h4
    rw [if_neg (ne1 j r h1)] at h4 ⊢
    rw [if_neg (ne1 i a h2)]
    exact d.dsc i j r a h1 h2 h3 h4
  · intro p h i a h1 h2
    rcases split p h with q | q
    · rw [if_neg (ne2 p q)] at h2 ⊢
      rw [if_neg (ne1 i a h1)]
      exact d.dscs p q i a h1 h2
    · subst q
      rw [if_pos rfl] at h2
      exact absurd (get_lt h1) (by omega)
/-- the place in a stack's entry is raised -/
theorem DI.bump {s1 s2 : List (N × Nat)} {u : N} {k : Nat} (d : DI W nodes ord seen (s1 ++ (u, k) :: s2) lo) {x : L × N × Int} (hx : (W u)[k]? = some x) (hs : x.2.1 ∈ seen) : DI W nodes ord seen (s1 ++ (u, k + 1) :: s2) lo := by
  have em : (s1 ++ (u, k + 1) :: s2).map (·.1) = (s1 ++ (u, k) :: s2).map (·.1) := by simp
  have back : ∀ p ∈ s1 ++ (u, k + 1) :: s2, ∃ p' ∈ s1 ++ (u, k) :: s2, p.1 = p'.1 := fun p h => by
    rcases List.mem_append.mp h with q | q
    · exact ⟨p, List.mem_append_left _ q, rfl⟩
    · rcases List.mem_cons.mp q with q | q
      · subst q; exact ⟨(u, k), by simp, rfl⟩
      · exact ⟨p, by simp [q], rfl⟩
  refine ⟨d.ordnd, by rw [em]; exact d.stknd, by rw [em]; exact d.disj, by rw [em]; exact d.seenI, d.seennd, d.inn, d.lo1, ?_, d.edg, ?_, ?_, d.dsc, ?_⟩
  · intro p h
    obtain ⟨p', h', e⟩ := back p h
    rw [e]; exact d.lo2 p' h'
  · intro p h
    rcases List.mem_append.mp h with q | q
    · exact d.stke p (List.mem_append_left _ q)
    · rcases List.mem_cons.mp q with q | q
      · subst q
        obtain ⟨h1, h2⟩ := d.stke (u, k) (by simp)
        refine ⟨get_lt hx, fun j y hj hy => ?_⟩
        by_cases e : j < k
        · exact h2 j y e hy
        · have : j = k := by simp at hj; omega
          subst this
          simp only at hy
          rw [hx] at hy; cases hy; exact hs
      · exact d.stke p (by simp [q])
  · have h := d.stkp
    rw [List.pairwise_append, List.pairwise_cons] at h ⊢
    refine ⟨h.1, ⟨fun q hq => h.2.1.1 q hq, h.2.1.2⟩, fun p hp q hq => ?_⟩
    rcases List.mem_cons.mp hq with e | e
    · subst e; exact h.2.2 p hp (u, k) (by simp)
    · exact h.2.2 p hp q (by simp [e])
  · intro p h
    obtain ⟨p', h', e⟩ := back p h
    rw [e]; exact d.dscs p' h'
/-- the top of the stack is left -/
theorem DI.fin {s1 : List (N × Nat)} {u : N} {k : Nat} (d : DI W nodes ord seen (s1 ++ [(u, k)]) lo) (hk : (W u).length ≤ k) : DI W nodes (ord ++ [u]) seen s1 lo := by
  have hu : u ∈ (s1 ++ [(u, k)]).map (·.1) := by simp
  have nu : u ∉ ord := fun h => d.disj u h hu
  have nd := d.stknd
  rw [List.map_append, List.nodup_append] at nd
  have nu1 : u ∉ s1.map (·.1) := fun h => nd.2.2 u h u (by simp) rfl
  have hp := d.stkp
  rw [List.pairwise_append] at hp
  have par : ∀ p ∈ s1, Rch W p.1 u ∧ lo p.1 ≤ lo u := fun p h => hp.2.2 p h (u, k) (by simp)
  have lou := d.lo2 (u, k) (by simp)
  have loseen : ∀ t ∈ seen, lo t ≤ ord.length := fun t ht => by
    rcases (d.seenI t).mp ht with q | q
    · obtain ⟨i, hi⟩ := mem_get q
      have := d.lo1 i t hi; have := get_lt hi; omega
    · obtain ⟨p, hp, e⟩ := List.mem_map.mp q
      subst e; exact d.lo2 p hp
  refine ⟨nodup_snoc d.ordnd nu, nd.1, ?_, ?_, d.seennd, d.inn, ?_, ?_, ?_, ?_, hp.1, ?_, ?_⟩
  · intro n h q
    rcases List.mem_append.mp h with e | e
    · exact d.disj n e (by rw [List.map_append]; exact List.mem_append_left _ q)
    · have : n = u := by simpa using e
      subst this; exact nu1 q
  · intro n
    rw [d.seenI n, List.map_append, List.mem_append, List.mem_append]
    simp only [List.map_cons, List.map_nil, List.mem_singleton]
    constructor
    · rintro (h | h | h)
      · exact .inl (.inl h)
      · exact .inr h
      · exact .inl (.inr h)
    · rintro ((h | h) | h)
      · exact .inl h
      · exact .inr (.inr h)
      · exact .inr (.inl h)
  · intro i v h
    rcases get_snoc h with ⟨q, _⟩ | ⟨q, e⟩
    · exact d.lo1 i v q
    · subst e q; exact lou
  · intro p h
    have := d.lo2 p (List.mem_append_left _ h)
    rw [List.length_append, List.length_singleton]; omega
  · intro i v t h e
    rcases get_snoc h with ⟨q, _⟩ | ⟨q, ev⟩
    · exact d.edg i v t q e
    · subst ev q
      obtain ⟨l, w, m⟩ := e
      obtain ⟨j, hj⟩ := mem_get m
      have hs : t ∈ seen := (d.stke (v, k) (by simp)).2 j _ (Nat.lt_of_lt_of_le (get_lt hj) hk) hj
      exact ⟨hs, loseen t hs⟩
  · intro p h
    exact d.stke p (List.mem_append_left _ h)
  · intro i j r a h1 h2 h3 h4
    rcases get_snoc h1 with ⟨q1, l1⟩ | ⟨q1, e1⟩
    · rcases get_snoc h2 with ⟨q2, _⟩ | ⟨q2, e2⟩
      · exact d.dsc i j r a q1 q2 h3 h4
      · omega
    · subst e1
      rcases get_snoc h2 with ⟨q2, _⟩ | ⟨q2, e2⟩
      · exact d.dscs (r, k) (by simp) i a q2 h4
      · subst e2; exact ⟨.refl W _, Nat.le_refl _⟩
  · intro p h i a h1 h2
    rcases get_snoc h1 with ⟨q1, _⟩ | ⟨q1, e1⟩
    · exact d.dscs p (List.mem_append_left _ h) i a q1 h2
    · subst e1; exact par p h
/-- the walk's measure -/
def dm (W : Ways N L) (nodes seen : List N) (stk : List (N × Nat)) : Nat :=
  ((nodes.filter fun n => decide (n ∉ seen)).map fun n => (W n).length + 2).sum + (stk.map fun p => (W p.1).length - p.2 + 1).sum
theorem sum_unseen (f : N → Nat) {t : N} : ∀ {nodes seen : List N}, nodes.Nodup → t ∈ nodes → t ∉ seen →
    ((nodes.filter fun n => decide (n ∉ seen ++ [t])).map f).sum + f t = ((nodes.filter fun n => decide (n ∉ seen)).map f).sum := by
  intro nodes seen nd
  induction nodes with
  | nil => intro h; cases h
  | cons a r ih =>
    intro ht hs
    rw [List.nodup_cons] at nd
    rw [List.filter_cons, List.filter_cons]
    by_cases e : a = t
    · subst e
      have e1 : ¬ (decide (a ∉ seen ++ [a]) = true) := by simp
      have e2 : decide (a ∉ seen) = true := by simpa using hs
      rw [if_neg e1, if_pos e2]
      have : (r.filter fun n => decide (n ∉ seen ++ [a])) = r.filter fun n => decide (n ∉ seen) := by
        apply List.filter_congr
        intro x hx
        have : x ≠ a := fun e => nd.1 (e ▸ hx)
        simp [this]
      rw [this]; simp; omega
    · have ht' : t ∈ r := by
        rcases List.mem_cons.mp ht with q | q
        · exact absurd q.symm e
        · exact q
      have ih' := ih nd.2 ht' hs
      have e3 : decide (a ∉ seen ++ [t]) = decide (a ∉ seen) := by simp [e]
      rw [e3]
      by_cases h : decide (a ∉ seen) = true
      · rw [if_pos h, if_pos h]; simp at ih' ⊢; omega
      · rw [if_neg h, if_neg h]; exact ih'
theorem dm_fin {s1 : List (N × Nat)} {u : N} {k : Nat} : dm W nodes seen s1 < dm W nodes seen (s1 ++ [(u, k)]) := by
  unfold dm; simp
theorem dm_bump {s1 : List (N × Nat)} {u : N} {k : Nat} (h : k < (W u).length) : dm W nodes seen (s1 ++ [(u, k + 1)]) < dm W nodes seen (s1 ++ [(u, k)]) := by
  unfold dm; simp; omega
theorem dm_push {s1 : List (N × Nat)} {u t : N} {k : Nat} (nd : nodes.Nodup) (ht : t ∈ nodes) (hs : t ∉ seen) (h : k < (W u).length) :
    dm W nodes (seen ++ [t]) (s1 ++ [(u, k + 1)] ++ [(t, 0)]) < dm W nodes seen (s1 ++ [(u, k)]) := by
  have := sum_unseen (fun n => (W n).length + 2) nd ht hs
  unfold dm; simp at this ⊢; omega
/-- what the order of leaving is worth -/
structure DOut (W : Ways N L) (nodes ord : List N) : Prop where
  nd : ord.Nodup
  mem : ∀ n, n ∈ ord ↔ n ∈ nodes
  lo : ∃ lo : N → Nat, (∀ (i : Nat) u t, ord[i]? = some u → Edge W u t → lo t ≤ i) ∧ (∀ (i : Nat) u, ord[i]? = some u → lo u ≤ i) ∧
    ∀ (i j : Nat) r a, ord[j]? = some r → ord[i]? = some a → i ≤ j → lo r ≤ i → Rch W r a ∧ lo r ≤ lo a
theorem DI.out (d : DI W nodes ord seen [] lo) (h : ∀ n ∈ nodes, n ∈ seen) : DOut W nodes ord where
  nd := d.ordnd
  mem := fun n => ⟨fun q => d.inn n ((d.seenI n).mpr (.inl q)), fun q => by simpa using (d.seenI n).mp (h n q)⟩
  lo := ⟨lo, fun i u t h e => (d.edg i u t h e).2, d.lo1, d.dsc⟩
theorem DI.ordlen (d : DI W nodes ord seen stk lo) : ord.length ≤ nodes.length := len_le_of_sub d.ordnd fun n h => d.inn n ((d.seenI n).mpr (.inl h))
theorem DI.seenlen (d : DI W nodes ord seen stk lo) : seen.length ≤ nodes.length := len_le_of_sub d.seennd d.inn
theorem DI.stklen (d : DI W nodes ord seen stk lo) : stk.length ≤ nodes.length := by
  have := len_le_of_sub d.stknd fun n h => d.inn n ((d.seenI n).mpr (.inr h))
  simpa using this
end
end Gr
end
section
set_option autoImplicit false
set_option linter.all false
namespace Gr
variable {N L : Type}
/-! ### the parts -/
/-- behind k roots of the reversed order -/
structure CI (W : Ways N L) (nodes ord : List N) (k : Nat) (parts : N → Option Nat) : Prop where
  dom : ∀ n, (parts n).isSome = true → n ∈ nodes
  proc : ∀ (i : Nat) n, i < k → ord.reverse[i]? = some n → (parts n).isSome = true
  back : ∀ u v b, u ∈ nodes → Edge W u v → parts v = some b → ∃ a, parts u = some a ∧ a ≤ b
  root : ∀ n c, parts n = some c → c < k ∧ ∃ r, ord.reverse[c]? = some r ∧ Rch W n r ∧ Rch W r n
/-- within the search for the part of the root r, whose place in ord is f; q: not yet looked behind; v: the node that is looked behind, don: who is done there -/
structure CJ (W : Ways N L) (nodes ord : List N) (k : Nat) (r : N) (f : Nat) (lo : N → Nat) (parts0 parts : N → Option Nat) (q : List N) (v : Option N) (don : List N) : Prop where
  old : ∀ n, (parts0 n).isSome = true → parts n = parts0 n
  new : ∀ n c, parts n = some c → parts0 n = none → c = k ∧ n ∈ nodes ∧ Rch W n r ∧ ∃ i, ord[i]? = some n ∧ lo r ≤ i ∧ i ≤ f
  isr : parts r = some k
  qin : ∀ n ∈ q, parts n = some k
  qnd : q.Nodup
  clo : ∀ u n, u ∈ nodes → Edge W u n → parts n = some k → n ∉ q → (∀ x, v = some x → n ≠ x) → (parts u).isSome = true
  vin : ∀ x, v = some x → parts x = some k ∧ x ∉ q
  vdo : ∀ u ∈ don, (parts u).isSome = true

section
variable [DecidableEq N] {W : Ways N L} {nodes ord : List N} {k f : Nat} {r : N} {lo : N → Nat} {parts0 parts : N → Option Nat} {q don : List N} {v : Option N}
theorem CI.init (W : Ways N L) (nodes ord : List N) : CI W nodes ord 0 (fun _ => none) where
  dom := by simp
  proc := fun i n h => by omega
  back := by simp
  root := by simp
theorem rev_get {l : List N} {i : Nat} {x : N} (h : l.reverse[i]? = some x) : i < l.length ∧ l[l.length - 1 - i]? = some x := by
  have hl := get_lt h
  rw [List.length_reverse] at hl
  rw [List.getElem?_reverse hl] at h
  exact ⟨hl, h⟩
theorem get_rev {l : List N} {i : Nat} {x : N} (h : l[i]? = some x) : l.reverse[l.length - 1 - i]? = some x := by
  have hl := get_lt h
  rw [List.getElem?_reverse (by omega)]
  have : l.length - 1 - (l.length - 1 - i) = i := by omega
  rw [this]; exact h
/-- the next root's part was found before -/
theorem CI.skip (c : CI W nodes ord k parts) (hr : ord.reverse[k]? = some r) (h : (parts r).isSome = true) : CI W nodes ord (k + 1) parts where
  dom := c.dom
  proc := fun i n hi hn => by
    by_cases e : i < k
    · exact c.proc i n e hn
    · have : i = k := by omega
      subst this; rw [hr] at hn; cases hn; exact h
  back := c.back
  root := fun n d h => by
    obtain ⟨h1, h2⟩ := c.root n d h
    exact ⟨by omega, h2⟩
/-- a new root -/
theorem CI.start (c : CI W nodes ord k parts0) (hr : ord.reverse[k]? = some r) (hn : r ∈ nodes) (h : parts0 r = none) (hlo : ∀ (i : Nat) u, ord[i]? = some u → lo u ≤ i) (hp : ∀ n, parts n = if n = r then some k else parts0 n) :
    CJ W nodes ord k r (ord.length - 1 - k) lo parts0 parts [r] none [] where
  old := fun n q => by
    rw [hp]
    by_cases e : n = r
    · subst e; rw [h] at q; cases q
    · rw [if_neg e]
  new := fun n d q q0 => by
    rw [hp] at q
    by_cases e : n = r
    · subst e
      rw [if_pos rfl] at q
      obtain ⟨_, h2⟩ := rev_get hr
      exact ⟨(Option.some.inj q).symm, hn, .refl W _, _, h2, hlo _ _ h2, Nat.le_refl _⟩
    · rw [if_neg e, q0] at q; cases q
  isr := by rw [hp, if_pos rfl]
  qin := fun n q => by
    have : n = r := by simpa using q
    subst this; rw [hp, if_pos rfl]
  qnd := by simp
  clo := fun u n hu e q nq _ => by
    rw [hp] at q
    by_cases z : n = r
    · subst z; simp at nq
    · rw [if_neg z] at q
      have := (c.root n k q).1
      omega
  vin := fun x z => nomatch z
  vdo := fun u z => nomatch z
/-- queue.pop() -/
theorem CJ.pop {q' : List N} {x : N} (c : CJ W nodes ord k r f lo parts0 parts (q' ++ [x]) none []) : CJ W nodes ord k r f lo parts0 parts q' (some x) [] := by
  have nd := c.qnd
  rw [List.nodup_append] at nd
  refine ⟨c.old, c.new, c.isr, fun n h => c.qin n (List.mem_append_left _ h), nd.1, fun u n hu e h1 h2 h3 => ?_, fun y hy => ?_, c.vdo⟩
  · refine c.clo u n hu e h1 (fun z => ?_) (fun _ z => (nomatch z))
    rcases List.mem_append.mp z with z | z
    · exact h2 z
    · exact h3 x rfl (by simpa using z)
  · cases hy
    exact ⟨c.qin x (by simp), fun h => nd.2.2 x h x (by simp) rfl⟩
/-- all behind x are looked at -/
theorem CJ.popped {x : N} (c : CJ W nodes ord k r f lo parts0 parts q (some x) don) (h : ∀ u, u ∈ nodes → Edge W u x → u ∈ don) : CJ W nodes ord k r f lo parts0 parts q none [] :=
  ⟨c.old, c.new, c.isr, c.qin, c.qnd, fun u n hu e h1 h2 _ => by
    by_cases z : n = x
    · subst z; exact c.vdo u (h u hu e)
    · exact c.clo u n hu e h1 h2 (fun y hy => by cases hy; exact z), fun x z => (nomatch z), fun u z => (nomatch z)⟩
theorem CJ.seen {x u : N} (c : CJ W nodes ord k r f lo parts0 parts q (some x) don) (h : (parts u).isSome = true) : CJ W nodes ord k r f lo parts0 parts q (some x) (don ++ [u]) :=
  ⟨c.old, c.new, c.isr, c.qin, c.qnd, c.clo, c.vin, fun y hy => by
    rcases List.mem_append.mp hy with z | z
    · exact c.vdo y z
    · have : y = u := by simpa using z
      subst this; exact h⟩
theorem CJ.add {x u : N} {parts' : N → Option Nat} (c : CJ W nodes ord k r f lo parts0 parts q (some x) don) (D : CI W nodes ord k parts0) (hf : f = ord.length - 1 - k) (hk : k < ord.length) (mem : ∀ n, n ∈ ord ↔ n ∈ nodes)
    (edg : ∀ (i : Nat) u t, ord[i]? = some u → Edge W u t → lo t ≤ i) (dsc : ∀ (i j : Nat) r a, ord[j]? = some r → ord[i]? = some a → i ≤ j → lo r ≤ i → Rch W r a ∧ lo r ≤ lo a)
    (hr : ord[f]? = some r) (nd : ord.Nodup) (hu : u ∈ nodes) (e : Edge W u x) (h : parts u = none) (hp : ∀ n, parts' n = if n = u then some k else parts n) :
    CJ W nodes ord k r f lo parts0 parts' (q ++ [u]) (some x) (don ++ [u]) := by
  have h0 : parts0 u = none := by
    cases z : parts0 u with
    | none => rfl
    | some a => rw [c.old u (by rw [z]; rfl), z] at h; cases h
  have ne : ∀ n a, parts n = some a → n ≠ u := fun n a z w => by subst w; rw [h] at z; cases z
  have up : ∀ n, (parts n).isSome = true → (parts' n).isSome = true := fun n z => by
    rw [hp]; by_cases w : n = u
    · rw [if_pos w]; rfl
    · rw [if_neg w]; exact z
  -- the node x's own place
  have xk := (c.vin x rfl).1
  have x0 : parts0 x = none := by
    cases z : parts0 x with
    | none => rfl
    | some a =>
      have w := c.old x (by rw [z]; rfl)
      rw [xk, z] at w
      have := (D.root x a z).1
      cases w; omega
  obtain ⟨_, _, xr, j, hj, j1, j2⟩ := c.new x k xk x0
  obtain ⟨i, hi⟩ := mem_get ((mem u).mpr hu)
  have lxi := edg i u x hi e
  have hif : i ≤ f := by
    apply Nat.le_of_not_lt
    intro z
    have a : ord.reverse[ord.length - 1 - i]? = some u := get_rev hi
    have b := D.proc (ord.length - 1 - i) u (by have := get_lt hi; omega) a
    rw [h0] at b; cases b
  have lri : lo r ≤ i := by
    by_cases z : j ≤ i
    · omega
    · have := (dsc j f r x hr hj j2 j1).2
      omega
  refine ⟨fun n z => ?_, fun n d z z0 => ?_, ?_, fun n z => ?_, ?_, fun a n ha e' z1 z2 z3 => ?_, fun y hy => ?_, fun y hy => ?_⟩
  · rw [hp]
    by_cases w : n = u
    · subst w; rw [h0] at z; cases z
    · rw [if_neg w]; exact c.old n z
  · rw [hp] at z
    by_cases w : n = u
    · subst w
      rw [if_pos rfl] at z
      exact ⟨(Option.some.inj z).symm, hu, (Rch.edge e).trans xr, i, hi, lri, hif⟩
    · rw [if_neg w] at z; exact c.new n d z z0
  · rw [hp, if_neg (ne r k c.isr)]; exact c.isr
  · rw [hp]
    rcases List.mem_append.mp z with w | w
    · rw [if_neg (ne n k (c.qin n w))]; exact c.qin n w
    · have : n = u := by simpa using w
      rw [if_pos this]
  · exact nodup_snoc c.qnd fun z => ne u k (c.qin u z) rfl
  · rw [hp] at z1
    by_cases w : n = u
    · subst w; exact absurd (by simp) z2
    · rw [if_neg w] at z1
      exact up a (c.clo a n ha e' z1 (fun y => z2 (List.mem_append_left _ y)) z3)
  · cases hy
    refine ⟨by rw [hp, if_neg (ne x k xk)]; exact xk, fun z => ?_⟩
    rcases List.mem_append.mp z with w | w
    · exact (c.vin x rfl).2 w
    · exact ne x k xk (by simpa using w)
  · rcases List.mem_append.mp hy with w | w
    · exact up y (c.vdo y w)
    · have : y = u := by simpa using w
      subst this; rw [hp, if_pos rfl]; rfl
/-- the root's part is whole -/
theorem CJ.done (c : CJ W nodes ord k r f lo parts0 parts [] none []) (D : CI W nodes ord k parts0) (dsc : ∀ (i j : Nat) r a, ord[j]? = some r → ord[i]? = some a → i ≤ j → lo r ≤ i → Rch W r a ∧ lo r ≤ lo a)
    (hr' : ord.reverse[k]? = some r) (hr : ord[f]? = some r) : CI W nodes ord (k + 1) parts := by
  have cas : ∀ n d, parts n = some d → parts0 n = some d ∨ (parts0 n = none ∧ d = k) := fun n d z => by
    cases w : parts0 n with
    | none => exact .inr ⟨rfl, (c.new n d z w).1⟩
    | some a =>
      rw [c.old n (by rw [w]; rfl), w] at z
      exact .inl z
  refine ⟨fun n z => ?_, fun i n hi hn => ?_, fun u v b hu e z => ?_, fun n d z => ?_⟩
  · obtain ⟨d, hd⟩ := Option.isSome_iff_exists.mp z
    rcases cas n d hd with w | ⟨w, _⟩
    · exact D.dom n (by rw [w]; rfl)
    · exact (c.new n d hd w).2.1
  · by_cases e : i < k
    · have := D.proc i n e hn
      rw [c.old n this]; exact this
    · have : i = k := by omega
      subst this
      rw [hr'] at hn; cases hn
      rw [c.isr]; rfl
  · rcases cas v b z with w | ⟨w, eb⟩
    · obtain ⟨a, ha, hl⟩ := D.back u v b hu e w
      exact ⟨a, by rw [c.old u (by rw [ha]; rfl)]; exact ha, hl⟩
    · subst eb
      have := c.clo u v hu e z (by simp) (fun _ z => (nomatch z))
      obtain ⟨a, ha⟩ := Option.isSome_iff_exists.mp this
      refine ⟨a, ha, ?_⟩
      rcases cas u a ha with y | ⟨_, y⟩
      · have := (D.root u a y).1; omega
      · omega
  · rcases cas n d z with w | ⟨w, ed⟩
    · obtain ⟨h1, h2⟩ := D.root n d w
      exact ⟨by omega, h2⟩
    · obtain ⟨_, _, h2, i, h3, h4, h5⟩ := c.new n d z w
      subst ed
      exact ⟨by omega, r, hr', h2, (dsc i f r n hr h3 h5 h4).1⟩
/-- what the parts are worth -/
structure POut (W : Ways N L) (nodes : List N) (parts : N → Option Nat) : Prop where
  dom : ∀ n, (parts n).isSome = true ↔ n ∈ nodes
  back : ∀ u v a b, u ∈ nodes → Edge W u v → parts u = some a → parts v = some b → a ≤ b
  rch : ∀ u v a, parts u = some a → parts v = some a → Rch W u v
theorem CI.out (c : CI W nodes ord k parts) (hk : ord.length ≤ k) (mem : ∀ n, n ∈ ord ↔ n ∈ nodes) : POut W nodes parts where
  dom := fun n => ⟨c.dom n, fun h => by
    obtain ⟨i, hi⟩ := mem_get ((mem n).mpr h)
    have a := get_rev hi
    exact c.proc _ n (by have := get_lt hi; omega) a⟩
  back := fun u v a b hu e ha hb => by
    obtain ⟨a', h1, h2⟩ := c.back u v b hu e hb
    rw [ha] at h1; cases h1; exact h2
  rch := fun u v a hu hv => by
    obtain ⟨_, r, h1, h2, h3⟩ := c.root u a hu
    obtain ⟨_, r', h1', h2', h3'⟩ := c.root v a hv
    rw [h1] at h1'; cases h1'
    exact h2.trans h3'
/-- along a way the parts never fall -/
theorem POut.mono (p : POut W nodes parts) (cl : ∀ n ∈ nodes, ∀ x ∈ W n, x.2.1 ∈ nodes) {u v : N} (hu : u ∈ nodes) (h : Rch W u v) {a b : Nat} (ha : parts u = some a) (hb : parts v = some b) : v ∈ nodes ∧ a ≤ b := by
  have : v ∈ nodes ∧ ∀ b, parts v = some b → a ≤ b := by
    refine h.closed (S := fun v => v ∈ nodes ∧ ∀ b, parts v = some b → a ≤ b) (fun x y hx e => ?_) ⟨hu, fun b hb => by rw [ha] at hb; cases hb; exact Nat.le_refl _⟩
    obtain ⟨l, w, m⟩ := id e
    have hy : y ∈ nodes := cl x hx.1 _ m
    refine ⟨hy, fun b hb => ?_⟩
    obtain ⟨c, hc⟩ := Option.isSome_iff_exists.mp ((p.dom x).mpr hx.1)
    exact Nat.le_trans (hx.2 c hc) (p.back x y c b hx.1 e hc hb)
  exact ⟨this.1, this.2 b hb⟩
/-- two nodes that reach each other are of one part -/
theorem POut.same (p : POut W nodes parts) (cl : ∀ n ∈ nodes, ∀ x ∈ W n, x.2.1 ∈ nodes) {u v : N} (hu : u ∈ nodes) (hv : v ∈ nodes) (h : Rch W u v) (h' : Rch W v u) : parts u = parts v := by
  obtain ⟨a, ha⟩ := Option.isSome_iff_exists.mp ((p.dom u).mpr hu)
  obtain ⟨b, hb⟩ := Option.isSome_iff_exists.mp ((p.dom v).mpr hv)
  have x := (p.mono cl hu h ha hb).2
  have y := (p.mono cl hv h' hb ha).2
  rw [ha, hb]
  have : a = b := by omega
  rw [this]
/-! ### the way within a part -/
/-- the ways that stay in the part c -/
def Win (W : Ways N L) (parts : N → Option Nat) (c : Nat) [DecidableEq N] : Ways N L := fun u => (W u).filter fun x => decide (parts x.2.1 = some c)
theorem win_sub {c : Nat} (u : N) (x : L × N × Int) (h : x ∈ Win W parts c u) : x ∈ W u := (List.mem_filter.mp h).1
theorem win_mem {c : Nat} {u : N} {x : L × N × Int} : x ∈ Win W parts c u ↔ x ∈ W u ∧ parts x.2.1 = some c := by
  unfold Win; rw [List.mem_filter]; simp
/-- who reaches the goal in the whole does so within the part -/
theorem POut.win (p : POut W nodes parts) (cl : ∀ n ∈ nodes, ∀ x ∈ W n, x.2.1 ∈ nodes) {s g : N} {c : Nat} (hs : s ∈ nodes) (hc : parts s = some c) (hg : parts g = some c) : Rch (Win W parts c) s g := by
  obtain ⟨ls, w⟩ := p.rch s g c hc hg
  have hgn : g ∈ nodes := (p.dom g).mp (by rw [hg]; rfl)
  -- every node on the way is of the part
  have : ∀ {ls : List L} {v : N}, Way W s ls v → Rch W v g → Rch (Win W parts c) s v ∧ v ∈ nodes ∧ parts v = some c := by
    intro ls v y
    induction y with
    | nil => exact fun _ => ⟨.refl _ _, hs, hc⟩
    | @snoc ls u l v w y m ih =>
      intro vg
      have ug : Rch W u g := (Rch.edge ⟨l, w, m⟩).trans vg
      obtain ⟨h1, h2, h3⟩ := ih ug
      have hv : v ∈ nodes := cl u h2 _ m
      obtain ⟨b, hb⟩ := Option.isSome_iff_exists.mp ((p.dom v).mpr hv)
      have a1 := p.back u v c b h2 ⟨l, w, m⟩ h3 hb
      have a2 := (p.mono cl hv vg hb hg).2
      have : b = c := by omega
      subst this
      exact ⟨h1.tail ⟨l, w, win_mem.mpr ⟨m, hb⟩⟩, hv, hb⟩
  exact (this w (.refl W g)).1
end
end Gr
end
section
set_option autoImplicit false
set_option linter.all false
namespace Gr
variable {N L : Type}
/-- f bounds what can still come -/
structure Dom (W : Ways N L) (nodes : List N) (f : N → Int) : Prop where
  nn : ∀ u ∈ nodes, 0 ≤ f u
  st : ∀ u ∈ nodes, ∀ x ∈ W u, x.2.2 + f x.2.1 ≤ f u
structure BI (W : Ways N L) (nodes : List N) (pt : N → Nat) (don : List N) (cur : Option N) (pre : List (L × N × Int)) (best : Nat → Int) : Prop where
  nn : ∀ c, 0 ≤ best c
  up : ∀ f, Dom W nodes f → ∀ u ∈ nodes, best (pt u) ≤ f u
  ok : ∀ u ∈ don, ∀ x ∈ W u, pt x.2.1 ≠ pt u → x.2.2 + best (pt x.2.1) ≤ best (pt u)
  okc : ∀ u, cur = some u → ∀ x ∈ pre, pt x.2.1 ≠ pt u → x.2.2 + best (pt x.2.1) ≤ best (pt u)
structure HNum (W : Ways N L) (nodes : List N) (num : N → Int) : Prop where
  dom : Dom W nodes num
  least : ∀ f, Dom W nodes f → ∀ u ∈ nodes, num u ≤ f u
structure HRing (W : Ways N L) (s : N) (lead loop : List L) : Prop where
  ex : ∃ u v w l ls, Way W s lead u ∧ (l, v, w) ∈ W u ∧ 0 < w ∧ Way W v ls u ∧ loop = l :: ls

section
variable [DecidableEq N] {W : Ways N L} {nodes don : List N} {pt : N → Nat} {cur : Option N} {pre : List (L × N × Int)} {best : Nat → Int}
theorem Dom.rch (wn : ∀ u ∈ nodes, ∀ x ∈ W u, 0 ≤ x.2.2) (cl : ∀ n ∈ nodes, ∀ x ∈ W n, x.2.1 ∈ nodes) {f : N → Int} (d : Dom W nodes f) {u v : N} (hu : u ∈ nodes) (h : Rch W u v) : f v ≤ f u := by
  have : v ∈ nodes ∧ f v ≤ f u := by
    refine h.closed (S := fun v => v ∈ nodes ∧ f v ≤ f u) (fun x y hx e => ?_) ⟨hu, Int.le_refl _⟩
    obtain ⟨l, w, m⟩ := e
    have a := d.st x hx.1 _ m
    have b := wn x hx.1 _ m
    refine ⟨cl x hx.1 _ m, ?_⟩
    simp only at a b
    have := hx.2
    omega
  exact this.2
theorem BI.init (W : Ways N L) (nodes : List N) (pt : N → Nat) (h : ∀ c, best c = 0) : BI W nodes pt [] none [] best where
  nn := fun c => by rw [h]; exact Int.le_refl _
  up := fun f d u hu => by rw [h]; exact d.nn u hu
  ok := fun u hu => nomatch hu
  okc := fun u hu => nomatch hu
theorem BI.enter (b : BI W nodes pt don none [] best) (u : N) : BI W nodes pt don (some u) [] best := ⟨b.nn, b.up, b.ok, fun _ _ x hx => nomatch hx⟩
theorem BI.leave {u : N} (b : BI W nodes pt don (some u) pre best) (h : ∀ x ∈ W u, x ∈ pre) : BI W nodes pt (don ++ [u]) none [] best :=
  ⟨b.nn, b.up, fun v hv x hx hne => by
    rcases List.mem_append.mp hv with q | q
    · exact b.ok v q x hx hne
    · have : v = u := by simpa using q
      subst this
      exact b.okc v rfl x (h x hx) hne, fun _ z => nomatch z⟩
theorem BI.stay {u : N} (b : BI W nodes pt don (some u) pre best) {x : L × N × Int} (h : pt x.2.1 = pt u) : BI W nodes pt don (some u) (pre ++ [x]) best :=
  ⟨b.nn, b.up, b.ok, fun v hv y hy hne => by
    cases hv
    rcases List.mem_append.mp hy with q | q
    · exact b.okc u rfl y q hne
    · have : y = x := by simpa using q
      subst this; exact absurd h hne⟩
theorem BI.raise {u : N} (b : BI W nodes pt don (some u) pre best) {x : L × N × Int} (hu : u ∈ nodes) (hx : x ∈ W u) (hne : pt x.2.1 ≠ pt u) (wn : ∀ u ∈ nodes, ∀ x ∈ W u, 0 ≤ x.2.2) (cl : ∀ n ∈ nodes, ∀ x ∈ W n, x.2.1 ∈ nodes)
    (rch : ∀ a c, a ∈ nodes → c ∈ nodes → pt a = pt c → Rch W a c) (mono : ∀ a ∈ nodes, ∀ y ∈ W a, pt a ≤ pt y.2.1) (hd : ∀ a ∈ don, a ∈ nodes ∧ pt u ≤ pt a) (hp : ∀ y ∈ pre, y ∈ W u) {best' : Nat → Int}
    (hb : ∀ c, best' c = if c = pt u then max (best (pt u)) (x.2.2 + best (pt x.2.1)) else best c) : BI W nodes pt don (some u) (pre ++ [x]) best' := by
  have e1 : best' (pt u) = max (best (pt u)) (x.2.2 + best (pt x.2.1)) := by rw [hb, if_pos rfl]
  have e2 : ∀ c, c ≠ pt u → best' c = best c := fun c h => by rw [hb, if_neg h]
  have ge : ∀ c, best c ≤ best' c := fun c => by
    by_cases h : c = pt u
    · rw [h, e1]; omega
    · rw [e2 c h]; exact Int.le_refl _
  refine ⟨fun c => Int.le_trans (b.nn c) (ge c), fun f d v hv => ?_, fun v hv y hy hn => ?_, fun v hv y hy hn => ?_⟩
  · by_cases h : pt v = pt u
    · rw [h, e1]
      have a1 := b.up f d v hv
      rw [h] at a1
      have a2 := b.up f d x.2.1 (cl u hu x hx)
      have a3 := d.st u hu x hx
      have a4 := d.rch wn cl hv (rch v u hv hu h)
      omega
    · rw [e2 _ h]; exact b.up f d v hv
  · have a1 := b.ok v hv y hy hn
    have a2 : pt y.2.1 ≠ pt u := fun z => by
      have := mono v (hd v hv).1 y hy
      have := (hd v hv).2
      omega
    rw [e2 _ a2]
    exact Int.le_trans a1 (ge _)
  · cases hv
    rcases List.mem_append.mp hy with q | q
    · have a1 := b.okc u rfl y q hn
      rw [e2 _ hn]
      exact Int.le_trans a1 (ge _)
    · have : y = x := by simpa using q
      subst this
      rw [e2 _ hn, e1]
      omega
theorem BI.out (b : BI W nodes pt don none [] best) (hd : ∀ u ∈ nodes, u ∈ don) (wn : ∀ u ∈ nodes, ∀ x ∈ W u, 0 ≤ x.2.2) (light : ∀ u ∈ nodes, ∀ x ∈ W u, pt x.2.1 = pt u → ¬ 0 < x.2.2) : HNum W nodes fun n => best (pt n) where
  dom := ⟨fun u _ => b.nn _, fun u hu x hx => by
    by_cases h : pt x.2.1 = pt u
    · have := light u hu x hx h
      show x.2.2 + best (pt x.2.1) ≤ best (pt u)
      rw [h]; omega
    · exact b.ok u (hd u hu) x hx h⟩
  least := b.up
end
end Gr
end
section
set_option autoImplicit false
set_option linter.all false
/-! the hall, in plain Lean -/
namespace PH
open PySem
structure Tk where
  least : List Int
  again : Bool
  any_ : Bool
  half : Bool
abbrev HPos := List (List Int) × List Int
def queuesK (qs : List (List Int)) : NestedKey := .tup (qs.map fun q => .tup (q.map .num))
def posK (p : HPos) : NestedKey := .tup [queuesK p.1, .tup (p.2.map .num)]
def numOf : NestedKey → Int
  | .num i => i
  | _ => 0
def listOf : NestedKey → List NestedKey
  | .tup l => l
  | _ => []
def unPos (k : NestedKey) : HPos := (((listOf ((listOf k).getD 0 .none)).map fun q => (listOf q).map numOf), (listOf ((listOf k).getD 1 .none)).map numOf)
theorem nums_back (l : List Int) : (l.map NestedKey.num).map numOf = l := by
  rw [List.map_map]
  have : (numOf ∘ NestedKey.num) = id := by funext i; rfl
  rw [this, List.map_id]
theorem unPos_posK (p : HPos) : unPos (posK p) = p := by
  obtain ⟨q, l⟩ := p
  show ((q.map fun q => NestedKey.tup (q.map NestedKey.num)).map (fun q => (listOf q).map numOf), (l.map NestedKey.num).map numOf) = (q, l)
  rw [nums_back, List.map_map]
  have : ((fun q => List.map numOf (listOf q)) ∘ fun q : List Int => NestedKey.tup (q.map NestedKey.num)) = id := by
    funext q
    exact nums_back q
  rw [this, List.map_id]
theorem posK_inj {p q : HPos} (h : posK p = posK q) : p = q := by rw [← unPos_posK p, h, unPos_posK]
theorem depthAll_nums (l : List Int) : NestedKey.depthAll (l.map NestedKey.num) = 0 := by
  induction l with
  | nil => rfl
  | cons a r ih => rw [List.map_cons, NestedKey.depthAll, ih]; rfl
theorem depthAll_queues (l : List (List Int)) : NestedKey.depthAll (l.map fun q => NestedKey.tup (q.map NestedKey.num)) ≤ 1 := by
  induction l with
  | nil => exact Nat.zero_le _
  | cons a r ih =>
    rw [List.map_cons, NestedKey.depthAll, NestedKey.depth, depthAll_nums]
    omega
theorem depth_posK (p : HPos) : (posK p).depth ≤ 3 := by
  unfold posK queuesK
  rw [NestedKey.depth, NestedKey.depthAll, NestedKey.depthAll, NestedKey.depthAll, NestedKey.depth, NestedKey.depth, depthAll_nums]
  have := depthAll_queues p.1
  omega

/-! ### what a core may do -/
def may (ls : List Int) (own other : Nat) : Bool := decide (own < ls.length) && (decide (0 < ls.getD own 0) && decide (ls.getD own 0 ≤ (other : Int)))
def qlen (qs : List (List Int)) (i : Nat) : Nat := (qs.getD i []).length
def othersOf (t : Tk) (qs : List (List Int)) (c : Nat) : List Nat := (List.range qs.length).filter fun o => decide (o ≠ c) && may t.least (qlen qs c) (qlen qs o)
def most (l : List Nat) : Nat := l.foldl Nat.max 0
def picksOf (t : Tk) (p : HPos) (c : Nat) : List Int :=
  if 0 ≤ p.2.getD c (-1) then [-1]
  else
    let os := othersOf t p.1 c
    if os = [] then [-1]
    else if t.any_ = true then os.map Int.ofNat
    else ((os.filter fun o => decide (qlen p.1 o = most (os.map (qlen p.1)))).take 1).map Int.ofNat
def takeQ (t : Tk) (qs : List (List Int)) (c o : Nat) : List (List Int) :=
  if qlen qs o = 0 ∨ (t.again = true ∧ may t.least (qlen qs c) (qlen qs o) = false) then qs
  else
    let k := qlen qs o - (if t.half = true then max 1 ((qlen qs o - qlen qs c) / 2) else 1)
    (qs.set c (qs.getD c [] ++ (qs.getD o []).drop k)).set o ((qs.getD o []).take k)
def movedQ (t : Tk) (p : HPos) (c : Nat) : List (List Int) := if 0 ≤ p.2.getD c (-1) then takeQ t p.1 c (p.2.getD c (-1)).toNat else p.1
/-- next, ran, wasted -/
def actedP (t : Tk) (p : HPos) (c : Nat) (pick : Int) : HPos × Int × Int :=
  match (movedQ t p c).getD c [] with
  | x :: r => (((movedQ t p c).set c (r ++ [x]), p.2.set c pick), x, 0)
  | [] => ((movedQ t p c, p.2.set c pick), -1, if (movedQ t p c).any (fun q => decide (2 ≤ q.length)) = true then 1 else 0)
def actsOf (t : Tk) (p : HPos) : List (Nat × Int) := (List.range p.1.length).flatMap fun c => (picksOf t p c).map fun k => (c, k)
def labK (a : Nat × Int) : NestedKey := .tup [.num (a.1 : Int), .num a.2]
def actK (t : Tk) (p : HPos) (a : Nat × Int) : NestedKey :=
  .tup [.num (a.1 : Int), .num a.2, posK (actedP t p a.1 a.2).1, .num (actedP t p a.1 a.2).2.1, .num (actedP t p a.1 a.2).2.2]

/-! ### positions of a hall -/
structure HV (c n : Nat) (p : HPos) : Prop where
  ql : p.1.length = c
  ll : p.2.length = c
  lk : ∀ (i : Nat), i < c → p.2.getD i (-1) = -1 ∨ (0 ≤ p.2.getD i (-1) ∧ p.2.getD i (-1) < c ∧ p.2.getD i (-1) ≠ i)
  pm : p.1.flatten.Perm ((List.range n).map Int.ofNat)
/-- the numbers of the book -/
structure TkOk (t : Tk) : Prop where
  len : t.least.length ≤ 5
  pos : 1 ≤ t.least.length
  bd : ∀ x ∈ t.least, 0 ≤ x ∧ x ≤ 5
theorem flatten_set {qs : List (List Int)} {i : Nat} {q : List Int} (h : i < qs.length) (e : (qs.getD i []).Perm q) : (qs.set i q).flatten.Perm qs.flatten := by
  induction qs generalizing i with
  | nil => simp at h
  | cons a r ih =>
    cases i with
    | zero =>
      simp only [List.set_cons_zero, List.flatten_cons]
      simp at e
      exact List.Perm.append_right _ e.symm
    | succ j =>
      simp only [List.set_cons_succ, List.flatten_cons]
      simp at e h
      exact List.Perm.append_left _ (ih h (by simpa using e))
/-- tasks put from one queue to another -/
theorem flatten_move : ∀ {qs : List (List Int)} {i j : Nat} {a b x y : List Int}, i < qs.length → j < qs.length → i ≠ j → qs.getD i [] = a → qs.getD j [] = b → (x ++ y).Perm (a ++ b) → ((qs.set i x).set j y).flatten.Perm qs.flatten := by
  intro qs
  induction qs with
  | nil => intro i j a b x y h; simp at h
  | cons q r ih =>
    intro i j a b x y hi hj ne ea eb e
    -- one of the queues alone, anywhere in the rest
    have one : ∀ {r : List (List Int)} {k : Nat} {z w : List Int}, k < r.length → r.getD k [] = w → ∀ (u v : List Int), (u ++ z).Perm (v ++ w) → (u ++ (r.set k z).flatten).Perm (v ++ r.flatten) := by
      intro r
      induction r with
      | nil => intro k z w h; simp at h
      | cons q r ih2 =>
        intro k z w hk ew u v e
        cases k with
        | zero =>
          simp at ew
          subst ew
          simp only [List.set_cons_zero, List.flatten_cons]
          rw [← List.append_assoc, ← List.append_assoc]
          exact List.Perm.append_right _ e
        | succ k =>
          simp only [List.set_cons_succ, List.flatten_cons]
          have h1 := ih2 (k := k) (z := z) (w := w) (by simpa using hk) (by simpa using ew) u v e
          have p1 : ∀ (s t m : List Int), (s ++ (t ++ m)).Perm (t ++ (s ++ m)) := fun s t m => by
            rw [← List.append_assoc, ← List.append_assoc]
            exact List.Perm.append_right _ List.perm_append_comm
          exact (p1 _ _ _).trans ((List.Perm.append_left _ h1).trans (p1 _ _ _).symm)
    cases i with
    | zero =>
      cases j with
      | zero => exact absurd rfl ne
      | succ j =>
        simp only [List.set_cons_zero, List.set_cons_succ, List.flatten_cons]
        simp at ea
        subst ea
        exact one (k := j) (z := y) (w := b) (by simpa using hj) (by simpa using eb) x q e
    | succ i =>
      cases j with
      | zero =>
        simp only [List.set_cons_zero, List.set_cons_succ, List.flatten_cons]
        simp at eb
        subst eb
        exact one (k := i) (z := x) (w := a) (by simpa using hi) (by simpa using ea) y q (List.perm_append_comm.trans (e.trans List.perm_append_comm))
      | succ j =>
        simp only [List.set_cons_succ, List.flatten_cons]
        exact List.Perm.append_left _ (ih (i := i) (j := j) (by simpa using hi) (by simpa using hj) (by omega) (by simpa using ea) (by simpa using eb) e)
theorem getD_set_ne {α : Type} {l : List α} {i j : Nat} {x d : α} (h : i ≠ j) : (l.set i x).getD j d = l.getD j d := by
  rw [List.getD_eq_getElem?_getD, List.getElem?_set_ne h, ← List.getD_eq_getElem?_getD]
theorem getD_set_eq {α : Type} {l : List α} {i : Nat} {x d : α} (h : i < l.length) : (l.set i x).getD i d = x := by
  rw [List.getD_eq_getElem?_getD, List.getElem?_set_self h]; rfl
theorem takeQ_len (t : Tk) (qs : List (List Int)) (c o : Nat) : (takeQ t qs c o).length = qs.length := by
  unfold takeQ
  split
  · rfl
  · simp
theorem takeQ_perm {t : Tk} {qs : List (List Int)} {c o : Nat} (hc : c < qs.length) (ho : o < qs.length) (ne : c ≠ o) : (takeQ t qs c o).flatten.Perm qs.flatten := by
  unfold takeQ
  split
  · exact List.Perm.refl _
  · refine flatten_move hc ho ne rfl rfl ?_
    rw [List.append_assoc]
    refine List.Perm.append_left _ ?_
    exact List.perm_append_comm.trans (by rw [List.take_append_drop])
theorem movedQ_len (t : Tk) (p : HPos) (c : Nat) : (movedQ t p c).length = p.1.length := by
  unfold movedQ
  split
  · exact takeQ_len ..
  · rfl
theorem HV.moved {c n : Nat} {p : HPos} (h : HV c n p) (t : Tk) {i : Nat} (hi : i < c) : (movedQ t p i).flatten.Perm ((List.range n).map Int.ofNat) := by
  unfold movedQ
  split
  · rename_i hl
    rcases h.lk i hi with e | ⟨e1, e2, e3⟩
    · omega
    · exact (takeQ_perm (by rw [h.ql]; exact hi) (by rw [h.ql]; omega) (by omega)).trans h.pm
  · exact h.pm
theorem picks_ok {c n : Nat} {p : HPos} (h : HV c n p) {t : Tk} {i : Nat} {k : Int} (hk : k ∈ picksOf t p i) : k = -1 ∨ (0 ≤ k ∧ k < c ∧ k ≠ i) := by
  unfold picksOf at hk
  have os : ∀ o ∈ othersOf t p.1 i, o < c ∧ o ≠ i := fun o ho => by
    unfold othersOf at ho
    rw [List.mem_filter, List.mem_range, h.ql] at ho
    refine ⟨ho.1, ?_⟩
    have := ho.2
    simp at this
    exact this.1
  split at hk
  · left; simpa using hk
  · dsimp only at hk
    split at hk
    · left; simpa using hk
    · split at hk
      · obtain ⟨o, ho, e⟩ := List.mem_map.mp hk
        have := os o ho
        subst e
        right
        simp; omega
      · obtain ⟨o, ho, e⟩ := List.mem_map.mp hk
        have := os o (List.mem_filter.mp (List.mem_of_mem_take ho)).1
        subst e
        right
        simp; omega
theorem HV.acted {c n : Nat} {p : HPos} (h : HV c n p) {t : Tk} {i : Nat} {k : Int} (hi : i < c) (hk : k ∈ picksOf t p i) : HV c n (actedP t p i k).1 := by
  have hm := h.moved t hi
  have hl := movedQ_len t p i
  have lk : ∀ (j : Nat), j < c → (p.2.set i k).getD j (-1) = -1 ∨ (0 ≤ (p.2.set i k).getD j (-1) ∧ (p.2.set i k).getD j (-1) < c ∧ (p.2.set i k).getD j (-1) ≠ j) := fun j hj => by
    by_cases e : i = j
    · subst e
      rw [getD_set_eq (by rw [h.ll]; exact hi)]
      rcases picks_ok h hk with q | q
      · exact .inl q
      · exact .inr q
    · rw [getD_set_ne e]; exact h.lk j hj
  unfold actedP
  split
  · rename_i x r e
    refine ⟨by show ((movedQ t p i).set i (r ++ [x])).length = c; rw [List.length_set, hl, h.ql], by show (p.2.set i k).length = c; rw [List.length_set, h.ll], lk, ?_⟩
    refine (flatten_set (by rw [hl, h.ql]; exact hi) ?_).trans hm
    rw [e]
    exact (List.perm_append_singleton x r).symm
  · exact ⟨by show (movedQ t p i).length = c; rw [hl, h.ql], by show (p.2.set i k).length = c; rw [List.length_set, h.ll], lk, hm⟩
theorem acts_mem {t : Tk} {p : HPos} {a : Nat × Int} : a ∈ actsOf t p ↔ a.1 < p.1.length ∧ a.2 ∈ picksOf t p a.1 := by
  unfold actsOf
  rw [List.mem_flatMap]
  constructor
  · rintro ⟨c, hc, h⟩
    obtain ⟨k, hk, e⟩ := List.mem_map.mp h
    subst e
    exact ⟨List.mem_range.mp hc, hk⟩
  · rintro ⟨h1, h2⟩
    exact ⟨a.1, List.mem_range.mpr h1, List.mem_map.mpr ⟨a.2, h2, rfl⟩⟩
theorem qlen_le {c n : Nat} {p : HPos} (h : HV c n p) (i : Nat) : qlen p.1 i ≤ n := by
  unfold qlen
  have hl : p.1.flatten.length = n := by rw [h.pm.length_eq]; simp
  rw [← hl]
  by_cases e : i < p.1.length
  · have : p.1.getD i [] ∈ p.1 := by
      rw [List.getD_eq_getElem?_getD, List.getElem?_eq_getElem e]
      exact List.getElem_mem e
    exact (List.sublist_flatten_of_mem this).length_le
  · have : p.1.getD i [] = [] := by
      rw [List.getD_eq_getElem?_getD, List.getElem?_eq_none (by omega)]; rfl
    rw [this]; exact Nat.zero_le _
theorem picks_len {c n : Nat} {p : HPos} (h : HV c n p) (hc : c ≤ 3) (t : Tk) (i : Nat) (hi : i < c) : (picksOf t p i).length ≤ 2 := by
  have os : (othersOf t p.1 i).length ≤ 2 := by
    unfold othersOf
    rw [h.ql]
    have : ((List.range c).filter fun o => decide (o ≠ i) && may t.least (qlen p.1 i) (qlen p.1 o)).length ≤ ((List.range c).filter fun o => decide (o ≠ i)).length := by
      rw [← List.countP_eq_length_filter, ← List.countP_eq_length_filter]
      apply List.countP_mono_left
      intro x _ hx
      simp at hx ⊢
      exact hx.1
    refine Nat.le_trans this ?_
    match c, hc, hi with
    | 1, _, _ => exact Nat.le_trans (List.length_filter_le _ _) (by simp)
    | 2, _, _ => exact Nat.le_trans (List.length_filter_le _ _) (by simp)
    | 3, _, hi =>
      match i, hi with
      | 0, _ => decide
      | 1, _ => decide
      | 2, _ => decide
  unfold picksOf
  split
  · simp
  · dsimp only
    split
    · simp
    · split
      · rw [List.length_map]; exact os
      · rw [List.length_map, List.length_take]; omega
theorem acts_len {c n : Nat} {p : HPos} (h : HV c n p) (hc : c ≤ 3) (t : Tk) : (actsOf t p).length ≤ 6 := by
  unfold actsOf
  rw [h.ql]
  have hp := picks_len h hc t
  match c, hc, hp with
  | 0, _, _ => simp
  | 1, _, hp =>
    have := hp 0 (by omega)
    simp [List.range_succ]; omega
  | 2, _, hp =>
    have := hp 0 (by omega); have := hp 1 (by omega)
    simp [List.range_succ]; omega
  | 3, _, hp =>
    have := hp 0 (by omega); have := hp 1 (by omega); have := hp 2 (by omega)
    simp [List.range_succ]; omega
end PH
end
section
set_option autoImplicit false
set_option linter.all false
namespace PH
open PySem
/-! ### how many positions there are -/
def inserts (x : Int) (l : List Int) : List (List Int) := (List.range (l.length + 1)).map fun i => l.take i ++ x :: l.drop i
def perms : List Int → List (List Int)
  | [] => [[]]
  | x :: xs => (perms xs).flatMap (inserts x)
theorem mem_perms : ∀ {xs l : List Int}, l.Perm xs → l ∈ perms xs
  | [], l, h => by
    have : l = [] := h.eq_nil
    subst this; simp [perms]
  | x :: xs, l, h => by
    have hx : x ∈ l := h.mem_iff.mpr (by simp)
    obtain ⟨l1, l2, rfl⟩ := List.append_of_mem hx
    have h2 : (l1 ++ l2).Perm xs := (List.perm_middle.symm.trans h).cons_inv
    unfold perms
    rw [List.mem_flatMap]
    refine ⟨l1 ++ l2, mem_perms h2, ?_⟩
    unfold inserts
    rw [List.mem_map]
    refine ⟨l1.length, by rw [List.mem_range, List.length_append]; omega, ?_⟩
    simp
def cuts : Nat → List Int → List (List (List Int))
  | 0, _ => [[]]
  | 1, l => [[l]]
  | k + 2, l => (List.range (l.length + 1)).flatMap fun i => (cuts (k + 1) (l.drop i)).map fun q => l.take i :: q
theorem mem_cuts : ∀ {c : Nat} {qs : List (List Int)}, qs.length = c → qs ∈ cuts c qs.flatten
  | 0, qs, h => by
    have : qs = [] := List.eq_nil_of_length_eq_zero h
    subst this; simp [cuts]
  | 1, qs, h => by
    match qs, h with
    | [q], _ => simp [cuts]
  | k + 2, qs, h => by
    match qs, h with
    | q :: r, h =>
      have hr : r.length = k + 1 := by simpa using h
      unfold cuts
      rw [List.mem_flatMap]
      refine ⟨q.length, by rw [List.mem_range, List.flatten_cons, List.length_append]; omega, ?_⟩
      rw [List.mem_map]
      refine ⟨r, ?_, ?_⟩
      · have : (q :: r).flatten.drop q.length = r.flatten := by rw [List.flatten_cons, List.drop_left]
        rw [this]; exact mem_cuts hr
      · rw [List.flatten_cons, List.take_left]
def vecs (S : List Int) : Nat → List (List Int)
  | 0 => [[]]
  | k + 1 => S.flatMap fun x => (vecs S k).map fun v => x :: v
theorem mem_vecs {S : List Int} : ∀ {k : Nat} {v : List Int}, v.length = k → (∀ x ∈ v, x ∈ S) → v ∈ vecs S k
  | 0, v, h, _ => by
    have : v = [] := List.eq_nil_of_length_eq_zero h
    subst this; simp [vecs]
  | k + 1, v, h, hS => by
    match v, h, hS with
    | x :: r, h, hS =>
      unfold vecs
      rw [List.mem_flatMap]
      refine ⟨x, hS x (by simp), ?_⟩
      rw [List.mem_map]
      exact ⟨r, mem_vecs (by simpa using h) (fun y hy => hS y (by simp [hy])), rfl⟩
theorem length_flatMap_le {α β : Type} {f : α → List β} {m : Nat} : ∀ {l : List α}, (∀ x ∈ l, (f x).length ≤ m) → (l.flatMap f).length ≤ l.length * m
  | [], _ => by simp
  | x :: r, h => by
    have h1 := h x (by simp)
    have h2 := length_flatMap_le (l := r) (fun y hy => h y (by simp [hy]))
    rw [List.flatMap_cons, List.length_append, List.length_cons, Nat.succ_mul]
    omega
def looksOf (c : Nat) : List Int := (-1) :: (List.range c).map Int.ofNat
def allPos (c n : Nat) : List HPos := (perms ((List.range n).map Int.ofNat)).flatMap fun l => (cuts c l).flatMap fun q => (vecs (looksOf c) c).map fun v => (q, v)
theorem mem_allPos {c n : Nat} {p : HPos} (h : HV c n p) : p ∈ allPos c n := by
  unfold allPos
  rw [List.mem_flatMap]
  refine ⟨p.1.flatten, mem_perms h.pm, ?_⟩
  rw [List.mem_flatMap]
  refine ⟨p.1, mem_cuts h.ql, ?_⟩
  rw [List.mem_map]
  refine ⟨p.2, mem_vecs h.ll (fun x hx => ?_), rfl⟩
  obtain ⟨i, hi⟩ := List.mem_iff_getElem?.mp hx
  have hl : i < c := by rw [← h.ll]; exact (List.getElem?_eq_some_iff.mp hi).1
  have e : p.2.getD i (-1) = x := by rw [List.getD_eq_getElem?_getD, hi]; rfl
  unfold looksOf
  rcases h.lk i hl with q | ⟨q1, q2, _⟩
  · rw [← e, q]; simp
  · rw [e] at q1 q2
    refine List.mem_cons_of_mem _ (List.mem_map.mpr ⟨x.toNat, by rw [List.mem_range]; omega, ?_⟩)
    show ((x.toNat : Nat) : Int) = x
    omega
theorem perms_len {n : Nat} (h : n ≤ 5) : (perms ((List.range n).map Int.ofNat)).length ≤ 120 := by
  match n, h with
  | 0, _ => decide +kernel
  | 1, _ => decide +kernel
  | 2, _ => decide +kernel
  | 3, _ => decide +kernel
  | 4, _ => decide +kernel
  | 5, _ => decide +kernel
theorem mem_perms_len : ∀ {xs l : List Int}, l ∈ perms xs → l.length = xs.length
  | [], l, h => by simp [perms] at h; subst h; rfl
  | x :: xs, l, h => by
    unfold perms at h
    rw [List.mem_flatMap] at h
    obtain ⟨m, hm, hl⟩ := h
    unfold inserts at hl
    obtain ⟨i, hi, e⟩ := List.mem_map.mp hl
    rw [List.mem_range] at hi
    have := mem_perms_len hm
    subst e
    simp; omega
theorem cuts_len : ∀ {c : Nat} {l : List Int} {m : Nat}, c ≤ 3 → l.length ≤ m → (cuts c l).length ≤ (m + 1) ^ 2
  | 0, l, m, _, h => by
    have : 1 ≤ (m + 1) ^ 2 := Nat.one_le_pow _ _ (by omega)
    simpa [cuts] using this
  | 1, l, m, _, h => by
    have : 1 ≤ (m + 1) ^ 2 := Nat.one_le_pow _ _ (by omega)
    simpa [cuts] using this
  | 2, l, m, _, h => by
    unfold cuts
    refine Nat.le_trans (length_flatMap_le (m := 1) fun i _ => by simp [cuts]) ?_
    rw [List.length_range, Nat.mul_one, Nat.pow_two]
    exact Nat.le_trans (by omega) (Nat.le_mul_of_pos_right (m + 1) (by omega))
  | 3, l, m, _, h => by
    unfold cuts
    have one : ∀ i ∈ List.range (l.length + 1), ((cuts 2 (l.drop i)).map fun q => l.take i :: q).length ≤ m + 1 := fun i _ => by
      rw [List.length_map]
      unfold cuts
      refine Nat.le_trans (length_flatMap_le (m := 1) fun j _ => by simp [cuts]) ?_
      rw [List.length_range, List.length_drop]; omega
    refine Nat.le_trans (length_flatMap_le one) ?_
    rw [List.length_range, Nat.pow_two]
    exact Nat.mul_le_mul_right _ (by omega)
  | k + 4, _, _, h, _ => by omega
theorem vecs_len {S : List Int} : ∀ (k : Nat), (vecs S k).length ≤ S.length ^ k
  | 0 => by simp [vecs]
  | k + 1 => by
    unfold vecs
    refine Nat.le_trans (length_flatMap_le (m := S.length ^ k) fun x _ => by rw [List.length_map]; exact vecs_len k) ?_
    rw [Nat.pow_succ, Nat.mul_comm]; exact Nat.le_refl _
theorem looks_len {c : Nat} (h : c ≤ 3) : (vecs (looksOf c) c).length ≤ 64 := by
  refine Nat.le_trans (vecs_len c) ?_
  match c, h with
  | 0, _ => decide
  | 1, _ => decide
  | 2, _ => decide
  | 3, _ => decide
theorem allPos_len {c n : Nat} (hc : c ≤ 3) (hn : n ≤ 5) : (allPos c n).length ≤ 276480 := by
  unfold allPos
  have h2 : ∀ l ∈ perms ((List.range n).map Int.ofNat), ((cuts c l).flatMap fun q => (vecs (looksOf c) c).map fun v => (q, v)).length ≤ 36 * 64 := fun l hl => by
    refine Nat.le_trans (length_flatMap_le (m := 64) fun q _ => by rw [List.length_map]; exact looks_len hc) ?_
    refine Nat.mul_le_mul_right _ ?_
    have := mem_perms_len hl
    rw [List.length_map, List.length_range] at this
    exact cuts_len (m := 5) hc (by omega)
  refine Nat.le_trans (length_flatMap_le h2) ?_
  have := perms_len hn
  exact Nat.mul_le_mul_right (36 * 64) this
theorem nodup_map_len {α β : Type} [DecidableEq β] {f : α → β} {l : List β} {m : List α} (nd : l.Nodup) (h : ∀ x ∈ l, ∃ a ∈ m, f a = x) : l.length ≤ m.length := by
  have := Gr.len_le_of_sub nd (m := m.map f) fun x hx => by
    obtain ⟨a, ha, e⟩ := h x hx
    exact List.mem_map.mpr ⟨a, ha, e⟩
  rw [List.length_map] at this; exact this

/-! ### the two graphs -/
abbrev WaysK := Gr.Ways NestedKey NestedKey
def waysW (t : Tk) : WaysK := fun k => (actsOf t (unPos k)).map fun a => (labK a, posK (actedP t (unPos k) a.1 a.2).1, (actedP t (unPos k) a.1 a.2).2.2)
def nodeP (p : HPos) (ph : Int) : NestedKey := .tup [posK p, .num ph]
def unP (k : NestedKey) : HPos × Int := (unPos ((listOf k).getD 0 .none), numOf ((listOf k).getD 1 .none))
theorem unP_nodeP (p : HPos) (ph : Int) : unP (nodeP p ph) = (p, ph) := by
  show (unPos (posK p), ph) = (p, ph)
  rw [unPos_posK]
def passW (task : Int) (p : HPos) (c : Nat) : Int := if task ∈ p.1.getD c [] then 1 else 0
def waysP (t : Tk) (task : Int) : WaysK := fun k =>
  if (unP k).2 = 0 then ((actsOf t (unP k).1).map fun a => (labK a, nodeP (actedP t (unP k).1 a.1 a.2).1 0, 0)) ++ [(.none, nodeP (unP k).1 1, 0)]
  else ((actsOf t (unP k).1).filter fun a => decide ((actedP t (unP k).1 a.1 a.2).2.1 ≠ task)).map fun a => (labK a, nodeP (actedP t (unP k).1 a.1 a.2).1 1, passW task (actedP t (unP k).1 a.1 a.2).1 a.1)
theorem wasted_nn (t : Tk) (p : HPos) (c : Nat) (k : Int) : 0 ≤ (actedP t p c k).2.2 ∧ (actedP t p c k).2.2 ≤ 1 := by
  unfold actedP
  split
  · simp
  · dsimp only
    split <;> omega
section
variable {c n : Nat} {t : Tk} {task : Int}
theorem waysW_next {p : HPos} (h : HV c n p) {x : NestedKey × NestedKey × Int} (hx : x ∈ waysW t (posK p)) : ∃ a ∈ actsOf t p, x = (labK a, posK (actedP t p a.1 a.2).1, (actedP t p a.1 a.2).2.2) ∧ HV c n (actedP t p a.1 a.2).1 := by
  unfold waysW at hx
  rw [unPos_posK] at hx
  obtain ⟨a, ha, e⟩ := List.mem_map.mp hx
  obtain ⟨h1, h2⟩ := acts_mem.mp ha
  exact ⟨a, ha, e.symm, h.acted (by rw [← h.ql]; exact h1) h2⟩
theorem rchW {p0 : HPos} (h0 : HV c n p0) {k : NestedKey} (r : Gr.Rch (waysW t) (posK p0) k) : ∃ p, k = posK p ∧ HV c n p := by
  refine r.closed (S := fun k => ∃ p, k = posK p ∧ HV c n p) (fun u v hu e => ?_) ⟨p0, rfl, h0⟩
  obtain ⟨p, rfl, h⟩ := hu
  obtain ⟨l, w, m⟩ := e
  obtain ⟨a, _, e, h'⟩ := waysW_next h m
  cases e
  exact ⟨_, rfl, h'⟩
theorem waysP_next {p : HPos} {ph : Int} (h : HV c n p) {x : NestedKey × NestedKey × Int} (hx : x ∈ waysP t task (nodeP p ph)) :
    (ph = 0 ∧ ∃ a ∈ actsOf t p, x = (labK a, nodeP (actedP t p a.1 a.2).1 0, 0) ∧ HV c n (actedP t p a.1 a.2).1) ∨ (ph = 0 ∧ x = (.none, nodeP p 1, 0)) ∨
    (ph ≠ 0 ∧ ∃ a ∈ actsOf t p, (actedP t p a.1 a.2).2.1 ≠ task ∧ x = (labK a, nodeP (actedP t p a.1 a.2).1 1, passW task (actedP t p a.1 a.2).1 a.1) ∧ HV c n (actedP t p a.1 a.2).1) := by
  unfold waysP at hx
  rw [unP_nodeP] at hx
  by_cases e : ph = 0
  · rw [if_pos e] at hx
    rcases List.mem_append.mp hx with q | q
    · obtain ⟨a, ha, e'⟩ := List.mem_map.mp q
      obtain ⟨h1, h2⟩ := acts_mem.mp ha
      exact .inl ⟨e, a, ha, e'.symm, h.acted (by rw [← h.ql]; exact h1) h2⟩
    · exact .inr (.inl ⟨e, by simpa using q⟩)
  · rw [if_neg e] at hx
    obtain ⟨a, ha, e'⟩ := List.mem_map.mp hx
    obtain ⟨ha1, ha2⟩ := List.mem_filter.mp ha
    obtain ⟨h1, h2⟩ := acts_mem.mp ha1
    exact .inr (.inr ⟨e, a, ha1, of_decide_eq_true ha2, e'.symm, h.acted (by rw [← h.ql]; exact h1) h2⟩)
theorem rchP {p0 : HPos} (h0 : HV c n p0) {k : NestedKey} (r : Gr.Rch (waysP t task) (nodeP p0 0) k) : ∃ p ph, k = nodeP p ph ∧ HV c n p ∧ (ph = 0 ∨ ph = 1) := by
  refine r.closed (S := fun k => ∃ p ph, k = nodeP p ph ∧ HV c n p ∧ (ph = 0 ∨ ph = 1)) (fun u v hu e => ?_) ⟨p0, 0, rfl, h0, .inl rfl⟩
  obtain ⟨p, ph, rfl, h, hph⟩ := hu
  obtain ⟨l, w, m⟩ := e
  rcases waysP_next h m with ⟨_, a, _, e, h'⟩ | ⟨_, e⟩ | ⟨_, a, _, _, e, h'⟩
  · cases e; exact ⟨_, _, rfl, h', .inl rfl⟩
  · cases e; exact ⟨_, _, rfl, h, .inr rfl⟩
  · cases e; exact ⟨_, _, rfl, h', .inr rfl⟩
theorem depth_nodeP (p : HPos) (ph : Int) : (nodeP p ph).depth ≤ 4 := by
  unfold nodeP
  rw [NestedKey.depth, NestedKey.depthAll, NestedKey.depthAll, NestedKey.depthAll, NestedKey.depth]
  have := depth_posK p
  omega
theorem bdW {p0 : HPos} (h0 : HV c n p0) (hc : c ≤ 3) (hn : n ≤ 5) {nodes : List NestedKey} (nd : nodes.Nodup) (h : ∀ k ∈ nodes, Gr.Rch (waysW t) (posK p0) k) : nodes.length ≤ 276480 := by
  refine Nat.le_trans (nodup_map_len (f := posK) (m := allPos c n) nd fun k hk => ?_) (allPos_len hc hn)
  obtain ⟨p, e, hp⟩ := rchW h0 (h k hk)
  exact ⟨p, mem_allPos hp, e.symm⟩
theorem bdP {p0 : HPos} (h0 : HV c n p0) (hc : c ≤ 3) (hn : n ≤ 5) {nodes : List NestedKey} (nd : nodes.Nodup) (h : ∀ k ∈ nodes, Gr.Rch (waysP t task) (nodeP p0 0) k) : nodes.length ≤ 552960 := by
  have h1 := allPos_len (c := c) (n := n) hc hn
  have h2 := nodup_map_len (f := fun x : HPos × Int => nodeP x.1 x.2) (m := (allPos c n).map (fun p => (p, (0 : Int))) ++ (allPos c n).map (fun p => (p, (1 : Int)))) nd fun k hk => by
    obtain ⟨p, ph, e, hp, hph⟩ := rchP h0 (h k hk)
    refine ⟨(p, ph), ?_, e.symm⟩
    have hm := mem_allPos hp
    rcases hph with q | q
    · subst q; exact List.mem_append_left _ (List.mem_map.mpr ⟨p, hm, rfl⟩)
    · subst q; exact List.mem_append_right _ (List.mem_map.mpr ⟨p, hm, rfl⟩)
  rw [List.length_append, List.length_map, List.length_map] at h2
  omega
theorem degW {p : HPos} (h : HV c n p) (hc : c ≤ 3) : (waysW t (posK p)).length ≤ 7 := by
  unfold waysW
  rw [unPos_posK, List.length_map]
  have := acts_len h hc t
  omega
theorem degP {p : HPos} {ph : Int} (h : HV c n p) (hc : c ≤ 3) : (waysP t task (nodeP p ph)).length ≤ 7 := by
  unfold waysP
  rw [unP_nodeP]
  have := acts_len h hc t
  dsimp only
  split
  · rw [List.length_append, List.length_map]; simp; omega
  · rw [List.length_map]
    exact Nat.le_trans (List.length_filter_le _ _) (by omega)
theorem nnW (k : NestedKey) {x : NestedKey × NestedKey × Int} (hx : x ∈ waysW t k) : 0 ≤ x.2.2 := by
  unfold waysW at hx
  obtain ⟨a, _, e⟩ := List.mem_map.mp hx
  subst e
  exact (wasted_nn t _ _ _).1
theorem nnP (k : NestedKey) {x : NestedKey × NestedKey × Int} (hx : x ∈ waysP t task k) : 0 ≤ x.2.2 := by
  unfold waysP at hx
  split at hx
  · rcases List.mem_append.mp hx with q | q
    · obtain ⟨a, _, e⟩ := List.mem_map.mp q
      subst e; exact Int.le_refl _
    · have : x = (.none, nodeP (unP k).1 1, 0) := by simpa using q
      subst this; exact Int.le_refl _
  · obtain ⟨a, _, e⟩ := List.mem_map.mp hx
    subst e
    show 0 ≤ passW task _ _
    unfold passW
    split <;> omega
end
end PH
end
section
set_option Elab.async false
set_option linter.all false
set_option maxRecDepth 100000
set_option maxHeartbeats 4000000
/-! dicts whose keys are nested tuples, over the hand layer -/
namespace ND
open PySem PySem.W PySem.Spec PyProof.Rows L2

/-! ### data without change: nested tuples -/
mutual
def Rp (B : Hp) : NestedKey → V → Prop
  | .none, v => v = .non
  | .num i, v => v = .int i
  | .text x, v => v = .str x
  | .tup ks, v => ∃ a vs, v = .ref a ∧ B a = some (.tup vs) ∧ Rps B ks vs
def Rps (B : Hp) : List NestedKey → List V → Prop
  | [], vs => vs = []
  | k :: ks, vs => ∃ v r, vs = v :: r ∧ Rp B k v ∧ Rps B ks r
end
def Tups (B B' : Hp) : Prop := ∀ a xs, B a = some (.tup xs) → B' a = some (.tup xs)
theorem Tups.refl (B : Hp) : Tups B B := fun _ _ h => h
theorem Tups.trans {A B C : Hp} (x : Tups A B) (y : Tups B C) : Tups A C := fun a xs h => y a xs (x a xs h)
theorem Same.tups {B B' : Hp} (s : Same B B') : Tups B B' := fun a xs h => s a _ h
mutual
theorem Rp.keep {B B' : Hp} (t : Tups B B') : ∀ {k : NestedKey} {v : V}, Rp B k v → Rp B' k v
  | .none, _, h => h
  | .num _, _, h => h
  | .text _, _, h => h
  | .tup ks, _, h => by
    unfold Rp at h ⊢
    obtain ⟨a, vs, e, q, r⟩ := h
    exact ⟨a, vs, e, t _ _ q, Rps.keep t r⟩
theorem Rps.keep {B B' : Hp} (t : Tups B B') : ∀ {ks : List NestedKey} {vs : List V}, Rps B ks vs → Rps B' ks vs
  | [], _, h => h
  | k :: ks, _, h => by
    unfold Rps at h ⊢
    obtain ⟨v, r, e, q, z⟩ := h
    exact ⟨v, r, e, Rp.keep t q, Rps.keep t z⟩
end
mutual
theorem Rp.inj {B : Hp} : ∀ {k j : NestedKey} {v : V}, Rp B k v → Rp B j v → k = j
  | .none, j, v, h, h' => by
    unfold Rp at h; subst h
    cases j <;> unfold Rp at h' <;> first | (obtain ⟨_, _, e, _⟩ := h'; cases e; done) | rfl | (cases h'; done)
  | .num i, j, v, h, h' => by
    unfold Rp at h; subst h
    cases j <;> unfold Rp at h' <;> first | (obtain ⟨_, _, e, _⟩ := h'; cases e; done) | (cases h'; rfl) | (cases h'; done)
  | .text i, j, v, h, h' => by
    unfold Rp at h; subst h
    cases j <;> unfold Rp at h' <;> first | (obtain ⟨_, _, e, _⟩ := h'; cases e; done) | (cases h'; rfl) | (cases h'; done)
  | .tup ks, j, v, h, h' => by
    unfold Rp at h
    obtain ⟨a, vs, e, q, r⟩ := h
    subst e
    cases j with
    | none => unfold Rp at h'; cases h'
    | num _ => unfold Rp at h'; cases h'
    | text _ => unfold Rp at h'; cases h'
    | tup js =>
      unfold Rp at h'
      obtain ⟨a', vs', e', q', r'⟩ := h'
      cases e'
      rw [q] at q'; cases q'
      rw [Rps.inj r r']
theorem Rps.inj {B : Hp} : ∀ {ks js : List NestedKey} {vs : List V}, Rps B ks vs → Rps B js vs → ks = js
  | [], js, vs, h, h' => by
    unfold Rps at h; subst h
    cases js with
    | nil => rfl
    | cons j js => unfold Rps at h'; obtain ⟨_, _, e, _⟩ := h'; cases e
  | k :: ks, js, vs, h, h' => by
    unfold Rps at h
    obtain ⟨v, r, e, q, z⟩ := h
    subst e
    cases js with
    | nil => unfold Rps at h'; cases h'
    | cons j js =>
      unfold Rps at h'
      obtain ⟨v', r', e', q', z'⟩ := h'
      cases e'
      rw [Rp.inj q q', Rps.inj z z']
end
theorem Rps.length {B : Hp} : ∀ {ks : List NestedKey} {vs : List V}, Rps B ks vs → vs.length = ks.length
  | [], _, h => by unfold Rps at h; subst h; rfl
  | k :: ks, _, h => by
    unfold Rps at h
    obtain ⟨v, r, e, _, z⟩ := h
    subst e
    simp [Rps.length z]
theorem Rps.get {B : Hp} : ∀ {ks : List NestedKey} {vs : List V} {i : Nat} {k : NestedKey}, Rps B ks vs → ks[i]? = some k → ∃ v, vs[i]? = some v ∧ Rp B k v
  | [], _, _, _, _, e => by simp at e
  | k :: ks, _, 0, _, h, e => by
    unfold Rps at h
    obtain ⟨v, r, e', q, _⟩ := h
    subst e'
    simp at e; subst e
    exact ⟨v, rfl, q⟩
  | k :: ks, _, i + 1, _, h, e => by
    unfold Rps at h
    obtain ⟨v, r, e', _, z⟩ := h
    subst e'
    simp at e
    simpa using Rps.get z e
theorem Rps.geti {B : Hp} : ∀ {ks : List NestedKey} {vs : List V} {i : Nat} {v : V}, Rps B ks vs → vs[i]? = some v → ∃ k, ks[i]? = some k ∧ Rp B k v
  | [], _, _, _, h, e => by unfold Rps at h; subst h; simp at e
  | k :: ks, _, 0, _, h, e => by
    unfold Rps at h
    obtain ⟨v, r, e', q, _⟩ := h
    subst e'
    simp at e; subst e
    exact ⟨k, rfl, q⟩
  | k :: ks, _, i + 1, _, h, e => by
    unfold Rps at h
    obtain ⟨v, r, e', _, z⟩ := h
    subst e'
    simp at e
    simpa using Rps.geti z e
theorem Rps.nil {B : Hp} : Rps B [] [] := by unfold Rps; rfl
theorem Rps.cons {B : Hp} {k : NestedKey} {ks : List NestedKey} {v : V} {vs : List V} (h : Rp B k v) (t : Rps B ks vs) : Rps B (k :: ks) (v :: vs) := by
  unfold Rps; exact ⟨v, vs, rfl, h, t⟩
theorem Rps.app {B : Hp} : ∀ {ks js : List NestedKey} {vs ws : List V}, Rps B ks vs → Rps B js ws → Rps B (ks ++ js) (vs ++ ws)
  | [], _, _, _, h, t => by unfold Rps at h; subst h; exact t
  | k :: ks, _, _, _, h, t => by
    unfold Rps at h
    obtain ⟨v, r, e, q, z⟩ := h
    subst e
    exact .cons q (Rps.app z t)
theorem Rps.snoc {B : Hp} {k : NestedKey} {ks : List NestedKey} {v : V} {vs : List V} (t : Rps B ks vs) (h : Rp B k v) : Rps B (ks ++ [k]) (vs ++ [v]) := t.app (.cons h .nil)
theorem Rps.take {B : Hp} : ∀ {ks : List NestedKey} {vs : List V} (n : Nat), Rps B ks vs → Rps B (ks.take n) (vs.take n)
  | [], _, n, h => by unfold Rps at h; subst h; simpa using Rps.nil
  | k :: ks, _, 0, h => by simpa using Rps.nil
  | k :: ks, _, n + 1, h => by
    unfold Rps at h
    obtain ⟨v, r, e, q, z⟩ := h
    subst e
    exact .cons q (Rps.take n z)
theorem Rps.drop {B : Hp} : ∀ {ks : List NestedKey} {vs : List V} (n : Nat), Rps B ks vs → Rps B (ks.drop n) (vs.drop n)
  | [], _, n, h => by unfold Rps at h; subst h; simpa using Rps.nil
  | k :: ks, _, 0, h => h
  | k :: ks, _, n + 1, h => by
    unfold Rps at h
    obtain ⟨v, r, e, q, z⟩ := h
    subst e
    exact Rps.drop n z
theorem Rps.nums {B : Hp} : ∀ (ns : List Int), Rps B (ns.map .num) (ns.map V.int)
  | [] => .nil
  | n :: ns => .cons (by unfold Rp; rfl) (Rps.nums ns)
theorem Rps.ofNums {B : Hp} : ∀ {ns : List Int} {vs : List V}, Rps B (ns.map .num) vs → vs = ns.map V.int
  | [], _, h => by unfold Rps at h; exact h
  | n :: ns, _, h => by
    unfold Rps at h
    obtain ⟨v, r, e, q, z⟩ := h
    unfold Rp at q
    rw [e, q, Rps.ofNums z]; rfl
theorem rp_tup {B : Hp} {ks : List NestedKey} {a : Addr} {vs : List V} (h : B a = some (.tup vs)) (r : Rps B ks vs) : Rp B (.tup ks) (.ref a) := by
  unfold Rp; exact ⟨a, vs, rfl, h, r⟩
theorem Rp.tupD {B : Hp} {ks : List NestedKey} {v : V} (h : Rp B (.tup ks) v) : ∃ a vs, v = .ref a ∧ B a = some (.tup vs) ∧ Rps B ks vs := by
  unfold Rp at h; exact h
theorem Rp.numD {B : Hp} {i : Int} {v : V} (h : Rp B (.num i) v) : v = .int i := by unfold Rp at h; exact h
theorem rp_num {B : Hp} (i : Int) : Rp B (.num i) (.int i) := by unfold Rp; rfl
theorem rp_none {B : Hp} : Rp B .none .non := by unfold Rp; rfl
theorem Rps.consD {B : Hp} {k : NestedKey} {ks : List NestedKey} {vs : List V} (h : Rps B (k :: ks) vs) : ∃ v r, vs = v :: r ∧ Rp B k v ∧ Rps B ks r := by
  unfold Rps at h; exact h
theorem Rps.nilD {B : Hp} {vs : List V} (h : Rps B [] vs) : vs = [] := by unfold Rps at h; exact h

mutual
theorem Rp.nested {P : Program} {w : World} {H : Hp} {h : Heap} (ok : HOk P w H h) : ∀ {k : NestedKey} {v : V} {u : Value}, Rp H k v → RelV v u → NestedIs h k u
  | .none, _, _, r, e => by unfold Rp at r; subst r; cases (show _ = Value.none from e); exact .none
  | .num i, _, _, r, e => by unfold Rp at r; subst r; obtain ⟨t, rfl⟩ := (show ∃ t, _ = Value.int i t from e); exact .int _ _
  | .text i, _, _, r, e => by unfold Rp at r; subst r; obtain ⟨t, rfl⟩ := (show ∃ t, _ = Value.str i t from e); exact .text _ _
  | .tup ks, _, _, r, e => by
    unfold Rp at r
    obtain ⟨a, vs, rfl, q, z⟩ := r
    cases (show _ = Value.ref a from e)
    obtain ⟨_, its, rel, o, h1, h2, n, h3⟩ := (show ObjOk P w H h a (.tup vs) from ok a _ q)
    exact .tup h1 h2 h3 (by simpa using Rps.nested ok z rel)
theorem Rps.nested {P : Program} {w : World} {H : Hp} {h : Heap} (ok : HOk P w H h) : ∀ {ks : List NestedKey} {vs : List V} {us : List Value}, Rps H ks vs → Vals vs us → NestedAll h ks us
  | [], _, _, r, e => by unfold Rps at r; subst r; cases e; exact .nil
  | k :: ks, _, _, r, e => by
    unfold Rps at r
    obtain ⟨v, r', rfl, q, z⟩ := r
    cases e with
    | cons e1 e2 => exact .cons (Rp.nested ok q e1) (Rps.nested ok z e2)
end

/-! ### the dict -/
abbrev EnR : List (NestedKey × Addr × V) → List (NestedKey × Addr × Value) → Prop := Paired fun p q => p.1 = q.1 ∧ p.2.1 = q.2.1 ∧ RelV p.2.2 q.2.2
def phiN (w : World) (d : Addr) (xs : List (NestedKey × Addr × V)) (h : Heap) : Prop :=
  (d == sysModules) = false ∧ xs.length ≤ sizeLine ∧ (xs.map (·.1)).Nodup ∧ ∃ us o es ep, EnR xs us ∧ h.get? d = some o ∧ o.ExactDict ∧ o.data = .dict es ep ∧ es.toList = us.map fun x => (⟨x.1.hash w, .ref x.2.1, x.2.2⟩ : DictEntry)
/-- a dict with nested keys -/
def dN (w : World) (d : Addr) (xs : List (NestedKey × Addr × V)) : HO := .ext (phiN w d xs)
def valN (xs : List (NestedKey × Addr × V)) (k : NestedKey) : Option V := (xs.find? fun x => decide (x.1 = k)).map (·.2.2)
def putN (xs : List (NestedKey × Addr × V)) (k : NestedKey) (a : Addr) (v : V) : List (NestedKey × Addr × V) :=
  if (valN xs k).isSome = true then xs.map (fun x => if x.1 = k then (x.1, x.2.1, v) else x) else xs ++ [(k, a, v)]
def KeysOk (H : Hp) (xs : List (NestedKey × Addr × V)) : Prop := ∀ x ∈ xs, Rp H x.1 (.ref x.2.1) ∧ x.1.depth ≤ 8
/-- a value that is a key -/
def IsK (H : Hp) (k : NestedKey) (v : V) : Prop := Rp H k v ∧ k.depth ≤ 8 ∧ ∃ a, v = .ref a
theorem KeysOk.keep {B B' : Hp} (t : Tups B B') {xs : List (NestedKey × Addr × V)} (h : KeysOk B xs) : KeysOk B' xs := fun x hx => ⟨(h x hx).1.keep t, (h x hx).2⟩
theorem IsK.keep {B B' : Hp} (t : Tups B B') {k : NestedKey} {v : V} (h : IsK B k v) : IsK B' k v := ⟨h.1.keep t, h.2⟩

theorem valN_nil {k : NestedKey} : valN [] k = none := rfl
theorem valN_pos {p : NestedKey × Addr × V} {r : List (NestedKey × Addr × V)} {k : NestedKey} (e : p.1 = k) : valN (p :: r) k = some p.2.2 := by simp [valN, List.find?_cons, e]
theorem valN_neg {p : NestedKey × Addr × V} {r : List (NestedKey × Addr × V)} {k : NestedKey} (e : ¬ p.1 = k) : valN (p :: r) k = valN r k := by simp [valN, List.find?_cons, e]
theorem valN_map (k j : NestedKey) (y : V) : ∀ xs : List (NestedKey × Addr × V), valN (xs.map fun x => if x.1 = k then (x.1, x.2.1, y) else x) j = (valN xs j).map fun x => if j = k then y else x
  | [] => rfl
  | p :: r => by
    have ih := valN_map k j y r
    rw [List.map_cons]
    by_cases h : p.1 = k
    · rw [if_pos h]
      by_cases e : p.1 = j
      · rw [valN_pos (p := (p.1, p.2.1, y)) e, valN_pos e, Option.map_some, if_pos (e.symm.trans h)]
      · rw [valN_neg (p := (p.1, p.2.1, y)) e, valN_neg e, ih]
    · rw [if_neg h]
      by_cases e : p.1 = j
      · rw [valN_pos (p := p) e, valN_pos e, Option.map_some, if_neg (fun z => h (e.trans z))]
      · rw [valN_neg (p := p) e, valN_neg e, ih]
theorem valN_snoc (k j : NestedKey) (a : Addr) (y : V) : ∀ xs : List (NestedKey × Addr × V), valN xs k = none → valN (xs ++ [(k, a, y)]) j = if j = k then some y else valN xs j
  | [], _ => by
    by_cases e : k = j
    · rw [if_pos e.symm]; exact valN_pos (p := (k, a, y)) e
    · rw [if_neg (fun z => e z.symm)]; exact valN_neg (p := (k, a, y)) e
  | p :: r, hn => by
    rw [List.cons_append]
    have hk : ¬ p.1 = k := fun z => by rw [valN_pos z] at hn; cases hn
    rw [valN_neg hk] at hn
    have ih := valN_snoc k j a y r hn
    by_cases e : p.1 = j
    · rw [valN_pos e, valN_pos e, if_neg (fun z => hk (e.trans z))]
    · rw [valN_neg e, valN_neg e, ih]
theorem valN_put (xs : List (NestedKey × Addr × V)) (k j : NestedKey) (a : Addr) (y : V) : valN (putN xs k a y) j = if j = k then some y else valN xs j := by
  unfold putN
  by_cases h : (valN xs k).isSome = true
  · rw [if_pos h, valN_map]
    by_cases e : j = k
    · obtain ⟨x, hx⟩ := Option.isSome_iff_exists.mp h
      rw [if_pos e, e, hx, Option.map_some, if_pos rfl]
    · rw [if_neg e]
      cases valN xs j with
      | none => rfl
      | some x => rw [Option.map_some, if_neg e]
  · rw [if_neg h]
    refine valN_snoc k j a y xs ?_
    cases q : valN xs k with
    | none => rfl
    | some x => rw [q] at h; exact (h rfl).elim
theorem valN_isSome (k : NestedKey) : ∀ xs : List (NestedKey × Addr × V), (valN xs k).isSome = true ↔ k ∈ xs.map (·.1)
  | [] => by simp [valN]
  | p :: r => by
    by_cases e : p.1 = k
    · rw [valN_pos e]; simp [e]
    · rw [valN_neg e, valN_isSome k r, List.map_cons, List.mem_cons]
      constructor
      · exact .inr
      · rintro (h | h)
        · exact absurd h.symm e
        · exact h
theorem putN_new {xs : List (NestedKey × Addr × V)} {k : NestedKey} (a : Addr) (v : V) (h : valN xs k = none) : putN xs k a v = xs ++ [(k, a, v)] := by
  unfold putN; rw [h]; exact if_neg (by decide)
theorem length_putN (xs : List (NestedKey × Addr × V)) (k : NestedKey) (a : Addr) (v : V) : (putN xs k a v).length ≤ xs.length + 1 := by
  unfold putN; split
  · rw [List.length_map]; omega
  · simp
theorem keys_putN (xs : List (NestedKey × Addr × V)) (k : NestedKey) (a : Addr) (v : V) : (putN xs k a v).map (·.1) = if k ∈ xs.map (·.1) then xs.map (·.1) else xs.map (·.1) ++ [k] := by
  unfold putN
  by_cases h : (valN xs k).isSome = true
  · rw [if_pos h, if_pos ((valN_isSome k xs).mp h), List.map_map]
    apply List.map_congr_left
    intro x _
    show (if x.1 = k then (x.1, x.2.1, v) else x).1 = x.1
    split <;> rfl
  · rw [if_neg h, if_neg (fun z => h ((valN_isSome k xs).mpr z))]; simp
theorem KeysOk.put {H : Hp} {xs : List (NestedKey × Addr × V)} {k : NestedKey} {a : Addr} {v : V} (h : KeysOk H xs) (hk : Rp H k (.ref a)) (hd : k.depth ≤ 8) : KeysOk H (putN xs k a v) := by
  unfold putN
  split
  · intro x hx
    obtain ⟨y, hy, e⟩ := List.mem_map.mp hx
    by_cases q : y.1 = k
    · rw [if_pos q] at e; subst e; exact h y hy
    · rw [if_neg q] at e; subst e; exact h y hy
  · intro x hx
    rcases List.mem_append.mp hx with q | q
    · exact h x q
    · have : x = (k, a, v) := by simpa using q
      subst this; exact ⟨hk, hd⟩
theorem nodup_putN {xs : List (NestedKey × Addr × V)} {k : NestedKey} {a : Addr} {v : V} (h : (xs.map (·.1)).Nodup) : ((putN xs k a v).map (·.1)).Nodup := by
  rw [keys_putN]
  split
  · exact h
  · rename_i hk
    rw [List.nodup_append]
    refine ⟨h, by simp, fun x hx y hy => ?_⟩
    have : y = k := by simpa using hy
    subst this
    intro e; subst e; exact hk hx
theorem EnR.val {xs : List (NestedKey × Addr × V)} {us : List (NestedKey × Addr × Value)} (r : EnR xs us) (k : NestedKey) : RelO (valN xs k) ((atKey us k).map (·.2)) := by
  induction r with
  | nil => exact True.intro
  | @cons p q ps qs h t ih =>
    obtain ⟨h1, _, h2⟩ := h
    by_cases e : p.1 = k
    · have e' : q.1 = k := h1.symm.trans e
      have b : atKey (q :: qs) k = some q.2 := by simp [atKey, List.find?_cons, e']
      rw [valN_pos e, b]; exact h2
    · have e' : ¬ q.1 = k := fun z => e (h1.trans z)
      have b : atKey (q :: qs) k = atKey qs k := by simp [atKey, List.find?_cons, e']
      rw [valN_neg e, b]; exact ih
theorem EnR.put {xs : List (NestedKey × Addr × V)} {us : List (NestedKey × Addr × Value)} (r : EnR xs us) (k : NestedKey) (a : Addr) {y : V} {u : Value} (ry : RelV y u) : EnR (putN xs k a y) (storedH us k a u) := by
  have e : (valN xs k).isSome = (atKey us k).isSome := by
    rw [(r.val k).isSome_eq, Option.isSome_map]
  unfold putN storedH
  rw [e]
  by_cases q : (atKey us k).isSome = true
  · rw [if_pos q, if_pos q]
    clear e q
    induction r with
    | nil => exact .nil
    | @cons p q ps qs h t ih =>
      rw [List.map_cons, List.map_cons]
      refine .cons ?_ ih
      obtain ⟨h1, h2, h3⟩ := h
      unfold putAt
      by_cases e : p.1 = k
      · rw [if_pos e, if_pos (h1.symm.trans e)]; exact ⟨h1, h2, ry⟩
      · rw [if_neg e, if_neg (fun z => e (h1.trans z))]; exact ⟨h1, h2, h3⟩
  · rw [if_neg q, if_neg q]; exact Paired.snoc r ⟨rfl, rfl, ry⟩
theorem EnR.len {xs : List (NestedKey × Addr × V)} {us : List (NestedKey × Addr × Value)} (r : EnR xs us) : xs.length = us.length := Paired.length r
theorem EnR.keys {xs : List (NestedKey × Addr × V)} {us : List (NestedKey × Addr × Value)} (r : EnR xs us) : xs.map (·.1) = us.map (·.1) := by
  induction r with
  | nil => rfl
  | cons h t ih => rw [List.map_cons, List.map_cons, ih, h.1]
theorem EnR.mem {xs : List (NestedKey × Addr × V)} {us : List (NestedKey × Addr × Value)} (r : EnR xs us) : ∀ u ∈ us, ∃ x ∈ xs, x.1 = u.1 ∧ x.2.1 = u.2.1 := by
  induction r with
  | nil => intro u h; cases h
  | @cons p q ps qs h t ih =>
    intro u hu
    rcases List.mem_cons.mp hu with e | e
    · subst e; exact ⟨p, by simp, h.1, h.2.1⟩
    · obtain ⟨x, hx, z⟩ := ih u e
      exact ⟨x, by simp [hx], z⟩

section
variable {P : Program} {w w' : World} {H : Hp} {h : Heap} {d : Addr} {xs : List (NestedKey × Addr × V)}
theorem dN_ok (x : phiN w d xs h) : ObjOk P w' H h d (dN w d xs) := by
  refine ⟨x, ?_, fun h1 h2 p k => ?_⟩
  · obtain ⟨_, _, _, us, o, _, _, _, e, _⟩ := x
    exact ⟨o, e⟩
  · obtain ⟨z1, z2, z3, us, o, es, ep, r, e, q⟩ := p
    exact ⟨z1, z2, z3, us, o, es, ep, r, k _ e, q⟩
theorem dN_phi (ok : HOk P w' H h) (e : Rd H d (dN w d xs)) : phiN w d xs h := by
  have q : ObjOk P w' H h d (dN w d xs) := e.ok ok
  exact q.1
theorem dN_of (ok : HOk P w H h) (e : Rd H d (dN w d xs)) (ks : KeysOk H xs) : (d == sysModules) = false ∧ xs.length ≤ sizeLine ∧ (xs.map (·.1)).Nodup ∧ ∃ us, EnR xs us ∧ h.DictOfH (nestedKind P w) d us := by
  obtain ⟨z1, z2, z3, us, o, es, ep, r, e, q1, q2, q3⟩ := dN_phi ok e
  refine ⟨z1, z2, z3, us, r, o, es, ep, e, q1, q2, q3, fun u hu => ?_, by rw [← r.keys]; exact z3⟩
  obtain ⟨x, hx, e1, e2⟩ := r.mem u hu
  rw [← e1, ← e2]
  exact ⟨(ks x hx).1.nested ok rfl, (ks x hx).2⟩
theorem phi_of {us : List (NestedKey × Addr × Value)} (z1 : (d == sysModules) = false) (z2 : xs.length ≤ sizeLine) (r : EnR xs us) (x : h.DictOfH (nestedKind P w) d us) : phiN w d xs h := by
  obtain ⟨o, es, ep, e, q1, q2, q3, _, nd⟩ := x
  exact ⟨z1, z2, by rw [r.keys]; exact nd, us, o, es, ep, r, e, q1, q2, q3⟩
end
theorem nroom {A : Around} {k : Nat} {P : Program} {w : World} (hr : Room k A) : (nestedKind P w).room A.in1 := by
  have h := hr.units
  show A.in1.units + 8 < cLine
  rw [Around.in1_units]; omega

section
variable {X : Cx} {pins : List (Addr × Obj)} {σ : L2.St} {H : Hp} {s : Shared} {d b : Addr} {xs : List (NestedKey × Addr × V)} {k : NestedKey} {v : V} {u r : Value} {A : Around} {E : Value → Shared → Prop} {n : Nat}
theorem IsK.addr (h : IsK H k v) (rv : RelV v u) : ∃ b, v = .ref b ∧ u = .ref b := by
  obtain ⟨_, _, b, e⟩ := h
  subst e; exact ⟨b, rfl, rv⟩
theorem n_getItem {Q : Value → Shared → Prop} (hr : Room n A) (I : Inv X pins σ H s) (e : Rd H d (dN X.w d xs)) (ks : KeysOk H xs) (hk : IsK H k v) {y : V} (g : valN xs k = some y) (rv : RelV v u) (h : ∀ w' s', Inv X pins σ H s' → RelV y w' → Q w' s') :
    wpAny (model X.prog X.w) A (getItem (.ref d) u) Q E s := by
  obtain ⟨b, rfl, rfl⟩ := hk.addr rv
  obtain ⟨_, _, _, us, rel, dd⟩ := dN_of I.hok e ks
  obtain ⟨w', hw, rw'⟩ := RelO.some_of (v := y) (o := (atKey us k).map (·.2)) (by rw [← g]; exact rel.val k)
  obtain ⟨p, hp, hp2⟩ := Option.map_eq_some_iff.mp hw
  refine wpAny_getItem_heap (nroom hr) ⟨hk.1.nested I.hok rfl, hk.2.1⟩ dd hp ?_
  rw [hp2]
  exact h w' _ (I.tok _) rw'
theorem n_in {Q : Value → Shared → Prop} (hr : Room n A) (I : Inv X pins σ H s) (e : Rd H d (dN X.w d xs)) (ks : KeysOk H xs) (hk : IsK H k v) (rv : RelV v u) (h : ∀ s', Inv X pins σ H s' → Q (.bool (valN xs k).isSome) s') :
    wpAny (model X.prog X.w) A (compareOp .In u (.ref d)) Q E s := by
  obtain ⟨b, rfl, rfl⟩ := hk.addr rv
  obtain ⟨hd, _, _, us, rel, dd⟩ := dN_of I.hok e ks
  refine wpAny_in_heap (nroom hr) ⟨hk.1.nested I.hok rfl, hk.2.1⟩ hd dd ?_
  have q := (rel.val k).isSome_eq
  rw [Option.isSome_map] at q
  rw [← q]
  exact h _ (I.tok _)
theorem n_notIn {Q : Value → Shared → Prop} (hr : Room n A) (I : Inv X pins σ H s) (e : Rd H d (dN X.w d xs)) (ks : KeysOk H xs) (hk : IsK H k v) (rv : RelV v u) (h : ∀ s', Inv X pins σ H s' → Q (.bool (!(valN xs k).isSome)) s') :
    wpAny (model X.prog X.w) A (compareOp .NotIn u (.ref d)) Q E s := by
  obtain ⟨b, rfl, rfl⟩ := hk.addr rv
  obtain ⟨hd, _, _, us, rel, dd⟩ := dN_of I.hok e ks
  refine wpAny_notIn_heap (nroom hr) ⟨hk.1.nested I.hok rfl, hk.2.1⟩ hd dd ?_
  have q := (rel.val k).isSome_eq
  rw [Option.isSome_map] at q
  rw [← q]
  exact h _ (I.tok _)
theorem n_setItem {Q : Unit → Shared → Prop} (hr : Room n A) (I : Inv X pins σ H s) (e : H d = some (dN X.w d xs)) (ks : KeysOk H xs) {b : Addr} (hk : Rp H k (.ref b)) (hdp : k.depth ≤ 8) (hz : xs.length < sizeLine) {y : V} (ry : RelV y r)
    (h : ∀ s', Inv X pins σ (upd H d (dN X.w d (putN xs k b y))) s' → Q () s') : wpAny (model X.prog X.w) A (setItem (.ref d) (.ref b) r) Q E s := by
  obtain ⟨hd, z, _, us, rel, dd⟩ := dN_of I.hok (.inl e) ks
  have hzu : us.length ≤ sizeLine := by rw [← rel.len]; exact z
  have hl : (putN xs k b y).length ≤ sizeLine := by have := length_putN xs k b y; omega
  refine wpAny_setItem_heap (hsz := hzu) (nroom hr) ⟨hk.nested I.hok rfl, hdp⟩ dd fun h' dd' hs => h _ ?_
  have he : ∃ q, h'.get? d = some q := let ⟨q, _, _, hq, _⟩ := dd'; ⟨q, hq⟩
  exact d_write I (by rw [e]; exact True.intro) hs he (dN_ok (phi_of hd hl (rel.put k b ry) dd'))
theorem n_dictSet {Q : Unit → Shared → Prop} (hr : Room n A) (I : Inv X pins σ H s) (e : H d = some (dN X.w d xs)) (ks : KeysOk H xs) {b : Addr} (hk : Rp H k (.ref b)) (hdp : k.depth ≤ 8) (hz : xs.length < sizeLine) {y : V} (ry : RelV y r)
    (h : ∀ s', Inv X pins σ (upd H d (dN X.w d (putN xs k b y))) s' → Q () s') : wpAny (model X.prog X.w) A (dictSet d (.ref b) r) Q E s := by
  obtain ⟨hd, z, _, us, rel, dd⟩ := dN_of I.hok (.inl e) ks
  have hzu : us.length ≤ sizeLine := by rw [← rel.len]; exact z
  have hl : (putN xs k b y).length ≤ sizeLine := by have := length_putN xs k b y; omega
  have hu : (nestedKind X.prog X.w).room A := by
    have := hr.units
    show A.units + 8 < cLine
    omega
  refine wpAny_dictSet_heap (hsz := hzu) hu ⟨hk.nested I.hok rfl, hdp⟩ dd fun h' dd' hs => h _ ?_
  have he : ∃ q, h'.get? d = some q := let ⟨q, _, _, hq, _⟩ := dd'; ⟨q, hq⟩
  exact d_write I (by rw [e]; exact True.intro) hs he (dN_ok (phi_of hd hl (rel.put k b ry) dd'))
end

/-! ### readings and rules -/
/-- d[y] -/
def tNGet (w : World) (td ty : TE) : TE := fun σ H Q => td σ H fun x H1 => ty σ H1 fun y H2 => ∃ d xs k v, x = .ref d ∧ Rd H2 d (dN w d xs) ∧ KeysOk H2 xs ∧ IsK H2 k y ∧ valN xs k = some v ∧ Q v H2
def tNIn (w : World) (ty td : TE) : TE := fun σ H Q => ty σ H fun y H1 => td σ H1 fun x H2 => ∃ d xs k, x = .ref d ∧ Rd H2 d (dN w d xs) ∧ KeysOk H2 xs ∧ IsK H2 k y ∧ Q (.bl (valN xs k).isSome) H2
def tNNotIn (w : World) (ty td : TE) : TE := fun σ H Q => ty σ H fun y H1 => td σ H1 fun x H2 => ∃ d xs k, x = .ref d ∧ Rd H2 d (dN w d xs) ∧ KeysOk H2 xs ∧ IsK H2 k y ∧ Q (.bl (!(valN xs k).isSome)) H2
def sNPut (w : World) (td ty tv : TE) : TS := fun D σ H => tv σ H fun v H1 => td σ H1 fun x H2 => ty σ H2 fun y H3 => ∃ d xs k b, x = .ref d ∧ y = .ref b ∧ H3 d = some (dN w d xs) ∧ KeysOk H3 xs ∧ Rp H3 k (.ref b) ∧ k.depth ≤ 8 ∧ xs.length < sizeLine ∧
  D.nx σ (upd H3 d (dN w d (putN xs k b v)))
section
variable {X : Cx} {o i e value : Expr} {pos pos' tpos : Pos} {td ty tv : TE} {n : Nat}
theorem n_typeIs {pins : List (Addr × Obj)} {σ : L2.St} {H : Hp} {s : Shared} {d : Addr} {xs : List (NestedKey × Addr × V)} (I : Inv X pins σ H s) (e : Rd H d (dN X.w d xs)) : s.TypeIs (.ref d) "dict" := by
  obtain ⟨_, _, _, us, o, es, ep, r, e, q1, q2, q3⟩ := dN_phi I.hok e
  exact ⟨o, e, q1.1⟩
theorem pe_nget (hr : Room n X.A) (ho : PE X o td) (hi : PE X i ty) (hs : NoSl i) : PE X (.Subscript o i pos) (tNGet X.w td ty) := by
  refine ⟨fun pins s σ H Q I h => ?_⟩
  refine subD_of PySem.F.slot_dict_getitem.lookup hs (thn (ho.run pins s σ H _ I h) fun u s1 ⟨x, H1, I1, rx, q1⟩ => thn (hi.run pins s1 σ H1 _ I1 q1) fun iv s2 ⟨y, H2, I2, ry, d, xs, k, v, ex, g, ks, hk, gv, q2⟩ => ?_)
  subst ex
  obtain rfl : u = Value.ref d := rx
  exact ⟨n_typeIs I2 g, n_getItem hr I2 g ks hk gv ry fun w' s3 I3 rw' => ⟨v, H2, I3, rw', q2⟩⟩
theorem pc_nin (hr : Room n X.A) (hi : PE X i ty) (ho : PE X o td) : PC X .In i o (tNIn X.w ty td) := by
  refine ⟨fun pins s σ H Q I h => ?_⟩
  refine thn (hi.run pins s σ H _ I h) fun iv s1 ⟨y, H1, I1, ry, q1⟩ => thn (ho.run pins s1 σ H1 _ I1 q1) fun u s2 ⟨x, H2, I2, rx, d, xs, k, ex, g, ks, hk, q2⟩ => ?_
  subst ex
  obtain rfl : u = Value.ref d := rx
  exact n_in hr I2 g ks hk ry fun s3 I3 => ⟨.bl (valN xs k).isSome, H2, I3, rfl, q2⟩
theorem pc_nnotin (hr : Room n X.A) (hi : PE X i ty) (ho : PE X o td) : PC X .NotIn i o (tNNotIn X.w ty td) := by
  refine ⟨fun pins s σ H Q I h => ?_⟩
  refine thn (hi.run pins s σ H _ I h) fun iv s1 ⟨y, H1, I1, ry, q1⟩ => thn (ho.run pins s1 σ H1 _ I1 q1) fun u s2 ⟨x, H2, I2, rx, d, xs, k, ex, g, ks, hk, q2⟩ => ?_
  subst ex
  obtain rfl : u = Value.ref d := rx
  exact n_notIn hr I2 g ks hk ry fun s3 I3 => ⟨.bl (!(valN xs k).isSome), H2, I3, rfl, q2⟩
theorem ps_nput (hr : Room n X.A) (ho : PE X o td) (hi : PE X i ty) (hv : PE X value tv) (hs : swapsWith value (some (.Subscript o i pos')) pos.line X.env = pure false) :
    PS X (.Assign [.Subscript o i pos'] value pos) (sNPut X.w td ty tv) := by
  refine ⟨fun pins s σ H D I h => ?_⟩
  refine wpAny_Assign_Subscript (thn (hv.run pins s σ H _ I h) fun r s1 ⟨v, H1, I1, rv, q1⟩ => thn (ho.run pins s1 σ H1 _ I1 q1) fun u s2 ⟨x, H2, I2, rx, q2⟩ => thn (hi.run pins s2 σ H2 _ I2 q2) fun iv s3 ⟨y, H3, I3, ry, d, xs, k, b, ex, ey, g, ks, hk, hdp, hz, q3⟩ => ?_) hs
  subst ex ey
  obtain rfl : u = Value.ref d := rx
  obtain rfl : iv = Value.ref b := ry
  exact n_setItem hr I3 g ks hk hdp hz rv fun s4 I4 => ⟨σ, _, I4, q3⟩
/-- {}, to be a dict with nested keys -/
def tNNew (w : World) : TE := fun _ H Q => ∀ p, H p = none → Q (.ref p) (upd H p (dN w p []))
theorem phi_empty {w : World} (h : Heap) (hb : sysModules < h.objs.size) : phiN w h.objs.size [] (h.push { cls := .type "dict", data := .dict #[] }) :=
  ⟨beq_eq_false_iff_ne.mpr (Ne.symm (Nat.ne_of_lt hb)), Nat.zero_le _, List.nodup_nil, [], _, #[], 0, .nil, Heap.get?_push_size _ rfl, ⟨rfl, rfl, rfl⟩, rfl, rfl⟩
theorem pe_nnew : PE X (.Dict [] [] pos) (tNNew X.w) := ⟨fun pins s σ H Q I h =>
  wpAny_Dict_empty ⟨.ref s.heap.objs.size, _, I.laid (a := s.heap.objs.size) (o := dN X.w s.heap.objs.size []) (t' := s.toks) (fun _ _ q => Heap.get?_push_of_some _ q) (Nat.le_refl _) (dN_ok (phi_empty s.heap I.big)), rfl, h _ (I.hok.fresh (Nat.le_refl _))⟩⟩
end
end ND
end
section
set_option Elab.async false
set_option linter.all false
set_option maxRecDepth 100000
set_option maxHeartbeats 4000000
namespace ND
open PySem PySem.W PySem.Spec PyProof.Rows L2
section
variable {X : Cx} {o i e value : Expr} {pos pos' tpos : Pos} {td ty tv : TE} {n : Nat}
theorem room_here {A : Around} {k : Nat} {P : Program} {w : World} (hr : Room k A) : (nestedKind P w).room A := by
  have := hr.units
  show A.units + 8 < cLine
  omega
/-- {k: v} -/
def tNOne (w : World) (tk tv : TE) : TE := fun σ H Q => ∀ p, H p = none → tk σ (upd H p (dN w p [])) fun y H1 => tv σ H1 fun z H2 => ∃ k b, y = .ref b ∧ H2 p = some (dN w p []) ∧ Rp H2 k (.ref b) ∧ k.depth ≤ 8 ∧ Q (.ref p) (upd H2 p (dN w p [(k, b, z)]))
theorem pe_nOne {ke ve : Expr} (hr : Room n X.A) (hk : PE X ke ty) (hv : PE X ve tv) : PE X (.Dict [some ke] [ve] pos) (tNOne X.w ty tv) := by
  refine ⟨fun pins s σ H Q I h => ?_⟩
  have hn := I.hok.fresh (Nat.le_refl s.heap.objs.size)
  have I1 := I.laid (a := s.heap.objs.size) (o := dN X.w s.heap.objs.size []) (h' := s.heap.push { cls := .type "dict", data := .dict #[] }) (t' := s.toks) (fun _ _ q => Heap.get?_push_of_some _ q) (Nat.le_refl _) (dN_ok (phi_empty s.heap I.big))
  have h' := h _ hn
  refine (?_ : wpAny (model X.prog X.w) X.A (eval (.Dict [some ke] [ve] pos) X.env) _ _ s)
  rw [arm_eval_Dict, show (evalEachOpt [some ke] X.env).zip ((evalEach [ve] X.env).map fun v => do let x ← v; standAt pos; pure x) = (pairTrees [some ke] [ve] X.env pos).map fun p => (some p.1, p.2) from rfl, dictDisplay_pairs (pairTrees [some ke] [ve] X.env pos) (fun z => nomatch z) (by show 1 < 17; decide)]
  refine wpAny_bind (wpAny_standAt (wpAny_bind (wpAny_subDictH (knd := nestedKind X.prog X.w) (Q := fun d s' => wpAny (model X.prog X.w) X.A (pure (Value.ref d)) (EP X pins σ Q) X.xe s') (room_here hr) (by show 1 ≤ 15; decide) ?_)))
  refine pairTrees_cons_walk (thn (hk.run pins _ σ _ _ I1 h') fun u s1 ⟨y, H1, I2, ry, q1⟩ => thn (hv.run pins s1 σ H1 _ I2 q1) fun u2 s2 ⟨z, H2, I3, rz, k, b, ey, hp, rk, dp, q2⟩ => ?_)
  refine pairTrees_nil_walk ?_
  subst ey
  obtain rfl : u = Value.ref b := ry
  obtain ⟨hd, z0, _, us, rel0, dd⟩ := dN_of I3.hok (.inl hp) (fun x hx => nomatch hx)
  cases rel0
  refine ⟨[(k, b, u2)], ⟨rfl, rfl, ⟨rk.nested I3.hok rfl, dp⟩, True.intro⟩, dd, fun h' tk dd' hs => wpAny_pure ⟨.ref s.heap.objs.size, _, ?_, rfl, q2⟩⟩
  have he : ∃ q, h'.get? s.heap.objs.size = some q := let ⟨q, _, _, hq, _⟩ := dd'; ⟨q, hq⟩
  have em : storedAllH [] [(k, b, u2)] = [(k, b, u2)] := rfl
  rw [em] at dd'
  exact d_write I3 (by rw [hp]; exact True.intro) hs he (dN_ok (phi_of hd (by show 1 ≤ sizeLine; decide) (.cons ⟨rfl, rfl, rz⟩ .nil) dd'))
/-- len(d) -/
def rLenN (w : World) : List V → Hp → VK → Prop := fun vs H Q => ∃ d xs, vs = [.ref d] ∧ Rd H d (dN w d xs) ∧ KeysOk H xs ∧ Q (.int ((xs.length : Nat) : Int)) H
theorem call_len_n : CallR X (.builtin "len") (rLenN X.w) := by
  intro pins s σ H vs us Q I r h
  obtain ⟨d, xs, rfl, hd, ks, q⟩ := h
  obtain ⟨u, rfl, rx⟩ := vals1 r
  obtain rfl : u = .ref d := rx
  obtain ⟨hs, z, _, us, rel, dd⟩ := dN_of I.hok hd ks
  have hl : xs.length = us.length := rel.len
  refine call_len_dictH hs dd (by rw [← hl]; rw [sizeLine_eq] at z; omega) ?_
  rw [← hl]
  exact ⟨.int ((xs.length : Nat) : Int), H, I.tok _, ⟨_, rfl⟩, q⟩
/-- list(d) -/
def rListN (w : World) : List V → Hp → VK → Prop := fun vs H Q => ∃ d xs, vs = [.ref d] ∧ Rd H d (dN w d xs) ∧ ∀ p, H p = none → Q (.ref p) (upd H p (.lst (xs.map fun x => V.ref x.2.1)))
theorem EnR.refs {xs : List (NestedKey × Addr × V)} {us : List (NestedKey × Addr × Value)} (r : EnR xs us) : Vals (xs.map fun x => V.ref x.2.1) (us.map fun x => Value.ref x.2.1) := by
  induction r with
  | nil => exact .nil
  | @cons p q ps qs h t ih => exact .cons (by show Value.ref q.2.1 = Value.ref p.2.1; rw [h.2.1]) ih
theorem call_list_n (hc : X.calm = true) : CallR X (.type "list") (rListN X.w) := by
  intro pins s σ H vs us Q I r h
  obtain ⟨d, xs, rfl, hd, q⟩ := h
  obtain ⟨u, rfl, rx⟩ := r.one
  cases rx
  obtain ⟨hs, z, nd, us, o, es, ep, rel, ho, hx, hdt, he⟩ := dN_phi I.hok hd
  have l1 : es.size = us.length := by rw [← Array.length_toList, he, List.length_map]
  have l2 : xs.length = us.length := rel.len
  have ent : ∀ j : Nat, es[j]? = (us[j]?).map fun x => (⟨x.1.hash X.w, .ref x.2.1, x.2.2⟩ : DictEntry) := fun j => by rw [← Array.getElem?_toList, he, List.getElem?_map]
  refine PySem.W.kdl_call (kdl_raw hs hx hdt) (I.ok.hd hc) ho (by omega) fun h' tk acc' c' kp e it => ?_
  have ea : acc'.toList = us.map fun x => Value.ref x.2.1 := by
    have hl : acc'.toList.length = us.length := by rw [Array.length_toList, it.1]; exact l1
    apply List.ext_getElem?
    intro j
    rw [List.getElem?_map]
    cases hj : acc'.toList[j]? with
    | none =>
      have h1 := List.getElem?_eq_none_iff.mp hj
      rw [List.getElem?_eq_none (by omega)]
      all_goals rfl
    | some v =>
      obtain ⟨en, hen, hv⟩ := it.2 j v (by rw [← Array.getElem?_toList]; exact hj)
      have qe := ent j
      rw [hen] at qe
      cases hb : us[j]? with
      | none => rw [hb] at qe; exact nomatch (show some en = none from qe)
      | some b =>
        rw [hb] at qe
        have e2 := Option.some.inj qe
        rw [hv, e2]
        all_goals rfl
  have rv : Vals (xs.map fun x => V.ref x.2.1) acc'.toList := by rw [ea]; exact rel.refs
  have hz : (xs.map fun x => V.ref x.2.1).length ≤ sizeLine := by rw [List.length_map]; omega
  refine ⟨.ref s.heap.objs.size, _, I.laid (t' := tk) (o := .lst (xs.map fun x => V.ref x.2.1)) kp (Nat.le_refl _) ?_, rfl, q _ (I.hok.fresh (Nat.le_refl _))⟩
  exact ⟨hz, acc'.toList, c', rv, by rw [Array.toArray_toList]; exact e⟩
end

/-! ### walks: the keys, the values -/
section
variable {X : Cx} {pins : List (Addr × Obj)} {σ : L2.St} {H : Hp} {s : Shared} {d : Addr} {o : Obj}
theorem frzN {xs : List (NestedKey × Addr × V)} (I : Inv X pins σ H s) (h : H d = some (.frz o (dN X.w d xs))) :
    (d == sysModules) = false ∧ s.heap.get? d = some o ∧ o.ExactDict ∧ ∃ (es : Array DictEntry) (ep : Nat), o.data = .dict es ep ∧ es.size = xs.length ∧
      ∀ (i : Nat) (k : NestedKey) (a : Addr) (v : V), xs[i]? = some (k, a, v) → ∃ en : DictEntry, es[i]? = some en ∧ en.key = .ref a ∧ RelV v en.val := by
  obtain ⟨hd, q⟩ := I.hok d _ h
  obtain ⟨⟨hs, z, nd, us, o', es, ep, rel, ho, hx, hdt, he⟩, _⟩ := q
  rw [hd] at ho
  cases ho
  refine ⟨hs, hd, hx, es, ep, hdt, ?_, fun i k a v e => ?_⟩
  · rw [← Array.length_toList, he, List.length_map, rel.len]
  · obtain ⟨b, hb, e1, e2, e3⟩ := paired_get rel e
    refine ⟨⟨b.1.hash X.w, .ref b.2.1, b.2.2⟩, ?_, ?_, e3⟩
    · rw [← Array.getElem?_toList, he, List.getElem?_map, hb]; rfl
    · show Value.ref b.2.1 = Value.ref a
      rw [← e2]
end
def ItkN (w : World) (d : Addr) (o : Obj) (xs : List (NestedKey × Addr × V)) : It :=
  ⟨fun i H => H d = some (.frz o (dN w d xs)) ∧ i < xs.length, fun i H x H' => H' = H ∧ ∃ (k : NestedKey) (a : Addr) (v : V), xs[i]? = some (k, a, v) ∧ x = .ref a, fun i H => H d = some (.frz o (dN w d xs)) ∧ xs.length ≤ i⟩
def ItdN (w : World) (d : Addr) (o : Obj) (xs : List (NestedKey × Addr × V)) : It :=
  ⟨fun i H => H d = some (.frz o (dN w d xs)) ∧ i < xs.length, fun i H x H' => H' = H ∧ ∃ (k : NestedKey) (a : Addr), xs[i]? = some (k, a, x), fun i H => H d = some (.frz o (dN w d xs)) ∧ xs.length ≤ i⟩
section
variable {P : Program} {w : World} {K : PySem.W.Frag} {tg : Expr} {d : Addr} {o : Obj} {es : Array DictEntry} {ep : Nat}
theorem turn_keysN {xs : List (NestedKey × Addr × V)} (it : Addr) (hod : o.data = .dict es ep) : Turn P w K tg (ItkN w d o xs) [it] it (fun i h => h.IsKeyIter it d i xs.length ep) where
  mem := by simp
  obj := fun i h st b hb => by
    have e : b = it := by simpa using hb
    subst e
    obtain ⟨oi, e, c, dd⟩ := st
    exact ⟨oi, e, fun v z => by rw [dd] at z; cases z⟩
  keep := fun i h h' st k => st.at fun oi e => k it (by simp) oi e
  item := by
    intro X hP hw hK hc i pins s σ H E I hf st hg
    subst hP hw hK
    obtain ⟨hd, hi⟩ := hg
    obtain ⟨f0, f1, f2, f3, f4, f5⟩ := hf it (by simp)
    obtain ⟨hs, hgd, hx, es', ep', hdt, hsz, ent⟩ := frzN I hd
    obtain ⟨rfl, rfl⟩ := dict_ep hod hdt
    obtain ⟨⟨k, a, v⟩, hkv⟩ : ∃ p, xs[i]? = some p := ⟨xs[i], List.getElem?_eq_getElem hi⟩
    obtain ⟨en, hen, hkey, hval⟩ := ent i k a v hkv
    refine next_key_item st hgd hdt hsz hen fun h' st' sb => ?_
    have I1 : Inv X pins σ H { s with heap := h' } := I.turned (t' := s.toks) (fun b ob hb e => (sb.2 b hb).trans e) f0 f1 f3 f4 f5
    obtain ⟨oi, e, c, dd⟩ := id st'
    exact ⟨en.key, rfl, go_of (s := { s with heap := h' }) e c dd (by decide) ⟨.ref a, H, I1, hkey, ⟨rfl, k, a, v, hkv, rfl⟩, st', fun b hb => (hf b hb).1⟩⟩
  done := by
    intro X hP hw hK hc i pins s σ H E I hf st hg
    subst hP hw hK
    obtain ⟨hd, hi⟩ := hg
    obtain ⟨f0, f1, f2, f3, f4, f5⟩ := hf it (by simp)
    obtain ⟨hs, hgd, hx, es', ep', hdt, hsz, ent⟩ := frzN I hd
    obtain ⟨rfl, rfl⟩ := dict_ep hod hdt
    exact next_key_end (I.ok.hd hc) st hgd hdt hsz hi fun h' eb => ⟨rfl, I.turned (t' := s.toks) (fun b ob hb e => eb b ob hb e) f0 f1 f3 f4 f5⟩
  self := fun A i s Q E st h => by
    refine wpAny_pyIter_slot st.typeIs F.slot_dict_keyiterator_iter (wpAny_call_entry F.slot_dict_keyiterator_iter st.typeIs F.entry_dict_keyiterator_iter ?_ (F.args_dict_keyiterator_iter_1 _))
    show wpAny _ _ (ret (.ref it)) _ _ s
    exact wpAny_pure ⟨_, rfl, "dict_keyiterator", _, st.typeIs, F.slot_dict_keyiterator_next.lookup, h⟩
theorem turn_valsN {xs : List (NestedKey × Addr × V)} (it : Addr) (hod : o.data = .dict es ep) : Turn P w K tg (ItdN w d o xs) [it] it (fun i h => h.IsValIter it d i xs.length ep) where
  mem := by simp
  obj := fun i h st b hb => by
    have e : b = it := by simpa using hb
    subst e
    obtain ⟨oi, e, c, dd⟩ := st
    exact ⟨oi, e, fun v z => by rw [dd] at z; cases z⟩
  keep := fun i h h' st k => st.at fun oi e => k it (by simp) oi e
  item := by
    intro X hP hw hK hc i pins s σ H E I hf st hg
    subst hP hw hK
    obtain ⟨hd, hi⟩ := hg
    obtain ⟨f0, f1, f2, f3, f4, f5⟩ := hf it (by simp)
    obtain ⟨hs, hgd, hx, es', ep', hdt, hsz, ent⟩ := frzN I hd
    obtain ⟨rfl, rfl⟩ := dict_ep hod hdt
    obtain ⟨⟨k, a, v⟩, hkv⟩ : ∃ p, xs[i]? = some p := ⟨xs[i], List.getElem?_eq_getElem hi⟩
    obtain ⟨en, hen, hkey, hval⟩ := ent i k a v hkv
    have hraw : s.heap.DictRaw d es' ep' := ⟨o, hgd, hx, hdt⟩
    have hie : i < es'.size := by omega
    have een : es'[i] = en := by
      have := Array.getElem?_eq_getElem hie
      rw [hen] at this; exact (Option.some.inj this).symm
    rw [← hsz] at st
    refine wpAny_pyNext_values_item_raw st hraw hie fun h' st' sb => ?_
    have I1 : Inv X pins σ H { s with heap := h' } := I.turned (t' := s.toks) (fun b ob hb e => (sb.2 b hb).trans e) f0 f1 f3 f4 f5
    obtain ⟨oi, e, c, dd⟩ := id st'
    refine ⟨_, rfl, go_of (s := { s with heap := h' }) e c dd (by decide) ⟨v, H, I1, by rw [een]; exact hval, ⟨rfl, k, a, hkv⟩, ?_, fun b hb => (hf b hb).1⟩⟩
    show h'.IsValIter it d (i + 1) xs.length _
    rw [← hsz]
    exact st'
  done := by
    intro X hP hw hK hc i pins s σ H E I hf st hg
    subst hP hw hK
    obtain ⟨hd, hi⟩ := hg
    obtain ⟨f0, f1, f2, f3, f4, f5⟩ := hf it (by simp)
    obtain ⟨hs, hgd, hx, es', ep', hdt, hsz, ent⟩ := frzN I hd
    obtain ⟨rfl, rfl⟩ := dict_ep hod hdt
    rw [← hsz] at st
    exact wpAny_pyNext_values_end_raw (I.ok.hd hc) st ⟨o, hgd, hx, hdt⟩ (by omega) fun h' eb => ⟨rfl, I.turned (t' := s.toks) (fun b ob hb e => eb b ob hb e) f0 f1 f3 f4 f5⟩
  self := fun A i s Q E st h => wpAny_pyIter_valiter st h
end
def iKeysN (w : World) (td : TE) : TI := fun σ H R => td σ H fun x H1 => ∃ d o xs, x = .ref d ∧ H1 d = some (.frz o (dN w d xs)) ∧ R (ItkN w d o xs) H1
def iValsN (w : World) (td : TE) : TI := fun σ H R => td σ H fun x H1 => ∃ d o xs, x = .ref d ∧ H1 d = some (.frz o (dN w d xs)) ∧ R (ItdN w d o xs) H1
section
variable {X : Cx} {tg e : Expr} {td : TE} {apos cpos : Pos}
theorem pi_keysN (he : PE X e td) : PI X tg e (iKeysN X.w td) := by
  refine ⟨fun pins s σ H R I h => ?_⟩
  refine thn (he.run pins s σ H _ I h) fun u s1 ⟨x, H1, I1, rx, d, o, xs, ex, hd, q⟩ => ?_
  subst ex
  obtain rfl : u = Value.ref d := rx
  obtain ⟨hs, hgd, hx, es, ep, hdt, hsz, ent⟩ := frzN I1 hd
  refine iter_keys hs hgd hx hdt (pi_one (tk := s1.toks) I1 _ (turn_keysN _ hdt) ⟨_, Heap.get?_push_size _ rfl, rfl, ?_⟩ q)
  rw [hsz] <;> rfl
theorem pi_valuesN (he : PE X e td) (hbase : attributeBase e "values" X.env (eval e X.env) = eval e X.env := by rfl) (hline : (apos.endLine == cpos.line) = true := by rfl) : PI X tg (.Call (.Attribute e "values" apos) [] [] cpos) (iValsN X.w td) := by
  refine ⟨fun pins s σ H R I h => ?_⟩
  refine wpAny_Call_method (T := "dict") (id := "dict.values") hbase rfl hline F.plainAttrs_dict F.slot_dict_values F.type_dict_values (thn (he.run pins s σ H _ I h) fun u s1 ⟨x, H1, I1, rx, d, o, xs, ex, hd, q⟩ => ?_)
  subst ex
  obtain rfl : u = Value.ref d := rx
  obtain ⟨hs, hgd, hx, es, ep, hdt, hsz, ent⟩ := frzN I1 hd
  have hraw : s1.heap.DictRaw d es ep := ⟨o, hgd, hx, hdt⟩
  refine ⟨hraw.typeIs, fun b q => by cases q; exact ⟨o, hgd, hx.2.1⟩, ?_⟩
  have I2 : Inv X pins σ H1 { s1 with heap := s1.heap.push { cls := .type "dict_values", data := .fields #[.ref d] } } := I1.kept (t' := s1.toks) fun b ob q => Heap.get?_push_of_some _ q
  have fin : wpAny (model X.prog X.w) X.A (pyIter (.ref s1.heap.objs.size)) (PIE X pins σ tg R) X.xe { s1 with heap := s1.heap.push { cls := .type "dict_values", data := .fields #[.ref d] } } := by
    refine wpAny_pyIter_values_raw (d := d) (es := es) (ep := ep) ⟨_, Heap.get?_push_size _ rfl, rfl, rfl⟩ (hraw.at fun ob e => Heap.get?_push_of_some _ e) (pi_one (tk := s1.toks) I2 _ (turn_valsN _ hdt) ⟨_, Heap.get?_push_size _ rfl, rfl, ?_⟩ q)
    rw [← hsz] <;> rfl
  show wpAny _ _ (callWith cpos (.builtin "dict.values") [.ref d] [] []) _ X.xe s1
  exact method_meetsIn F.slot_dict_values F.entry_dict_values rfl (PySem.evalArgs_none ⟨rfl, hraw.typeIs, F.args_dict_values_1 _, _, meets_dict_values_raw d hs, ⟨⟨es, ep, hraw⟩, fin⟩⟩)
end
end ND
end
section
set_option Elab.async false
set_option linter.all false
set_option maxRecDepth 100000
set_option maxHeartbeats 4000000
namespace ND
open PySem PySem.W PySem.Spec PyProof.Rows L2
/-- what a turn of the dict comprehension does with its item -/
def dcTurn (w : World) (D : Addr) (vs : List Nat) (σ : L2.St) (g : TG) (tt : TT) (tk tv : TE) (N : Hp → Prop) (x : V) (H : Hp) : Prop :=
  g x (wipe σ vs) H fun σ2 H2 => wipe σ2 vs = wipe σ vs ∧ tt σ2 H2 fun b H3 =>
    if b = true then tk σ2 H3 fun y H4 => tv σ2 H4 fun z H5 => ∃ xs k a, y = .ref a ∧ H5 D = some (dN w D xs) ∧ KeysOk H5 xs ∧ Rp H5 k (.ref a) ∧ k.depth ≤ 8 ∧
      xs.length < sizeLine ∧ N (upd H5 D (dN w D (putN xs k a z))) else N H3
/-- {k: v for target in iter if ..} with nested keys -/
def tDcN (w : World) (wi : TI) (g : TG) (tt : TT) (tk tv : TE) (vs : List Nat) : TE := fun σ H Q => wi σ H fun J H1 => ∀ D, H1 D = none →
  ∃ W : Nat → Nat → Hp → Prop, (∃ m, W 0 m (upd H1 D (dN w D []))) ∧ ∀ i m H, W i m H →
    (J.stop i H ∧ Q (.ref D) H) ∨ (J.go i H ∧ ∃ N : Hp → Prop, (∀ H', N H' → ∃ m', m' < m ∧ W (i + 1) m' H') ∧
      ∀ x H', J.yld i H x H' → dcTurn w D vs σ g tt tk tv N x H')
section
variable {X : Cx} {kx vx tg iter : Expr} {ifs : List Expr} {scope : Scope} {own : List (Str × Nat)} {pos pos' : Pos} {wi : TI} {g : TG} {tt : TT} {tk tv : TE} {n : Nat}
/-- a piece of the block, in every block's context -/
abbrev InBlk (X : Cx) (scope : Scope) (F : Cx → Prop) : Prop :=
  ∀ (s : Shared) (H : Hp) (C : Addr) (cl : List (Str × Addr)) (fp : List Addr), F (X.blk s H scope (compEnvC scope cl C X.env) fp)
theorem dcN_run {pins : List (Addr × Obj)} {s : Shared} {σ : L2.St} {H : Hp} {Q : VK} {use : Option (Value → Sem Unit)} {Qf : Value → Shared → Prop} (hr : Room n X.A) (calm : X.calm = true) (nd : X.N.Nodup) (I : Inv X pins σ H s)
    (walk : PI X tg iter wi) (blk : BlkOk X.N X.env.scope scope own) (hg : InBlk X scope fun Y => PG Y tg g) (ht : InBlk X scope fun Y => PTs Y ifs tt) (hk : InBlk X scope fun Y => PE Y kx tk)
    (he : InBlk X scope fun Y => PE Y vx tv) (fold : ∀ x, foldedSetIterable iter X.env x = pure x) (reading : tDcN X.w wi g tt tk tv (own.map (·.2)) σ H Q)
    (out : ∀ D C s' m H', Inv X pins σ H' s' → Q (.ref D) H' → s'.heap.Ns C m → FpOk X pins H' C →
      compPost (model X.prog X.w) X.A X.xe use Qf (.ref D) C (.ok .next) s') :
    wpAny (model X.prog X.w) X.A (comprehension (.DictComp kx vx [⟨tg, iter, ifs, 0⟩] scope pos) scope X.env pos' newDict false
      (eval iter X.env) use) Qf X.xe s := by
  have cells : ∀ y ∈ scope.names, y.2 = .free → ∃ c, X.env.cells.lookup y.1 = some c := by
    intro y hy e
    exact (blk.free y hy e).elim (fun q => I.ok.has _ (.inl q)) fun q => I.ok.has _ (.inr q)
  have uq : ∀ y ∈ scope.names, y.2 = .local → scope.names.lookup y.1 = some .local := by
    intro y hy e
    rw [blk.uniq y hy, e]
  refine wpAny_comprehension_free (use := use) rfl fold (closure_ok cells) blk.kind uq ?_
  refine thn (walk.run pins s σ H _ I reading) fun _ t1 step1 => thn step1 fun _ t2 step2 => ?_
  obtain ⟨it, fp, tn, J, Ha, rfl, Ia, turns, at0, foot, after⟩ := step2
  refine wpAny_newObj_type (newEnv_comp ?_)
  -- the new dict stands at D
  obtain ⟨D, eD⟩ : ∃ D, D = t2.heap.objs.size := ⟨_, rfl⟩
  rw [← eD]
  have freeD : Ha D = none := Ia.hok.fresh (Nat.le_of_eq eD.symm)
  obtain ⟨W, ⟨m0, w0⟩, go⟩ := after D freeD
  obtain ⟨t3, e3⟩ : ∃ t3 : Shared, t3 = { t2 with heap := t2.heap.push { cls := .type "dict", data := .dict #[] } } := ⟨_, rfl⟩
  rw [← e3]
  obtain ⟨Hb, eHb⟩ : ∃ Hb, Hb = upd Ha D (dN X.w D []) := ⟨_, rfl⟩
  rw [← eHb] at w0
  have keep3 : ∀ b o, t2.heap.get? b = some o → t3.heap.get? b = some o := fun b o q => by
    rw [e3]
    exact Heap.get?_push_of_some _ q
  have Ib : Inv X pins σ Hb t3 := by
    rw [eHb, e3]
    refine Ia.laid (t' := t2.toks) (a := D) (fun b o q => Heap.get?_push_of_some _ q) (Nat.le_of_eq eD.symm) ?_
    rw [eD]
    exact dN_ok (phi_empty t2.heap Ia.big)
  have size3 : t3.heap.objs.size = t2.heap.objs.size + 1 := by rw [e3]; exact Heap.size_push ..
  have small : ∀ b ∈ fp, b < t2.heap.objs.size := fun b hb => let ⟨_, q, _⟩ := turns.obj _ _ at0 b hb; Heap.lt_size q
  have foot3 : ∀ b ∈ fp, FpOk X pins Hb b ∧ b < t3.heap.objs.size := by
    intro b hb
    have l := small b hb
    refine ⟨⟨?_, (foot b hb).2⟩, by rw [size3]; exact Nat.lt_succ_of_lt l⟩
    rw [eHb, upd_ne (by rw [eD]; exact Nat.ne_of_lt l)]
    exact (foot b hb).1
  have free3 : ∀ b ∈ fp, Hb b = none := fun b hb => (foot3 b hb).1.1
  have at3 : tn 0 t3.heap := turns.keep _ _ _ at0 fun b _ o q => keep3 b o q
  have Ic := block_start Ib blk nd foot3
  obtain ⟨L, eL⟩ : ∃ L, L = t3.heap.objs.size := ⟨_, rfl⟩
  rw [← eL] at Ic ⊢
  obtain ⟨cl, ecl⟩ : ∃ cl, cl = cellsFrom (L + 1) scope.names (cloFrom X.env.cells scope.names []) := ⟨_, rfl⟩
  rw [← ecl] at Ic
  have qg := hg t3 Hb L cl fp
  have qt := ht t3 Hb L cl fp
  have qk := hk t3 Hb L cl fp
  have qe := he t3 Hb L cl fp
  show codeAny _ _ (.compStart (.DictComp kx vx [⟨tg, iter, ifs, 0⟩] scope pos) 0 (.ref it) (.ref D)
    (compEnvC scope (cellsFrom (L + 1) scope.names (cloFrom X.env.cells scope.names [])) L X.env))
    (compPost (model X.prog X.w) X.A X.xe use Qf (.ref D) L) _
  rw [← ecl]
  obtain ⟨en, een⟩ : ∃ en, en = compEnvC scope cl L X.env := ⟨_, rfl⟩
  have loc : en.locals = L := by rw [een]; rfl
  rw [← een] at Ic qg qt qk qe ⊢
  obtain ⟨t4, e4⟩ : ∃ t4 : Shared, t4 = { t3 with heap := pushCells (t3.heap.push { cls := .type "dict", data := .dict #[] }) scope.names } := ⟨_, rfl⟩
  rw [← e4] at Ic
  show codeAny _ _ _ _ { t3 with heap := pushCells (t3.heap.push { cls := .type "dict", data := .dict #[] }) scope.names }
  rw [← e4]
  have at4 : tn 0 t4.heap := turns.keep _ _ _ at3 fun b _ o q => by
    rw [e4]
    exact pushCells_keeps _ _ _ _ (Heap.get?_push_of_some _ q)
  -- the block's own context
  obtain ⟨Y, eY⟩ : ∃ Y, Y = X.blk t3 Hb scope en fp := ⟨_, rfl⟩
  have YP : Y.prog = X.prog := by rw [eY]
  have still : ∀ {σ' : L2.St} {H' : Hp} {s' : Shared}, Inv (X.blk t3 Hb scope en fp) [] σ' H' s' → (∀ b ∈ fp, H' b = none) → ∀ b ∈ fp, FpOk (X.blk t3 Hb scope en fp) [] H' b := by
    intro σ' H' s' J' hn b hb
    refine ⟨hn b hb, (J'.ok.exf b hb).1, J'.ok.exfs b hb, .inl hb, fun x c e => (J'.ok.exf b hb).2 x c e, fun p hp => ?_⟩
    have z : p ∈ ([] : List (Addr × Obj)) ++ [] := hp
    simp at z
  refine codeAny_compStart_dict ?loop (turns.self X.A 0 _ _ _ at4 ?loop)
  refine compLoop_anyD (fun k s' => ∃ i H', Inv (X.blk t3 Hb scope en fp) [] (wipe σ (own.map (·.2))) H' s' ∧ tn i s'.heap ∧ (∀ b ∈ fp, H' b = none) ∧ W i k H')
    ?_ m0 ⟨0, Hb, Ic, at4, free3, w0⟩
  rintro k s5 ⟨i, H5, I5, at5, n5, w5⟩
  cases go i k H5 w5 with
  | inl q =>
    obtain ⟨stop, hQ⟩ := q
    refine thnF (turns.done (X.blk t3 Hb scope en fp) rfl rfl rfl calm i [] s5 _ H5 (fun _ _ => False) I5 (still I5 n5) at5 stop) ?_
    rintro r s6 ⟨rfl, I6⟩
    have I7 : Inv X pins σ H5 s6 := Ib.call' (ch := fp) I6.os I6.base I6.hok I6.bare fun b hb =>
      let z := (foot3 b hb).1.2
      ⟨z.2.2.1, z.1, z.2.2.2.1, z.2.2.2.2⟩
    obtain ⟨m, ns, _⟩ := I6.loc
    have ns' : s6.heap.Ns en.locals m := ns
    have fL : H5 en.locals = none := I6.free
    rw [loc] at ns' fL
    exact out D L s6 m H5 I7 hQ ns' (Ib.fpOk (Nat.le_of_eq eL.symm) fL)
  | inr q =>
    obtain ⟨more, N, hN, body⟩ := q
    refine thnF (turns.item (X.blk t3 Hb scope en fp) rfl rfl rfl calm i [] s5 _ H5 (fun _ _ => False) I5 (still I5 n5) at5 more) ?_
    rintro r s6 ⟨u, rfl, h6⟩
    refine thnF h6 fun _ s7 ⟨x, H7, I7, r7, y7, at7, n7⟩ => ?_
    have I7' := I7.pinned (still I7 n7) (turns.obj _ _ at7)
    refine thnF (qg.run _ s7 _ H7 x u _ I7' r7 (body x H7 y7)) fun _ s8 ⟨σ8, H8, I8, hw8, q8⟩ => ?_
    refine thnF (qt.run _ s8 σ8 H8 _ I8 q8) fun b s9 ⟨H9, I9, q9⟩ => ?_
    have close : ∀ {s' : Shared} {H' : Hp}, Inv (X.blk t3 Hb scope en fp) ([] ++ pinsAt fp s7.heap) σ8 H' s' → N H' →
        ∃ m, m < k ∧ ∃ i H', Inv (X.blk t3 Hb scope en fp) [] (wipe σ (own.map (·.2))) H' s' ∧ tn i s'.heap ∧ (∀ b ∈ fp, H' b = none) ∧ W i m H' := by
      intro s' H' I' nx
      obtain ⟨m', lt, w'⟩ := hN H' nx
      have pin : ∀ b ∈ fp, ∀ o, s7.heap.get? b = some o → s'.heap.get? b = some o ∧ H' b = none := by
        intro b hb o q
        have z := I'.pin (b, o) (List.mem_append_right _ (List.mem_append_right _ (mem_pinsAt hb q)))
        exact ⟨z.1, z.2.1⟩
      refine ⟨m', lt, i + 1, H', ?_, turns.keep _ _ _ at7 fun b hb o q => (pin b hb o q).1, ?_, w'⟩
      · refine (I'.unpinned (pins := [])).weak (by rw [← hw8, wipe_length]) fun j v q => ?_
        rw [← hw8] at q
        exact (wipe_some q).1
      · intro b hb
        obtain ⟨o, q, _⟩ := turns.obj _ _ at7 b hb
        exact (pin b hb o q).2
    cases b with
    | false => exact close I9 q9
    | true =>
      have q9' := (if_pos rfl).mp q9
      refine thnF (qk.run _ s9 σ8 H9 _ I9 q9') fun kv s10 ⟨yk, H10, I10, r10, q10⟩ => ?_
      refine thnF (qe.run _ s10 σ8 H10 _ I10 q10) fun vv s11 ⟨yv, H11, I11, r11, xs, kk, a, ek, hD, ks, rk, dp, z, nx⟩ => ?_
      subst ek
      obtain rfl : kv = Value.ref a := r10
      exact n_dictSet (X := X.blk t3 Hb scope en fp) (n := n) hr I11 hD ks rk dp z r11 fun s12 I12 => close I12 nx
theorem pe_dcN (hr : Room n X.A) (calm : X.calm = true) (nd : X.N.Nodup) (walk : PI X tg iter wi) (blk : BlkOk X.N X.env.scope scope own) (hg : InBlk X scope fun Y => PG Y tg g)
    (ht : InBlk X scope fun Y => PTs Y ifs tt) (hk : InBlk X scope fun Y => PE Y kx tk) (he : InBlk X scope fun Y => PE Y vx tv) (fold : ∀ x, foldedSetIterable iter X.env x = pure x := by intro _; rfl) :
    PE X (.DictComp kx vx [⟨tg, iter, ifs, 0⟩] scope pos) (tDcN X.w wi g tt tk tv (own.map (·.2))) := by
  constructor
  intro pins s σ H Q I h
  rw [arm_eval_DictComp]
  refine dcN_run hr calm nd I walk blk hg ht hk he fold h ?_
  intro D C s' m H' I' q ns f
  refine ⟨m, ns, fun h2 sb => ⟨.ref D, H', ?_, rfl, q⟩⟩
  exact I'.turned (t' := s'.toks) (fun b o hb e => (sb.2 b hb).trans e) f.1 f.2.1 f.2.2.2.1 f.2.2.2.2.1 f.2.2.2.2.2
end
end ND
end
section
set_option Elab.async false
set_option linter.all false
set_option maxRecDepth 100000
/-! nested tuples as data: == -/
namespace ND
open PySem L2
mutual
def toD : NestedKey → PyData
  | .none => .none
  | .num i => .int i
  | .text x => .str x
  | .tup ks => .tuple (toDs ks)
def toDs : List NestedKey → List PyData
  | [] => []
  | k :: ks => toD k :: toDs ks
end
mutual
def noTxt : NestedKey → Bool
  | .none => true
  | .num _ => true
  | .text _ => false
  | .tup ks => noTxts ks
def noTxts : List NestedKey → Bool
  | [] => true
  | k :: ks => noTxt k && noTxts ks
end
mutual
theorem dp_of {K : PySem.W.Frag} {B : Hp} : ∀ {k : NestedKey} {v : V}, Rp B k v → Dp K B v (toD k)
  | .none, v, h => by unfold Rp at h; subst h; unfold toD; exact .non
  | .num i, v, h => by unfold Rp at h; subst h; unfold toD; exact .int i
  | .text x, v, h => by unfold Rp at h; subst h; unfold toD; exact .str x
  | .tup ks, v, h => by
    obtain ⟨a, vs, rfl, ha, r⟩ := h.tupD
    unfold toD
    exact .tup (SqT.of ha) (dps_of r)
theorem dps_of {K : PySem.W.Frag} {B : Hp} : ∀ {ks : List NestedKey} {vs : List V}, Rps B ks vs → DpAll K B vs (toDs ks)
  | [], vs, h => by obtain rfl := h.nilD; unfold toDs; exact .nil
  | k :: ks, vs, h => by
    obtain ⟨v, r, rfl, q, z⟩ := h.consD
    unfold toDs
    exact .cons (dp_of q) (dps_of z)
end
mutual
theorem canLay_of : ∀ {k : NestedKey}, noTxt k = true → (toD k).canLay0 = true
  | .none, _ => by unfold toD; rfl
  | .num i, _ => by unfold toD; rfl
  | .text x, h => by unfold noTxt at h; cases h
  | .tup ks, h => by
    unfold noTxt at h
    unfold toD PyData.canLay0
    exact canLays_of h
theorem canLays_of : ∀ {ks : List NestedKey}, noTxts ks = true → PyData.canLayAll0 (toDs ks) = true
  | [], _ => by unfold toDs; rfl
  | k :: ks, h => by
    unfold noTxts at h
    unfold toDs PyData.canLayAll0
    rw [Bool.and_eq_true] at h ⊢
    exact ⟨canLay_of h.1, canLays_of h.2⟩
end
mutual
theorem depth_of : ∀ k : NestedKey, (toD k).depth ≤ k.depth
  | .none => by unfold toD PyData.depth; exact Nat.zero_le _
  | .num i => by unfold toD PyData.depth; exact Nat.zero_le _
  | .text x => by unfold toD PyData.depth; exact Nat.zero_le _
  | .tup ks => by
    unfold toD PyData.depth NestedKey.depth
    have := depths_of ks
    omega
theorem depths_of : ∀ ks : List NestedKey, PyData.depthAll (toDs ks) ≤ NestedKey.depthAll ks
  | [] => by unfold toDs PyData.depthAll; exact Nat.zero_le _
  | k :: ks => by
    unfold toDs PyData.depthAll NestedKey.depthAll
    have h1 := depth_of k
    have h2 := depths_of ks
    omega
end
mutual
theorem eqv_self : ∀ k : NestedKey, PyData.eqv (toD k) (toD k) = true
  | .none => by unfold toD PyData.eqv; rfl
  | .num i => by unfold toD PyData.eqv; exact beq_self_eq_true i
  | .text x => by unfold toD PyData.eqv; exact beq_self_eq_true x
  | .tup ks => by unfold toD PyData.eqv; exact eqvs_self ks
theorem eqvs_self : ∀ ks : List NestedKey, PyData.eqvAll (toDs ks) (toDs ks) = true
  | [] => by unfold toDs PyData.eqvAll; rfl
  | k :: ks => by
    unfold toDs PyData.eqvAll
    rw [eqv_self k, eqvs_self ks]; rfl
end
theorem shaped_of {k : NestedKey} (h : noTxt k = true) (hd : k.depth ≤ 64) : SeqAt.shaped (toD k) = true := by
  unfold SeqAt.shaped
  rw [canLay_of h, decide_eq_true (Nat.le_trans (depth_of k) hd)]; rfl
/-- a == b of two nested tuples that are the same data -/
theorem eqD_of {K : PySem.W.Frag} {H : Hp} {k : NestedKey} {x y : V} {Q : VK} (hx : Rp H k x) (hy : Rp H k y) (h : noTxt k = true) (hd : k.depth ≤ 64) (q : Q (.bl true) H) : rEqD K x y H Q :=
  ⟨toD k, toD k, dp_of hx, dp_of hy, shaped_of h hd, shaped_of h hd, by rw [eqv_self]; exact q⟩
theorem neD_of {K : PySem.W.Frag} {H : Hp} {k : NestedKey} {x y : V} {Q : VK} (hx : Rp H k x) (hy : Rp H k y) (h : noTxt k = true) (hd : k.depth ≤ 64) (q : Q (.bl false) H) : rNeD K x y H Q :=
  ⟨toD k, toD k, dp_of hx, dp_of hy, shaped_of h hd, shaped_of h hd, by rw [eqv_self]; exact q⟩
/-- a != b of two lists of the same ints -/
theorem ints_dp {K : PySem.W.Frag} {H : Hp} : ∀ ns : List Int, DpAll K H (ns.map V.int) (ns.map PyData.int)
  | [] => .nil
  | n :: ns => .cons (.int n) (ints_dp ns)
theorem ints_can : ∀ ns : List Int, PyData.canLayAll0 (ns.map PyData.int) = true
  | [] => rfl
  | n :: ns => by rw [List.map_cons]; unfold PyData.canLayAll0; rw [ints_can ns]; rfl
theorem ints_depth : ∀ ns : List Int, PyData.depthAll (ns.map PyData.int) = 0
  | [] => rfl
  | n :: ns => by rw [List.map_cons]; unfold PyData.depthAll; rw [ints_depth ns]; rfl
theorem ints_eqv : ∀ ns : List Int, PyData.eqvAll (ns.map PyData.int) (ns.map PyData.int) = true
  | [] => rfl
  | n :: ns => by
    rw [List.map_cons]; unfold PyData.eqvAll; rw [ints_eqv ns]; unfold PyData.eqv; simp
theorem neD_ints {K : PySem.W.Frag} {H : Hp} {a b : Addr} {ns : List Int} {Q : VK} (ha : SqL K H a (ns.map V.int)) (hb : SqL K H b (ns.map V.int)) (q : Q (.bl false) H) : rNeD K (.ref a) (.ref b) H Q := by
  have sh : SeqAt.shaped (.list (ns.map PyData.int)) = true := by
    unfold SeqAt.shaped PyData.canLay0 PyData.depth
    rw [ints_can, ints_depth]; rfl
  refine ⟨.list (ns.map .int), .list (ns.map .int), .lst ha (ints_dp ns), .lst hb (ints_dp ns), sh, sh, ?_⟩
  have : PyData.eqv (.list (ns.map PyData.int)) (.list (ns.map PyData.int)) = true := by unfold PyData.eqv; exact ints_eqv ns
  rw [this]; exact q
theorem noTxts_nums : ∀ ns : List Int, noTxts (ns.map .num) = true
  | [] => rfl
  | n :: ns => by rw [List.map_cons]; unfold noTxts; rw [noTxts_nums ns]; rfl
theorem noTxts_queues : ∀ qs : List (List Int), noTxts (qs.map fun q => .tup (q.map .num)) = true
  | [] => rfl
  | q :: qs => by rw [List.map_cons]; unfold noTxts noTxt; rw [noTxts_queues qs, noTxts_nums q]; rfl
theorem noTxt_queuesK (qs : List (List Int)) : noTxt (PH.queuesK qs) = true := by unfold PH.queuesK noTxt; exact noTxts_queues qs
theorem noTxt_posK (p : PH.HPos) : noTxt (PH.posK p) = true := by
  unfold PH.posK noTxt noTxts noTxts noTxts
  rw [noTxt_queuesK]
  unfold noTxt
  rw [noTxts_nums]; rfl
theorem noTxt_actK (t : PH.Tk) (p : PH.HPos) (a : Nat × Int) : noTxt (PH.actK t p a) = true := by
  unfold PH.actK noTxt noTxts noTxts noTxts noTxts noTxts noTxts
  rw [noTxt_posK]; rfl
theorem depth_actK (t : PH.Tk) (p : PH.HPos) (a : Nat × Int) : (PH.actK t p a).depth ≤ 64 := by
  have := PH.depth_posK (PH.actedP t p a.1 a.2).1
  unfold PH.actK
  simp only [NestedKey.depth, NestedKey.depthAll]
  omega
theorem depth_queuesK (qs : List (List Int)) : (PH.queuesK qs).depth ≤ 64 := by
  have := PH.depthAll_queues qs
  unfold PH.queuesK
  rw [NestedKey.depth]
  omega
end ND
end
section
set_option Elab.async false
set_option linter.all false
set_option maxRecDepth 100000
set_option maxHeartbeats 4000000
/-! sorted(t), len(set(t)) of a short tuple of texts -/
namespace SB
open PySem PySem.Spec PyProof.Rows L2
section
variable {prog : Program} {w : World} {A : Around} {E : Value → Shared → Prop} {s : Shared}
theorem sorted_tupS {l : Addr} {vs : List Value} {ss : List Str} {Q : Value → Shared → Prop} (hl : s.heap.IsTuple l vs.toArray) (hS : StrsAre vs ss) (h64 : vs.length < 64)
    (hQ : ∀ (h' : Heap) p (out : Array Value) (c : Nat) (ss' : List Str), (∀ b o, s.heap.get? b = some o → h'.get? b = some o) → s.heap.get? p = none →
      h'.get? p = some (seqObj "list" out c) → StrsAre out.toList ss' → ss'.Perm ss → sortedS ss' = true → Q (.ref p) { s with heap := h' }) :
    wpAny (model prog w) A (call (.builtin "sorted") [.ref l]) Q E s := by
  obtain ⟨o, ho, hc, n, hd⟩ := hl
  refine Calls.call_function_entry kind_sorted plain_sorted entry_sorted (args_sorted1 _) ?_
  unfold Builtin.«sorted»
  refine wpAny_bind (m := checkCount "sorted" 1 1 _) (wpAny_pure ?_)
  refine wpAny_bind (wpAny_collect_seq (A := A.in1) l (.inr rfl) ho hc hd (fun h1 hk => ?_) (by rw [List.size_toArray, sizeLine_eq]; omega))
  refine wpAny_bind (wpAny_newList ?_ (by rw [sizeLine_eq]; show vs.length ≤ 16777216; omega))
  have hoL : (h1.push (seqObj "list" vs.toArray 0)).get? h1.objs.size = some (seqObj "list" vs.toArray 0) := Heap.get?_push_size _ rfl
  refine wpAny_bind (wpAny_holding (wpAny_call_entry slot_list_sort ⟨_, hoL, rfl⟩ entry_list_sort (list_sort_treeK strKind_oneLt hoL hS.keysOf (fun v₁ v₂ rest e => keyKind_strs (by rw [← e]; exact hS)) h64 fun st' a1 a2 => ⟨_, rfl, ?_⟩) (args_list_sort _)))
  obtain ⟨c, hc'⟩ := sortedHeap_at (vs := vs) (out := (arrOf st').map (·.2)) hoL
  obtain ⟨ss', b1, b2, b3⟩ := sorted_out_str hS a1 a2
  refine wpAny_pure ⟨_, rfl, hQ _ h1.objs.size _ c ss' (fun b u e => ?_) ?_ hc' b1 b2 b3⟩
  · have q := hk b u e
    have hlt := Heap.lt_size q
    rw [sortedHeap_old (Nat.ne_of_lt hlt) (by rw [size_push']; exact Nat.lt_succ_of_lt hlt)]
    exact Heap.get?_push_of_some _ q
  · cases q : s.heap.get? h1.objs.size with
    | none => rfl
    | some u => exact absurd (Heap.lt_size (hk _ _ q)) (Nat.lt_irrefl _)
end
theorem obj_there {P : Program} {w : World} {H : Hp} {h : Heap} {a : Addr} {o : HO} (x : ObjOk P w H h a o) : ∃ u, h.get? a = some u := by
  cases o with
  | lst xs => obtain ⟨_, _, _, _, e⟩ := x; exact ⟨_, e⟩
  | tup xs => obtain ⟨_, _, _, p⟩ := x; obtain ⟨_, e, _⟩ := p; exact ⟨_, e⟩
  | dK kvs => obtain ⟨_, _, _, _, o, _, _, e, _⟩ := x; exact ⟨_, e⟩
  | dT kvs => obtain ⟨_, _, _, _, o, _, _, e, _⟩ := x; exact ⟨_, e⟩
  | set S n => obtain ⟨o, _, _, _, e, _⟩ := x; exact ⟨_, e⟩
  | ins C dx fs => obtain ⟨_, _, _, e, _⟩ := x; exact ⟨_, e⟩
  | own y => obtain ⟨_, e⟩ := x; exact ⟨_, e⟩
  | xd fs => obtain ⟨_, ⟨_, _, _, e, _⟩, _⟩ := x; exact ⟨_, e⟩
  | rng lo hi => obtain ⟨_, _, _, e⟩ := x; exact ⟨_, e⟩
  | frz ob u => obtain ⟨e, _⟩ := x; exact ⟨_, e⟩
  | tbl ps => exact ⟨_, (show h.get? a = some _ from x)⟩
  | met f y => exact ⟨_, (show h.get? a = some _ from x)⟩
  | ext φ => obtain ⟨_, ⟨_, e⟩, _⟩ := x; exact ⟨_, e⟩
theorem hok_none {P : Program} {w : World} {H : Hp} {h : Heap} {a : Addr} (x : HOk P w H h) (e : h.get? a = none) : H a = none := by
  cases q : H a with
  | none => rfl
  | some o =>
    obtain ⟨u, hu⟩ := obj_there (x a o q)
    rw [e] at hu; cases hu
section
variable {X : Cx}
def rSortedTS (K : PySem.W.Frag) : List V → Hp → VK → Prop := fun vs H Q => ∃ (a : Addr) (xs : List Str), vs = [V.ref a] ∧ SqT K H a (xs.map V.str) ∧ xs.length < 64 ∧
  ∀ (ys : List Str) (p : Addr), ys.Perm xs → sortedS ys = true → H p = none → Q (.ref p) (upd H p (.lst (ys.map V.str)))
theorem cr_sortedTS : CallR X (.builtin "sorted") (rSortedTS X.K) := by
  intro pins s σ H vs us Q I r h
  obtain ⟨a, xs, rfl, hs, h64, q⟩ := h
  obtain ⟨its, rv, hl, _⟩ := I.tuple hs
  rw [Vals.ref1 r]
  have hlen0 := rv.length
  rw [List.length_map] at hlen0
  refine sorted_tupS hl rv.strs (by rw [← hlen0]; exact h64) fun h' p out c ys hk hp hc h1 h2 h3 => ?_
  have hlen : (ys.map V.str).length ≤ sizeLine := by rw [List.length_map, h2.length_eq]; exact small64 h64
  have hn := hok_none I.hok hp
  exact ⟨.ref p, upd H p (.lst (ys.map V.str)), I.laidN (t' := s.toks) hk hp hn ⟨hlen, out.toList, c, vals_of_strs h1, hc⟩, rfl, q ys p h2 h3 hn⟩
end

/-! ### len(set(t)), t a tuple of texts without doubles -/
theorem take_char {xs : List Str} (nd : xs.Nodup) {i : Nat} (hi : i < xs.length) : ((xs.take i).any (· == xs[i])) = false := by
  rw [List.any_eq_false]
  intro y hy e
  have e' : y = xs[i] := by simpa using e
  subst e'
  obtain ⟨j, hj⟩ := List.mem_iff_getElem?.mp hy
  have hjl := (List.getElem?_eq_some_iff.mp hj).1
  rw [List.length_take] at hjl
  rw [List.getElem?_take] at hj
  split at hj
  · rename_i hji
    have h1 : j < xs.length := by omega
    rw [List.getElem?_eq_getElem h1] at hj
    injection hj with hj
    exact (List.pairwise_iff_getElem.mp nd) j i h1 hi hji hj
  · cases hj
section
variable {prog : Program} {w : World} {A : Around} {R : Result → Shared → Prop} {I : Addr} {fp wr : List Addr} {G : Array GenState → Array GenState → Prop} {n : Nat} {P : Nat → Value → Prop} {St : Nat → Shared → Prop}
/-- the loop of set(..) over texts without doubles -/
theorem set_texts (W : WalksS prog w A.in1 I fp wr G n P St) (S : Addr) (hSf : S ∉ fp) (xs : List Str) (hsz : xs.length = n) (nd : xs.Nodup) (hb : n + 1 < scanBound)
    (hval : ∀ i v, P i v → ∃ t, v = .str (xs.getD i Str.empty) t) :
    ∀ (k i : Nat) (s : Shared), n - i = k → i ≤ n → St i s → s.heap.SetOf (PySem.strKind prog w) S (fun k' => (xs.take i).any (· == k')) i →
      (∀ s', Moved (S :: wr) G s s' → s'.heap.SetOf (PySem.strKind prog w) S (fun k' => (xs.take n).any (· == k')) n → R (.ok (.ret .none)) s') →
      codeAny (model prog w) A (.builtin "set.update.loop" ⟨[.ref S, .ref I], []⟩) R s := by
  have hSw : S ∉ wr := fun h => hSf (W.sub _ h)
  have hsub : ∀ b ∈ wr, b ∈ S :: wr := fun b hb => List.mem_cons_of_mem _ hb
  intro k
  induction k with
  | zero =>
    intro i s hk hi hst hS hR
    obtain rfl : i = n := by omega
    refine codeAny_builtin PyProof.Rows.F.entry_set_update_loop ?_
    rw [Around.under_plainId PyProof.Rows.F.plain_set_update_loop _]
    show wpAny _ A.in1 (pyNext (.ref I) >>= _) _ _ s
    refine wpAny_bind (W.done s _ _ hst fun s' hm => ?_)
    show wpAny _ A.in1 (ret Value.none) _ _ s'
    exact wpAny_pure (hR s' (hm.mono hsub) (by
      obtain ⟨o, es, ep, t, ho, rest⟩ := hS
      exact ⟨o, es, ep, t, hm.heap S _ hSw ho, rest⟩))
  | succ k ih =>
    intro i s hk hi hst hS hR
    have hlt : i < n := by omega
    have hlx : i < xs.length := by omega
    refine codeAny_builtin PyProof.Rows.F.entry_set_update_loop ?_
    rw [Around.under_plainId PyProof.Rows.F.plain_set_update_loop _]
    show wpAny _ A.in1 (pyNext (.ref I) >>= _) _ _ s
    refine wpAny_bind (W.item i s _ _ hlt hst fun v s' hP hst' hm => ?_)
    obtain ⟨t, rfl⟩ := hval i v hP
    have hS' : s'.heap.SetOf (PySem.strKind prog w) S (fun k' => (xs.take i).any (· == k')) i := by
      obtain ⟨o, es, ep, tb, ho, rest⟩ := hS
      exact ⟨o, es, ep, tb, hm.heap S _ hSw ho, rest⟩
    have egd : xs.getD i Str.empty = xs[i] := by rw [List.getD_eq_getElem?_getD, List.getElem?_eq_getElem hlx]; rfl
    rw [egd]
    show wpAny _ A.in1 (holding [Value.str xs[i] t] (setAdd S (.str xs[i] t)) >>= _) _ _ s'
    refine wpAny_bind (wpAny_holding ?_)
    unfold setAdd
    refine wpAny_holding ?_
    refine wpAny_bind ((PySem.strKind prog w).pyHash (k := xs[i]) (strKind_is _ _ _ _) ?_)
    refine wpAny_setAddHashed_of (knd := PySem.strKind prog w) (s := { s' with toks := s'.toks + 1 }) (strKind_is _ _ _ _) rfl hS' (by omega) fun h' hsb hS2 => ?_
    have hSi : h'.SetOf (PySem.strKind prog w) S (fun k' => (xs.take (i + 1)).any (· == k')) (i + 1) := by
      refine SetOf_congr hS2 (fun k' => ?_) (by rw [take_char nd hlx]; rfl)
      rw [List.take_add_one, List.getElem?_eq_getElem hlx, List.any_append]
      congr 1
      show decide (k' = xs[i]) = [xs[i]].any (· == k')
      by_cases e : k' = xs[i]
      · subst e; simp
      · have hb : (xs[i] == k') = false := by simpa [beq_iff_eq] using (fun h' : xs[i] = k' => e h'.symm)
        simp [hb, e]
    refine wpAny_pure ⟨plainId_quiet PyProof.Rows.F.plain_set_update_loop _, ih (i + 1) _ (by omega) hlt (W.frame _ s' _ _ hst' (Nat.le_succ _) fun b hb o e => ?_) hSi fun s'' hm'' hS'' => ?_⟩
    · rw [hsb.2 b (fun h : b = S => hSf (by rw [← h]; exact hb))]; exact e
    · refine hR s'' (Moved.trans W.gtrans ((hm.mono hsub).then_heap (Nat.le_succ _) fun b o hb e => ?_) hm'') hS''
      rw [hsb.2 b (fun h : b = S => hb (by rw [h]; exact List.mem_cons_self))]; exact e
end
section
variable {prog : Program} {w : World} {A : Around} {E : Value → Shared → Prop} {s : Shared}
theorem set_of_tup {l : Addr} {items : Array Value} {xs : List Str} {Q : Value → Shared → Prop}
    (hh : A.handled = none) (hl : s.heap.IsTuple l items) (hi : PyProof.Rows.StrsAre items.toList xs) (nd : xs.Nodup) (hb : xs.length + 1 < scanBound)
    (h : ∀ (h' : Heap) (tk : Nat), h'.SetOf (PySem.strKind prog w) s.heap.objs.size (fun k' => (xs.take items.size).any (· == k')) items.size →
      (∀ b o, b < s.heap.objs.size → s.heap.get? b = some o → h'.get? b = some o) → Q (.ref s.heap.objs.size) { s with heap := h', toks := tk }) :
    wpAny (model prog w) A (call (.type "set") [.ref l]) Q E s := by
  obtain ⟨c, tl, hmro⟩ := PySem.F.called_set.mro
  have hmade := PySem.F.called_set.made
  have hsub := PySem.F.called_set.sub
  refine wpAny_call (codeAny_of_tree ?_)
  show wpAny _ _ (callAny (.type "set") _) _ _ _
  refine wpAny_pure ⟨Code.quiet_builtin _ (by decide +kernel), codeAny_builtin PySem.F.entry_type_call ?_⟩
  rw [Around.under_plain (weight_type_call_type "set" [.ref l] []) rfl]
  have h1 := PySem.F.called_set.notType
  have h2 := PySem.F.called_set.canCreate
  have hct := PySem.F.typeCall_set_1 (.ref l)
  repeat (any_goals (first | assumption | wp_step))
  refine codeAny_mono (code_set_new_1 (.ref l) (E := E) (Q₁ := fun obj s₁ => ∃ led : Bool, obj = .ref s.heap.objs.size ∧ s₁ = { s with heap := s.heap.push { cls := .type "set", dict := none, data := .set #[] 0 (.fresh 0 0 led) } }) fun led => ⟨led, rfl, rfl⟩) fun r s₁ hr => ?_
  cases r with
  | error e => exact hr
  | ok fl =>
    cases fl with
    | ret obj =>
      obtain ⟨led, rfl, rfl⟩ := hr
      have hS : (s.heap.push { cls := .type "set", dict := none, data := .set #[] 0 (.fresh 0 0 led) }).get? s.heap.objs.size = some { cls := .type "set", dict := none, data := .set #[] 0 (.fresh 0 0 led) } := Heap.get?_push_size _ rfl
      have hT : Shared.TypeIs { s with heap := s.heap.push { cls := .type "set", dict := none, data := .set #[] 0 (.fresh 0 0 led) } } (.ref s.heap.objs.size) "set" := ⟨_, hS, rfl⟩
      have hli := PySem.F.called_set.init.lookup
      have hbi := PySem.F.called_set.init.bind (.ref s.heap.objs.size)
      repeat (any_goals (first | assumption | wp_step))
      refine codeAny_mono (codeAny_call_builtin (R := wants (fun r s₂ => r = .none ∧ ∃ h' tk, s₂ = { s with heap := h', toks := tk } ∧
          h'.SetOf (PySem.strKind prog w) s.heap.objs.size (fun k' => (xs.take items.size).any (· == k')) items.size ∧
          (∀ b o, b < s.heap.objs.size → s.heap.get? b = some o → h'.get? b = some o)) E) PySem.F.called_set.init.plain PySem.F.entry_set_init (check_set_init_1 hT ?_)) fun r₂ s₂ hr₂ => ?_
      · obtain ⟨⟨ocls, odict, odata, oslots⟩, hol, hcl, nl, hdl⟩ := hl
        simp only at hcl hdl
        subst hcl hdl
        have hol' : (s.heap.push { cls := .type "set", dict := none, data := .set #[] 0 (.fresh 0 0 led) }).get? l = some { cls := .type "tuple", dict := odict, data := .seq items nl, slots := oslots } := Heap.get?_push_of_some _ hol
        have hsls := PySem.F.sub_tuple_set
        have hslf := PySem.F.sub_tuple_frozenset
        have hne : (Value.type "tuple" == Value.type "dict") = false := by decide
        have hl1 : (s.heap.push { cls := .type "set", dict := none, data := .set #[] 0 (.fresh 0 0 led) }).IsTuple l items := ⟨_, hol', rfl, nl, rfl⟩
        unfold Builtin.«set.__init__» noKeywords Builtin.Frozenset.updateFrom
        generalize hPI : pyIter = PI
        wp_walk
        subst hPI
        refine wpAny_pyIter_tuple hl1 ?_
        refine wpAny_bind (wpAny_runValue ?_)
        have hlS : l < s.heap.objs.size := Heap.lt_size hol
        have hh3 : A.in1.in1.in1.handled = none := by simp [hh]
        have hpz : (s.heap.push { cls := .type "set", dict := none, data := .set #[] 0 (.fresh 0 0 led) }).objs.size = s.heap.objs.size + 1 := Heap.size_push ..
        have hneI : l ≠ (s.heap.push { cls := .type "set", dict := none, data := .set #[] 0 (.fresh 0 0 led) }).objs.size := by rw [hpz]; exact Nat.ne_of_lt (Nat.lt_succ_of_lt hlS)
        have hSf : s.heap.objs.size ∉ [(s.heap.push { cls := .type "set", dict := none, data := .set #[] 0 (.fresh 0 0 led) }).objs.size, l] := by
          rw [hpz]
          simp only [List.mem_cons, List.not_mem_nil, or_false, not_or]
          exact ⟨Nat.ne_of_lt (Nat.lt_succ_self _), Nat.ne_of_gt hlS⟩
        have hsz : xs.length = items.size := by rw [← StrsAre.len_eq hi, Array.length_toList]
        have hval : ∀ (i : Nat) (v : Value), items[i]? = some v → ∃ t, v = .str (xs.getD i Str.empty) t := fun i v hv => SS.strs_at hi i v (by rw [Array.getElem?_toList]; exact hv)
        refine set_texts ((Walks.tuple hh3 _ l hneI items).toS) s.heap.objs.size hSf xs hsz nd (by rw [← hsz]; exact hb) hval (items.size - 0) 0 _ (by omega) (Nat.zero_le _)
          ⟨⟨_, Heap.get?_push_size _ rfl, rfl, rfl⟩, (hl1.push _)⟩ ?_ fun s' hm hS' => ?_
        · have hget : ((s.heap.push { cls := .type "set", dict := none, data := .set #[] 0 (.fresh 0 0 led) }).push { cls := .type "tuple_iterator", data := .fields #[.ref l, .int 0 0] }).get? s.heap.objs.size = some { cls := .type "set", dict := none, data := .set #[] 0 (.fresh 0 0 led) } := Heap.get?_push_of_some _ hS
          exact PyProof.Rows.SetOf_congr ((PyProof.Rows.setObjOf_fresh (knd := PySem.strKind prog w) led).setOf hget (by unfold scanBound; omega)) (fun _ => rfl) rfl
        · obtain ⟨h', g', d', tk', os'⟩ := s'
          have eg : g' = s.gens := hm.gens
          have ed : d' = s.drawn := hm.drawn
          have eo : os' = s.os := hm.os
          subst eg ed eo
          show wpAny _ _ _ _ _ _
          refine wpAny_pure ?_
          show wpAny _ _ (ret Value.none) _ _ _
          refine wpAny_pure ⟨rfl, h', tk', rfl, hS', fun b o hb e => ?_⟩
          refine hm.heap b o ?_ (Heap.get?_push_of_some _ (Heap.get?_push_of_some _ e))
          rw [hpz]
          simp only [List.mem_cons, List.not_mem_nil, or_false, not_or]
          exact ⟨Nat.ne_of_lt hb, Nat.ne_of_lt (Nat.lt_succ_of_lt hb)⟩
      · cases r₂ with
        | error e => exact hr₂
        | ok fl₂ =>
          cases fl₂ with
          | ret r =>
            obtain ⟨rfl, h', tk, rfl, hS', hk'⟩ := hr₂
            repeat (any_goals (first | assumption | wp_step))
            exact h _ _ hS' hk'
          | _ => exact hr₂.elim
    | _ => exact hr.elim
end
section
variable {X : Cx}
/-- len(set(t)), t a tuple of texts without doubles -/
def tLenSetT (K : PySem.W.Frag) (ta : TE) : TE := fun σ H Q => ta σ H fun x H1 => ∃ l, ∃ xs : List Str, x = .ref l ∧ SqT K H1 l (xs.map V.str) ∧ xs.Nodup ∧ xs.length < 64 ∧ Q (.int xs.length) H1
theorem pe_lenSetT {a : Expr} {ta : TE} {p p2 q pos : Pos} (hc : X.calm = true) (hg : Gl X "len") (hm : X.mg "len" = none) (hg2 : Gl X "set") (hm2 : X.mg "set" = none) (ha : PE X a ta)
    (na : starEach [a] X.env = (false, eval a X.env) :: starEach [] X.env := by rfl) : PE X (.Call (.Name "len" p) [.Call (.Name "set" p2) [a] [] q] [] pos) (tLenSetT X.K ta) := by
  refine ⟨fun pins s σ H Q I h => ?_⟩
  refine Call_ (ld_blt I hg hm boot_len ?_)
  refine PyProof.Rows.callWith_builtin1 (PyProof.Rows.args_cons ?_ rfl) rfl rfl
  refine Call_ (ld_blt I hg2 hm2 boot_set ?_)
  refine PyProof.Rows.callWith_type1 (PyProof.Rows.args_cons (thn (ha.run pins s σ H _ I h) fun v s1 ⟨x, H1, I1, r1, q1⟩ => PyProof.Rows.args_nil ?_) na) na rfl
  obtain ⟨l, xs, rfl, hq, nd, h64, q1⟩ := q1
  cases r1
  obtain ⟨its, r, pl, hz⟩ := I1.tuple hq
  refine set_of_tup (I1.ok.hd hc) pl (by simpa using strsAre_of r) nd (by unfold scanBound; omega) fun h' tk hS hk => ?_
  refine PyProof.Rows.args_nil ?_
  have hl : its.toArray.size = xs.length := by rw [List.size_toArray, ← r.length, List.length_map]
  rw [hl] at hS
  obtain ⟨o, es, ep, t, ho, hex, hd, _, _, _, hf, hn⟩ := hS
  have I2 : Inv X pins σ H1 { s1 with heap := h', toks := tk } := I1.kept fun b o e => hk b o (Heap.lt_size e) e
  exact call_len_set ho hex hd hf (by rw [hn]; omega) ⟨.int xs.length, H1, I2.tok _, ⟨_, by rw [hn]⟩, q1⟩
end
end SB
end
section
set_option Elab.async false
set_option linter.all false
set_option maxRecDepth 100000
set_option maxHeartbeats 4000000
/-! bool(x) of an instance with an own __bool__ -/
namespace BB
open PySem PySem.Spec PyProof.Rows L2
section
variable {prog : Program} {w : World} {A : Around} {E : Value → Shared → Prop} {s : Shared} {K : PySem.W.Frag} {x C f : Addr} {ox : Obj} {odd : Option Obj}
theorem truth_own {Q : Bool → Shared → Prop} (X : K.In s.heap) (I : PySem.W.InstAt s.heap x ox C odd) (hs : PySem.W.findIn K (.ref C) "__bool__" = some (some (.ref f))) (hf : PySem.W.isFn K (.ref f) = true)
    (h : wpAny (model prog w) A (call (.ref f) [.ref x]) (fun r s₁ => ∃ b, r = Value.bool b ∧ Q b s₁) E s) : wpAny (model prog w) A (truthy (.ref x)) Q E s := by
  unfold truthy
  refine wpAny_bind (m := callSpecial? (.ref x) (Str.ofString "__bool__")) (PySem.W.special_fn X I hs (beq_iff_eq.mp hf) (wpAny_mono h (fun r s' hr => ?_) fun _ _ y => y))
  obtain ⟨b, rfl, hq⟩ := hr
  exact wpAny_pure hq
theorem bool_own {Q : Value → Shared → Prop} (X : K.In s.heap) (I : PySem.W.InstAt s.heap x ox C odd) (hs : PySem.W.findIn K (.ref C) "__bool__" = some (some (.ref f))) (hf : PySem.W.isFn K (.ref f) = true)
    (h : wpAny (model prog w) A.in1.in1 (call (.ref f) [.ref x]) (fun r s₁ => ∃ b, r = Value.bool b ∧ Q (.bool b) s₁) E s) : wpAny (model prog w) A (call (.type "bool") [.ref x]) Q E s := by
  refine callType_codes (T := "bool") (Bi := Builtin.«object.__init__») (Q₁ := fun r s₁ => ∃ b, r = Value.bool b ∧ Q r s₁) PySem.F.called_bool (PySem.F.typeCall_bool_1 _) PySem.F.entry_object_init ?_ ?_
  · refine codeAny_of_tree ?_
    show wpAny _ A.in1.in1 (do checkBuiltinCall "bool.__new__" ⟨[.type "bool", .ref x], []⟩; again (.builtin "bool.__new__" ⟨[.type "bool", .ref x], []⟩)) _ _ s
    refine wpAny_bind (wpAny_of_eq (PySem.F.newCall_bool_1 _) (wpAny_pure ⟨plainId_quiet (by decide +kernel) _, codeAny_builtin PySem.F.entry_bool_new ?_⟩))
    rw [Around.under_plainId (by decide +kernel) _]
    unfold Builtin.«bool.__new__»
    have f1 := PySem.F.conv_sub_bool
    have ht : ∀ (Q' : Bool → Shared → Prop), (∀ b s₁, Q (.bool b) s₁ → Q' b s₁) → wpAny (model prog w) A.in1.in1 (truthy (.ref x)) Q' E s := fun Q' hq => truth_own X I hs hf (wpAny_mono h (fun r s₁ ⟨b, e, q⟩ => ⟨b, e, hq b s₁ q⟩) fun _ _ y => y)
    refine wpAny_bind (wpAny_of_eq (a := true) (by kernel_rfl) ?_)
    refine PySem.W.KFB.if_not rfl ?_
    refine wpAny_bind (wpAny_of_eq (a := true) f1 ?_)
    refine PySem.W.KFB.if_not rfl ?_
    refine wpAny_bind (wpAny_of_eq (a := [Value.ref x]) rfl ?_)
    refine wpAny_bind (ht _ fun b s₁ hq => ?_)
    exact wpAny_pure ⟨b, rfl, hq⟩
  · rintro obj s₁ ⟨b, rfl, hq⟩
    have hT : s₁.TypeIs (.bool b) "bool" := rfl
    exact ⟨hT, PySem.F.args_object_init_2 _ _, object_init_meets PySem.F.called_bool.init.lookup PySem.F.called_bool.made (by decide) prog w A.in1 _ s₁ ⟨hT, rfl, hq⟩⟩
end
section
variable {X : Cx} {CX : CXT} {C g : Addr} {n : Nat} {sp : Sp} {E : XK}
def rBoolOwn (C : Addr) (sp : Sp) (E : XK) : List V → Hp → VK → Prop := fun xs H Q => ∃ a dx fs, xs = [V.ref a] ∧ H a = some (.ins C dx fs) ∧ sp [.ref a] H (fun z H' => ∃ b, z = .bl b ∧ Q z H') E
theorem call_boolOwn (hs : PySem.W.findIn X.K (.ref C) "__bool__" = some (some (.ref g))) (hf : PySem.W.isFn X.K (.ref g) = true) (F : FnR X.prog X.w X.K X.mg X.base CX n g sp) (hr : Room (n + 2) X.A) (hx : Passes CX X E) : CallR X (.type "bool") (rBoolOwn C sp E) := by
  intro pins s σ H xs us Q I r h
  obtain ⟨a, dx, fs, rfl, ha, q⟩ := h
  obtain ⟨u, rfl, ru⟩ := r.one
  cases (show u = Value.ref a from ru)
  obtain ⟨mA, O, _⟩ := ins_get I.hok ha
  obtain ⟨od, J, _⟩ := O.look
  have hr2 : Room n X.A.in1.in1 := (show Room (n + 1) X.A.in1 from Room.in1 hr).in1
  refine bool_own I.kIn J hs hf (wpAny_mono (wpAny_call (SlX.run_at (us := [.ref a]) (ws := [.ref a]) F hr2 I.env0.in1.in1 hx I (.cons rfl .nil) q)) (fun w s' z => ?_) fun _ _ x => x)
  obtain ⟨z', H', I', rz, b, eb, qz⟩ := z
  subst eb
  cases (show w = Value.bool b from rz)
  exact ⟨b, rfl, .bl b, H', I', rfl, qz⟩
end
end BB
end
section
set_option Elab.async false
set_option linter.all false
set_option maxRecDepth 100000
set_option maxHeartbeats 4000000
namespace ND
open PySem PySem.W PySem.Spec PyProof.Rows L2
/-! ### what a def owns: B does not change any more, l may -/
def isTup : HO → Bool
  | .tup _ => true
  | _ => false
structure Own (B H : Hp) (l : List (Addr × HO)) : Prop where
  sub : Same B H
  tup : Tups H B
  at_ : ∀ p ∈ l, B p.1 = none ∧ H p.1 = some p.2
  nd : (l.map (·.1)).Nodup
theorem Own.start (H : Hp) : Own H H [] := ⟨Same.refl H, fun _ _ h => h, (fun _ h => nomatch h), List.nodup_nil⟩
section
variable {B H H' : Hp} {l : List (Addr × HO)} {p a : Addr} {o o' : HO} {i : Nat}
theorem Own.tups (O : Own B H l) : Tups B H := Same.tups O.sub
theorem Own.get (O : Own B H l) (i : Nat) (e : l[i]? = some (a, o)) : H a = some o := (O.at_ _ (List.mem_of_getElem? e)).2
theorem Own.fresh (O : Own B H l) (i : Nat) (e : l[i]? = some (a, o)) : B a = none := (O.at_ _ (List.mem_of_getElem? e)).1
theorem Own.free (O : Own B H l) (h : H p = none) : B p = none := by
  cases q : B p with
  | none => rfl
  | some o => rw [O.sub p o q] at h; cases h
theorem Own.nin (O : Own B H l) (h : H p = none) : p ∉ l.map (·.1) := fun q => by
  obtain ⟨x, hx, e⟩ := List.mem_map.mp q
  subst e
  rw [(O.at_ x hx).2] at h; cases h
theorem Own.ntup (O : Own B H l) (q : (a, o) ∈ l) : ∀ xs, o ≠ .tup xs := fun xs e => by
  subst e
  obtain ⟨h1, h2⟩ := O.at_ _ q
  have := O.tup _ _ h2
  rw [h1] at this; cases this
/-- a new object that will be changed -/
theorem Own.new (O : Own B H l) (h : H p = none) (no : isTup o = false) : Own B (upd H p o) ((p, o) :: l) where
  sub := fun b u e => by rw [upd_ne (ne_of_none (O.sub b u e) h)]; exact O.sub b u e
  tup := fun b xs e => by
    by_cases q : b = p
    · subst q
      rw [upd_same] at e
      cases e; cases no
    · rw [upd_ne q] at e; exact O.tup b xs e
  at_ := fun x hx => by
    rcases List.mem_cons.mp hx with e | e
    · subst e; exact ⟨O.free h, upd_same⟩
    · obtain ⟨h1, h2⟩ := O.at_ x e
      exact ⟨h1, by rw [upd_ne (ne_of_none h2 h)]; exact h2⟩
  nd := by
    rw [List.map_cons, List.nodup_cons]
    exact ⟨O.nin h, O.nd⟩
/-- a new object that will not be changed -/
theorem Own.frz (O : Own B H l) (h : H p = none) : Own (upd B p o) (upd H p o) l where
  sub := fun b u e => by
    by_cases q : b = p
    · subst q; rw [upd_same] at e ⊢; exact e
    · rw [upd_ne q] at e ⊢; exact O.sub b u e
  tup := fun b xs e => by
    by_cases q : b = p
    · subst q; rw [upd_same] at e ⊢; exact e
    · rw [upd_ne q] at e ⊢; exact O.tup b xs e
  at_ := fun x hx => by
    obtain ⟨h1, h2⟩ := O.at_ x hx
    have ne := ne_of_none h2 h
    exact ⟨by rw [upd_ne ne]; exact h1, by rw [upd_ne ne]; exact h2⟩
  nd := O.nd
theorem Own.same_frz (O : Own B H l) (h : H p = none) : Same B (upd B p o) := fun b u e => by
  rw [upd_ne (ne_of_none e (O.free h))]; exact e
/-- .. told by a new name -/
theorem Own.fz (O : Own B H l) (h : H p = none) : ∃ B', Same B B' ∧ B' p = some o ∧ Own B' (upd H p o) l := ⟨_, O.same_frz h, upd_same, O.frz h⟩
/-- an own object is changed -/
theorem Own.put (O : Own B H l) (i : Nat) (e : l[i]? = some (a, o')) (no : isTup o = false) : Own B (upd H a o) (l.set i (a, o)) where
  sub := fun b u q => by
    have : b ≠ a := fun z => by subst z; rw [O.fresh i e] at q; cases q
    rw [upd_ne this]; exact O.sub b u q
  tup := fun b xs q => by
    by_cases z : b = a
    · subst z
      rw [upd_same] at q; cases q; cases no
    · rw [upd_ne z] at q; exact O.tup b xs q
  at_ := fun x hx => by
    rcases List.mem_or_eq_of_mem_set hx with q | q
    · by_cases z : x.1 = a
      · -- the entry at a is the changed one
        obtain ⟨j, hj⟩ := List.mem_iff_getElem?.mp hx
        have hk : ((l.set i (a, o)).map (·.1))[j]? = some a := by rw [List.getElem?_map, hj]; exact congrArg some z
        have em : (l.set i (a, o)).map (·.1) = l.map (·.1) := by
          rw [List.map_set]
          apply List.ext_getElem?
          intro n
          by_cases c : n = i
          · subst c
            have hn : n < (l.map (·.1)).length := by rw [List.length_map]; exact (List.getElem?_eq_some_iff.mp e).1
            rw [List.getElem?_set_self hn, List.getElem?_map, e]; rfl
          · rw [List.getElem?_set_ne (Ne.symm c)]
        rw [em] at hk
        have hi : (l.map (·.1))[i]? = some a := by rw [List.getElem?_map, e]; rfl
        have : j = i := by
          obtain ⟨h1, e1⟩ := List.getElem?_eq_some_iff.mp hk
          obtain ⟨h2, e2⟩ := List.getElem?_eq_some_iff.mp hi
          exact (List.getElem_inj O.nd).mp (e1.trans e2.symm)
        subst this
        rw [List.getElem?_set_self (List.getElem?_eq_some_iff.mp e).1] at hj
        cases hj
        exact ⟨O.fresh j e, upd_same⟩
      · obtain ⟨h1, h2⟩ := O.at_ x q
        exact ⟨h1, by rw [upd_ne z]; exact h2⟩
    · subst q; exact ⟨O.fresh i e, upd_same⟩
  nd := by
    have em : (l.set i (a, o)).map (·.1) = l.map (·.1) := by
      rw [List.map_set]
      apply List.ext_getElem?
      intro n
      by_cases c : n = i
      · subst c
        have hn : n < (l.map (·.1)).length := by rw [List.length_map]; exact (List.getElem?_eq_some_iff.mp e).1
        rw [List.getElem?_set_self hn, List.getElem?_map, e]; rfl
      · rw [List.getElem?_set_ne (Ne.symm c)]
    rw [em]; exact O.nd
/-- behind a call that leaves all as it was -/
theorem Own.call (O : Own B H l) (s : Same H H') : ∃ B', Same B B' ∧ Own B' H' l ∧ Tups H' B' ∧ ∀ b u, H b = none → H' b = some u → B' b = some u := by
  refine ⟨fun b => if b ∈ l.map (·.1) then none else H' b, fun b u e => ?_, ⟨fun b u e => ?_, fun b xs e => ?_, fun x hx => ?_, O.nd⟩, fun b xs e => ?_, fun b u h e => ?_⟩
  · have : b ∉ l.map (·.1) := fun q => by
      obtain ⟨x, hx, z⟩ := List.mem_map.mp q
      subst z
      rw [(O.at_ x hx).1] at e; cases e
    show (if b ∈ l.map (·.1) then none else H' b) = some u
    rw [if_neg this]; exact s b u (O.sub b u e)
  · by_cases q : b ∈ l.map (·.1)
    · have e : (if b ∈ l.map (·.1) then none else H' b) = some u := e
      rw [if_pos q] at e; cases e
    · have e : (if b ∈ l.map (·.1) then none else H' b) = some u := e
      rw [if_neg q] at e; exact e
  · have : b ∉ l.map (·.1) := fun q => by
      obtain ⟨x, hx, z⟩ := List.mem_map.mp q
      subst z
      have := s _ _ (O.at_ x hx).2
      rw [e] at this
      exact O.ntup (a := x.1) (o := x.2) hx xs (Option.some.inj this).symm
    show (if b ∈ l.map (·.1) then none else H' b) = some (.tup xs)
    rw [if_neg this]; exact e
  · have : x.1 ∈ l.map (·.1) := List.mem_map_of_mem hx
    exact ⟨by show (if x.1 ∈ l.map (·.1) then none else H' x.1) = none; rw [if_pos this], s _ _ (O.at_ x hx).2⟩
  · have : b ∉ l.map (·.1) := fun q => by
      obtain ⟨x, hx, z⟩ := List.mem_map.mp q
      subst z
      have := s _ _ (O.at_ x hx).2
      rw [e] at this
      exact O.ntup (a := x.1) (o := x.2) hx xs (Option.some.inj this).symm
    show (if b ∈ l.map (·.1) then none else H' b) = some (.tup xs)
    rw [if_neg this]; exact e
  · show (if b ∈ l.map (·.1) then none else H' b) = some u
    rw [if_neg (O.nin h)]; exact e
/-- behind a call that makes a thing that will be changed -/
theorem Own.callNew (O : Own B H l) (s : Same H H') (hn : H p = none) (hp : H' p = some o) (no : isTup o = false) :
    ∃ B', Same B B' ∧ Own B' H' ((p, o) :: l) ∧ Tups H' B' ∧ ∀ b u, b ≠ p → H b = none → H' b = some u → B' b = some u := by
  obtain ⟨B1, s1, O1, t1, f1⟩ := O.call s
  have e1 : B1 p = some o := f1 p o hn hp
  have hB : B p = none := O.free hn
  refine ⟨fun b => if b = p then none else B1 b, fun b u e => ?_, ⟨fun b u e => ?_, fun b xs e => ?_, fun x hx => ?_, ?_⟩, fun b xs e => ?_, fun b u ne h e => ?_⟩
  · have : b ≠ p := ne_of_none e hB
    show (if b = p then none else B1 b) = some u
    rw [if_neg this]; exact s1 b u e
  · have e : (if b = p then none else B1 b) = some u := e
    by_cases q : b = p
    · rw [if_pos q] at e; cases e
    · rw [if_neg q] at e; exact O1.sub b u e
  · have : b ≠ p := fun q => by subst q; rw [hp] at e; cases e; cases no
    show (if b = p then none else B1 b) = some (.tup xs)
    rw [if_neg this]; exact t1 b xs e
  · rcases List.mem_cons.mp hx with q | q
    · subst q
      exact ⟨by show (if p = p then none else B1 p) = none; rw [if_pos rfl], hp⟩
    · obtain ⟨h1, h2⟩ := O1.at_ x q
      refine ⟨?_, h2⟩
      show (if x.1 = p then none else B1 x.1) = none
      split
      · rfl
      · exact h1
  · rw [List.map_cons, List.nodup_cons]
    exact ⟨O.nin hn, O.nd⟩
  · have : b ≠ p := fun q => by subst q; rw [hp] at e; cases e; cases no
    show (if b = p then none else B1 b) = some (.tup xs)
    rw [if_neg this]; exact t1 b xs e
  · show (if b = p then none else B1 b) = some u
    rw [if_neg ne]; exact f1 b u h e
/-- own things are let go -/
theorem Own.drop (O : Own B H l) {l' : List (Addr × HO)} (s : List.Sublist l' l) : Own B H l' := ⟨O.sub, O.tup, fun p hp => O.at_ p (s.subset hp), (s.map _).nodup O.nd⟩
/-- an own thing will not be changed any more -/
theorem Own.keep (O : Own B H ((a, o) :: l)) : ∃ B', Same B B' ∧ B' a = some o ∧ Own B' H l := by
  have hn : B a = none := O.fresh 0 rfl
  have nd := O.nd
  rw [List.map_cons, List.nodup_cons] at nd
  refine ⟨upd B a o, fun b u e => by rw [upd_ne (ne_of_none e hn)]; exact e, upd_same, fun b u e => ?_, fun b xs e => ?_, fun x hx => ?_, nd.2⟩
  · by_cases q : b = a
    · subst q; rw [upd_same] at e; cases e; exact O.get 0 rfl
    · rw [upd_ne q] at e; exact O.sub b u e
  · by_cases q : b = a
    · subst q
      have := O.get 0 rfl
      rw [upd_same]; rw [this] at e; exact e
    · rw [upd_ne q]; exact O.tup b xs e
  · obtain ⟨h1, h2⟩ := O.at_ x (List.mem_cons_of_mem _ hx)
    have : x.1 ≠ a := fun z => nd.1 (z ▸ (List.mem_map_of_mem hx : x.1 ∈ l.map (·.1)))
    exact ⟨by rw [upd_ne this]; exact h1, h2⟩
/-- own things that will not be changed any more -/
theorem Own.keepAll : ∀ {l1 l2 : List (Addr × HO)} {B H : Hp}, Own B H (l1 ++ l2) → ∃ B', Same B B' ∧ (∀ p ∈ l1, B' p.1 = some p.2) ∧ Own B' H l2
  | [], _, B, _, O => ⟨B, Same.refl B, (fun _ h => nomatch h), O⟩
  | (a, o) :: l1, l2, B, H, O => by
    obtain ⟨B1, s1, h1, O1⟩ := Own.keep (l := l1 ++ l2) O
    obtain ⟨B2, s2, h2, O2⟩ := Own.keepAll O1
    refine ⟨B2, s1.trans s2, fun p hp => ?_, O2⟩
    rcases List.mem_cons.mp hp with q | q
    · subst q; exact s2 _ _ h1
    · exact h2 p q
/-- two own things change places -/
theorem Own.perm (O : Own B H l) {l' : List (Addr × HO)} (h : List.Perm l' l) : Own B H l' := ⟨O.sub, O.tup, fun p hp => O.at_ p (h.mem_iff.mp hp), (h.map _).nodup_iff.mpr O.nd⟩
end

theorem Rps.rev {B : Hp} : ∀ {ks : List NestedKey} {vs : List V}, Rps B ks vs → Rps B ks.reverse vs.reverse
  | [], _, h => by rw [h.nilD]; exact .nil
  | k :: ks, _, h => by
    obtain ⟨v, r, rfl, q, z⟩ := h.consD
    rw [List.reverse_cons, List.reverse_cons]
    exact (Rps.rev z).snoc q
/-- for i, x in enumerate(xs) -/
theorem for_enum {K : PySem.W.Frag} {a : Addr} {xs : List V} {g : TG} {tb : TS} {D : Ends} {σ : L2.St} {H : Hp} (Pv : Nat → L2.St → Hp → Prop) (h0 : Pv 0 σ H) (hl : ∀ i σ H, i ≤ xs.length → Pv i σ H → SqL K H a xs)
    (hs : ∀ (i : Nat) x σ H T, xs[i]? = some x → Pv i σ H → H T = none → g (.ref T) σ (upd H T (.tup [.int (i : Nat), x])) fun σ2 H2 => tb { D with nx := Pv (i + 1), ct := Pv (i + 1), bk := D.nx } σ2 H2) (hd : ∀ σ H, Pv xs.length σ H → D.nx σ H) :
    ∃ W : Nat → Nat → L2.St → Hp → Prop, (∃ m, W 0 m σ H) ∧ ∀ i m σ H, W i m σ H →
      ((Ite K a).stop i H ∧ D.nx σ H) ∨ ((Ite K a).go i H ∧ ∃ N : L2.St → Hp → Prop, (∀ σ' H', N σ' H' → ∃ m', m' < m ∧ W (i + 1) m' σ' H') ∧
        ∀ x H', (Ite K a).yld i H x H' → g x σ H' fun σ2 H2 => tb { D with nx := N, ct := N, bk := D.nx } σ2 H2) := by
  refine ⟨fun i m σ H => m = xs.length - i ∧ i ≤ xs.length ∧ Pv i σ H, ⟨_, rfl, Nat.zero_le _, h0⟩, ?_⟩
  rintro i m σ H ⟨rfl, hi, p⟩
  have sq := hl i σ H hi p
  by_cases c : i < xs.length
  · refine .inr ⟨⟨xs, xs[i], sq, List.getElem?_eq_getElem c⟩, Pv (i + 1), fun σ' H' p' => ⟨xs.length - (i + 1), by omega, rfl, c, p'⟩, ?_⟩
    rintro v H' ⟨T, x, rfl, hT, rfl, hx⟩
    exact hs i x σ H T (hx xs sq) p hT
  · have e : i = xs.length := by omega
    subst e
    exact .inl ⟨⟨xs, sq, Nat.le_refl _⟩, hd σ H p⟩
/-- [.. for i, x in enumerate(xs)] -/
theorem lc_enum {K : PySem.W.Frag} {a : Addr} {xs : List V} {g : TG} {tt : TT} {te : TE} {vs : List Nat} {σ : L2.St} {H1 : Hp} {D : Addr} {Qd : Hp → Prop} (Pv : Nat → Hp → Prop) (h0 : Pv 0 (upd H1 D (.lst []))) (hl : ∀ i H, i ≤ xs.length → Pv i H → SqL K H a xs)
    (hs : ∀ (i : Nat) x H T, xs[i]? = some x → Pv i H → H T = none → g (.ref T) (wipe σ vs) (upd H T (.tup [.int (i : Nat), x])) fun σ2 H2 => wipe σ2 vs = wipe σ vs ∧ tt σ2 H2 fun b H3 =>
      if b = true then te σ2 H3 fun y H4 => ∃ acc, H4 D = some (.lst acc) ∧ acc.length < sizeLine ∧ Pv (i + 1) (upd H4 D (.lst (acc ++ [y]))) else Pv (i + 1) H3) (hd : ∀ H, Pv xs.length H → Qd H) :
    ∃ W : Nat → Nat → Hp → Prop, (∃ m, W 0 m (upd H1 D (.lst []))) ∧ ∀ i m H, W i m H →
      ((Ite K a).stop i H ∧ Qd H) ∨ ((Ite K a).go i H ∧ ∃ Nx : Hp → Prop, (∀ H', Nx H' → ∃ m', m' < m ∧ W (i + 1) m' H') ∧
        ∀ x H', (Ite K a).yld i H x H' → g x (wipe σ vs) H' fun σ2 H2 => wipe σ2 vs = wipe σ vs ∧ tt σ2 H2 fun b H3 =>
          if b = true then te σ2 H3 fun y H4 => ∃ acc, H4 D = some (.lst acc) ∧ acc.length < sizeLine ∧ Nx (upd H4 D (.lst (acc ++ [y]))) else Nx H3) := by
  refine ⟨fun i m H => m = xs.length - i ∧ i ≤ xs.length ∧ Pv i H, ⟨_, rfl, Nat.zero_le _, h0⟩, ?_⟩
  rintro i m H ⟨rfl, hi, p⟩
  have sq := hl i H hi p
  by_cases c : i < xs.length
  · refine .inr ⟨⟨xs, xs[i], sq, List.getElem?_eq_getElem c⟩, Pv (i + 1), fun H' p' => ⟨xs.length - (i + 1), by omega, rfl, c, p'⟩, ?_⟩
    rintro v H' ⟨T, x, rfl, hT, rfl, hx⟩
    exact hs i x H T (hx xs sq) p hT
  · have e : i = xs.length := by omega
    subst e
    exact .inl ⟨⟨xs, sq, Nat.le_refl _⟩, hd H p⟩
/-- for x in d.values() -/
theorem for_valsN {w : World} {d : Addr} {o : Obj} {xs : List (NestedKey × Addr × V)} {g : TG} {tb : TS} {D : Ends} {σ : L2.St} {H : Hp} (Pv : Nat → L2.St → Hp → Prop) (h0 : Pv 0 σ H) (hl : ∀ i σ H, i ≤ xs.length → Pv i σ H → H d = some (.frz o (dN w d xs)))
    (hs : ∀ (i : Nat) k a x σ H, xs[i]? = some (k, a, x) → Pv i σ H → g x σ H fun σ2 H2 => tb { D with nx := Pv (i + 1), ct := Pv (i + 1), bk := D.nx } σ2 H2) (hd : ∀ σ H, Pv xs.length σ H → D.nx σ H) :
    ∃ W : Nat → Nat → L2.St → Hp → Prop, (∃ m, W 0 m σ H) ∧ ∀ i m σ H, W i m σ H →
      ((ItdN w d o xs).stop i H ∧ D.nx σ H) ∨ ((ItdN w d o xs).go i H ∧ ∃ N : L2.St → Hp → Prop, (∀ σ' H', N σ' H' → ∃ m', m' < m ∧ W (i + 1) m' σ' H') ∧
        ∀ x H', (ItdN w d o xs).yld i H x H' → g x σ H' fun σ2 H2 => tb { D with nx := N, ct := N, bk := D.nx } σ2 H2) := by
  refine ⟨fun i m σ H => m = xs.length - i ∧ i ≤ xs.length ∧ Pv i σ H, ⟨_, rfl, Nat.zero_le _, h0⟩, ?_⟩
  rintro i m σ H ⟨rfl, hi, p⟩
  have sq := hl i σ H hi p
  by_cases c : i < xs.length
  · refine .inr ⟨⟨sq, c⟩, Pv (i + 1), fun σ' H' p' => ⟨xs.length - (i + 1), by omega, rfl, c, p'⟩, ?_⟩
    rintro v H' ⟨rfl, k, a, hx⟩
    exact hs i k a v σ _ hx p
  · have e : i = xs.length := by omega
    subst e
    exact .inl ⟨⟨sq, Nat.le_refl _⟩, hd σ H p⟩
/-- {.. for x in xs} -/
theorem dc_listN {w : World} {K : PySem.W.Frag} {a : Addr} {xs : List V} {g : TG} {tt : TT} {tk tv : TE} {vs : List Nat} {σ : L2.St} {H1 : Hp} {D : Addr} {Qd : Hp → Prop} (Pv : Nat → Hp → Prop) (h0 : Pv 0 (upd H1 D (dN w D []))) (hl : ∀ i H, i ≤ xs.length → Pv i H → SqL K H a xs)
    (hs : ∀ (i : Nat) x H, xs[i]? = some x → Pv i H → dcTurn w D vs σ g tt tk tv (Pv (i + 1)) x H) (hd : ∀ H, Pv xs.length H → Qd H) :
    ∃ W : Nat → Nat → Hp → Prop, (∃ m, W 0 m (upd H1 D (dN w D []))) ∧ ∀ i m H, W i m H →
      ((Itl K a).stop i H ∧ Qd H) ∨ ((Itl K a).go i H ∧ ∃ N : Hp → Prop, (∀ H', N H' → ∃ m', m' < m ∧ W (i + 1) m' H') ∧ ∀ x H', (Itl K a).yld i H x H' → dcTurn w D vs σ g tt tk tv N x H') := by
  refine ⟨fun i m H => m = xs.length - i ∧ i ≤ xs.length ∧ Pv i H, ⟨_, rfl, Nat.zero_le _, h0⟩, ?_⟩
  rintro i m H ⟨rfl, hi, p⟩
  have sq := hl i H hi p
  by_cases c : i < xs.length
  · refine .inr ⟨⟨xs, xs[i], sq, List.getElem?_eq_getElem c⟩, Pv (i + 1), fun H' p' => ⟨xs.length - (i + 1), by omega, rfl, c, p'⟩, ?_⟩
    rintro v H' ⟨rfl, hx⟩
    exact hs i v _ (hx xs sq) p
  · have e : i = xs.length := by omega
    subst e
    exact .inl ⟨⟨xs, sq, Nat.le_refl _⟩, hd H p⟩
/-- {.. for k in d} -/
theorem dc_keysN {w : World} {d : Addr} {o : Obj} {xs : List (NestedKey × Addr × V)} {g : TG} {tt : TT} {tk tv : TE} {vs : List Nat} {σ : L2.St} {H1 : Hp} {D : Addr} {Qd : Hp → Prop} (Pv : Nat → Hp → Prop) (h0 : Pv 0 (upd H1 D (dN w D []))) (hl : ∀ i H, i ≤ xs.length → Pv i H → H d = some (.frz o (dN w d xs)))
    (hs : ∀ (i : Nat) k a v H, xs[i]? = some (k, a, v) → Pv i H → dcTurn w D vs σ g tt tk tv (Pv (i + 1)) (.ref a) H) (hd : ∀ H, Pv xs.length H → Qd H) :
    ∃ W : Nat → Nat → Hp → Prop, (∃ m, W 0 m (upd H1 D (dN w D []))) ∧ ∀ i m H, W i m H →
      ((ItkN w d o xs).stop i H ∧ Qd H) ∨ ((ItkN w d o xs).go i H ∧ ∃ N : Hp → Prop, (∀ H', N H' → ∃ m', m' < m ∧ W (i + 1) m' H') ∧ ∀ x H', (ItkN w d o xs).yld i H x H' → dcTurn w D vs σ g tt tk tv N x H') := by
  refine ⟨fun i m H => m = xs.length - i ∧ i ≤ xs.length ∧ Pv i H, ⟨_, rfl, Nat.zero_le _, h0⟩, ?_⟩
  rintro i m H ⟨rfl, hi, p⟩
  have sq := hl i H hi p
  by_cases c : i < xs.length
  · refine .inr ⟨⟨sq, c⟩, Pv (i + 1), fun H' p' => ⟨xs.length - (i + 1), by omega, rfl, c, p'⟩, ?_⟩
    rintro x H' ⟨rfl, k, a, v, hx, rfl⟩
    exact hs i k a v _ hx p
  · have e : i = xs.length := by omega
    subst e
    exact .inl ⟨⟨sq, Nat.le_refl _⟩, hd H p⟩
theorem yes_t {σ : L2.St} {H : Hp} {A B : Hp → Prop} (h : A H) : tYes σ H (fun b H3 => if b = true then A H3 else B H3) := by
  show (if true = true then A H else B H)
  rw [if_pos rfl]; exact h
theorem valN_of_get : ∀ {xs : List (NestedKey × Addr × V)} {i : Nat} {k : NestedKey} {a : Addr} {v : V}, (xs.map (·.1)).Nodup → xs[i]? = some (k, a, v) → valN xs k = some v
  | [], _, _, _, _, _, h => by simp at h
  | p :: r, 0, k, a, v, _, h => by
    simp at h
    subst h
    exact valN_pos rfl
  | p :: r, i + 1, k, a, v, nd, h => by
    rw [List.map_cons, List.nodup_cons] at nd
    have h' : r[i]? = some (k, a, v) := by simpa using h
    have : ¬ p.1 = k := fun e => nd.1 (e ▸ List.mem_map.mpr ⟨_, List.mem_of_getElem? h', rfl⟩)
    rw [valN_neg this]
    exact valN_of_get nd.2 h'
theorem valN_get {xs : List (NestedKey × Addr × V)} {k : NestedKey} {v : V} (h : valN xs k = some v) : ∃ (i : Nat) (a : Addr), xs[i]? = some (k, a, v) := by
  unfold valN at h
  obtain ⟨x, hx, e⟩ := Option.map_eq_some_iff.mp h
  have hm := List.mem_of_find?_eq_some hx
  have hk := List.find?_some hx
  obtain ⟨i, hi⟩ := List.mem_iff_getElem?.mp hm
  have : x.1 = k := by simpa using hk
  subst this; subst e
  exact ⟨i, x.2.1, hi⟩
theorem dget_of {H : Hp} {a : Addr} {kvs : List (Key × V)} {k : Key} {v : V} (h : H a = some (.dK kvs)) (e : valV kvs k = some v) : DGet H a (kV k) (some v) := e ▸ DGet.k h
theorem length_putK_old {kvs : List (Key × V)} {k : Key} {v : V} (h : (valV kvs k).isSome = true) : (putK kvs k v).length = kvs.length := by
  unfold putK
  rw [valV_any, if_pos h, List.length_map]
/-! ### rules for a comprehension's block: what they read of the context is told by name -/
section
variable {X : Cx} {o i tg e : Expr} {f : Str} {pos : Pos} {ta td ty : TE} {n : Nat} {K : PySem.W.Frag} {w : World}
def rLenQ (K : PySem.W.Frag) : List V → Hp → VK → Prop := fun xs H Q => ∃ p ys, xs = [.ref p] ∧ (SqL K H p ys ∨ SqT K H p ys) ∧ Q (.int ys.length) H
def rListQ (K : PySem.W.Frag) : List V → Hp → VK → Prop := fun xs H Q => ∃ p ys, xs = [.ref p] ∧ (SqL K H p ys ∨ SqT K H p ys) ∧ ∀ l, H l = none → Q (.ref l) (upd H l (.lst ys))
def rTupQ (K : PySem.W.Frag) : List V → Hp → VK → Prop := fun xs H Q => ∃ p ys, xs = [.ref p] ∧ ((SqL K H p ys ∧ ∀ l, H l = none → Q (.ref l) (upd H l (.tup ys))) ∨ (SqT K H p ys ∧ Q (.ref p) H))
theorem pe_ngetB (hr : Room n X.A) (ho : PE X o td) (hi : PE X i ty) (hs : NoSl i) (hw : X.w = w := by rfl) : PE X (.Subscript o i pos) (tNGet w td ty) := by subst hw; exact pe_nget hr ho hi hs
theorem pe_fldB (he : PE X e ta) (hb : attributeBase e f X.env (eval e X.env) = eval e X.env) (hK : X.K = K := by rfl) : PE X (.Attribute e f pos) (tFld K ta f) := by subst hK; exact pe_fld he hb
theorem call_lenB (hK : X.K = K := by rfl) : CallR X (.builtin "len") (rLenQ K) := by subst hK; exact call_len_seq
theorem call_listB (hK : X.K = K := by rfl) : CallR X (.type "list") (rListQ K) := by subst hK; exact call_list_of
theorem call_tupB (hK : X.K = K := by rfl) : CallR X (.type "tuple") (rTupQ K) := by subst hK; exact call_tuple_of
theorem ix_listB (hK : X.K = K := by rfl) : IxR X (rIxL K) := by subst hK; exact ix_list
theorem ix_tupB (hK : X.K = K := by rfl) : IxR X (rIxT K) := by subst hK; exact ix_tup
theorem pi_listB (h : PE X e ta) (hK : X.K = K := by rfl) : PI X tg e (iList K ta) := by subst hK; exact pi_list h
theorem pi_tupB (h : PE X e ta) (hK : X.K = K := by rfl) : PI X tg e (iTup K ta) := by subst hK; exact pi_tup h
theorem op_inB (hK : X.K = K := by rfl) : OpR X (compareOp .In) (rIn K false) := by subst hK; exact op_in_seq
theorem op_notInB (hK : X.K = K := by rfl) : OpR X (compareOp .NotIn) (rIn K true) := by subst hK; exact op_notIn_seq
end
/-! ### defs by name -/
section
variable (P : Program) (w : World) (K : PySem.W.Frag) (mg : Str → Option Value) (base : Heap)
/-- a def of the module, its promise -/
def Cal (x : Str) (k : Nat) (ps : List Str) (sp : Sp) : Prop := ∃ f fd, FnOk P w K mg base CX0 k f fd ps sp ∧ mg x = some (.ref f) ∧ PySem.W.keepIn K (.ref f) = true ∧ Binds K fd ps []
/-- a method of the class at C -/
def MCal (C : Addr) (m : Str) (k : Nat) (ps : List Str) (sp : Sp) : Prop := ∃ f fd, FnOk P w K mg base CX0 k f fd ps sp ∧ Meth K C m f ∧ Binds K fd ps [] ∧ Cls K C
/-- a class that is called -/
def ICal (x : Str) (C : Addr) (k : Nat) (ps : List Str) (sp : Sp) : Prop := ∃ f fd, FnOk P w K mg base CX0 k f fd ps sp ∧ Mk K C f ∧ Binds K fd ps [] ∧ mg x = some (.ref C)
end
end ND
end
section
set_option Elab.async false
set_option linter.all false
set_option maxRecDepth 100000
set_option maxHeartbeats 4000000
namespace ND
open PySem PySem.W PySem.Spec PyProof.Rows L2
/-- a tuple once is itself -/
theorem tuple_mul1 (l : Addr) (items : Array Value) (n : Nat) (dd : Option Addr) (sl : Array (Option Value)) (u : Tok) :
    Meets (Builtin.«tuple.__mul__» ⟨[.ref l, .int 1 u], []⟩) (fun _ R s => s.heap.get? l = some { cls := .type "tuple", dict := dd, data := .seq items n, slots := sl } ∧ R (.ok (.ret (Value.ref l))) s) :=
  .of_wp fun prog w A R s h => by
    obtain ⟨hp, g, d, tk, os⟩ := s
    obtain ⟨hl, h⟩ := h
    have f1 := AutoSeq1.idx_int
    wp_walk using wpAny_loadPart' hl
    exact ⟨_, rfl, h⟩
def rMulT (K : PySem.W.Frag) : R2 := fun x y H Q => ∃ l k xs, x = .ref l ∧ y = .int k ∧ SqT K H l xs ∧ xs ≠ [] ∧ 1 ≤ k ∧ k ≤ 1000 ∧ xs.length ≤ 1000 ∧ (k = 1 → Q (.ref l) H) ∧
  (2 ≤ k → ∀ p, H p = none → Q (.ref p) (upd H p (.tup (List.replicate k.toNat xs).flatten)))
theorem op_mulT {X : Cx} : OpR X (binaryOp .Mult) (rMulT X.K) := by
  intro pins s σ H x y v u Q I rx ry h
  obtain ⟨l, k, xs, rfl, rfl, hT, hne, h1, h2, hz, q1, q2⟩ := h
  by_cases e : k = 1
  · subst e
    cases rx
    obtain ⟨t, rfl⟩ := ry
    obtain ⟨its, r, ⟨⟨cls, dd, data, sl⟩, ho, hc, n, hd⟩, hs⟩ := I.tuple hT
    simp only at hc hd
    subst hc hd
    refine wpAny_binaryOp_repeat_ref (T := "tuple") (U := "int") (by decide) ⟨_, ho, rfl⟩ (fun s' => typeIs_int s' 1 t) noFill_tuple_mul PySem.F.fills_int_mul PySem.F.slot_int_rmul repeat_tuple PySem.F.slot_int_index.lookup
      (call_meets PySem.F.slot_int_rmul (typeIs_int s 1 t) PySem.F.entry_int_rmul (PySem.F.args_int_rmul_2 _ _) (int_rmul_tuple 1 t l its.toArray n dd sl)
        ⟨ho, rfl, ⟨_, ho, rfl⟩, call_meets PySem.F.slot_tuple_mul ⟨_, ho, rfl⟩ PySem.F.entry_tuple_mul (PySem.F.args_tuple_mul_2 _ _) (tuple_mul1 l its.toArray n dd sl t) ⟨ho, ?_⟩⟩)
    exact ⟨.ref l, H, I, rfl, q1 rfl⟩
  · exact op_repT pins s σ H (.ref l) (.int k) v u Q I rx ry ⟨l, k, xs, rfl, rfl, hT, hne, by omega, h2, hz, q2 (by omega)⟩
end ND
end
section
set_option Elab.async false
set_option linter.all false
set_option maxRecDepth 100000
set_option maxHeartbeats 4000000
namespace ND
open PySem L2
open PyProof.Rows (envOfC)
def top (i : Nat) : Stmt := PySem.Challenge.pw_firstbreach_k63_whole_sequences_of_acts.main.body.getD i (.Pass ⟨0, 0, 0, 0⟩)
abbrev s_way_to : Stmt := top 1
abbrev N_way_to : List Str := ["origin", "node", "labels", "label"]
abbrev P_way_to : List Str := ["origin", "node"]
theorem sc_way_to : FnScope N_way_to P_way_to (defScope s_way_to) := ⟨rfl, rfl, rfl, by decide +kernel, rfl, by decide +kernel, by decide +kernel⟩
abbrev s_reach : Stmt := top 2
abbrev N_reach : List Str := ["graph", "nodes", "origin", "node", "ahead", "at", "steps", "label", "then", "weight"]
abbrev P_reach : List Str := ["graph"]
theorem sc_reach : FnScope N_reach P_reach (defScope s_reach) := ⟨rfl, rfl, rfl, by decide +kernel, rfl, by decide +kernel, by decide +kernel⟩
abbrev s_leaving_order : Stmt := top 3
abbrev N_leaving_order : List Str := ["nodes", "ahead", "order", "seen", "first", "stack", "node", "at", "then"]
abbrev P_leaving_order : List Str := ["nodes", "ahead"]
theorem sc_leaving_order : FnScope N_leaving_order P_leaving_order (defScope s_leaving_order) := ⟨rfl, rfl, rfl, by decide +kernel, rfl, by decide +kernel, by decide +kernel⟩
abbrev s_components : Stmt := top 4
abbrev N_components : List Str := ["nodes", "ahead", "behind", "node", "label", "then", "weight", "order", "parts", "count", "first", "queue", "other"]
abbrev P_components : List Str := ["nodes", "ahead"]
theorem sc_components : FnScope N_components P_components (defScope s_components) := ⟨rfl, rfl, rfl, by decide +kernel, rfl, by decide +kernel, by decide +kernel⟩
abbrev s_way_within : Stmt := top 5
abbrev N_way_within : List Str := ["ahead", "parts", "start", "goal", "origin", "queue", "at", "label", "then", "weight"]
abbrev P_way_within : List Str := ["ahead", "parts", "start", "goal"]
theorem sc_way_within : FnScope N_way_within P_way_within (defScope s_way_within) := ⟨rfl, rfl, rfl, by decide +kernel, rfl, by decide +kernel, by decide +kernel⟩
abbrev s_heaviest : Stmt := top 6
abbrev N_heaviest : List Str := ["graph", "nodes", "ahead", "origin", "parts", "node", "label", "then", "weight", "best", "part", "at"]
abbrev P_heaviest : List Str := ["graph"]
theorem sc_heaviest : FnScope N_heaviest P_heaviest (defScope s_heaviest) := ⟨rfl, rfl, rfl, by decide +kernel, rfl, by decide +kernel, by decide +kernel⟩
abbrev s_Settled_init : Stmt := inClass (top 8) 0
abbrev N_Settled_init : List Str := ["self", "numbers", "lead", "loop"]
abbrev P_Settled_init : List Str := ["self", "numbers", "lead", "loop"]
theorem sc_Settled_init : FnScope N_Settled_init P_Settled_init (defScope s_Settled_init) := ⟨rfl, rfl, rfl, by decide +kernel, rfl, by decide +kernel, by decide +kernel⟩
abbrev s_Settled_bool : Stmt := inClass (top 8) 1
abbrev N_Settled_bool : List Str := ["self"]
abbrev P_Settled_bool : List Str := ["self"]
theorem sc_Settled_bool : FnScope N_Settled_bool P_Settled_bool (defScope s_Settled_bool) := ⟨rfl, rfl, rfl, by decide +kernel, rfl, by decide +kernel, by decide +kernel⟩
abbrev s_WastedActs_init : Stmt := inClass (top 9) 0
abbrev N_WastedActs_init : List Str := ["self", "hall"]
abbrev P_WastedActs_init : List Str := ["self", "hall"]
theorem sc_WastedActs_init : FnScope N_WastedActs_init P_WastedActs_init (defScope s_WastedActs_init) := ⟨rfl, rfl, rfl, by decide +kernel, rfl, by decide +kernel, by decide +kernel⟩
abbrev s_WastedActs_first_nodes : Stmt := inClass (top 9) 1
abbrev N_WastedActs_first_nodes : List Str := ["self"]
abbrev P_WastedActs_first_nodes : List Str := ["self"]
theorem sc_WastedActs_first_nodes : FnScope N_WastedActs_first_nodes P_WastedActs_first_nodes (defScope s_WastedActs_first_nodes) := ⟨rfl, rfl, rfl, by decide +kernel, rfl, by decide +kernel, by decide +kernel⟩
abbrev s_WastedActs_ways_on : Stmt := inClass (top 9) 2
abbrev N_WastedActs_ways_on : List Str := ["self", "node", "core", "pick", "then", "ran", "wasted"]
abbrev P_WastedActs_ways_on : List Str := ["self", "node"]
theorem sc_WastedActs_ways_on : FnScope N_WastedActs_ways_on P_WastedActs_ways_on (defScope s_WastedActs_ways_on) := ⟨rfl, rfl, rfl, by decide +kernel, rfl, by decide +kernel, by decide +kernel⟩
abbrev s_PassingActs_init : Stmt := inClass (top 10) 0
abbrev N_PassingActs_init : List Str := ["self", "hall", "task"]
abbrev P_PassingActs_init : List Str := ["self", "hall", "task"]
theorem sc_PassingActs_init : FnScope N_PassingActs_init P_PassingActs_init (defScope s_PassingActs_init) := ⟨rfl, rfl, rfl, by decide +kernel, rfl, by decide +kernel, by decide +kernel⟩
abbrev s_PassingActs_first_nodes : Stmt := inClass (top 10) 1
abbrev N_PassingActs_first_nodes : List Str := ["self"]
abbrev P_PassingActs_first_nodes : List Str := ["self"]
theorem sc_PassingActs_first_nodes : FnScope N_PassingActs_first_nodes P_PassingActs_first_nodes (defScope s_PassingActs_first_nodes) := ⟨rfl, rfl, rfl, by decide +kernel, rfl, by decide +kernel, by decide +kernel⟩
abbrev s_PassingActs_ways_on : Stmt := inClass (top 10) 2
abbrev N_PassingActs_ways_on : List Str := ["self", "node", "position", "phase", "found", "core", "pick", "then", "ran", "wasted"]
abbrev P_PassingActs_ways_on : List Str := ["self", "node"]
theorem sc_PassingActs_ways_on : FnScope N_PassingActs_ways_on P_PassingActs_ways_on (defScope s_PassingActs_ways_on) := ⟨rfl, rfl, rfl, by decide +kernel, rfl, by decide +kernel, by decide +kernel⟩
abbrev s_settle : Stmt := top 11
abbrev N_settle : List Str := ["hall", "numbers", "ring", "lead", "loop"]
abbrev P_settle : List Str := ["hall"]
theorem sc_settle : FnScope N_settle P_settle (defScope s_settle) := ⟨rfl, rfl, rfl, by decide +kernel, rfl, by decide +kernel, by decide +kernel⟩
abbrev s_serve : Stmt := top 12
abbrev N_serve : List Str := ["hall", "task", "numbers", "ring", "lead", "loop", "position", "phase", "label"]
abbrev P_serve : List Str := ["hall", "task"]
theorem sc_serve : FnScope N_serve P_serve (defScope s_serve) := ⟨rfl, rfl, rfl, by decide +kernel, rfl, by decide +kernel, by decide +kernel⟩
abbrev s_Taking_init : Stmt := inClass (top 21) 0
abbrev N_Taking_init : List Str := ["self", "least", "rules", "entry", "rule"]
abbrev P_Taking_init : List Str := ["self", "least", "rules"]
theorem sc_Taking_init : FnScope N_Taking_init P_Taking_init (defScope s_Taking_init) := ⟨rfl, rfl, rfl, by decide +kernel, rfl, by decide +kernel, by decide +kernel⟩
abbrev s_Taking_lets : Stmt := inClass (top 21) 1
abbrev N_Taking_lets : List Str := ["self", "own", "other"]
abbrev P_Taking_lets : List Str := ["self", "own", "other"]
theorem sc_Taking_lets : FnScope N_Taking_lets P_Taking_lets (defScope s_Taking_lets) := ⟨rfl, rfl, rfl, by decide +kernel, rfl, by decide +kernel, by decide +kernel⟩
abbrev s_Hall_init : Stmt := inClass (top 22) 0
abbrev N_Hall_init : List Str := ["self", "queues", "taking", "tasks", "queue", "task"]
abbrev P_Hall_init : List Str := ["self", "queues", "taking"]
theorem sc_Hall_init : FnScope N_Hall_init P_Hall_init (defScope s_Hall_init) := ⟨rfl, rfl, rfl, by decide +kernel, rfl, by decide +kernel, by decide +kernel⟩
abbrev s_Hall_start : Stmt := inClass (top 22) 1
abbrev N_Hall_start : List Str := ["self"]
abbrev P_Hall_start : List Str := ["self"]
theorem sc_Hall_start : FnScope N_Hall_start P_Hall_start (defScope s_Hall_start) := ⟨rfl, rfl, rfl, by decide +kernel, rfl, by decide +kernel, by decide +kernel⟩
abbrev s_Hall_picks : Stmt := inClass (top 22) 2
abbrev N_Hall_picks : List Str := ["self", "position", "core", "queues", "looks", "others", "longest", "other"]
abbrev P_Hall_picks : List Str := ["self", "position", "core"]
theorem sc_Hall_picks : FnScope N_Hall_picks P_Hall_picks (defScope s_Hall_picks) := ⟨rfl, rfl, rfl, by decide +kernel, rfl, by decide +kernel, by decide +kernel⟩
abbrev s_Hall_take : Stmt := inClass (top 22) 3
abbrev N_Hall_take : List Str := ["self", "queues", "core", "other", "own", "length", "count"]
abbrev P_Hall_take : List Str := ["self", "queues", "core", "other"]
theorem sc_Hall_take : FnScope N_Hall_take P_Hall_take (defScope s_Hall_take) := ⟨rfl, rfl, rfl, by decide +kernel, rfl, by decide +kernel, by decide +kernel⟩
abbrev s_Hall_acted : Stmt := inClass (top 22) 4
abbrev N_Hall_acted : List Str := ["self", "position", "core", "pick", "queues", "looks", "ran", "wasted", "queue"]
abbrev P_Hall_acted : List Str := ["self", "position", "core", "pick"]
theorem sc_Hall_acted : FnScope N_Hall_acted P_Hall_acted (defScope s_Hall_acted) := ⟨rfl, rfl, rfl, by decide +kernel, rfl, by decide +kernel, by decide +kernel⟩
abbrev s_Hall_acts : Stmt := inClass (top 22) 5
abbrev N_Hall_acts : List Str := ["self", "position", "core", "pick"]
abbrev P_Hall_acts : List Str := ["self", "position"]
theorem sc_Hall_acts : FnScope N_Hall_acts P_Hall_acts (defScope s_Hall_acts) := ⟨rfl, rfl, rfl, by decide +kernel, rfl, by decide +kernel, by decide +kernel⟩
abbrev s_Hall_act : Stmt := inClass (top 22) 6
abbrev N_Hall_act : List Str := ["self", "position", "core", "pick"]
abbrev P_Hall_act : List Str := ["self", "position", "core", "pick"]
theorem sc_Hall_act : FnScope N_Hall_act P_Hall_act (defScope s_Hall_act) := ⟨rfl, rfl, rfl, by decide +kernel, rfl, by decide +kernel, by decide +kernel⟩
abbrev s_Hall_play : Stmt := inClass (top 22) 7
abbrev N_Hall_play : List Str := ["self", "acts", "position", "found", "index", "core", "pick"]
abbrev P_Hall_play : List Str := ["self", "acts"]
theorem sc_Hall_play : FnScope N_Hall_play P_Hall_play (defScope s_Hall_play) := ⟨rfl, rfl, rfl, by decide +kernel, rfl, by decide +kernel, by decide +kernel⟩
abbrev s_l_cell : Stmt := top 24
abbrev N_l_cell : List Str := ["_law_script", "_law_at"]
abbrev P_l_cell : List Str := ["_law_script", "_law_at"]
theorem sc_l_cell : FnScope N_l_cell P_l_cell (defScope s_l_cell) := ⟨rfl, rfl, rfl, by decide +kernel, rfl, by decide +kernel, by decide +kernel⟩
abbrev s_l_draws : Stmt := top 25
abbrev N_l_draws : List Str := ["_law_script", "_law_at", "_law_count", "_law_cell_here", "_law_rest", "_law_mixed", "_law_found", "_law_k"]
abbrev P_l_draws : List Str := ["_law_script", "_law_at", "_law_count"]
theorem sc_l_draws : FnScope N_l_draws P_l_draws (defScope s_l_draws) := ⟨rfl, rfl, rfl, by decide +kernel, rfl, by decide +kernel, by decide +kernel⟩
abbrev s_l_whole : Stmt := top 26
abbrev N_l_whole : List Str := ["_law_told"]
abbrev P_l_whole : List Str := ["_law_told"]
theorem sc_l_whole : FnScope N_l_whole P_l_whole (defScope s_l_whole) := ⟨rfl, rfl, rfl, by decide +kernel, rfl, by decide +kernel, by decide +kernel⟩
abbrev s_l_taking : Stmt := top 27
abbrev N_l_taking : List Str := ["_law_least", "_law_rules"]
abbrev P_l_taking : List Str := ["_law_least", "_law_rules"]
theorem sc_l_taking : FnScope N_l_taking P_l_taking (defScope s_l_taking) := ⟨rfl, rfl, rfl, by decide +kernel, rfl, by decide +kernel, by decide +kernel⟩
abbrev s_l_book : Stmt := top 28
abbrev N_l_book : List Str := ["_law_d", "_law_many", "_law_least", "_law_k"]
abbrev P_l_book : List Str := ["_law_d"]
theorem sc_l_book : FnScope N_l_book P_l_book (defScope s_l_book) := ⟨rfl, rfl, rfl, by decide +kernel, rfl, by decide +kernel, by decide +kernel⟩
abbrev s_l_spread : Stmt := top 29
abbrev N_l_spread : List Str := ["_law_d", "_law_count", "_law_tasks", "_law_queues", "_law_task", "_law_at", "_law_place", "_law_k"]
abbrev P_l_spread : List Str := ["_law_d", "_law_count", "_law_tasks"]
theorem sc_l_spread : FnScope N_l_spread P_l_spread (defScope s_l_spread) := ⟨rfl, rfl, rfl, by decide +kernel, rfl, by decide +kernel, by decide +kernel⟩
abbrev s_l_hall : Stmt := top 30
abbrev N_l_hall : List Str := ["_law_script", "_law_sizes", "_law_d", "_law_count", "_law_tasks", "_law_least", "_law_rules"]
abbrev P_l_hall : List Str := ["_law_script"]
theorem sc_l_hall : FnScope N_l_hall P_l_hall (defScope s_l_hall) := ⟨rfl, rfl, rfl, by decide +kernel, rfl, by decide +kernel, by decide +kernel⟩
abbrev s_l_may : Stmt := top 31
abbrev N_l_may : List Str := ["_law_least", "_law_own", "_law_other"]
abbrev P_l_may : List Str := ["_law_least", "_law_own", "_law_other"]
theorem sc_l_may : FnScope N_l_may P_l_may (defScope s_l_may) := ⟨rfl, rfl, rfl, by decide +kernel, rfl, by decide +kernel, by decide +kernel⟩
abbrev s_l_picks : Stmt := top 32
abbrev N_l_picks : List Str := ["_law_least", "_law_rules", "_law_position", "_law_core", "_law_sizes", "_law_found", "_law_most", "_law_queue", "_law_other"]
abbrev P_l_picks : List Str := ["_law_least", "_law_rules", "_law_position", "_law_core"]
theorem sc_l_picks : FnScope N_l_picks P_l_picks (defScope s_l_picks) := ⟨rfl, rfl, rfl, by decide +kernel, rfl, by decide +kernel, by decide +kernel⟩
abbrev s_l_acted : Stmt := top 33
abbrev N_l_acted : List Str := ["_law_least", "_law_rules", "_law_position", "_law_core", "_law_pick", "_law_queues", "_law_looks", "_law_seen", "_law_own", "_law_other", "_law_many", "_law_ran", "_law_wasted", "_law_queue"]
abbrev P_l_acted : List Str := ["_law_least", "_law_rules", "_law_position", "_law_core", "_law_pick"]
theorem sc_l_acted : FnScope N_l_acted P_l_acted (defScope s_l_acted) := ⟨rfl, rfl, rfl, by decide +kernel, rfl, by decide +kernel, by decide +kernel⟩
abbrev s_l_acts : Stmt := top 34
abbrev N_l_acts : List Str := ["_law_least", "_law_rules", "_law_position", "_law_found", "_law_core", "_law_picks_here", "_law_pick"]
abbrev P_l_acts : List Str := ["_law_least", "_law_rules", "_law_position"]
theorem sc_l_acts : FnScope N_l_acts P_l_acts (defScope s_l_acts) := ⟨rfl, rfl, rfl, by decide +kernel, rfl, by decide +kernel, by decide +kernel⟩
abbrev s_l_same : Stmt := top 35
abbrev N_l_same : List Str := ["_law_told", "_law_due", "_law_queues", "_law_looks", "_law_numbers", "_law_queue", "_law_number"]
abbrev P_l_same : List Str := ["_law_told", "_law_due"]
theorem sc_l_same : FnScope N_l_same P_l_same (defScope s_l_same) := ⟨rfl, rfl, rfl, by decide +kernel, rfl, by decide +kernel, by decide +kernel⟩
abbrev s_l_row_told : Stmt := top 36
abbrev N_l_row_told : List Str := ["_law_told", "_law_due", "_law_k"]
abbrev P_l_row_told : List Str := ["_law_told", "_law_due"]
theorem sc_l_row_told : FnScope N_l_row_told P_l_row_told (defScope s_l_row_told) := ⟨rfl, rfl, rfl, by decide +kernel, rfl, by decide +kernel, by decide +kernel⟩
abbrev s_l_went : Stmt := top 37
abbrev N_l_went : List Str := ["_law_least", "_law_rules", "_law_position", "_law_pairs", "_law_found", "_law_pair", "_law_part"]
abbrev P_l_went : List Str := ["_law_least", "_law_rules", "_law_position", "_law_pairs"]
theorem sc_l_went : FnScope N_l_went P_l_went (defScope s_l_went) := ⟨rfl, rfl, rfl, by decide +kernel, rfl, by decide +kernel, by decide +kernel⟩
abbrev s_l_drawn : Stmt := top 38
abbrev N_l_drawn : List Str := ["_law_least", "_law_rules", "_law_start", "_law_draws_here", "_law_eager", "_law_position", "_law_found", "_law_draw", "_law_acts_here", "_law_wasted", "_law_act"]
abbrev P_l_drawn : List Str := ["_law_least", "_law_rules", "_law_start", "_law_draws_here", "_law_eager"]
theorem sc_l_drawn : FnScope N_l_drawn P_l_drawn (defScope s_l_drawn) := ⟨rfl, rfl, rfl, by decide +kernel, rfl, by decide +kernel, by decide +kernel⟩
abbrev s_l_counts : Stmt := top 39
abbrev N_l_counts : List Str := ["_law_act", "_law_task"]
abbrev P_l_counts : List Str := ["_law_act", "_law_task"]
theorem sc_l_counts : FnScope N_l_counts P_l_counts (defScope s_l_counts) := ⟨rfl, rfl, rfl, by decide +kernel, rfl, by decide +kernel, by decide +kernel⟩
abbrev s_l_bounded : Stmt := top 40
abbrev N_l_bounded : List Str := ["_law_numbers", "_law_start", "_law_rows", "_law_task", "_law_bound", "_law_spent", "_law_row"]
abbrev P_l_bounded : List Str := ["_law_numbers", "_law_start", "_law_rows", "_law_task"]
theorem sc_l_bounded : FnScope N_l_bounded P_l_bounded (defScope s_l_bounded) := ⟨rfl, rfl, rfl, by decide +kernel, rfl, by decide +kernel, by decide +kernel⟩
abbrev s_l_round : Stmt := top 41
abbrev N_l_round : List Str := ["_law_hall_here", "_law_least", "_law_rules", "_law_start", "_law_told", "_law_task", "_law_turns", "_law_lead", "_law_size", "_law_pairs", "_law_due", "_law_places", "_law_turn", "_law_part", "_law_act"]
abbrev P_l_round : List Str := ["_law_hall_here", "_law_least", "_law_rules", "_law_start", "_law_told", "_law_task", "_law_turns"]
theorem sc_l_round : FnScope N_l_round P_l_round (defScope s_l_round) := ⟨rfl, rfl, rfl, by decide +kernel, rfl, by decide +kernel, by decide +kernel⟩
abbrev s_l_stricter : Stmt := top 42
abbrev N_l_stricter : List Str := ["_law_told", "_law_free", "_law_position"]
abbrev P_l_stricter : List Str := ["_law_told", "_law_free"]
theorem sc_l_stricter : FnScope N_l_stricter P_l_stricter (defScope s_l_stricter) := ⟨rfl, rfl, rfl, by decide +kernel, rfl, by decide +kernel, by decide +kernel⟩
abbrev s_law : Stmt := top 43
abbrev N_law : List Str := ["_law_script", "_law_queues", "_law_least", "_law_rules", "_law_d", "_law_start", "_law_strict", "_law_halls", "_law_told", "_law_at", "_law_rows", "_law_asked", "_law_count", "_law_answer", "_law_task", "_law_queue", "_law_rule", "_law_names", "_law_hall_here", "_law_row"]
abbrev P_law : List Str := ["_law_script"]
theorem sc_law : FnScope N_law P_law (defScope s_law) := ⟨rfl, rfl, rfl, by decide +kernel, rfl, by decide +kernel, by decide +kernel⟩
/-- the built-ins' names are free -/
structure Blt (mg : Str → Option Value) : Prop where
  len : mg "len" = none
  range : mg "range" = none
  enumerate : mg "enumerate" = none
  max : mg "max" = none
  sum : mg "sum" = none
  any : mg "any" = none
  all : mg "all" = none
  abs : mg "abs" = none
  int : mg "int" = none
  bool : mg "bool" = none
  list : mg "list" = none
  tuple : mg "tuple" = none
  sorted : mg "sorted" = none
  set : mg "set" = none
  isinstance : mg "isinstance" = none
  dict : mg "dict" = none
end ND
end
section
set_option autoImplicit false
set_option linter.all false
namespace PH
theorem rep_drop {α : Type} {R : List α} : ∀ {k m : Nat}, k ≤ m → ((List.replicate m R).flatten).drop (k * R.length) = (List.replicate (m - k) R).flatten
  | 0, m, _ => by simp
  | k + 1, m + 1, h => by
    rw [List.replicate_succ, List.flatten_cons, Nat.succ_mul, Nat.add_comm, ← List.drop_drop, List.drop_left, rep_drop (by omega)]
    congr 2
    omega
  | k + 1, 0, h => by omega
theorem rep_part {α : Type} {R1 R : List α} {k m : Nat} (h : k < m) : ((R1 ++ (List.replicate m R).flatten).drop (R1.length + k * R.length)).take R.length = R := by
  rw [← List.drop_drop, List.drop_left, rep_drop (by omega)]
  obtain ⟨j, hj⟩ : ∃ j, m - k = j + 1 := ⟨m - k - 1, by omega⟩
  rw [hj, List.replicate_succ, List.flatten_cons, List.take_left]
theorem rep_take {α : Type} {R1 R : List α} {k m : Nat} (h : k ≤ m) : (R1 ++ (List.replicate m R).flatten).take (R1.length + k * R.length) = R1 ++ (List.replicate k R).flatten := by
  rw [List.take_length_add_append]
  congr 1
  have e : (List.replicate m R).flatten = (List.replicate k R).flatten ++ (List.replicate (m - k) R).flatten := by
    rw [← List.flatten_append, List.replicate_append_replicate]
    congr 2
    omega
  rw [e]
  have hl : (List.replicate k R).flatten.length = k * R.length := by simp
  rw [← hl, List.take_left]
end PH
end
section
set_option Elab.async false
set_option linter.all false
set_option maxRecDepth 100000
set_option maxHeartbeats 4000000
namespace ND
open PySem L2
open PyProof.Rows (envOfC)
/-! ### way_to -/
abbrev K1 := NestedKey
abbrev WaysK := Gr.Ways NestedKey NestedKey
/-- the dict tells the origins -/
def OrgRep (H : Hp) (xs : List (NestedKey × Addr × V)) (org : K1 → Option (Option (K1 × K1))) : Prop := ∀ m,
  (org m = none → valN xs m = none) ∧ (org m = some none → valN xs m = some .non) ∧ ∀ p l, org m = some (some (p, l)) → ∃ v, valN xs m = some v ∧ Rp H (.tup [p, l]) v
theorem OrgRep.keep {H H' : Hp} (t : Tups H H') {xs : List (NestedKey × Addr × V)} {org : K1 → Option (Option (K1 × K1))} (h : OrgRep H xs org) : OrgRep H' xs org := fun m =>
  ⟨(h m).1, (h m).2.1, fun p l e => let ⟨v, a, b⟩ := (h m).2.2 p l e; ⟨v, a, b.keep t⟩⟩
theorem OrgRep.some {H : Hp} {xs : List (NestedKey × Addr × V)} {org : K1 → Option (Option (K1 × K1))} (h : OrgRep H xs org) {m : K1} (e : (org m).isSome = true) : ∃ v, valN xs m = Option.some v := by
  cases q : org m with
  | none => rw [q] at e; cases e
  | some o =>
    cases o with
    | none => exact ⟨_, (h m).2.1 q⟩
    | some pl => obtain ⟨v, a, _⟩ := (h m).2.2 pl.1 pl.2 q; exact ⟨v, a⟩
theorem OrgRep.isSome {H : Hp} {xs : List (NestedKey × Addr × V)} {org : K1 → Option (Option (K1 × K1))} (h : OrgRep H xs org) (m : K1) : (valN xs m).isSome = (org m).isSome := by
  cases q : org m with
  | none => rw [(h m).1 q]; rfl
  | some o => obtain ⟨v, e⟩ := h.some (m := m) (by rw [q]; rfl); rw [e]; rfl
theorem isK_of {H : Hp} {xs : List (NestedKey × Addr × V)} (ks : KeysOk H xs) {m : K1} {u v : V} (e : valN xs m = some u) (r : Rp H m v) : IsK H m v := by
  have hm : m ∈ xs.map (·.1) := (valN_isSome m xs).mp (by rw [e]; rfl)
  obtain ⟨x, hx, rfl⟩ := List.mem_map.mp hm
  obtain ⟨h1, h2⟩ := ks x hx
  refine ⟨r, h2, ?_⟩
  cases q : x.1 with
  | none => rw [q] at h1; cases (show V.ref x.2.1 = .non by unfold Rp at h1; exact h1)
  | num i => rw [q] at h1; cases h1.numD
  | text t => rw [q] at h1; cases (show V.ref x.2.1 = .str t by unfold Rp at h1; exact h1)
  | tup l => rw [q] at r; obtain ⟨a, _, e, _⟩ := r.tupD; exact ⟨a, e⟩
theorem isK_tup {H : Hp} {l : List K1} {v : V} (r : Rp H (.tup l) v) (d : (NestedKey.tup l).depth ≤ 8) : IsK H (.tup l) v := by
  obtain ⟨a, _, e, _⟩ := r.tupD
  exact ⟨r, d, a, e⟩
def spWayTo (w : World) : Sp := fun vs H Q _ => ∃ (d : Addr) (v : V) (n s0 : K1) (xs : List (NestedKey × Addr × V)) (W : WaysK) (org : K1 → Option (Option (K1 × K1))) (rk : K1 → Nat) (bd : Nat),
  vs = [.ref d, v] ∧ H d = some (dN w d xs) ∧ KeysOk H xs ∧ Rp H n v ∧ OrgRep H xs org ∧ Gr.Org W s0 org rk bd ∧ bd ≤ 1000000 ∧ (org n).isSome = true ∧
  ∀ H' p ls lv, Same H H' → H p = none → H' p = some (.lst lv) → Rps H' ls lv → Gr.Way W s0 ls n → ls.length ≤ rk n → Q (.ref p) H'
section
variable {P : Program} {w : World} {K : PySem.W.Frag} {mg : Str → Option Value} {base : Heap}
theorem ok_way_to {f : Addr} {fd : FuncData} (F : Fun K "way_to" "way_to" s_way_to f fd) : FnOk P w K mg base CX0 1 f fd P_way_to (spWayTo w) := by
  refine F.ok sc_way_to (fun vs H Q E h => ?_) (fun cdv A outer s H vs Q E hr h => ?_)
  · obtain ⟨d, v, n, s0, xs, W, org, rk, bd, rfl, _⟩ := h
    rfl
  · obtain ⟨d, v, n, s0, xs, W, org, rk, bd, rfl, hd, ks, rn, oR, oK, hbd, on, k⟩ := h
    refine ⟨_, (pss_cons (ps_set (i := 2) sc_way_to.nd rfl (Or.inl rfl) (pe_lst pa_nil))
  (pss_cons (ps_while PassesOwn.never (pt_cmp (pc_notN (pe_nget hr (pv 0) (pv 1) (fun _ _ => rfl))))
    (pss_cons (ps_asg (pe_nget hr (pv 0) (pv 1) (fun _ _ => rfl)) (pg_tup rfl (pgs_cons (pg_name (i := 1) sc_way_to.nd rfl (Or.inl rfl)) (pgs_cons (pg_name (i := 3) sc_way_to.nd rfl (Or.inl rfl)) pgs_nil))))
    (pss_one (ps_expr (pe_bm PySem.F.plainAttrs_list PySem.F.slot_list_append PySem.F.type_list_append mt_append (pv 2) (pa_cons (pv 3) pa_nil))))))
  (pss_cons (ps_expr (pe_bm0 PySem.F.plainAttrs_list PySem.F.slot_list_reverse PySem.F.type_list_reverse mt_reverse (pv 2)))
  (pss_one (ps_ret (pv 2)))))), ?_⟩
    refine ⟨Nat.zero_le _, fun L hL => ?_⟩
    have O0 : Own H _ [(L, .lst [])] := (Own.start H).new (o := .lst []) hL rfl
    refine ⟨fun m σ H' => ∃ (B : Hp) (cur : K1) (cv : V) (lb : List K1) (lbv : List V) (lab : Option V), σ = [some (.ref d), some cv, some (.ref L), lab] ∧ Same H B ∧ Own B H' [(L, .lst lbv)] ∧ Rp B cur cv ∧ Rps B lb lbv ∧
      (org cur).isSome = true ∧ Gr.Way W cur lb.reverse n ∧ lb.length + rk cur ≤ rk n ∧ m = rk cur, ⟨rk n, H, n, v, [], [], none, rfl, Same.refl H, O0, rn, .nil, on, .nil, by simp, rfl⟩, ?_⟩
    rintro m σ H1 ⟨B, cur, cv, lb, lbv, lab, rfl, sB, O, rc, rl, oc, way, hlen, rfl⟩
    have hd1 := O.sub _ _ (sB _ _ hd)
    have ks1 : KeysOk H1 xs := ks.keep ((Same.tups sB).trans O.tups)
    have oR1 : OrgRep B xs org := oR.keep (Same.tups sB)
    obtain ⟨ov, hov⟩ := oR1.some oc
    have ik : IsK H1 cur cv := isK_of ks1 hov (rc.keep O.tups)
    refine ⟨_, rfl, _, rfl, d, xs, cur, ov, rfl, .inl hd1, ks1, ik, hov, _, rfl, ?_⟩
    cases ho : org cur with
    | none => rw [ho] at oc; cases oc
    | some o =>
      cases o with
      | none =>
        have e := (oR1 cur).2.1 ho
        rw [hov] at e; cases e
        refine iteF ?_
        -- labels.reverse(); return labels
        refine ⟨_, rfl, .inl ⟨rfl, _, SqL.of (O.get 0 rfl)⟩, L, lbv, rfl, rfl, O.get 0 rfl, ?_⟩
        have O2 := O.put 0 (o := .lst lbv.reverse) rfl rfl
        refine ⟨_, rfl, ?_⟩
        have ec := oK.root cur ho
        subst ec
        have rr : Rps B lb.reverse lbv.reverse := rl.rev
        exact k _ L lb.reverse lbv.reverse (sB.trans O2.sub) hL (O2.get 0 rfl) (rr.keep O2.tups) way (by rw [List.length_reverse]; omega)
      | some pl =>
        obtain ⟨p, l⟩ := pl
        obtain ⟨v2, e2, r2⟩ := (oR1 cur).2.2 p l ho
        rw [hov] at e2; cases e2
        obtain ⟨h1, h2, wt, h3⟩ := oK.val cur p l ho
        obtain ⟨a, vs2, rfl, ha, rs⟩ := r2.tupD
        obtain ⟨pv', r3, rfl, rp, rs⟩ := rs.consD
        obtain ⟨lv', r4, rfl, rlv, rs⟩ := rs.consD
        obtain rfl := rs.nilD
        refine iteT ?_
        refine ⟨fun σ' H' => ∃ m', m' < rk cur ∧ _, fun _ _ h => h, ?_⟩
        refine ⟨_, rfl, _, rfl, d, xs, cur, .ref a, rfl, .inl hd1, ks1, ik, hov, a, [pv', lv'], rfl, SqT.of (O.sub _ _ ha), rfl, _, _, rfl, _, _, rfl, rfl, ?_⟩
        refine ⟨_, rfl, .inl ⟨rfl, _, SqL.of (O.get 0 rfl)⟩, _, rfl, L, lbv, lv', rfl, rfl, O.get 0 rfl, ?_, ?_⟩
        · have := rl.length; have := oK.bd n on; rw [sizeLine_eq]; omega
        · have O2 := O.put 0 (o := .lst (lbv ++ [lv'])) rfl rfl
          refine ⟨rk p, h2, B, p, pv', lb ++ [l], lbv ++ [lv'], _, rfl, sB, O2, rp, rl.snoc rlv, h1, ?_, ?_, rfl⟩
          · rw [List.reverse_append]; exact Gr.Way.cons h3 way
          · simp; omega
end
end ND
end
section
set_option Elab.async false
set_option linter.all false
set_option maxRecDepth 100000
set_option maxHeartbeats 4000000
namespace ND
open PySem L2
open PyProof.Rows (envOfC)
/-! ### reach -/
def stepK (x : K1 × K1 × Int) : K1 := .tup [x.1, x.2.1, .num x.2.2]
/-- what a graph must be -/
structure GSpec (W : WaysK) (s0 : K1) (Bd : Nat) : Prop where
  bd : ∀ nodes : List K1, nodes.Nodup → (∀ n ∈ nodes, Gr.Rch W s0 n) → nodes.length ≤ Bd
  small : Bd ≤ 1000000
  key : ∀ n, Gr.Rch W s0 n → n.depth ≤ 8 ∧ ∃ ks, n = .tup ks
  deg : ∀ n, Gr.Rch W s0 n → (W n).length ≤ 7
  nn : ∀ n, Gr.Rch W s0 n → ∀ x ∈ W n, 0 ≤ x.2.2
abbrev GrT := WaysK → K1 → Hp → Addr → Prop
structure GObj (C : Addr) (GG : GrT) : Prop where
  ins : ∀ {W s0 H a}, GG W s0 H a → ∃ dx fs, H a = some (.ins C dx fs) ∧ fs.lookup ("first_nodes" : Str) = none ∧ fs.lookup ("ways_on" : Str) = none
  same : ∀ {W s0 H H' a}, Same H H' → GG W s0 H a → GG W s0 H' a
def spFirst (GG : GrT) : Sp := fun vs H Q _ => ∃ a W s0, vs = [.ref a] ∧ GG W s0 H a ∧ ∀ H' p v, Same H H' → H p = none → H' p = some (.lst [v]) → Rp H' s0 v → Q (.ref p) H'
def spWays (GG : GrT) : Sp := fun vs H Q _ => ∃ a W s0 n v, vs = [.ref a, v] ∧ GG W s0 H a ∧ Rp H n v ∧ Gr.Rch W s0 n ∧
  ∀ H' p lv, Same H H' → H p = none → H' p = some (.lst lv) → Rps H' ((W n).map stepK) lv → Q (.ref p) H'
/-- the dict tells the ways on from n -/
def AheadAt (B : Hp) (ax : List (NestedKey × Addr × V)) (W : WaysK) (n : K1) : Prop := ∃ l lv, valN ax n = some (.ref l) ∧ B l = some (.lst lv) ∧ Rps B ((W n).map stepK) lv
theorem AheadAt.same {B B' : Hp} (s : Same B B') {ax : List (NestedKey × Addr × V)} {W : WaysK} {n : K1} (h : AheadAt B ax W n) : AheadAt B' ax W n :=
  let ⟨l, lv, a, b, c⟩ := h; ⟨l, lv, a, s _ _ b, c.keep (Same.tups s)⟩
structure ReachOut (w : World) (H0 H : Hp) (W : WaysK) (s0 : K1) (nodes : List K1) (org : K1 → Option (Option (K1 × K1))) (pn pa po : Addr) : Prop where
  out : Gr.ROut W s0 nodes org
  hn : H0 pn = none ∧ ∃ nv, H pn = some (.lst nv) ∧ Rps H nodes nv
  ha : H0 pa = none ∧ ∃ ax, H pa = some (dN w pa ax) ∧ KeysOk H ax ∧ ax.map (·.1) = nodes ∧ ∀ n ∈ nodes, ∃ l lv, valN ax n = some (.ref l) ∧ H0 l = none ∧ H l = some (.lst lv) ∧ Rps H ((W n).map stepK) lv
  ho : H0 po = none ∧ ∃ ox, H po = some (dN w po ox) ∧ KeysOk H ox ∧ OrgRep H ox org
def spReach (w : World) (GG : GrT) : Sp := fun vs H Q _ => ∃ a W s0 Bd, vs = [.ref a] ∧ GG W s0 H a ∧ GSpec W s0 Bd ∧
  ∀ H' p nodes org pn pa po, Same H H' → H' p = some (.tup [.ref pn, .ref pa, .ref po]) → ReachOut w H H' W s0 nodes org pn pa po → Q (.ref p) H'

/-- within reach -/
structure ReachSt (w : World) (H0 : Hp) (W : WaysK) (s0 : K1) (pn po pa : Addr) (B H : Hp) (nodes : List K1) (nv : List V) (ox ax : List (NestedKey × Addr × V)) (org : K1 → Option (Option (K1 × K1))) (at_ done : Nat) (pre : List (K1 × K1 × Int)) : Prop where
  sB : Same H0 B
  O : Own B H [(pa, dN w pa ax), (po, dN w po ox), (pn, .lst nv)]
  rn : Rps B nodes nv
  ko : KeysOk B ox
  oR : OrgRep B ox org
  kox : ox.map (·.1) = nodes
  ka : KeysOk B ax
  kax : ax.map (·.1) = nodes.take done
  aR : ∀ (i : Nat) n, i < done → nodes[i]? = some n → ∃ l lv, valN ax n = some (.ref l) ∧ H0 l = none ∧ B l = some (.lst lv) ∧ Rps B ((W n).map stepK) lv
  ri : Gr.RI W s0 nodes org at_ pre
section
variable {P : Program} {w : World} {K : PySem.W.Frag} {mg : Str → Option Value} {base : Heap}
theorem Rps.map {α : Type} {B : Hp} {g : α → K1} : ∀ {xs : List α} {vs : List V} {i : Nat} {v : V}, Rps B (xs.map g) vs → vs[i]? = some v → ∃ x, xs[i]? = some x ∧ Rp B (g x) v := by
  intro xs vs i v h e
  obtain ⟨k, hk, r⟩ := h.geti e
  rw [List.getElem?_map] at hk
  cases q : xs[i]? with
  | none => rw [q] at hk; cases hk
  | some x => rw [q] at hk; cases hk; exact ⟨x, rfl, r⟩
theorem take_succ_of {α : Type} {l : List α} {i : Nat} {x : α} (h : l[i]? = some x) : l.take (i + 1) = l.take i ++ [x] := by
  rw [List.take_add_one, h]; rfl
theorem valN_none_of {xs : List (NestedKey × Addr × V)} {k : K1} (h : k ∉ xs.map (·.1)) : valN xs k = none := by
  cases e : valN xs k with
  | none => rfl
  | some v => exact absurd ((valN_isSome k xs).mp (by rw [e]; rfl)) h
theorem ok_reach {GG : GrT} {C_GRAPH_first_nodes f_GRAPH_first_nodes C_GRAPH_ways_on f_GRAPH_ways_on : Addr} {fd_GRAPH_first_nodes fd_GRAPH_ways_on : FuncData} (go : GObj C_GRAPH_first_nodes GG) (eC : C_GRAPH_ways_on = C_GRAPH_first_nodes)
    (G_GRAPH_first_nodes : FnOk P w K mg base CX0 2 f_GRAPH_first_nodes fd_GRAPH_first_nodes ["self"] (spFirst GG)) (m_GRAPH_first_nodes : Meth K C_GRAPH_first_nodes "first_nodes" f_GRAPH_first_nodes) (c_GRAPH_first_nodes : Cls K C_GRAPH_first_nodes) (b_GRAPH_first_nodes : Binds K fd_GRAPH_first_nodes ["self"] [])
    (G_GRAPH_ways_on : FnOk P w K mg base CX0 5 f_GRAPH_ways_on fd_GRAPH_ways_on ["self", "node"] (spWays GG)) (m_GRAPH_ways_on : Meth K C_GRAPH_ways_on "ways_on" f_GRAPH_ways_on) (c_GRAPH_ways_on : Cls K C_GRAPH_ways_on) (b_GRAPH_ways_on : Binds K fd_GRAPH_ways_on ["self", "node"] [])
    (T : Blt mg) {f : Addr} {fd : FuncData} (F : Fun K "reach" "reach" s_reach f fd) : FnOk P w K mg base CX0 6 f fd P_reach (spReach w GG) := by
  subst eC
  refine F.ok sc_reach (fun vs H Q E h => ?_) (fun cdv A outer s H vs Q E hr h => ?_)
  · obtain ⟨a, W, s0, Bd, rfl, _⟩ := h
    rfl
  · obtain ⟨a, W, s0, Bd, rfl, hG, gs, k⟩ := h
    have sz : sizeLine = 16777216 := sizeLine_eq
    refine ⟨_, (pss_cons (ps_set (i := 1) sc_reach.nd rfl (Or.inl rfl) (pe_lst pa_nil))
  (pss_cons (ps_set (i := 2) sc_reach.nd rfl (Or.inl rfl) pe_nnew)
  (pss_cons (ps_for PassesOwn.never rfl (pi_list (pe_meth0 (pv 0) c_GRAPH_first_nodes m_GRAPH_first_nodes G_GRAPH_first_nodes (hr.mono (show 2 ≤ 5 by decide)) b_GRAPH_first_nodes .nil pass0)) (pg_name (i := 3) sc_reach.nd rfl (Or.inl rfl))
    (pss_one (ps_if (pt_cmp (pc_nnotin hr (pv 3) (pv 2)))
      (pss_cons (ps_nput hr (pv 2) (pv 3) pe_non rfl)
      (pss_one (ps_expr (pe_bm PySem.F.plainAttrs_list PySem.F.slot_list_append PySem.F.type_list_append mt_append (pv 1) (pa_cons (pv 3) pa_nil)))))
      pss_nil)))
  (pss_cons (ps_set (i := 4) sc_reach.nd rfl (Or.inl rfl) pe_nnew)
  (pss_cons (ps_set (i := 5) sc_reach.nd rfl (Or.inl rfl) pe_int)
  (pss_cons (ps_while PassesOwn.never (pt_cmpR op_lt (pv 5) (pe_callB call_len_seq (by rfl) T.len (by decide +kernel) (pa_cons (pv 1) pa_nil)) (nomark _))
    (pss_cons (ps_set (i := 6) sc_reach.nd rfl (Or.inl rfl) (pe_meth (pv 0) c_GRAPH_ways_on m_GRAPH_ways_on G_GRAPH_ways_on (hr.mono (show 5 ≤ 5 by decide)) b_GRAPH_ways_on .nil pass0 (pa_cons (pe_ix ix_list (pv 1) (pv 5) (fun _ _ => rfl)) pa_nil)))
    (pss_cons (ps_nput hr (pv 4) (pe_ix ix_list (pv 1) (pv 5) (fun _ _ => rfl)) (pv 6) rfl)
    (pss_cons (ps_for PassesOwn.never rfl (pi_list (pv 6)) (pg_tup rfl (pgs_cons (pg_name (i := 7) sc_reach.nd rfl (Or.inl rfl)) (pgs_cons (pg_name (i := 8) sc_reach.nd rfl (Or.inl rfl)) (pgs_cons (pg_name (i := 9) sc_reach.nd rfl (Or.inl rfl)) pgs_nil))))
      (pss_one (ps_if (pt_cmp (pc_nnotin hr (pv 8) (pv 2)))
        (pss_cons (ps_nput hr (pv 2) (pv 8) (pe_tup (pa_cons (pe_ix ix_list (pv 1) (pv 5) (fun _ _ => rfl)) (pa_cons (pv 7) pa_nil))) rfl)
        (pss_one (ps_expr (pe_bm PySem.F.plainAttrs_list PySem.F.slot_list_append PySem.F.type_list_append mt_append (pv 1) (pa_cons (pv 8) pa_nil)))))
        pss_nil)))
    (pss_one (ps_aug (i := 5) sc_reach.nd rfl (Or.inl rfl) pe_int ip_add))))))
  (pss_one (ps_ret (pe_tup (pa_cons (pv 1) (pa_cons (pv 4) (pa_cons (pv 2) pa_nil)))))))))))), ?_⟩
    refine ⟨Nat.zero_le _, fun pn hpn => ?_⟩
    have O1 : Own H _ [(pn, .lst [])] := (Own.start H).new (o := .lst []) hpn rfl
    refine fun po hpo => ?_
    have O2 := O1.new (o := dN w po []) hpo rfl
    have s2 := O2.sub
    obtain ⟨dx, fs, ha, hl1, hl2⟩ := go.ins (go.same s2 hG)
    refine ⟨_, rfl, a, dx, fs, rfl, ha, hl1, a, W, s0, rfl, go.same s2 hG, fun H3 p3 v0 s3 n3 e3 r3 => ?_⟩
    obtain ⟨B3, sB3, O3, t3, f3⟩ := O2.call s3
    have b3 := f3 p3 _ n3 e3
    have rv0 := r3.keep t3
    have rs0 : Gr.Rch W s0 s0 := .refl W s0
    obtain ⟨dp0, ks0, es0⟩ := gs.key s0 rs0
    have h1000 := gs.small
    refine ⟨p3, rfl, ⟨_, SqL.of e3⟩, for_list (K := K) (a := p3) (xs := [v0]) (fun i σ H' => (i = 0 ∧ σ = [some (.ref a), some (.ref pn), some (.ref po), none, none, none, none, none, none, none] ∧ H3 = H') ∨
      (i = 1 ∧ ∃ b, v0 = .ref b ∧ σ = [some (.ref a), some (.ref pn), some (.ref po), some v0, none, none, none, none, none, none] ∧ Own B3 H' [(po, dN w po [(s0, b, .non)]), (pn, .lst [v0])])) (.inl ⟨rfl, rfl, rfl⟩) ?_ ?_ ?_⟩
    · rintro i σ H' _ (⟨_, _, rfl⟩ | ⟨_, b, _, _, O⟩)
      · exact SqL.of e3
      · exact SqL.of (O.sub _ _ b3)
    · rintro i x σ H' hx (⟨rfl, rfl, rfl⟩ | ⟨rfl, _⟩)
      · have ex : v0 = x := by simpa using hx
        subst ex
        have ik : IsK H3 s0 v0 := by rw [es0] at r3 dp0 ⊢; exact isK_tup r3 dp0
        obtain ⟨_, _, b, eb⟩ := id ik
        subst eb
        refine ⟨_, rfl, _, rfl, po, [], s0, rfl, .inl (O3.get 0 rfl), (fun x hx => nomatch hx), ik, _, rfl, ?_⟩
        refine iteT ?_
        refine ⟨_, rfl, _, rfl, po, [], s0, b, rfl, rfl, O3.get 0 rfl, (fun x hx => nomatch hx), ik.1, dp0, by rw [sz]; decide, ?_⟩
        have O4 := O3.put 0 (o := dN w po (putN [] s0 b .non)) rfl rfl
        refine ⟨_, rfl, .inl ⟨rfl, _, SqL.of (O4.get 1 rfl)⟩, _, rfl, pn, [], .ref b, rfl, rfl, O4.get 1 rfl, by rw [sz]; decide, ?_⟩
        have O5 := O4.put 1 (o := .lst ([] ++ [.ref b])) rfl rfl
        exact .inr ⟨rfl, b, rfl, rfl, O5⟩
      · simp at hx
    · rintro σ H' (⟨e, _⟩ | ⟨_, b, rfl, rfl, O⟩)
      · cases e
      -- ahead = {}; at = 0
      refine fun pa hpa => ?_
      have O6 := O.new (o := dN w pa []) hpa rfl
      have sB : Same H B3 := sB3
      -- the loop
      refine ⟨fun m σ H' => ∃ (B : Hp) (nodes : List K1) (nv : List V) (ox ax : List (NestedKey × Addr × V)) (org : K1 → Option (Option (K1 × K1))) (at_ : Nat) (x3 x6 x7 x8 x9 : Option V),
        σ = [some (.ref a), some (.ref pn), some (.ref po), x3, some (.ref pa), some (.int at_), x6, x7, x8, x9] ∧ ReachSt w H W s0 pn po pa B H' nodes nv ox ax org at_ at_ [] ∧ m = Bd - at_,
        ⟨Bd - 0, B3, [s0], [.ref b], [(s0, b, .non)], [], fun n => if n = s0 then some none else none, 0, some (.ref b), none, none, none, none, rfl, ⟨sB, O6, .cons rv0 .nil, ?_, ?_, rfl, (fun x hx => nomatch hx), rfl, (fun i n hi => absurd hi (Nat.not_lt_zero _)), Gr.RI.init W s0 (fun _ => rfl)⟩, rfl⟩, ?_⟩
      · intro x hx
        have : x = (s0, b, .non) := by simpa using hx
        subst this; exact ⟨rv0, dp0⟩
      · intro m
        refine ⟨fun e => ?_, fun e => ?_, fun p l e => ?_⟩ <;> dsimp only at e
        · by_cases q : m = s0
          · rw [if_pos q] at e; cases e
          · exact valN_neg (p := (s0, b, .non)) (fun z => q z.symm)
        · by_cases q : m = s0
          · exact valN_pos (p := (s0, b, .non)) q.symm
          · rw [if_neg q] at e; cases e
        · by_cases q : m = s0
          · rw [if_pos q] at e; cases e
          · rw [if_neg q] at e; cases e
      rintro m σ H1 ⟨B, nodes, nv, ox, ax, org, at_, x3, x6, x7, x8, x9, rfl, S, rfl⟩
      have hnB : nodes.length ≤ Bd := gs.bd nodes S.ri.nd S.ri.rch
      have hnv : nv.length = nodes.length := S.rn.length
      refine ⟨_, rfl, _, rfl, _, _, rfl, .inl (SqL.of (S.O.get 2 rfl)), _, _, rfl, rfl, _, rfl, ?_⟩
      refine ite2 (fun hlt => ?_) (fun hge => ?_)
      · have hlt' : at_ < nodes.length := by
          have := of_decide_eq_true hlt
          omega
        obtain ⟨n, hn⟩ : ∃ n, nodes[at_]? = some n := ⟨_, List.getElem?_eq_getElem hlt'⟩
        obtain ⟨nvv, hnv2, rnn⟩ := S.rn.get hn
        have hrn := S.ri.rch n (Gr.get_mem hn)
        have s1 : Same H H1 := S.sB.trans S.O.sub
        obtain ⟨dx', fs', ha', _, hl2'⟩ := go.ins (go.same s1 hG)
        refine ⟨fun σ' H' => ∃ m', m' < Bd - at_ ∧ _, fun _ _ h => h, ?_⟩
        refine ⟨_, rfl, a, dx', fs', rfl, ha', hl2', _, rfl, _, rfl, pn, nv, _, nvv, rfl, rfl, SqL.of (S.O.get 2 rfl), at_of rfl hnv2, a, W, s0, n, nvv, rfl, go.same s1 hG, rnn.keep S.O.tups, hrn, fun H4 p4 lv s4 n4 e4 r4 => ?_⟩
        obtain ⟨B4, sB4, O4, t4, f4⟩ := S.O.call s4
        have b4 := f4 p4 _ n4 e4
        have rst := r4.keep t4
        -- ahead[nodes[at]] = steps
        obtain ⟨dpn, ksn, esn⟩ := gs.key n hrn
        have ikn : IsK B4 n nvv := by rw [esn] at rnn dpn ⊢; exact isK_tup (rnn.keep (Same.tups sB4)) dpn
        obtain ⟨_, _, bn, ebn⟩ := id ikn
        subst ebn
        have kaL : ax.length ≤ at_ := by
          have := congrArg List.length S.kax
          rw [List.length_map, List.length_take] at this
          omega
        have ka4 : KeysOk B4 ax := S.ka.keep (Same.tups sB4)
        refine ⟨_, rfl, _, rfl, _, rfl, _, rfl, pn, nv, _, .ref bn, rfl, rfl, SqL.of (O4.get 2 rfl), at_of rfl hnv2, pa, ax, n, bn, rfl, rfl, O4.get 0 rfl, ka4.keep O4.tups, ikn.1.keep O4.tups, dpn, by rw [sz]; omega, ?_⟩
        have hnew : valN ax n = none := by
          refine valN_none_of fun q => ?_
          rw [S.kax] at q
          obtain ⟨j, hj⟩ := Gr.mem_get q
          have hjl := Gr.get_lt hj
          rw [List.length_take] at hjl
          rw [List.getElem?_take] at hj
          split at hj
          · have := Gr.nodup_get S.ri.nd hj hn; omega
          · cases hj
        have ep := putN_new bn (.ref p4) hnew
        have O5 := O4.put 0 (o := dN w pa (putN ax n bn (.ref p4))) rfl rfl
        rw [ep] at O5 ⊢
        have S5 : ReachSt w H W s0 pn po pa B4 (upd H4 pa (dN w pa (ax ++ [(n, bn, .ref p4)]))) nodes nv ox (ax ++ [(n, bn, .ref p4)]) org at_ (at_ + 1) [] := by
          refine ⟨S.sB.trans sB4, O5, S.rn.keep (Same.tups sB4), S.ko.keep (Same.tups sB4), S.oR.keep (Same.tups sB4), S.kox, ?_, ?_, fun i n' hi hn' => ?_, S.ri⟩
          · have := ka4.put (v := .ref p4) ikn.1 dpn
            rw [ep] at this; exact this
          · rw [List.map_append, S.kax, take_succ_of hn]; rfl
          · by_cases q : i < at_
            · obtain ⟨l, lv', h1, h2, h3, h4⟩ := S.aR i n' q hn'
              refine ⟨l, lv', ?_, h2, sB4 _ _ h3, h4.keep (Same.tups sB4)⟩
              rw [← ep, valN_put]
              have : n' ≠ n := fun z => by
                subst z
                have := Gr.nodup_get S.ri.nd hn' hn; omega
              rw [if_neg this]; exact h1
            · have : i = at_ := by omega
              subst this
              rw [hn] at hn'; cases hn'
              refine ⟨p4, lv, ?_, s1.free n4, b4, rst⟩
              rw [← ep, valN_put, if_pos rfl]
        have e5 : B4 p4 = some (.lst lv) := b4
        -- for label, then, weight in steps
        refine ⟨_, rfl, p4, rfl, ⟨_, SqL.of (O5.sub _ _ b4)⟩, for_list (K := K) (a := p4) (xs := lv) (fun i σ H' => ∃ (B : Hp) (nodes : List K1) (nv : List V) (ox : List (NestedKey × Addr × V)) (org : K1 → Option (Option (K1 × K1))) (x7 x8 x9 : Option V),
          σ = [some (.ref a), some (.ref pn), some (.ref po), x3, some (.ref pa), some (.int at_), some (.ref p4), x7, x8, x9] ∧ ReachSt w H W s0 pn po pa B H' nodes nv ox (ax ++ [(n, bn, V.ref p4)]) org at_ (at_ + 1) ((W n).take i) ∧ nodes[at_]? = some n ∧ Same B4 B)
          ⟨B4, nodes, nv, ox, org, x7, x8, x9, rfl, S5, hn, Same.refl _⟩ ?_ ?_ ?_⟩
        · rintro i σ H' _ ⟨B, _, _, _, _, _, _, _, _, S', _, sB'⟩
          exact SqL.of (S'.O.sub _ _ (sB' _ _ b4))
        · rintro i x σ H' hx ⟨B', nodes', nv', ox', org', y7, y8, y9, rfl, S', hn', sB'⟩
          obtain ⟨st, hst, rstx⟩ := Rps.map (rst.keep (Same.tups sB')) hx
          obtain ⟨l, t, wt⟩ := st
          obtain ⟨ta, tvs, rfl, hta, rts⟩ := rstx.tupD
          obtain ⟨lv1, r1, rfl, rl1, rts⟩ := rts.consD
          obtain ⟨tv1, r2, rfl, rt1, rts⟩ := rts.consD
          obtain ⟨wv1, r3, rfl, rw1, rts⟩ := rts.consD
          obtain rfl := rts.nilD
          obtain rfl := rw1.numD
          have hm : (l, t, wt) ∈ W n := Gr.get_mem hst
          have hrt : Gr.Rch W s0 t := (S'.ri.rch n (Gr.get_mem hn')).tail ⟨l, wt, hm⟩
          obtain ⟨dpt, kst, est⟩ := gs.key t hrt
          have ikt : IsK B' t tv1 := by rw [est] at rt1 dpt ⊢; exact isK_tup rt1 dpt
          obtain ⟨_, _, bt, ebt⟩ := id ikt
          subst ebt
          have et := take_succ_of hst
          refine ⟨ta, _, rfl, SqT.of (S'.O.sub _ _ hta), rfl, _, _, rfl, _, _, rfl, _, _, rfl, rfl, ?_⟩
          refine ⟨_, rfl, _, rfl, po, ox', t, rfl, .inl (S'.O.get 1 rfl), S'.ko.keep S'.O.tups, ikt.keep S'.O.tups, _, rfl, ?_⟩
          have eso := S'.oR.isSome t
          by_cases hin : t ∈ nodes'
          · have e1 : (valN ox' t).isSome = true := by rw [eso]; exact (S'.ri.dom t).mpr hin
            rw [e1]
            refine iteF ?_
            refine ⟨B', nodes', nv', ox', org', _, _, _, rfl, ?_, hn', sB'⟩
            rw [et]
            exact { S' with ri := S'.ri.old hin }
          · have e1 : (valN ox' t).isSome = false := by
              rw [eso]
              cases q : (org' t).isSome with
              | false => rfl
              | true => exact absurd ((S'.ri.dom t).mp q) hin
            rw [e1]
            refine iteT ?_
            have hnv'' : nv'.length = nodes'.length := S'.rn.length
            have hnB' : nodes'.length ≤ Bd := gs.bd nodes' S'.ri.nd S'.ri.rch
            obtain ⟨nv2, hnv3, rnn'⟩ := S'.rn.get hn'
            -- origin[then] = (nodes[at], label)
            refine ⟨_, rfl, _, rfl, pn, nv', _, nv2, rfl, rfl, SqL.of (S'.O.get 2 rfl), at_of rfl hnv3, _, rfl, by rw [sz]; show 2 ≤ 16777216; decide, fun p6 hp6 => ?_⟩
            obtain ⟨B6, sB6, b6, O6'⟩ := S'.O.fz (o := .tup [nv2, lv1]) hp6
            have ko6 : KeysOk B6 ox' := S'.ko.keep (Same.tups sB6)
            have oxl : ox'.length = nodes'.length := by rw [← S'.kox, List.length_map]
            have ikt6 := ikt.keep (Same.tups sB6)
            refine ⟨_, rfl, _, rfl, po, ox', t, bt, rfl, rfl, O6'.get 1 rfl, ko6.keep O6'.tups, ikt6.1.keep O6'.tups, dpt, by rw [sz]; omega, ?_⟩
            have enone : valN ox' t = none := by
              cases q : valN ox' t with
              | none => rfl
              | some v => rw [q] at e1; cases e1
            have ep2 := putN_new bt (.ref p6) enone
            have O7 := O6'.put 1 (o := dN w po (putN ox' t bt (.ref p6))) rfl rfl
            refine ⟨_, rfl, .inl ⟨rfl, _, SqL.of (O7.get 2 rfl)⟩, _, rfl, pn, nv', .ref bt, rfl, rfl, O7.get 2 rfl, by rw [sz]; omega, ?_⟩
            have O8 := O7.put 2 (o := .lst (nv' ++ [.ref bt])) rfl rfl
            refine ⟨B6, nodes' ++ [t], nv' ++ [.ref bt], putN ox' t bt (.ref p6), fun m => if m = t then some (some (n, l)) else org' m, _, _, _, rfl, ?_, Gr.get_left hn', sB'.trans sB6⟩
            rw [et]
            refine ⟨S'.sB.trans sB6, O8, (S'.rn.keep (Same.tups sB6)).snoc ikt6.1, ko6.put ikt6.1 dpt, ?_, ?_, S'.ka.keep (Same.tups sB6), ?_, fun i n' hi hni => ?_, S'.ri.new hn' hm hin (fun _ => rfl)⟩
            · intro m
              refine ⟨fun e => ?_, fun e => ?_, fun p l' e => ?_⟩ <;> dsimp only at e
              · rw [valN_put]
                by_cases q : m = t
                · rw [if_pos q] at e; cases e
                · rw [if_neg q] at e ⊢; exact (S'.oR m).1 e
              · rw [valN_put]
                by_cases q : m = t
                · rw [if_pos q] at e; cases e
                · rw [if_neg q] at e ⊢; exact (S'.oR m).2.1 e
              · rw [valN_put]
                by_cases q : m = t
                · rw [if_pos q] at e ⊢
                  cases e
                  exact ⟨_, rfl, rp_tup b6 (.cons (rnn'.keep (Same.tups sB6)) (.cons (rl1.keep (Same.tups sB6)) .nil))⟩
                · rw [if_neg q] at e ⊢
                  obtain ⟨v, h1, h2⟩ := (S'.oR m).2.2 p l' e
                  exact ⟨v, h1, h2.keep (Same.tups sB6)⟩
            · rw [ep2, List.map_append, S'.kox]; rfl
            · rw [S'.kax, List.take_append_of_le_length (by have := Gr.get_lt hn'; omega)]
            · have hil : i < nodes'.length := by have := Gr.get_lt hn'; omega
              rw [List.getElem?_append_left hil] at hni
              obtain ⟨l', lv', h1, h2, h3, h4⟩ := S'.aR i n' hi hni
              exact ⟨l', lv', h1, h2, sB6 _ _ h3, h4.keep (Same.tups sB6)⟩
        · -- at += 1
          rintro σ H' ⟨B', nodes', nv', ox', org', y7, y8, y9, rfl, S', hn', sB'⟩
          have hlv : lv.length = (W n).length := by rw [rst.length, List.length_map]
          rw [hlv, List.take_length] at S'
          have hnB' : nodes'.length ≤ Bd := gs.bd nodes' S'.ri.nd S'.ri.rch
          have := Gr.get_lt hn'
          refine ⟨_, rfl, _, _, rfl, rfl, ?_⟩
          refine ⟨Bd - (at_ + 1), by omega, B', nodes', nv', ox', ax ++ [(n, bn, V.ref p4)], org', at_ + 1, x3, _, _, _, _, rfl, ?_, rfl⟩
          exact { S' with ri := S'.ri.next hn' (fun x hx => hx) }
      · have hge' : nodes.length ≤ at_ := by
          have : ¬ ((at_ : Int) < (nv.length : Int)) := fun q => hge (decide_eq_true q)
          omega
        -- return (nodes, ahead, origin)
        refine ⟨_, rfl, _, rfl, _, rfl, by rw [sz]; show 3 ≤ 16777216; decide, fun p9 hp9 => ?_⟩
        have O9 := S.O.frz (o := .tup [.ref pn, .ref pa, .ref po]) hp9
        have sB9 := S.O.same_frz (o := .tup [.ref pn, .ref pa, .ref po]) hp9
        have tt : Tups B _ := (Same.tups sB9).trans O9.tups
        refine k _ p9 nodes org pn pa po ((S.sB.trans sB9).trans O9.sub) upd_same ⟨S.ri.done hge', ⟨hpn, nv, O9.get 2 rfl, S.rn.keep tt⟩, ⟨S.sB.free (S.O.fresh 0 rfl), ax, O9.get 0 rfl, S.ka.keep tt, ?_, fun n hn => ?_⟩, ⟨S.sB.free (S.O.fresh 1 rfl), ox, O9.get 1 rfl, S.ko.keep tt, S.oR.keep tt⟩⟩
        · rw [S.kax, List.take_of_length_le hge']
        · obtain ⟨i, hi⟩ := Gr.mem_get hn
          obtain ⟨l, lv, h1, h2, h3, h4⟩ := S.aR i n (by have := Gr.get_lt hi; omega) hi
          exact ⟨l, lv, h1, h2, O9.sub _ _ (sB9 _ _ h3), h4.keep tt⟩
end
end ND
end
section
set_option Elab.async false
set_option linter.all false
set_option maxRecDepth 100000
set_option maxHeartbeats 4000000
namespace ND
open PySem L2
open PyProof.Rows (envOfC)
/-! ### leaving_order -/
/-- the graph as it was searched -/
structure GraphAt (w : World) (H : Hp) (W : WaysK) (nodes : List K1) (pn pa : Addr) (nv : List V) (ax : List (NestedKey × Addr × V)) : Prop where
  hn : H pn = some (.lst nv)
  rn : Rps H nodes nv
  nd : nodes.Nodup
  cl : ∀ n ∈ nodes, ∀ x ∈ W n, x.2.1 ∈ nodes
  ha : H pa = some (dN w pa ax)
  ka : KeysOk H ax
  aR : ∀ n ∈ nodes, AheadAt H ax W n
  small : nodes.length ≤ 1000000
  deg : ∀ n ∈ nodes, (W n).length ≤ 7
theorem GraphAt.same {w : World} {H H' : Hp} {W : WaysK} {nodes : List K1} {pn pa : Addr} {nv : List V} {ax : List (NestedKey × Addr × V)} (s : Same H H') (g : GraphAt w H W nodes pn pa nv ax) : GraphAt w H' W nodes pn pa nv ax :=
  ⟨s _ _ g.hn, g.rn.keep (Same.tups s), g.nd, g.cl, s _ _ g.ha, g.ka.keep (Same.tups s), fun n h => (g.aR n h).same s, g.small, g.deg⟩
theorem GraphAt.isK {w : World} {H : Hp} {W : WaysK} {nodes : List K1} {pn pa : Addr} {nv : List V} {ax : List (NestedKey × Addr × V)} (g : GraphAt w H W nodes pn pa nv ax) {n : K1} (h : n ∈ nodes) {v : V} (r : Rp H n v) : IsK H n v := by
  obtain ⟨l, lv, e, _⟩ := g.aR n h
  exact isK_of g.ka e r
def stK (p : K1 × Nat) : K1 := .tup [p.1, .num p.2]
def spLeaving (w : World) : Sp := fun vs H Q _ => ∃ pn pa W nodes nv ax, vs = [.ref pn, .ref pa] ∧ GraphAt w H W nodes pn pa nv ax ∧
  ∀ H' p ord ov, Same H H' → H p = none → H' p = some (.lst ov) → Rps H' ord ov → Gr.DOut W nodes ord → Q (.ref p) H'
section
variable {P : Program} {w : World} {K : PySem.W.Frag} {mg : Str → Option Value} {base : Heap}
theorem ok_leaving_order (T : Blt mg) {f : Addr} {fd : FuncData} (F : Fun K "leaving_order" "leaving_order" s_leaving_order f fd) : FnOk P w K mg base CX0 1 f fd P_leaving_order (spLeaving w) := by
  refine F.ok sc_leaving_order (fun vs H Q E h => ?_) (fun cdv A outer s H vs Q E hr h => ?_)
  · obtain ⟨pn, pa, W, nodes, nv, ax, rfl, _⟩ := h
    rfl
  · obtain ⟨pn, pa, W, nodes, nv, ax, rfl, g, k⟩ := h
    have sz : sizeLine = 16777216 := sizeLine_eq
    have hsm := g.small
    have hnv : nv.length = nodes.length := g.rn.length
    refine ⟨_, (pss_cons (ps_set (i := 2) sc_leaving_order.nd rfl (Or.inl rfl) (pe_lst pa_nil))
  (pss_cons (ps_set (i := 3) sc_leaving_order.nd rfl (Or.inl rfl) pe_nnew)
  (pss_cons (ps_for PassesOwn.never rfl (pi_list (pv 0)) (pg_name (i := 4) sc_leaving_order.nd rfl (Or.inl rfl))
    (pss_cons (ps_if (pt_cmp (pc_nin hr (pv 4) (pv 3)))
      (pss_one ps_continue)
      pss_nil)
    (pss_cons (ps_nput hr (pv 3) (pv 4) pe_bl rfl)
    (pss_cons (ps_set (i := 5) sc_leaving_order.nd rfl (Or.inl rfl) (pe_lst (pa_cons (pe_tup (pa_cons (pv 4) (pa_cons pe_int pa_nil))) pa_nil)))
    (pss_one (ps_while PassesOwn.never (pt_truth (pv 5) (by intro _; rfl))
      (pss_cons (ps_asg (pe_bm0 PySem.F.plainAttrs_list PySem.F.slot_list_pop PySem.F.type_list_pop mt_pop (pv 5)) (pg_tup rfl (pgs_cons (pg_name (i := 6) sc_leaving_order.nd rfl (Or.inl rfl)) (pgs_cons (pg_name (i := 7) sc_leaving_order.nd rfl (Or.inl rfl)) pgs_nil))))
      (pss_cons (ps_if (pt_cmpR op_eq (pv 7) (pe_callB call_len_seq (by rfl) T.len (by decide +kernel) (pa_cons (pe_nget hr (pv 1) (pv 6) (fun _ _ => rfl)) pa_nil)) (nomark _))
        (pss_cons (ps_expr (pe_bm PySem.F.plainAttrs_list PySem.F.slot_list_append PySem.F.type_list_append mt_append (pv 2) (pa_cons (pv 6) pa_nil)))
        (pss_one ps_continue))
        pss_nil)
      (pss_cons (ps_expr (pe_bm PySem.F.plainAttrs_list PySem.F.slot_list_append PySem.F.type_list_append mt_append (pv 5) (pa_cons (pe_tup (pa_cons (pv 6) (pa_cons (pe_op op_add (pv 7) pe_int) pa_nil))) pa_nil)))
      (pss_cons (ps_set (i := 8) sc_leaving_order.nd rfl (Or.inl rfl) (pe_ix ix_tup (pe_ix ix_list (pe_nget hr (pv 1) (pv 6) (fun _ _ => rfl)) (pv 7) (fun _ _ => rfl)) pe_int (fun _ _ => rfl)))
      (pss_one (ps_if (pt_cmp (pc_nnotin hr (pv 8) (pv 3)))
        (pss_cons (ps_nput hr (pv 3) (pv 8) pe_bl rfl)
        (pss_one (ps_expr (pe_bm PySem.F.plainAttrs_list PySem.F.slot_list_append PySem.F.type_list_append mt_append (pv 5) (pa_cons (pe_tup (pa_cons (pv 8) (pa_cons pe_int pa_nil))) pa_nil)))))
        pss_nil))))))))))))
  (pss_one (ps_ret (pv 2)))))), ?_⟩
    refine ⟨Nat.zero_le _, fun po hpo => ?_⟩
    have O1 : Own H _ [(po, .lst [])] := (Own.start H).new (o := .lst []) hpo rfl
    refine fun ps hps => ?_
    have O2 := O1.new (o := dN w ps []) hps rfl
    refine ⟨_, rfl, pn, rfl, ⟨_, SqL.of (O2.sub _ _ g.hn)⟩, for_list (K := K) (a := pn) (xs := nv) (fun i σ H' => ∃ (B : Hp) (ord seen : List K1) (ov : List V) (sx : List (NestedKey × Addr × V)) (lo : K1 → Nat) (x4 x5 x6 x7 x8 : Option V),
        σ = [some (.ref pn), some (.ref pa), some (.ref po), some (.ref ps), x4, x5, x6, x7, x8] ∧ Same H B ∧ Own B H' [(ps, dN w ps sx), (po, .lst ov)] ∧ Rps B ord ov ∧ KeysOk B sx ∧ sx.map (·.1) = seen ∧ Gr.DI W nodes ord seen [] lo ∧
        ∀ (j : Nat) n, j < i → nodes[j]? = some n → n ∈ seen)
      ⟨H, [], [], [], [], fun _ => 0, none, none, none, none, none, rfl, Same.refl H, O2, .nil, (fun x hx => nomatch hx), rfl, Gr.DI.init W nodes, fun j n hj => absurd hj (Nat.not_lt_zero _)⟩ ?_ ?_ ?_⟩
    · rintro i σ H' _ ⟨B, _, _, _, _, _, _, _, _, _, _, _, sB, O, _⟩
      exact SqL.of (O.sub _ _ (sB _ _ g.hn))
    · rintro i v σ H1 hi ⟨B, ord, seen, ov, sx, lo, x4, x5, x6, x7, x8, rfl, sB, O, ro, ks, kx, D, hj⟩
      obtain ⟨n, hn, rn⟩ := g.rn.geti hi
      have hmem := Gr.get_mem hn
      have gB := g.same sB
      have ikn : IsK B n v := gB.isK hmem (rn.keep (Same.tups sB))
      obtain ⟨_, dpn, bn, ebn⟩ := id ikn
      subst ebn
      have hs : (valN sx n).isSome = true ↔ n ∈ seen := by rw [valN_isSome, kx]
      -- if first in seen: continue
      refine ⟨_, rfl, _, rfl, ps, sx, n, rfl, .inl (O.get 0 rfl), ks.keep O.tups, ikn.keep O.tups, _, rfl, ?_⟩
      refine ite2 (fun hin => ?_) (fun hout => ?_)
      · refine ⟨B, ord, seen, ov, sx, lo, _, _, _, _, _, rfl, sB, O, ro, ks, kx, D, fun j m hjm hm => ?_⟩
        by_cases q : j < i
        · exact hj j m q hm
        · have : j = i := by omega
          subst this; rw [hn] at hm; cases hm; exact hs.mp hin
      · have nseen : n ∉ seen := fun q => hout (hs.mpr q)
        have enone : valN sx n = none := by
          cases q : valN sx n with
          | none => rfl
          | some z => exact absurd (by rw [q]; rfl) hout
        have sxl : sx.length = seen.length := by rw [← kx, List.length_map]
        have hsl := D.seenlen
        -- seen[first] = True
        refine ⟨_, rfl, _, rfl, ps, sx, n, bn, rfl, rfl, O.get 0 rfl, ks.keep O.tups, ikn.1.keep O.tups, dpn, by rw [sz]; omega, ?_⟩
        have O3 := O.put 0 (o := dN w ps (putN sx n bn (.bl true))) rfl rfl
        have ks3 : KeysOk B (putN sx n bn (.bl true)) := ks.put ikn.1 dpn
        have kx3 : (putN sx n bn (.bl true)).map (·.1) = seen ++ [n] := by rw [putN_new _ _ enone, List.map_append, kx]; rfl
        have D3 := D.push nseen hmem (fun p hp => nomatch hp)
        -- stack = [(first, 0)]
        refine ⟨_, rfl, by rw [sz]; show 2 ≤ 16777216; decide, fun pt hpt => ?_⟩
        obtain ⟨B4, sB4, b4, O4⟩ := O3.fz (o := .tup [.ref bn, .int 0]) hpt
        refine ⟨by rw [sz]; show 1 ≤ 16777216; decide, fun pk hpk => ?_⟩
        have O5 := O4.new (o := .lst [.ref pt]) hpk rfl
        refine ⟨fun m σ H' => ∃ (B : Hp) (ord seen' : List K1) (ov stv : List V) (sx : List (NestedKey × Addr × V)) (stk : List (K1 × Nat)) (lo : K1 → Nat) (x6 x7 x8 : Option V),
          σ = [some (.ref pn), some (.ref pa), some (.ref po), some (.ref ps), some (.ref bn), some (.ref pk), x6, x7, x8] ∧ Same H B ∧ Own B H' [(pk, .lst stv), (ps, dN w ps sx), (po, .lst ov)] ∧ Rps B ord ov ∧ Rps B (stk.map stK) stv ∧ KeysOk B sx ∧ sx.map (·.1) = seen' ∧
          Gr.DI W nodes ord seen' stk lo ∧ (∀ x ∈ seen ++ [n], x ∈ seen') ∧ m = Gr.dm W nodes seen' stk,
          ⟨_, B4, ord, seen ++ [n], ov, [.ref pt], _, [(n, 0)], _, _, _, _, rfl, sB.trans sB4, O5, ro.keep (Same.tups sB4), ?_, ks3.keep (Same.tups sB4), kx3, D3, fun _ h => h, rfl⟩, ?_⟩
        · exact .cons (rp_tup b4 (.cons (ikn.1.keep (Same.tups sB4)) (.cons (rp_num 0) .nil))) .nil
        rintro m σ H6 ⟨B6, ord6, seen6, ov6, stv, sx6, stk, lo6, y6, y7, y8, rfl, sB6, O6, ro6, rst, ks6, kx6, D6, sub6, rfl⟩
        have g6 := g.same sB6
        have hord := D6.ordlen
        have hseen := D6.seenlen
        have hstk := D6.stklen
        have hstv : stv.length = stk.length := by rw [rst.length, List.length_map]
        have hov : ov6.length = ord6.length := ro6.length
        have sxl6 : sx6.length = seen6.length := by rw [← kx6, List.length_map]
        refine ⟨_, rfl, _, .inl ⟨stv, SqL.of (O6.get 0 rfl), rfl⟩, ?_⟩
        refine ite2 (fun hne => ?_) (fun hem => ?_)
        · -- node, at = stack.pop()
          refine ⟨fun σ' H' => ∃ m', m' < Gr.dm W nodes seen6 stk ∧ _, fun _ _ h => h, ?_⟩
          have hnil : stk ≠ [] := fun z => by
            subst z
            have : stv = [] := List.eq_nil_of_length_eq_zero (by rw [hstv]; rfl)
            rw [this] at hne; cases hne
          obtain ⟨s1, top, rfl⟩ : ∃ s1 top, stk = s1 ++ [top] := ⟨stk.dropLast, stk.getLast hnil, (List.dropLast_concat_getLast hnil).symm⟩
          obtain ⟨u, at_⟩ := top
          have hlast : stv.length - 1 = s1.length := by rw [hstv, List.length_append, List.length_singleton]; omega
          have hget : ((s1 ++ [(u, at_)]).map stK)[stv.length - 1]? = some (stK (u, at_)) := by rw [hlast, List.getElem?_map]; simp
          obtain ⟨tv, htv, rtv⟩ := rst.get hget
          obtain ⟨ta, tvs, rfl, hta, rts⟩ := rtv.tupD
          obtain ⟨uv, r1, rfl, ru, rts⟩ := rts.consD
          obtain ⟨av, r2, rfl, ra, rts⟩ := rts.consD
          obtain rfl := rts.nilD
          obtain rfl := ra.numD
          have hdl : stv.dropLast = stv.take s1.length := by rw [List.dropLast_eq_take, hlast]
          have rst1 : Rps B6 (s1.map stK) stv.dropLast := by
            have := rst.take s1.length
            rw [← List.map_take, List.take_left] at this
            rw [hdl]; exact this
          refine ⟨_, rfl, .inl ⟨rfl, _, SqL.of (O6.get 0 rfl)⟩, pk, stv, .ref ta, rfl, rfl, O6.get 0 rfl, htv, ?_⟩
          have O7 := O6.put 0 (o := .lst stv.dropLast) rfl rfl
          refine ⟨ta, _, rfl, SqT.of (O7.sub _ _ hta), rfl, _, _, rfl, _, _, rfl, rfl, ?_⟩
          have hu : u ∈ nodes := D6.inn u ((D6.seenI u).mpr (.inr (by simp)))
          obtain ⟨l, lv, hl, bl, rl⟩ := g6.aR u hu
          have iku : IsK B6 u uv := g6.isK hu ru
          have hlv : lv.length = (W u).length := by rw [rl.length, List.length_map]
          -- if at == len(ahead[node])
          refine ⟨_, rfl, _, rfl, _, rfl, pa, ax, u, .ref l, rfl, .inl (O7.sub _ _ g6.ha), g6.ka.keep O7.tups, iku.keep O7.tups, hl, l, lv, rfl, .inl (SqL.of (O7.sub _ _ bl)), rfl, _, rfl, ?_⟩
          refine ite2 (fun heq => ?_) (fun hne2 => ?_)
          · have hal : (W u).length ≤ at_ := by
              have q := of_decide_eq_true heq
              injection q with q
              omega
            -- order.append(node); continue
            refine ⟨_, rfl, .inl ⟨rfl, _, SqL.of (O7.get 2 rfl)⟩, _, rfl, po, ov6, uv, rfl, rfl, O7.get 2 rfl, by rw [sz]; omega, ?_⟩
            have O8 := O7.put 2 (o := .lst (ov6 ++ [uv])) rfl rfl
            exact ⟨_, Gr.dm_fin, B6, ord6 ++ [u], seen6, ov6 ++ [uv], stv.dropLast, sx6, s1, lo6, _, _, _, rfl, sB6, O8, ro6.snoc ru, rst1, ks6, kx6, D6.fin hal, sub6, rfl⟩
          · have hal : at_ < (W u).length := by
              have h2 := (D6.stke (u, at_) (by simp)).1
              have : at_ ≠ (W u).length := fun z => hne2 (decide_eq_true (by rw [hlv, z]))
              simp only at h2
              omega
            obtain ⟨st, hst⟩ : ∃ st, (W u)[at_]? = some st := ⟨_, List.getElem?_eq_getElem hal⟩
            obtain ⟨lb, t, wt⟩ := st
            obtain ⟨sv, hsv, rsv⟩ := rl.get (i := at_) (k := stepK (lb, t, wt)) (by rw [List.getElem?_map, hst]; rfl)
            obtain ⟨sa, svs, rfl, hsa, rs⟩ := rsv.tupD
            obtain ⟨lbv, r1, rfl, rlb, rs⟩ := rs.consD
            obtain ⟨tvv, r2, rfl, rt, rs⟩ := rs.consD
            obtain ⟨wv, r3, rfl, rw, rs⟩ := rs.consD
            obtain rfl := rs.nilD
            have ht : t ∈ nodes := g.cl u hu _ (Gr.get_mem hst)
            have ikt : IsK B6 t tvv := g6.isK ht rt
            obtain ⟨_, dpt, bt, ebt⟩ := id ikt
            subst ebt
            have hst1 : stv.dropLast.length = s1.length := by rw [List.length_dropLast]; omega
            have hs1 : s1.length ≤ nodes.length := by rw [List.length_append, List.length_singleton] at hstk; omega
            -- stack.append((node, at + 1))
            refine ⟨_, rfl, .inl ⟨rfl, _, SqL.of (O7.get 0 rfl)⟩, _, rfl, _, rfl, _, _, rfl, rfl, by rw [sz]; show 2 ≤ 16777216; decide, fun p8 hp8 => ?_⟩
            obtain ⟨B8, sB8, b8, O8⟩ := O7.fz (o := .tup [uv, .int ((at_ : Int) + 1)]) hp8
            refine ⟨pk, stv.dropLast, .ref p8, rfl, rfl, O8.get 0 rfl, by rw [sz]; omega, ?_⟩
            have O9 := O8.put 0 (o := .lst (stv.dropLast ++ [.ref p8])) rfl rfl
            have g8 := g6.same sB8
            have rnew : Rp B8 (stK (u, at_ + 1)) (.ref p8) := rp_tup b8 (.cons (ru.keep (Same.tups sB8)) (.cons (by unfold Rp; rfl) .nil))
            have rst9 : Rps B8 ((s1 ++ [(u, at_ + 1)]).map stK) (stv.dropLast ++ [.ref p8]) := by rw [List.map_append]; exact (rst1.keep (Same.tups sB8)).snoc rnew
            -- then = ahead[node][at][1]
            refine ⟨_, rfl, _, rfl, pa, ax, u, .ref l, rfl, .inl (O9.sub _ _ g8.ha), g8.ka.keep O9.tups, (iku.keep (Same.tups sB8)).keep O9.tups, hl, _, rfl, l, lv, _, .ref sa, rfl, rfl, SqL.of (O9.sub _ _ (sB8 _ _ bl)), at_of rfl hsv, sa, _, _, .ref bt, rfl, rfl, SqT.of (O9.sub _ _ (sB8 _ _ hsa)), rfl, ?_⟩
            -- if then not in seen
            refine ⟨_, rfl, _, rfl, ps, sx6, t, rfl, .inl (O9.get 1 rfl), (ks6.keep (Same.tups sB8)).keep O9.tups, (ikt.keep (Same.tups sB8)).keep O9.tups, _, rfl, ?_⟩
            have hs6 : (valN sx6 t).isSome = true ↔ t ∈ seen6 := by rw [valN_isSome, kx6]
            by_cases hin : t ∈ seen6
            · rw [hs6.mpr hin]
              refine iteF ?_
              exact ⟨_, Gr.dm_bump hal, B8, ord6, seen6, ov6, _, sx6, s1 ++ [(u, at_ + 1)], lo6, _, _, _, rfl, sB6.trans sB8, O9, ro6.keep (Same.tups sB8), rst9, ks6.keep (Same.tups sB8), kx6, D6.bump hst hin, sub6, rfl⟩
            · have enone6 : valN sx6 t = none := by
                cases q : valN sx6 t with
                | none => rfl
                | some z => exact absurd (hs6.mp (by rw [q]; rfl)) hin
              rw [enone6]
              refine iteT ?_
              have ikt8 := ikt.keep (Same.tups sB8)
              refine ⟨_, rfl, _, rfl, ps, sx6, t, bt, rfl, rfl, O9.get 1 rfl, (ks6.keep (Same.tups sB8)).keep O9.tups, ikt8.1.keep O9.tups, dpt, by rw [sz]; omega, ?_⟩
              have O10 := O9.put 1 (o := dN w ps (putN sx6 t bt (.bl true))) rfl rfl
              refine ⟨_, rfl, .inl ⟨rfl, _, SqL.of (O10.get 0 rfl)⟩, _, rfl, by rw [sz]; show 2 ≤ 16777216; decide, fun p11 hp11 => ?_⟩
              obtain ⟨B11, sB11, b11, O11⟩ := O10.fz (o := .tup [.ref bt, .int 0]) hp11
              refine ⟨pk, stv.dropLast ++ [.ref p8], .ref p11, rfl, rfl, O11.get 0 rfl, by rw [sz, List.length_append, List.length_singleton]; omega, ?_⟩
              have O12 := O11.put 0 (o := .lst (stv.dropLast ++ [.ref p8] ++ [.ref p11])) rfl rfl
              have s11 := sB8.trans sB11
              have rn11 : Rp B11 (stK (t, 0)) (.ref p11) := rp_tup b11 (.cons (ikt.1.keep (Same.tups s11)) (.cons (rp_num 0) .nil))
              have Dp : Gr.DI W nodes ord6 (seen6 ++ [t]) ((s1 ++ [(u, at_)]) ++ [(t, 0)]) _ := D6.push hin ht (fun p hp => by
                have e1 : Gr.Rch W u t := .edge ⟨lb, wt, Gr.get_mem hst⟩
                rcases List.mem_append.mp hp with q | q
                · have hpw := D6.stkp
                  rw [List.pairwise_append] at hpw
                  exact (hpw.2.2 p q (u, at_) (by simp)).1.trans e1
                · have : p = (u, at_) := by simpa using q
                  subst this; exact e1)
              rw [List.append_assoc] at Dp
              have Db := Dp.bump (s1 := s1) (s2 := [(t, 0)]) hst (by simp)
              refine ⟨_, Gr.dm_push g.nd ht hin hal, B11, ord6, seen6 ++ [t], ov6, _, putN sx6 t bt (.bl true), s1 ++ [(u, at_ + 1)] ++ [(t, 0)], _, _, _, _, rfl, sB6.trans s11, O12, ro6.keep (Same.tups s11), ?_, ?_, ?_, (by rw [List.append_assoc]; exact Db), fun x hx => List.mem_append_left _ (sub6 x hx), rfl⟩
              · rw [List.map_append]; exact (rst9.keep (Same.tups sB11)).snoc rn11
              · exact (ks6.keep (Same.tups s11)).put (ikt.1.keep (Same.tups s11)) dpt
              · rw [putN_new _ _ enone6, List.map_append, kx6]; rfl
        · -- the stack is empty
          have hst0 : stk = [] := by
            cases stk with
            | nil => rfl
            | cons a b =>
              cases stv with
              | nil => simp at hstv
              | cons c d => exact absurd rfl hem
          subst hst0
          refine ⟨B6, ord6, seen6, ov6, sx6, lo6, _, _, _, _, _, rfl, sB6, O6.drop (List.sublist_cons_self ..), ro6, ks6, kx6, D6, fun j m hjm hm => ?_⟩
          by_cases q : j < i
          · exact sub6 m (List.mem_append_left _ (hj j m q hm))
          · have : j = i := by omega
            subst this; rw [hn] at hm; cases hm; exact sub6 n (by simp)
    · rintro σ H1 ⟨B, ord, seen, ov, sx, lo, x4, x5, x6, x7, x8, rfl, sB, O, ro, ks, kx, D, hj⟩
      refine ⟨_, rfl, ?_⟩
      refine k _ po ord ov (sB.trans O.sub) hpo (O.get 1 rfl) (ro.keep O.tups) (D.out fun n hn => ?_)
      obtain ⟨j, hjn⟩ := Gr.mem_get hn
      exact hj j n (by have := Gr.get_lt hjn; omega) hjn
end
end ND
end
section
set_option Elab.async false
set_option linter.all false
set_option maxRecDepth 100000
set_option maxHeartbeats 4000000
namespace ND
open PySem L2
open PyProof.Rows (envOfC)
/-! ### components -/
def PartRep (px : List (NestedKey × Addr × V)) (parts : K1 → Option Nat) : Prop := ∀ m, valN px m = (parts m).map fun c => V.int ((c : Nat) : Int)
theorem PartRep.put {px : List (NestedKey × Addr × V)} {parts parts' : K1 → Option Nat} (h : PartRep px parts) {u : K1} {b : Addr} {c : Nat} (e : ∀ m, parts' m = if m = u then some c else parts m) : PartRep (putN px u b (.int ((c : Nat) : Int))) parts' := fun m => by
  rw [valN_put, e, h m]
  by_cases q : m = u
  · rw [if_pos q, if_pos q]; rfl
  · rw [if_neg q, if_neg q]
theorem PartRep.isSome {px : List (NestedKey × Addr × V)} {parts : K1 → Option Nat} (h : PartRep px parts) (m : K1) : (valN px m).isSome = (parts m).isSome := by rw [h m, Option.isSome_map]
/-- the dict tells who leads to a node -/
def BehindAt (B : Hp) (bx : List (NestedKey × Addr × V)) (bh : K1 → List K1) (n : K1) : Prop := ∃ l lv, valN bx n = some (.ref l) ∧ B l = some (.lst lv) ∧ Rps B (bh n) lv
theorem BehindAt.same {B B' : Hp} (s : Same B B') {bx : List (NestedKey × Addr × V)} {bh : K1 → List K1} {n : K1} (h : BehindAt B bx bh n) : BehindAt B' bx bh n :=
  let ⟨l, lv, a, b, c⟩ := h; ⟨l, lv, a, s _ _ b, c.keep (Same.tups s)⟩
def spComponents (w : World) : Sp := fun vs H Q _ => ∃ pn pa W nodes nv ax, vs = [.ref pn, .ref pa] ∧ GraphAt w H W nodes pn pa nv ax ∧
  ∀ H' p px parts, Same H H' → H p = none → H' p = some (dN w p px) → KeysOk H' px → PartRep px parts → Gr.POut W nodes parts → (px.map (·.1)).Nodup → px.length ≤ nodes.length → Q (.ref p) H'
section
variable {P : Program} {w : World} {K : PySem.W.Frag} {mg : Str → Option Value} {base : Heap}
theorem ok_components (T : Blt mg) {f_leaving_order : Addr} {fd_leaving_order : FuncData} (G_leaving_order : FnOk P w K mg base CX0 1 f_leaving_order fd_leaving_order P_leaving_order (spLeaving w)) (g_leaving_order : mg "leaving_order" = some (.ref f_leaving_order))
    (k_leaving_order : PySem.W.keepIn K (.ref f_leaving_order) = true) (b_leaving_order : Binds K fd_leaving_order P_leaving_order [])
    {f : Addr} {fd : FuncData} (F : Fun K "components" "components" s_components f fd) : FnOk P w K mg base CX0 2 f fd P_components (spComponents w) := by
  refine F.ok sc_components (fun vs H Q E h => ?_) (fun cdv A outer s H vs Q E hr h => ?_)
  · obtain ⟨pn, pa, W, nodes, nv, ax, rfl, _⟩ := h
    rfl
  · obtain ⟨pn, pa, W, nodes, nv, ax, rfl, g, k⟩ := h
    have sz : sizeLine = 16777216 := sizeLine_eq
    have hsm := g.small
    have hnv : nv.length = nodes.length := g.rn.length
    refine ⟨_, (pss_cons (ps_set (i := 2) sc_components.nd rfl (Or.inl rfl) pe_nnew)
  (pss_cons (ps_for PassesOwn.never rfl (pi_list (pv 0)) (pg_name (i := 3) sc_components.nd rfl (Or.inl rfl))
    (pss_one (ps_nput hr (pv 2) (pv 3) (pe_lst pa_nil) rfl)))
  (pss_cons (ps_for PassesOwn.never rfl (pi_list (pv 0)) (pg_name (i := 3) sc_components.nd rfl (Or.inl rfl))
    (pss_one (ps_for PassesOwn.never rfl (pi_list (pe_nget hr (pv 1) (pv 3) (fun _ _ => rfl))) (pg_tup rfl (pgs_cons (pg_name (i := 4) sc_components.nd rfl (Or.inl rfl)) (pgs_cons (pg_name (i := 5) sc_components.nd rfl (Or.inl rfl)) (pgs_cons (pg_name (i := 6) sc_components.nd rfl (Or.inl rfl)) pgs_nil))))
      (pss_one (ps_expr (pe_bm PySem.F.plainAttrs_list PySem.F.slot_list_append PySem.F.type_list_append mt_append (pe_nget hr (pv 2) (pv 5) (fun _ _ => rfl)) (pa_cons (pv 3) pa_nil)))))))
  (pss_cons (ps_set (i := 7) sc_components.nd rfl (Or.inl rfl) (pe_call G_leaving_order (hr.mono (show 1 ≤ 1 by decide)) rfl g_leaving_order k_leaving_order b_leaving_order .nil pass0 (pa_cons (pv 0) (pa_cons (pv 1) pa_nil))))
  (pss_cons (ps_expr (pe_bm0 PySem.F.plainAttrs_list PySem.F.slot_list_reverse PySem.F.type_list_reverse mt_reverse (pv 7)))
  (pss_cons (ps_set (i := 8) sc_components.nd rfl (Or.inl rfl) pe_nnew)
  (pss_cons (ps_for PassesOwn.never rfl (pi_enum (by rfl) T.enumerate (pa_cons (pv 7) pa_nil)) (pg_tup rfl (pgs_cons (pg_name (i := 9) sc_components.nd rfl (Or.inl rfl)) (pgs_cons (pg_name (i := 10) sc_components.nd rfl (Or.inl rfl)) pgs_nil)))
    (pss_cons (ps_if (pt_cmp (pc_nin hr (pv 10) (pv 8)))
      (pss_one ps_continue)
      pss_nil)
    (pss_cons (ps_nput hr (pv 8) (pv 10) (pv 9) rfl)
    (pss_cons (ps_set (i := 11) sc_components.nd rfl (Or.inl rfl) (pe_lst (pa_cons (pv 10) pa_nil)))
    (pss_one (ps_while PassesOwn.never (pt_truth (pv 11) (by intro _; rfl))
      (pss_one (ps_for PassesOwn.never rfl (pi_list (pe_nget hr (pv 2) (pe_bm0 PySem.F.plainAttrs_list PySem.F.slot_list_pop PySem.F.type_list_pop mt_pop (pv 11)) (fun _ _ => rfl))) (pg_name (i := 12) sc_components.nd rfl (Or.inl rfl))
        (pss_one (ps_if (pt_cmp (pc_nnotin hr (pv 12) (pv 8)))
          (pss_cons (ps_nput hr (pv 8) (pv 12) (pv 9) rfl)
          (pss_one (ps_expr (pe_bm PySem.F.plainAttrs_list PySem.F.slot_list_append PySem.F.type_list_append mt_append (pv 11) (pa_cons (pv 12) pa_nil)))))
          pss_nil))))))))))
  (pss_one (ps_ret (pv 8)))))))))), ?_⟩
    refine fun pb hpb => ?_
    have O1 : Own H _ [(pb, dN w pb [])] := (Own.start H).new (o := dN w pb []) hpb rfl
    -- for node in nodes: behind[node] = []
    refine ⟨_, rfl, pn, rfl, ⟨_, SqL.of (O1.sub _ _ g.hn)⟩, for_list (K := K) (a := pn) (xs := nv) (fun i σ H' => ∃ (B : Hp) (bx : List (NestedKey × Addr × V)) (fam : List (Addr × HO)) (x3 : Option V),
        σ = [some (.ref pn), some (.ref pa), some (.ref pb), x3, none, none, none, none, none, none, none, none, none] ∧ Same H B ∧ Own B H' ((pb, dN w pb bx) :: fam) ∧ KeysOk B bx ∧ bx.map (·.1) = nodes.take i ∧ fam.length = i ∧
        ∀ (j : Nat) n, j < i → nodes[j]? = some n → ∃ l, valN bx n = some (.ref l) ∧ fam[j]? = some (l, .lst []))
      ⟨H, [], [], none, rfl, Same.refl H, O1, (fun x hx => nomatch hx), rfl, rfl, fun j n hj => absurd hj (Nat.not_lt_zero _)⟩ ?_ ?_ ?_⟩
    · rintro i σ H' _ ⟨B, _, _, _, _, sB, O, _⟩
      exact SqL.of (O.sub _ _ (sB _ _ g.hn))
    · rintro i v σ H1 hi ⟨B, bx, fam, x3, rfl, sB, O, ks, kx, hfl, hf⟩
      obtain ⟨n, hn, rn⟩ := g.rn.geti hi
      have hmem := Gr.get_mem hn
      have gB := g.same sB
      have ikn : IsK B n v := gB.isK hmem (rn.keep (Same.tups sB))
      obtain ⟨_, dpn, bn, ebn⟩ := id ikn
      subst ebn
      have bxl : bx.length ≤ i := by
        have := congrArg List.length kx
        rw [List.length_map, List.length_take] at this; omega
      have hil := Gr.get_lt hn
      have enone : valN bx n = none := by
        refine valN_none_of fun q => ?_
        rw [kx] at q
        obtain ⟨j, hj⟩ := Gr.mem_get q
        have hjl := Gr.get_lt hj
        rw [List.length_take] at hjl
        rw [List.getElem?_take] at hj
        split at hj
        · have := Gr.nodup_get g.nd hj hn; omega
        · cases hj
      refine ⟨Nat.zero_le _, fun lp hlp => ?_⟩
      have O2 := O.new (o := .lst []) hlp rfl
      refine ⟨_, rfl, _, rfl, pb, bx, n, bn, rfl, rfl, O2.get 1 rfl, ks.keep O2.tups, ikn.1.keep O2.tups, dpn, by rw [sz]; omega, ?_⟩
      have O3 := O2.put 1 (o := dN w pb (putN bx n bn (.ref lp))) rfl rfl
      have ep := putN_new bn (.ref lp) enone
      refine ⟨B, putN bx n bn (.ref lp), fam ++ [(lp, .lst [])], _, rfl, sB, O3.perm ?_, ks.put ikn.1 dpn, ?_, by rw [List.length_append, hfl]; rfl, fun j m hj hm => ?_⟩
      · show List.Perm ((pb, dN w pb (putN bx n bn (.ref lp))) :: (fam ++ [(lp, .lst [])])) ((lp, .lst []) :: (pb, dN w pb (putN bx n bn (.ref lp))) :: fam)
        exact (List.Perm.cons _ (List.perm_append_singleton _ _)).trans (List.Perm.swap _ _ _)
      · rw [ep, List.map_append, kx, take_succ_of hn]; rfl
      · rw [valN_put]
        by_cases q : j < i
        · obtain ⟨l, h1, h2⟩ := hf j m q hm
          have : m ≠ n := fun z => by subst z; have := Gr.nodup_get g.nd hm hn; omega
          rw [if_neg this]
          exact ⟨l, h1, Gr.get_left h2⟩
        · have : j = i := by omega
          subst this
          rw [hn] at hm; cases hm
          rw [if_pos rfl]
          refine ⟨lp, rfl, ?_⟩
          rw [← hfl]; exact Gr.get_last _ _
    rintro σ H1 ⟨B1, bx, fam0, x3, rfl, sB1, O1, kb, kbx, hfl0, hf0⟩
    have bxk : bx.map (·.1) = nodes := by rw [kbx, List.take_of_length_le (by omega)]
    -- for node in nodes: for .. in ahead[node]: behind[then].append(node)
    have g1 := g.same sB1
    refine ⟨_, rfl, pn, rfl, ⟨_, SqL.of (O1.sub _ _ g1.hn)⟩, for_list (K := K) (a := pn) (xs := nv) (fun i σ H' => ∃ (fam : List (Addr × HO)) (bh : K1 → List K1) (x3 x4 x5 x6 : Option V),
        σ = [some (.ref pn), some (.ref pa), some (.ref pb), x3, x4, x5, x6, none, none, none, none, none, none] ∧ Own B1 H' ((pb, dN w pb bx) :: fam) ∧ (∀ (j : Nat) n, nodes[j]? = some n → ∃ l bv, valN bx n = some (.ref l) ∧ fam[j]? = some (l, .lst bv) ∧ Rps B1 (bh n) bv) ∧
        (∀ v u, u ∈ bh v → u ∈ nodes ∧ Gr.Edge W u v) ∧ (∀ (j : Nat) u v, j < i → nodes[j]? = some u → Gr.Edge W u v → u ∈ bh v) ∧ ∀ v, (bh v).length ≤ 7 * i)
      ⟨fam0, fun _ => [], x3, none, none, none, rfl, O1, fun j n hn => ?_, (fun v u h => nomatch h), (fun j u v hj => absurd hj (Nat.not_lt_zero _)), fun v => Nat.zero_le _⟩ ?_ ?_ ?_⟩
    · obtain ⟨l, h1, h2⟩ := hf0 j n (by have := Gr.get_lt hn; omega) hn
      exact ⟨l, [], h1, h2, .nil⟩
    · rintro i σ H' _ ⟨fam, bh, _, _, _, _, _, O, _⟩
      exact SqL.of (O.sub _ _ g1.hn)
    · rintro i v σ H2 hi ⟨fam, bh, x3, x4, x5, x6, rfl, O, hfam, snd, cmp, hlen⟩
      obtain ⟨n, hn, rn⟩ := g1.rn.geti hi
      have hmem := Gr.get_mem hn
      have hil := Gr.get_lt hn
      have ikn : IsK B1 n v := g1.isK hmem rn
      obtain ⟨_, dpn, bn, ebn⟩ := id ikn
      subst ebn
      obtain ⟨l, lv, hl, bl, rl⟩ := g1.aR n hmem
      have hdeg := g.deg n hmem
      have hlv : lv.length = (W n).length := by rw [rl.length, List.length_map]
      refine ⟨_, rfl, _, rfl, pa, ax, n, .ref l, rfl, .inl (O.sub _ _ g1.ha), g1.ka.keep O.tups, ikn.keep O.tups, hl, l, rfl, ⟨_, SqL.of (O.sub _ _ bl)⟩, for_list (K := K) (a := l) (xs := lv) (fun j σ H' => ∃ (fam : List (Addr × HO)) (bh : K1 → List K1) (x4 x5 x6 : Option V),
        σ = [some (.ref pn), some (.ref pa), some (.ref pb), some (.ref bn), x4, x5, x6, none, none, none, none, none, none] ∧ Own B1 H' ((pb, dN w pb bx) :: fam) ∧ (∀ (j : Nat) n, nodes[j]? = some n → ∃ l bv, valN bx n = some (.ref l) ∧ fam[j]? = some (l, .lst bv) ∧ Rps B1 (bh n) bv) ∧
        (∀ v u, u ∈ bh v → u ∈ nodes ∧ Gr.Edge W u v) ∧ (∀ (j : Nat) u v, j < i → nodes[j]? = some u → Gr.Edge W u v → u ∈ bh v) ∧ (∀ x ∈ (W n).take j, n ∈ bh x.2.1) ∧ ∀ v, (bh v).length ≤ 7 * i + j)
        ⟨fam, bh, x4, x5, x6, rfl, O, hfam, snd, cmp, (fun x hx => nomatch hx), hlen⟩ ?_ ?_ ?_⟩
      · rintro j σ H' _ ⟨fam, bh, _, _, _, _, O, _⟩
        exact SqL.of (O.sub _ _ bl)
      · rintro j x σ H3 hx ⟨fam, bh, x4, x5, x6, rfl, O, hfam, snd, cmp, cmpp, hlen⟩
        obtain ⟨st, hst, rsx⟩ := Rps.map rl hx
        obtain ⟨lb, t, wt⟩ := st
        obtain ⟨sa, svs, rfl, hsa, rs⟩ := rsx.tupD
        obtain ⟨lbv, r1, rfl, rlb, rs⟩ := rs.consD
        obtain ⟨tvv, r2, rfl, rt, rs⟩ := rs.consD
        obtain ⟨wv, r3, rfl, rw, rs⟩ := rs.consD
        obtain rfl := rs.nilD
        have hmW : (lb, t, wt) ∈ W n := Gr.get_mem hst
        have ht : t ∈ nodes := g.cl n hmem _ hmW
        have ikt : IsK B1 t tvv := g1.isK ht rt
        obtain ⟨q, hq⟩ := Gr.mem_get ht
        obtain ⟨lt, bv, h1, h2, h3⟩ := hfam q t hq
        have hjd := Gr.get_lt hst
        have hbl := hlen t
        have hbv : bv.length = (bh t).length := h3.length
        refine ⟨sa, _, rfl, SqT.of (O.sub _ _ hsa), rfl, _, _, rfl, _, _, rfl, _, _, rfl, rfl, ?_⟩
        refine ⟨_, rfl, _, rfl, pb, bx, t, .ref lt, rfl, .inl (O.get 0 rfl), kb.keep O.tups, ikt.keep O.tups, h1, .inl ⟨rfl, _, SqL.of (O.get (q + 1) h2)⟩, _, rfl, lt, bv, .ref bn, rfl, rfl, O.get (q + 1) h2, by rw [sz]; omega, ?_⟩
        have O4 := O.put (q + 1) (o := .lst (bv ++ [.ref bn])) h2 rfl
        refine ⟨fam.set q (lt, .lst (bv ++ [V.ref bn])), fun m => if m = t then bh t ++ [n] else bh m, _, _, _, rfl, O4, fun j' m hm => ?_, fun y u hu => ?_, fun j' u y hj' hu e => ?_, fun y hy => ?_, fun y => ?_⟩
        · by_cases c : m = t
          · subst c
            have : j' = q := Gr.nodup_get g.nd hm hq
            subst this
            refine ⟨lt, _, h1, List.getElem?_set_self (List.getElem?_eq_some_iff.mp h2).1, ?_⟩
            dsimp only; rw [if_pos rfl]; exact h3.snoc rn
          · obtain ⟨l', bv', e1, e2, e3⟩ := hfam j' m hm
            have : q ≠ j' := fun z => by subst z; rw [hq] at hm; cases hm; exact c rfl
            refine ⟨l', bv', e1, ?_, ?_⟩
            · rw [List.getElem?_set_ne this]; exact e2
            · dsimp only; rw [if_neg c]; exact e3
        · dsimp only at hu
          by_cases c : y = t
          · rw [if_pos c] at hu
            subst c
            rcases List.mem_append.mp hu with z | z
            · exact snd _ u z
            · have : u = n := by simpa using z
              subst this; exact ⟨hmem, lb, wt, hmW⟩
          · rw [if_neg c] at hu; exact snd y u hu
        · have := cmp j' u y hj' hu e
          dsimp only
          by_cases c : y = t
          · rw [if_pos c, ← c]; exact List.mem_append_left _ this
          · rw [if_neg c]; exact this
        · rw [take_succ_of hst] at hy
          rcases List.mem_append.mp hy with z | z
          · have := cmpp y z
            dsimp only
            by_cases c : y.2.1 = t
            · rw [if_pos c, ← c]; exact List.mem_append_left _ this
            · rw [if_neg c]; exact this
          · have : y = (lb, t, wt) := by simpa using z
            subst this; dsimp only; rw [if_pos rfl]; simp
        · have := hlen y
          dsimp only
          by_cases c : y = t
          · rw [if_pos c, List.length_append, List.length_singleton]; omega
          · rw [if_neg c]; omega
      · rintro σ H3 ⟨fam, bh, x4, x5, x6, rfl, O, hfam, snd, cmp, cmpp, hlen⟩
        rw [hlv, List.take_length] at cmpp
        refine ⟨fam, bh, _, _, _, _, rfl, O, hfam, snd, fun j u y hj hu e => ?_, fun y => ?_⟩
        · by_cases c : j < i
          · exact cmp j u y c hu e
          · have : j = i := by omega
            subst this
            rw [hn] at hu; cases hu
            obtain ⟨l', w', m⟩ := e
            exact cmpp _ m
        · have := hlen y; omega
    rintro σ H2 ⟨fam, bh, x3, x4, x5, x6, rfl, O2, hfam, snd, cmp, hlen⟩
    have bhI : ∀ v u, u ∈ nodes → Gr.Edge W u v → u ∈ bh v := fun v u hu e => by
      obtain ⟨j, hj⟩ := Gr.mem_get hu
      exact cmp j u v (by have := Gr.get_lt hj; omega) hj e
    -- behind will not be changed any more
    obtain ⟨B2, sB2, hall, O2'⟩ := Own.keepAll (l1 := (pb, dN w pb bx) :: fam) (l2 := []) (by rw [List.append_nil]; exact O2)
    have hpb2 : B2 pb = some (dN w pb bx) := hall _ (List.mem_cons_self ..)
    have bhB : ∀ n ∈ nodes, BehindAt B2 bx bh n := fun n hn => by
      obtain ⟨j, hj⟩ := Gr.mem_get hn
      obtain ⟨l, bv, h1, h2, h3⟩ := hfam j n hj
      exact ⟨l, bv, h1, hall _ (List.mem_cons_of_mem _ (List.mem_of_getElem? h2)), h3.keep (Same.tups sB2)⟩
    have g2 := g1.same sB2
    have kb2 := kb.keep (Same.tups sB2)
    -- order = leaving_order(nodes, ahead)
    refine ⟨_, rfl, _, rfl, pn, pa, W, nodes, nv, ax, rfl, g2.same O2'.sub, fun H4 po ord ov s4 n4 e4 r4 DO => ?_⟩
    obtain ⟨B4, sB4, O4, t4, f4⟩ := O2'.callNew s4 n4 e4 rfl
    have g4 := g2.same sB4
    have rord := r4.keep t4
    refine ⟨_, rfl, .inl ⟨rfl, _, SqL.of (O4.get 0 rfl)⟩, po, ov, rfl, rfl, O4.get 0 rfl, ?_⟩
    have O5 := O4.put 0 (o := .lst ov.reverse) rfl rfl
    have rrev := rord.rev
    refine fun pp hpp => ?_
    have O6 := O5.new (o := dN w pp []) hpp rfl
    obtain ⟨lo, edg, lo1, dsc⟩ := DO.lo
    have hordl : ord.length = nodes.length := Nat.le_antisymm (Gr.len_le_of_sub DO.nd fun n h => (DO.mem n).mp h) (Gr.len_le_of_sub g.nd fun n h => (DO.mem n).mpr h)
    have hovl : ov.reverse.length = ord.length := by rw [List.length_reverse]; exact rord.length
    have pxl : ∀ {px : List (NestedKey × Addr × V)} {parts : K1 → Option Nat}, PartRep px parts → (px.map (·.1)).Nodup → (∀ n, (parts n).isSome = true → n ∈ nodes) → px.length ≤ nodes.length := fun {px parts} pr nd dom => by
      have := Gr.len_le_of_sub nd (m := nodes) fun m hm => dom m (by rw [← pr.isSome]; exact (valN_isSome m px).mpr hm)
      rw [List.length_map] at this; exact this
    -- for count, first in enumerate(order)
    refine ⟨_, rfl, po, ov.reverse, rfl, SqL.of (O6.get 1 rfl), for_enum (K := K) (a := po) (xs := ov.reverse) (fun i σ H' => ∃ (B : Hp) (px : List (NestedKey × Addr × V)) (parts : K1 → Option Nat) (x9 x10 x11 x12 : Option V),
        σ = [some (.ref pn), some (.ref pa), some (.ref pb), x3, x4, x5, x6, some (.ref po), some (.ref pp), x9, x10, x11, x12] ∧ Same B4 B ∧ Own B H' [(pp, dN w pp px), (po, .lst ov.reverse)] ∧ KeysOk B px ∧ (px.map (·.1)).Nodup ∧ PartRep px parts ∧ Gr.CI W nodes ord i parts)
      ⟨B4, [], fun _ => none, none, none, none, none, rfl, Same.refl _, O6, (fun x hx => nomatch hx), List.nodup_nil, (fun _ => rfl), Gr.CI.init W nodes ord⟩ ?_ ?_ ?_⟩
    · rintro i σ H' _ ⟨B, _, _, _, _, _, _, _, sB, O, _⟩
      exact SqL.of (O.get 1 rfl)
    · rintro i v σ H7 T7 hv ⟨B, px, parts, x9, x10, x11, x12, rfl, sB, O, kp, nd, pr, C⟩ hT7
      obtain ⟨B7, sB7, b7, O7⟩ := O.fz (o := .tup [.int ((i : Nat) : Int), v]) hT7
      have s47 := sB.trans sB7
      have g7 := g4.same s47
      obtain ⟨r, hr', rr⟩ := rrev.geti hv
      have hrord : r ∈ ord := List.mem_reverse.mp (Gr.get_mem hr')
      have hrn : r ∈ nodes := (DO.mem r).mp hrord
      have ikr : IsK B7 r v := g7.isK hrn (rr.keep (Same.tups s47))
      obtain ⟨_, dpr, br, ebr⟩ := id ikr
      subst ebr
      have kp7 := kp.keep (Same.tups sB7)
      have hiord : i < ord.length := by have := Gr.get_lt hv; omega
      have hpx := pxl pr nd C.dom
      refine ⟨T7, _, rfl, SqT.of (O7.sub _ _ b7), rfl, _, _, rfl, _, _, rfl, rfl, ?_⟩
      refine ⟨_, rfl, _, rfl, pp, px, r, rfl, .inl (O7.get 0 rfl), kp7.keep O7.tups, ikr.keep O7.tups, _, rfl, ?_⟩
      have eis := pr.isSome r
      by_cases hin : (parts r).isSome = true
      · rw [eis, hin]
        refine iteT ?_
        exact ⟨B7, px, parts, _, _, _, _, rfl, s47, O7, kp7, nd, pr, C.skip hr' hin⟩
      · have hnone : parts r = none := by
          cases q : parts r with
          | none => rfl
          | some z => rw [q] at hin; exact absurd rfl hin
        have hfalse : (parts r).isSome = false := by rw [hnone]; rfl
        rw [eis, hfalse]
        refine iteF ?_
        have enone : valN px r = none := by rw [pr r, hnone]; rfl
        -- parts[first] = count
        refine ⟨_, rfl, _, rfl, _, rfl, pp, px, r, br, rfl, rfl, O7.get 0 rfl, kp7.keep O7.tups, ikr.1.keep O7.tups, dpr, by rw [sz]; omega, ?_⟩
        have O8 := O7.put 0 (o := dN w pp (putN px r br (.int ((i : Nat) : Int)))) rfl rfl
        have pr8 : PartRep (putN px r br (.int ((i : Nat) : Int))) (fun n => if n = r then some i else parts n) := pr.put (fun _ => rfl)
        have CJ8 := C.start (parts := fun n => if n = r then some i else parts n) hr' hrn hnone lo1 (fun _ => rfl)
        obtain ⟨f, hf⟩ : ∃ f, f = ord.length - 1 - i := ⟨_, rfl⟩
        rw [← hf] at CJ8
        have hrf : ord[f]? = some r := by rw [hf]; exact (Gr.rev_get hr').2
        -- queue = [first]
        refine ⟨_, rfl, by rw [sz]; show 1 ≤ 16777216; decide, fun pq hpq => ?_⟩
        have O9 := O8.new (o := .lst [.ref br]) hpq rfl
        refine ⟨fun m σ H' => ∃ (B : Hp) (px : List (NestedKey × Addr × V)) (parts' : K1 → Option Nat) (q : List K1) (qv : List V) (x12 : Option V),
          σ = [some (.ref pn), some (.ref pa), some (.ref pb), x3, x4, x5, x6, some (.ref po), some (.ref pp), some (.int ((i : Nat) : Int)), some (.ref br), some (.ref pq), x12] ∧ Same B4 B ∧ Own B H' [(pq, .lst qv), (pp, dN w pp px), (po, .lst ov.reverse)] ∧ KeysOk B px ∧ (px.map (·.1)).Nodup ∧ PartRep px parts' ∧ Rps B q qv ∧
          Gr.CJ W nodes ord i r f lo parts parts' q none [] ∧ m = q.length + (nodes.length - px.length),
          ⟨_, B7, _, _, [r], [.ref br], _, rfl, s47, O9, kp7.put ikr.1 dpr, nodup_putN nd, pr8, .cons ikr.1 .nil, CJ8, rfl⟩, ?_⟩
        rintro m σ H10 ⟨B10, px10, parts10, q, qv, y12, rfl, s410, O10, kp10, nd10, pr10, rq, CJ, rfl⟩
        have dom10 : ∀ n, (parts10 n).isSome = true → n ∈ nodes := fun n hn => by
          obtain ⟨c, hc⟩ := Option.isSome_iff_exists.mp hn
          cases z : parts n with
          | none => exact (CJ.new n c hc z).2.1
          | some c' => exact C.dom n (by rw [z]; rfl)
        have hpx10 := pxl pr10 nd10 dom10
        have g10 := g4.same s410
        have hqv : qv.length = q.length := rq.length
        refine ⟨_, rfl, _, .inl ⟨qv, SqL.of (O10.get 0 rfl), rfl⟩, ?_⟩
        refine ite2 (fun hne => ?_) (fun hem => ?_)
        · refine ⟨fun σ' H' => ∃ m', m' < q.length + (nodes.length - px10.length) ∧ _, fun _ _ h => h, ?_⟩
          have hnil : q ≠ [] := fun z => by
            subst z
            have : qv = [] := List.eq_nil_of_length_eq_zero (by rw [hqv]; rfl)
            rw [this] at hne; cases hne
          obtain ⟨q', x, rfl⟩ : ∃ q' x, q = q' ++ [x] := ⟨q.dropLast, q.getLast hnil, (List.dropLast_concat_getLast hnil).symm⟩
          have hlast : qv.length - 1 = q'.length := by rw [hqv, List.length_append, List.length_singleton]; omega
          obtain ⟨xv, hxv, rx⟩ := rq.get (i := qv.length - 1) (k := x) (by rw [hlast]; simp)
          have hdl : qv.dropLast = qv.take q'.length := by rw [List.dropLast_eq_take, hlast]
          have rq1 : Rps B10 q' qv.dropLast := by
            have := rq.take q'.length
            rw [List.take_left] at this
            rw [hdl]; exact this
          have CJp := CJ.pop
          have hxn : x ∈ nodes := dom10 x (by rw [(CJp.vin x rfl).1]; rfl)
          have ikx : IsK B10 x xv := g10.isK hxn rx
          obtain ⟨l, lv, hl, bl, rl⟩ := (bhB x hxn).same (sB4.trans s410)
          have hlv : lv.length = (bh x).length := rl.length
          have O11 := O10.put 0 (o := .lst qv.dropLast) rfl rfl
          have s210 := sB4.trans s410
          refine ⟨_, rfl, _, rfl, .inl ⟨rfl, _, SqL.of (O10.get 0 rfl)⟩, pq, qv, xv, rfl, rfl, O10.get 0 rfl, hxv, pb, bx, x, .ref l, rfl, .inl (O11.sub _ _ (s210 _ _ hpb2)), (kb2.keep (Same.tups s210)).keep O11.tups, ikx.keep O11.tups, hl, l, rfl, ⟨_, SqL.of (O11.sub _ _ bl)⟩,
            for_list (K := K) (a := l) (xs := lv) (fun j σ H' => ∃ (px : List (NestedKey × Addr × V)) (parts' : K1 → Option Nat) (q2 : List K1) (qv : List V) (x12 : Option V),
              σ = [some (.ref pn), some (.ref pa), some (.ref pb), x3, x4, x5, x6, some (.ref po), some (.ref pp), some (.int ((i : Nat) : Int)), some (.ref br), some (.ref pq), x12] ∧ Own B10 H' [(pq, .lst qv), (pp, dN w pp px), (po, .lst ov.reverse)] ∧ KeysOk B10 px ∧ (px.map (·.1)).Nodup ∧ PartRep px parts' ∧ Rps B10 q2 qv ∧
              Gr.CJ W nodes ord i r f lo parts parts' q2 (some x) ((bh x).take j) ∧ q2.length + (nodes.length - px.length) = q'.length + (nodes.length - px10.length))
            ⟨px10, parts10, q', qv.dropLast, _, rfl, O11, kp10, nd10, pr10, rq1, CJp, rfl⟩ ?_ ?_ ?_⟩
          · rintro j σ H' _ ⟨_, _, _, _, _, _, O, _⟩
            exact SqL.of (O.sub _ _ bl)
          · rintro j uv σ H12 huv ⟨px12, parts12, q2, qv12, z12, rfl, O12, kp12, nd12, pr12, rq12, CJ12, hme⟩
            obtain ⟨u, hu, ru⟩ := rl.geti huv
            obtain ⟨hun, hue⟩ := snd x u (Gr.get_mem hu)
            have iku : IsK B10 u uv := g10.isK hun ru
            obtain ⟨_, dpu, bu, ebu⟩ := id iku
            subst ebu
            have dom12 : ∀ n, (parts12 n).isSome = true → n ∈ nodes := fun n hn => by
              obtain ⟨c, hc⟩ := Option.isSome_iff_exists.mp hn
              cases z : parts n with
              | none => exact (CJ12.new n c hc z).2.1
              | some c' => exact C.dom n (by rw [z]; rfl)
            have hpx12 := pxl pr12 nd12 dom12
            refine ⟨_, rfl, _, rfl, pp, px12, u, rfl, .inl (O12.get 1 rfl), kp12.keep O12.tups, iku.keep O12.tups, _, rfl, ?_⟩
            have eis12 := pr12.isSome u
            have etk := take_succ_of hu
            by_cases hin12 : (parts12 u).isSome = true
            · rw [eis12, hin12]
              refine iteF ?_
              refine ⟨px12, parts12, q2, qv12, _, rfl, O12, kp12, nd12, pr12, rq12, ?_, hme⟩
              rw [etk]; exact CJ12.seen hin12
            · have hnone12 : parts12 u = none := by
                cases z : parts12 u with
                | none => rfl
                | some z' => rw [z] at hin12; exact absurd rfl hin12
              have hfalse12 : (parts12 u).isSome = false := by rw [hnone12]; rfl
              rw [eis12, hfalse12]
              refine iteT ?_
              have enone12 : valN px12 u = none := by rw [pr12 u, hnone12]; rfl
              refine ⟨_, rfl, _, rfl, _, rfl, pp, px12, u, bu, rfl, rfl, O12.get 1 rfl, kp12.keep O12.tups, iku.1.keep O12.tups, dpu, by rw [sz]; omega, ?_⟩
              have O13 := O12.put 1 (o := dN w pp (putN px12 u bu (.int ((i : Nat) : Int)))) rfl rfl
              have pr13 : PartRep (putN px12 u bu (.int ((i : Nat) : Int))) (fun n => if n = u then some i else parts12 n) := pr12.put (fun _ => rfl)
              have hq2 : q2.length ≤ nodes.length := Gr.len_le_of_sub CJ12.qnd fun n hn => dom12 n (by rw [CJ12.qin n hn]; rfl)
              have hqv12 : qv12.length = q2.length := rq12.length
              refine ⟨_, rfl, .inl ⟨rfl, _, SqL.of (O13.get 0 rfl)⟩, _, rfl, pq, qv12, .ref bu, rfl, rfl, O13.get 0 rfl, by rw [sz]; omega, ?_⟩
              have O14 := O13.put 0 (o := .lst (qv12 ++ [.ref bu])) rfl rfl
              have CJ14 := CJ12.add (parts' := fun n => if n = u then some i else parts12 n) C hf hiord DO.mem edg dsc hrf DO.nd hun hue hnone12 (fun _ => rfl)
              have nd14 : ((putN px12 u bu (.int ((i : Nat) : Int))).map (·.1)).Nodup := nodup_putN nd12
              have hpx14 : (putN px12 u bu (.int ((i : Nat) : Int))).length ≤ nodes.length := pxl pr13 nd14 fun n hn => by
                by_cases c : n = u
                · rw [c]; exact hun
                · have hn' : (parts12 n).isSome = true := by
                    have : (if n = u then some i else parts12 n).isSome = true := hn
                    rw [if_neg c] at this; exact this
                  exact dom12 n hn'
              have hl14 : (putN px12 u bu (.int ((i : Nat) : Int))).length = px12.length + 1 := by rw [putN_new _ _ enone12]; simp
              refine ⟨putN px12 u bu (.int ((i : Nat) : Int)), _, q2 ++ [u], qv12 ++ [V.ref bu], _, rfl, O14, kp12.put iku.1 dpu, nd14, pr13, rq12.snoc iku.1, ?_, ?_⟩
              · rw [etk]; exact CJ14
              · rw [hl14] at hpx14 ⊢
                rw [List.length_append, List.length_singleton]
                omega
          · rintro σ H12 ⟨px12, parts12, q2, qv12, z12, rfl, O12, kp12, nd12, pr12, rq12, CJ12, hme⟩
            rw [hlv, List.take_length] at CJ12
            refine ⟨q2.length + (nodes.length - px12.length), ?_, B10, px12, parts12, q2, qv12, _, rfl, s410, O12, kp12, nd12, pr12, rq12, CJ12.popped (fun u hu e => bhI x u hu e), rfl⟩
            rw [List.length_append, List.length_singleton]; omega
        · have hq0 : q = [] := by
            cases q with
            | nil => rfl
            | cons a b =>
              cases qv with
              | nil => simp at hqv
              | cons c d => exact absurd rfl hem
          subst hq0
          exact ⟨B10, px10, parts10, _, _, _, _, rfl, s410, O10.drop (List.sublist_cons_self ..), kp10, nd10, pr10, CJ.done C dsc hr' hrf⟩
    · rintro σ H7 ⟨B, px, parts, x9, x10, x11, x12, rfl, sB, O, kp, nd, pr, C⟩
      refine ⟨_, rfl, ?_⟩
      have PO := C.out (by omega) DO.mem
      have sH4 : Same H B4 := sB1.trans (sB2.trans sB4)
      exact k _ pp px parts ((sH4.trans sB).trans O.sub) (sH4.free (O6.fresh 0 rfl)) (O.get 0 rfl) (kp.keep O.tups) pr PO nd (pxl pr nd C.dom)
end
end ND
end
section
set_option Elab.async false
set_option linter.all false
set_option maxRecDepth 100000
set_option maxHeartbeats 4000000
namespace ND
open PySem L2
open PyProof.Rows (envOfC)
/-! ### way_within -/
def spWayWithin (w : World) : Sp := fun vs H Q _ => ∃ pn pa pp sv gv W nodes nv ax px parts s g c, vs = [.ref pa, .ref pp, sv, gv] ∧ GraphAt w H W nodes pn pa nv ax ∧ H pp = some (dN w pp px) ∧ KeysOk H px ∧ PartRep px parts ∧ Gr.POut W nodes parts ∧
  Rp H s sv ∧ Rp H g gv ∧ s ∈ nodes ∧ parts s = some c ∧ parts g = some c ∧
  ∀ H' p ls lv, Same H H' → H p = none → H' p = some (.lst lv) → Rps H' ls lv → Gr.Way W s ls g → ls.length ≤ nodes.length → Q (.ref p) H'
section
variable {P : Program} {w : World} {K : PySem.W.Frag} {mg : Str → Option Value} {base : Heap}
theorem ok_way_within {f_way_to : Addr} {fd_way_to : FuncData} (G_way_to : FnOk P w K mg base CX0 1 f_way_to fd_way_to P_way_to (spWayTo w)) (g_way_to : mg "way_to" = some (.ref f_way_to))
    (k_way_to : PySem.W.keepIn K (.ref f_way_to) = true) (b_way_to : Binds K fd_way_to P_way_to [])
    {f : Addr} {fd : FuncData} (F : Fun K "way_within" "way_within" s_way_within f fd) : FnOk P w K mg base CX0 2 f fd P_way_within (spWayWithin w) := by
  refine F.ok sc_way_within (fun vs H Q E h => ?_) (fun cdv A outer s H vs Q E hr h => ?_)
  · obtain ⟨pn, pa, pp, sv, gv, W, nodes, nv, ax, px, parts, s, g, c, rfl, _⟩ := h
    rfl
  · obtain ⟨pn, pa, pp, sv, gv, W, nodes, nv, ax, px, parts, s0, gl, c, rfl, g, hpp, kp, pr, PO, rs, rg, hs, hps, hpg, k⟩ := h
    have sz : sizeLine = 16777216 := sizeLine_eq
    have hsm := g.small
    have hgl : gl ∈ nodes := (PO.dom gl).mp (by rw [hpg]; rfl)
    have hwin := PO.win g.cl hs hps hpg
    have wn : ∀ n, Gr.Rch (Gr.Win W parts c) s0 n → n ∈ nodes := fun n h => h.closed (S := fun x => x ∈ nodes) (fun u v hu ⟨l, wt, m⟩ => g.cl u hu _ (Gr.win_sub u _ m)) hs
    have iks := g.isK hs rs
    have ikg := g.isK hgl rg
    obtain ⟨_, dps, bs, ebs⟩ := id iks
    subst ebs
    refine ⟨_, (pss_cons (ps_set (i := 4) sc_way_within.nd rfl (Or.inl rfl) (pe_nOne hr (pv 2) pe_non))
  (pss_cons (ps_set (i := 5) sc_way_within.nd rfl (Or.inl rfl) (pe_lst (pa_cons (pv 2) pa_nil)))
  (pss_cons (ps_set (i := 6) sc_way_within.nd rfl (Or.inl rfl) pe_int)
  (pss_cons (ps_while PassesOwn.never (pt_cmp (pc_nnotin hr (pv 3) (pv 4)))
    (pss_cons (ps_for PassesOwn.never rfl (pi_list (pe_nget hr (pv 0) (pe_ix ix_list (pv 5) (pv 6) (fun _ _ => rfl)) (fun _ _ => rfl))) (pg_tup rfl (pgs_cons (pg_name (i := 7) sc_way_within.nd rfl (Or.inl rfl)) (pgs_cons (pg_name (i := 8) sc_way_within.nd rfl (Or.inl rfl)) (pgs_cons (pg_name (i := 9) sc_way_within.nd rfl (Or.inl rfl)) pgs_nil))))
      (pss_one (ps_if (PW.pt (pw_and (pt_cmpR op_eq (pe_nget hr (pv 1) (pv 8) (fun _ _ => rfl)) (pe_nget hr (pv 1) (pv 3) (fun _ _ => rfl)) (nomark _)) (pw_and1 (pt_cmp (pc_nnotin hr (pv 8) (pv 4))))))
        (pss_cons (ps_nput hr (pv 4) (pv 8) (pe_tup (pa_cons (pe_ix ix_list (pv 5) (pv 6) (fun _ _ => rfl)) (pa_cons (pv 7) pa_nil))) rfl)
        (pss_one (ps_expr (pe_bm PySem.F.plainAttrs_list PySem.F.slot_list_append PySem.F.type_list_append mt_append (pv 5) (pa_cons (pv 8) pa_nil)))))
        pss_nil)))
    (pss_one (ps_aug (i := 6) sc_way_within.nd rfl (Or.inl rfl) pe_int ip_add))))
  (pss_one (ps_ret (pe_call G_way_to (hr.mono (show 1 ≤ 1 by decide)) rfl g_way_to k_way_to b_way_to .nil pass0 (pa_cons (pv 4) (pa_cons (pv 3) pa_nil))))))))), ?_⟩
    -- origin = {start: None}; queue = [start]; at = 0
    refine fun po hpo => ?_
    have O1 : Own H _ [(po, dN w po [])] := (Own.start H).new (o := dN w po []) hpo rfl
    refine ⟨_, rfl, s0, bs, rfl, O1.get 0 rfl, rs.keep O1.tups, dps, ?_⟩
    have O2 := O1.put 0 (o := dN w po [(s0, bs, .non)]) rfl rfl
    refine ⟨_, rfl, by rw [sz]; show 1 ≤ 16777216; decide, fun pq hpq => ?_⟩
    have O3 := O2.new (o := .lst [.ref bs]) hpq rfl
    refine ⟨fun m σ H' => ∃ (B : Hp) (q : List K1) (qv : List V) (ox : List (NestedKey × Addr × V)) (org : K1 → Option (Option (K1 × K1))) (at_ : Nat) (x7 x8 x9 : Option V),
        σ = [some (.ref pa), some (.ref pp), some (.ref bs), some gv, some (.ref po), some (.ref pq), some (.int at_), x7, x8, x9] ∧ Same H B ∧ Own B H' [(pq, .lst qv), (po, dN w po ox)] ∧ Rps B q qv ∧ KeysOk B ox ∧ OrgRep B ox org ∧ ox.map (·.1) = q ∧
        Gr.RI (Gr.Win W parts c) s0 q org at_ [] ∧ m = nodes.length - at_,
      ⟨_, H, [s0], [.ref bs], [(s0, bs, .non)], fun n => if n = s0 then some none else none, 0, none, none, none, rfl, Same.refl H, O3, .cons rs .nil, ?_, ?_, rfl, Gr.RI.init _ s0 (fun _ => rfl), rfl⟩, ?_⟩
    · intro x hx
      have : x = (s0, bs, .non) := by simpa using hx
      subst this; exact ⟨rs, dps⟩
    · intro m
      refine ⟨fun e => ?_, fun e => ?_, fun p l e => ?_⟩ <;> dsimp only at e
      · by_cases q : m = s0
        · rw [if_pos q] at e; cases e
        · exact valN_neg (p := (s0, bs, .non)) (fun z => q z.symm)
      · by_cases q : m = s0
        · exact valN_pos (p := (s0, bs, .non)) q.symm
        · rw [if_neg q] at e; cases e
      · by_cases q : m = s0
        · rw [if_pos q] at e; cases e
        · rw [if_neg q] at e; cases e
    rintro m σ H4 ⟨B, q, qv, ox, org, at_, x7, x8, x9, rfl, sB, O, rq, ko, oR, kox, R, rfl⟩
    have hqn : ∀ n ∈ q, n ∈ nodes := fun n hn => wn n (R.rch n hn)
    have hql : q.length ≤ nodes.length := Gr.len_le_of_sub R.nd hqn
    have hqv : qv.length = q.length := rq.length
    have gB := g.same sB
    refine ⟨_, rfl, _, rfl, po, ox, gl, rfl, .inl (O.get 1 rfl), ko.keep O.tups, (ikg.keep (Same.tups sB)).keep O.tups, _, rfl, ?_⟩
    have eso := oR.isSome gl
    by_cases hin : gl ∈ q
    · have e1 : (valN ox gl).isSome = true := by rw [eso]; exact (R.dom gl).mpr hin
      rw [e1]
      refine iteF ?_
      -- return way_to(origin, goal)
      refine ⟨_, rfl, _, rfl, po, gv, gl, s0, ox, Gr.Win W parts c, org, _, q.length, rfl, O.get 1 rfl, ko.keep O.tups, (rg.keep (Same.tups sB)).keep O.tups, oR.keep O.tups, R.orgOk, by omega, (R.dom gl).mpr hin, fun H' p ls lv s' n' e' r' way hl => ?_⟩
      have := R.orgOk.bd gl ((R.dom gl).mpr hin)
      have sHB := sB.trans O.sub
      exact k H' p ls lv (sHB.trans s') (sHB.free n') e' r' (way.mono (fun u x h => Gr.win_sub u x h)) (by omega)
    · have e1 : (valN ox gl).isSome = false := by
        rw [eso]
        cases z : (org gl).isSome with
        | false => rfl
        | true => exact absurd ((R.dom gl).mp z) hin
      rw [e1]
      refine iteT ?_
      have hlt : at_ < q.length := by
        apply Nat.lt_of_not_le
        intro z
        exact hin (R.all z hwin)
      refine ⟨fun σ' H' => ∃ m', m' < nodes.length - at_ ∧ _, fun _ _ h => h, ?_⟩
      obtain ⟨n, hn⟩ : ∃ n, q[at_]? = some n := ⟨_, List.getElem?_eq_getElem hlt⟩
      have hnn := hqn n (Gr.get_mem hn)
      obtain ⟨nvv, hnv, rnn⟩ := rq.get hn
      have ikn := gB.isK hnn rnn
      obtain ⟨l, lv, hl, bl, rl⟩ := gB.aR n hnn
      have hlv : lv.length = (W n).length := by rw [rl.length, List.length_map]
      refine ⟨_, rfl, _, rfl, _, rfl, pq, qv, _, nvv, rfl, rfl, SqL.of (O.get 0 rfl), at_of rfl hnv, pa, ax, n, .ref l, rfl, .inl (O.sub _ _ gB.ha), gB.ka.keep O.tups, ikn.keep O.tups, hl, l, rfl, ⟨_, SqL.of (O.sub _ _ bl)⟩,
        for_list (K := K) (a := l) (xs := lv) (fun j σ H' => ∃ (B' : Hp) (q : List K1) (qv : List V) (ox : List (NestedKey × Addr × V)) (org : K1 → Option (Option (K1 × K1))) (pre : List (K1 × K1 × Int)) (x7 x8 x9 : Option V),
          σ = [some (.ref pa), some (.ref pp), some (.ref bs), some gv, some (.ref po), some (.ref pq), some (.int at_), x7, x8, x9] ∧ Same B B' ∧ Own B' H' [(pq, .lst qv), (po, dN w po ox)] ∧ Rps B' q qv ∧ KeysOk B' ox ∧ OrgRep B' ox org ∧ ox.map (·.1) = q ∧
          Gr.RI (Gr.Win W parts c) s0 q org at_ pre ∧ q[at_]? = some n ∧ ∀ x ∈ (W n).take j, parts x.2.1 = some c → x ∈ pre)
        ⟨B, q, qv, ox, org, [], x7, x8, x9, rfl, Same.refl B, O, rq, ko, oR, kox, R, hn, (fun x hx => nomatch hx)⟩ ?_ ?_ ?_⟩
      · rintro j σ H' _ ⟨B', _, _, _, _, _, _, _, _, _, sB', O', _⟩
        exact SqL.of (O'.sub _ _ (sB' _ _ bl))
      · rintro j x σ H5 hx ⟨B5, q5, qv5, ox5, org5, pre5, y7, y8, y9, rfl, sB5, O5, rq5, ko5, oR5, kox5, R5, hn5, hpre5⟩
        obtain ⟨st, hst, rsx⟩ := Rps.map (rl.keep (Same.tups sB5)) hx
        obtain ⟨lb, t, wt⟩ := st
        obtain ⟨sa, svs, rfl, hsa, rs'⟩ := rsx.tupD
        obtain ⟨lbv, r1, rfl, rlb, rs'⟩ := rs'.consD
        obtain ⟨tvv, r2, rfl, rt, rs'⟩ := rs'.consD
        obtain ⟨wv, r3, rfl, rw', rs'⟩ := rs'.consD
        obtain rfl := rs'.nilD
        obtain rfl := rw'.numD
        have hmW : (lb, t, wt) ∈ W n := Gr.get_mem hst
        have ht : t ∈ nodes := g.cl n hnn _ hmW
        have g5 := gB.same sB5
        have ikt : IsK B5 t tvv := g5.isK ht rt
        obtain ⟨ct, hct⟩ := Option.isSome_iff_exists.mp ((PO.dom t).mpr ht)
        have hvt : valN px t = some (.int ((ct : Nat) : Int)) := by rw [pr t, hct]; rfl
        have hvg : valN px gl = some (.int ((c : Nat) : Int)) := by rw [pr gl, hpg]; rfl
        have s5 := sB.trans sB5
        have kp5 := kp.keep (Same.tups s5)
        have etk := take_succ_of hst
        have hqn5 : ∀ n ∈ q5, n ∈ nodes := fun n hn => wn n (R5.rch n hn)
        have hql5 : q5.length ≤ nodes.length := Gr.len_le_of_sub R5.nd hqn5
        have hqv5 : qv5.length = q5.length := rq5.length
        have hox5 : ox5.length = q5.length := by rw [← kox5, List.length_map]
        refine ⟨sa, _, rfl, SqT.of (O5.sub _ _ hsa), rfl, _, _, rfl, _, _, rfl, _, _, rfl, rfl, ?_⟩
        refine ⟨_, rfl, _, rfl, pp, px, t, _, rfl, .inl (O5.sub _ _ (s5 _ _ hpp)), kp5.keep O5.tups, ikt.keep O5.tups, hvt, _, rfl, _, rfl, pp, px, gl, _, rfl, .inl (O5.sub _ _ (s5 _ _ hpp)), kp5.keep O5.tups, (ikg.keep (Same.tups s5)).keep O5.tups, hvg, rfl, _, rfl, ?_⟩
        -- what is kept where nothing is done
        have keep : (parts t = some c → (lb, t, wt) ∈ pre5 ∨ t ∈ q5) → ∃ (B' : Hp) (q : List K1) (qv : List V) (ox : List (NestedKey × Addr × V)) (org : K1 → Option (Option (K1 × K1))) (pre : List (K1 × K1 × Int)) (x7 x8 x9 : Option V),
            ([some (.ref pa), some (.ref pp), some (.ref bs), some gv, some (.ref po), some (.ref pq), some (.int at_), some lbv, some tvv, some (.int wt)] : L2.St) = [some (.ref pa), some (.ref pp), some (.ref bs), some gv, some (.ref po), some (.ref pq), some (.int at_), x7, x8, x9] ∧ Same B B' ∧ Own B' H5 [(pq, .lst qv), (po, dN w po ox)] ∧
            Rps B' q qv ∧ KeysOk B' ox ∧ OrgRep B' ox org ∧ ox.map (·.1) = q ∧ Gr.RI (Gr.Win W parts c) s0 q org at_ pre ∧ q[at_]? = some n ∧ ∀ x ∈ (W n).take (j + 1), parts x.2.1 = some c → x ∈ pre := fun hk => by
          by_cases hc : parts t = some c
          · rcases hk hc with z | z
            · refine ⟨B5, q5, qv5, ox5, org5, pre5, _, _, _, rfl, sB5, O5, rq5, ko5, oR5, kox5, R5, hn5, fun x hx hxc => ?_⟩
              rw [etk] at hx
              rcases List.mem_append.mp hx with y | y
              · exact hpre5 x y hxc
              · have : x = (lb, t, wt) := by simpa using y
                subst this; exact z
            · refine ⟨B5, q5, qv5, ox5, org5, pre5 ++ [(lb, t, wt)], _, _, _, rfl, sB5, O5, rq5, ko5, oR5, kox5, R5.old z, hn5, fun x hx hxc => ?_⟩
              rw [etk] at hx
              rcases List.mem_append.mp hx with y | y
              · exact List.mem_append_left _ (hpre5 x y hxc)
              · exact List.mem_append_right _ y
          · refine ⟨B5, q5, qv5, ox5, org5, pre5, _, _, _, rfl, sB5, O5, rq5, ko5, oR5, kox5, R5, hn5, fun x hx hxc => ?_⟩
            rw [etk] at hx
            rcases List.mem_append.mp hx with y | y
            · exact hpre5 x y hxc
            · have : x = (lb, t, wt) := by simpa using y
              subst this; exact absurd hxc hc
        refine ite2 (fun heq => ?_) (fun hne => ?_)
        · have ecc : ct = c := by
            have z := of_decide_eq_true heq
            injection z with z
            omega
          subst ecc
          refine ⟨_, rfl, _, rfl, po, ox5, t, rfl, .inl (O5.get 1 rfl), ko5.keep O5.tups, ikt.keep O5.tups, _, rfl, ?_⟩
          have eso5 := oR5.isSome t
          by_cases hin5 : t ∈ q5
          · have e5 : (valN ox5 t).isSome = true := by rw [eso5]; exact (R5.dom t).mpr hin5
            rw [e5]
            exact iteF (keep fun _ => .inr hin5)
          · have e5 : (valN ox5 t).isSome = false := by
              rw [eso5]
              cases z : (org5 t).isSome with
              | false => rfl
              | true => exact absurd ((R5.dom t).mp z) hin5
            have enone : valN ox5 t = none := by
              cases z : valN ox5 t with
              | none => rfl
              | some v => rw [z] at e5; cases e5
            rw [e5]
            refine iteT ?_
            obtain ⟨_, dpt, bt, ebt⟩ := id ikt
            subst ebt
            obtain ⟨nv5, hnv5, rn5⟩ := rq5.get hn5
            -- origin[then] = (queue[at], label)
            refine ⟨_, rfl, _, rfl, pq, qv5, _, nv5, rfl, rfl, SqL.of (O5.get 0 rfl), at_of rfl hnv5, _, rfl, by rw [sz]; show 2 ≤ 16777216; decide, fun p6 hp6 => ?_⟩
            obtain ⟨B6, sB6, b6, O6⟩ := O5.fz (o := .tup [nv5, lbv]) hp6
            have ko6 : KeysOk B6 ox5 := ko5.keep (Same.tups sB6)
            have ikt6 := ikt.keep (Same.tups sB6)
            refine ⟨_, rfl, _, rfl, po, ox5, t, bt, rfl, rfl, O6.get 1 rfl, ko6.keep O6.tups, ikt6.1.keep O6.tups, dpt, by rw [sz]; omega, ?_⟩
            have O7 := O6.put 1 (o := dN w po (putN ox5 t bt (.ref p6))) rfl rfl
            refine ⟨_, rfl, .inl ⟨rfl, _, SqL.of (O7.get 0 rfl)⟩, _, rfl, pq, qv5, .ref bt, rfl, rfl, O7.get 0 rfl, by rw [sz]; omega, ?_⟩
            have O8 := O7.put 0 (o := .lst (qv5 ++ [.ref bt])) rfl rfl
            have hmw : (lb, t, wt) ∈ Gr.Win W parts ct n := Gr.win_mem.mpr ⟨hmW, hct⟩
            refine ⟨B6, q5 ++ [t], qv5 ++ [V.ref bt], putN ox5 t bt (V.ref p6), fun m => if m = t then some (some (n, lb)) else org5 m, pre5 ++ [(lb, t, wt)], _, _, _, rfl, sB5.trans sB6, O8, (rq5.keep (Same.tups sB6)).snoc ikt6.1, ko6.put ikt6.1 dpt, ?_, ?_, R5.new hn5 hmw hin5 (fun _ => rfl), Gr.get_left hn5, fun x hx hxc => ?_⟩
            · intro m
              refine ⟨fun e => ?_, fun e => ?_, fun p l' e => ?_⟩ <;> dsimp only at e
              · rw [valN_put]
                by_cases z : m = t
                · rw [if_pos z] at e; cases e
                · rw [if_neg z] at e ⊢; exact (oR5 m).1 e
              · rw [valN_put]
                by_cases z : m = t
                · rw [if_pos z] at e; cases e
                · rw [if_neg z] at e ⊢; exact (oR5 m).2.1 e
              · rw [valN_put]
                by_cases z : m = t
                · rw [if_pos z] at e ⊢
                  cases e
                  exact ⟨_, rfl, rp_tup b6 (.cons (rn5.keep (Same.tups sB6)) (.cons (rlb.keep (Same.tups sB6)) .nil))⟩
                · rw [if_neg z] at e ⊢
                  obtain ⟨v, h1, h2⟩ := (oR5 m).2.2 p l' e
                  exact ⟨v, h1, h2.keep (Same.tups sB6)⟩
            · rw [putN_new _ _ enone, List.map_append, kox5]; rfl
            · rw [etk] at hx
              rcases List.mem_append.mp hx with y | y
              · exact List.mem_append_left _ (hpre5 x y hxc)
              · exact List.mem_append_right _ y
        · refine iteF (keep fun hc => ?_)
          rw [hct] at hc; cases hc
          exact absurd (decide_eq_true rfl) hne
      · rintro σ H5 ⟨B5, q5, qv5, ox5, org5, pre5, y7, y8, y9, rfl, sB5, O5, rq5, ko5, oR5, kox5, R5, hn5, hpre5⟩
        rw [hlv, List.take_length] at hpre5
        have hqn5 : ∀ n ∈ q5, n ∈ nodes := fun n hn => wn n (R5.rch n hn)
        have hql5 : q5.length ≤ nodes.length := Gr.len_le_of_sub R5.nd hqn5
        have := Gr.get_lt hn5
        refine ⟨_, rfl, _, _, rfl, rfl, ?_⟩
        refine ⟨nodes.length - (at_ + 1), by omega, B5, q5, qv5, ox5, org5, at_ + 1, _, _, _, rfl, sB.trans sB5, O5, rq5, ko5, oR5, kox5, R5.next hn5 (fun x hx => ?_), rfl⟩
        obtain ⟨h1, h2⟩ := Gr.win_mem.mp hx
        exact hpre5 x h1 h2
end
end ND
end
section
set_option Elab.async false
set_option linter.all false
set_option maxRecDepth 100000
set_option maxHeartbeats 4000000
namespace ND
open PySem L2
open PyProof.Rows (envOfC)
/-! ### heaviest -/
/-- the greatest numbers, or a ring -/
inductive HeavyOut (w : World) (H0 H : Hp) (W : WaysK) (s0 : K1) (x y : V) : Prop
  | nums (nodes : List K1) (num : K1 → Int) (d : Addr) (nx : List (NestedKey × Addr × V)) (ex : x = .ref d) (ey : y = .non) (fr : H0 d = none) (hd : H d = some (dN w d nx)) (ks : KeysOk H nx) (keys : nx.map (·.1) = nodes) (vals : ∀ n ∈ nodes, valN nx n = some (.int (num n)))
      (nd : nodes.Nodup) (mem : ∀ n, n ∈ nodes ↔ Gr.Rch W s0 n) (hn : Gr.HNum W nodes num) : HeavyOut w H0 H W s0 x y
  | ring (lead loop : List K1) (r l1 l2 : Addr) (v1 v2 : List V) (ex : x = .non) (ey : y = .ref r) (hr : H r = some (.tup [.ref l1, .ref l2])) (f1 : H0 l1 = none) (f2 : H0 l2 = none) (h1 : H l1 = some (.lst v1)) (r1 : Rps H lead v1) (h2 : H l2 = some (.lst v2)) (r2 : Rps H loop v2)
      (len1 : lead.length ≤ 1000000) (len2 : loop.length ≤ 1000001) (hg : Gr.HRing W s0 lead loop) : HeavyOut w H0 H W s0 x y
def spHeaviest (w : World) (GG : GrT) : Sp := fun vs H Q _ => ∃ a W s0 Bd, vs = [.ref a] ∧ GG W s0 H a ∧ GSpec W s0 Bd ∧
  ∀ H' p x y, Same H H' → H' p = some (.tup [x, y]) → HeavyOut w H H' W s0 x y → Q (.ref p) H'
/-- the pair of ints that a value holds -/
def pairOf (H : Hp) (v : V) : Int × Int := match v with
  | .ref t => match H t with
    | some (.tup [.int a, .int b]) => (a, b)
    | _ => (0, 0)
  | _ => (0, 0)
theorem pairOf_eq {H : Hp} {t : Addr} {a b : Int} (h : H t = some (.tup [.int a, .int b])) : pairOf H (.ref t) = (a, b) := by
  unfold pairOf
  dsimp only
  rw [h]
theorem lexB_le {p q : Int × Int} (h : SrtO.lexB p q = false) : q.1 ≤ p.1 := by
  unfold SrtO.lexB at h
  by_cases e : p.1 = q.1
  · omega
  · rw [if_neg e] at h
    have := of_decide_eq_false h
    omega
/-- the numbers so far -/
def BestRep (kvs : List (Key × V)) (nodes : List K1) (pt : K1 → Nat) (best : Nat → Int) : Prop := ∀ n ∈ nodes, valV kvs (.inl ((pt n : Nat) : Int)) = some (.int (best (pt n)))
section
variable {P : Program} {w : World} {K : PySem.W.Frag} {mg : Str → Option Value} {base : Heap}
theorem ok_heaviest (T : Blt mg) {GG : GrT} {f_reach f_components f_way_within f_way_to : Addr} {fd_reach fd_components fd_way_within fd_way_to : FuncData}
    (G_reach : FnOk P w K mg base CX0 6 f_reach fd_reach P_reach (spReach w GG)) (g_reach : mg "reach" = some (.ref f_reach)) (k_reach : PySem.W.keepIn K (.ref f_reach) = true) (b_reach : Binds K fd_reach P_reach [])
    (G_components : FnOk P w K mg base CX0 2 f_components fd_components P_components (spComponents w)) (g_components : mg "components" = some (.ref f_components)) (k_components : PySem.W.keepIn K (.ref f_components) = true) (b_components : Binds K fd_components P_components [])
    (G_way_within : FnOk P w K mg base CX0 2 f_way_within fd_way_within P_way_within (spWayWithin w)) (g_way_within : mg "way_within" = some (.ref f_way_within)) (k_way_within : PySem.W.keepIn K (.ref f_way_within) = true) (b_way_within : Binds K fd_way_within P_way_within [])
    (G_way_to : FnOk P w K mg base CX0 1 f_way_to fd_way_to P_way_to (spWayTo w)) (g_way_to : mg "way_to" = some (.ref f_way_to)) (k_way_to : PySem.W.keepIn K (.ref f_way_to) = true) (b_way_to : Binds K fd_way_to P_way_to [])
    {f : Addr} {fd : FuncData} (F : Fun K "heaviest" "heaviest" s_heaviest f fd) : FnOk P w K mg base CX0 7 f fd P_heaviest (spHeaviest w GG) := by
  refine F.ok sc_heaviest (fun vs H Q E h => ?_) (fun cdv A outer s H vs Q E hr h => ?_)
  · obtain ⟨a, W, s0, Bd, rfl, _⟩ := h
    rfl
  · obtain ⟨a, W, s0, Bd, rfl, hG, gs, k⟩ := h
    have sz : sizeLine = 16777216 := sizeLine_eq
    refine ⟨_, (pss_cons (ps_asg (pe_call G_reach (hr.mono (show 6 ≤ 6 by decide)) rfl g_reach k_reach b_reach .nil pass0 (pa_cons (pv 0) pa_nil)) (pg_tup rfl (pgs_cons (pg_name (i := 1) sc_heaviest.nd rfl (Or.inl rfl)) (pgs_cons (pg_name (i := 2) sc_heaviest.nd rfl (Or.inl rfl)) (pgs_cons (pg_name (i := 3) sc_heaviest.nd rfl (Or.inl rfl)) pgs_nil)))))
  (pss_cons (ps_set (i := 4) sc_heaviest.nd rfl (Or.inr rfl) (pe_call G_components (hr.mono (show 2 ≤ 6 by decide)) rfl g_components k_components b_components .nil pass0 (pa_cons (pv 1) (pa_cons (pv 2) pa_nil))))
  (pss_cons (ps_for PassesOwn.never rfl (pi_list (pv 1)) (pg_name (i := 5) sc_heaviest.nd rfl (Or.inl rfl))
    (pss_one (ps_for PassesOwn.never rfl (pi_list (pe_nget hr (pv 2) (pv 5) (fun _ _ => rfl))) (pg_tup rfl (pgs_cons (pg_name (i := 6) sc_heaviest.nd rfl (Or.inl rfl)) (pgs_cons (pg_name (i := 7) sc_heaviest.nd rfl (Or.inl rfl)) (pgs_cons (pg_name (i := 8) sc_heaviest.nd rfl (Or.inl rfl)) pgs_nil))))
      (pss_one (ps_if (PW.pt (pw_and (pt_cmpR op_gt (pv 8) pe_int (nomark _)) (pw_and1 (pt_cmpR op_eq (pe_nget hr (pv 4) (pv 7) (fun _ _ => rfl)) (pe_nget hr (pv 4) (pv 5) (fun _ _ => rfl)) (nomark _)))))
        (pss_one (ps_ret (pe_tup (pa_cons pe_non (pa_cons (pe_tup (pa_cons (pe_call G_way_to (hr.mono (show 1 ≤ 6 by decide)) rfl g_way_to k_way_to b_way_to .nil pass0 (pa_cons (pv 3) (pa_cons (pv 5) pa_nil))) (pa_cons (pe_op op_cat (pe_lst (pa_cons (pv 6) pa_nil)) (pe_call G_way_within (hr.mono (show 2 ≤ 6 by decide)) rfl g_way_within k_way_within b_way_within .nil pass0 (pa_cons (pv 2) (pa_cons (pv 4) (pa_cons (pv 7) (pa_cons (pv 5) pa_nil)))))) pa_nil))) pa_nil)))))
        pss_nil)))))
  (pss_cons (ps_set (i := 9) sc_heaviest.nd rfl (Or.inr rfl) pe_dnewK)
  (pss_cons (ps_lock (ps_for PassesOwn.never rfl (pi_valuesN (pv 4)) (pg_name (i := 10) sc_heaviest.nd rfl (Or.inl rfl))
    (pss_one (ps_dput (hu_of hr) (pv 9) (pv 10) pe_int rfl))))
  (pss_cons (ps_for PassesOwn.never rfl (pi_list (pe_callB cr_sortedPO (by rfl) T.sorted (by decide +kernel) (pa_cons (pe_lc (own := [("at", 11), ("node", 5)]) (g := gTup K 2 (gCons (gName 11) (gCons (gName 5) gNil))) rfl sc_heaviest.nd (pi_enum (by rfl) T.enumerate (pa_cons (pv 1) pa_nil)) (blkOk_by (own := [("at", 11), ("node", 5)]) (N := N_heaviest) (sc := defScope s_heaviest) (by decide +kernel)) (fun _ _ _ _ _ => (pg_tup rfl (pgs_cons (pg_name (i := 11) sc_heaviest.nd rfl (Or.inl rfl)) (pgs_cons (pg_name (i := 5) sc_heaviest.nd rfl (Or.inl rfl)) pgs_nil)))) (fun _ _ _ _ _ => pts_nil) (fun _ _ _ _ _ => (pe_tup (pa_cons (pe_un un_neg (pe_ngetB (w := w) hr (pv 4) (pv 5) (fun _ _ => rfl))) (pa_cons (pv 11) pa_nil))))) pa_nil))) (pg_tup rfl (pgs_cons (pg_name (i := 10) sc_heaviest.nd rfl (Or.inl rfl)) (pgs_cons (pg_name (i := 11) sc_heaviest.nd rfl (Or.inl rfl)) pgs_nil)))
    (pss_one (ps_for PassesOwn.never rfl (pi_list (pe_nget hr (pv 2) (pe_ix ix_list (pv 1) (pv 11) (fun _ _ => rfl)) (fun _ _ => rfl))) (pg_tup rfl (pgs_cons (pg_name (i := 6) sc_heaviest.nd rfl (Or.inl rfl)) (pgs_cons (pg_name (i := 7) sc_heaviest.nd rfl (Or.inl rfl)) (pgs_cons (pg_name (i := 8) sc_heaviest.nd rfl (Or.inl rfl)) pgs_nil))))
      (pss_one (ps_if (pt_cmpR op_ne (pe_nget hr (pv 4) (pv 7) (fun _ _ => rfl)) (pe_un un_neg (pv 10)) (nomark _))
        (pss_one (ps_dput (hu_of hr) (pv 9) (pe_un un_neg (pv 10)) (pe_callB (call_max2 rfl) (by rfl) T.max (by decide +kernel) (pa_cons (pe_dget (hu_of hr) (pv 9) (pe_un un_neg (pv 10)) (fun _ _ => rfl)) (pa_cons (pe_op op_add (pv 8) (pe_dget (hu_of hr) (pv 9) (pe_nget hr (pv 4) (pv 7) (fun _ _ => rfl)) (fun _ _ => rfl))) pa_nil))) rfl))
        pss_nil)))))
  (pss_one (ps_ret (pe_tup (pa_cons (pe_dcN (own := [("node", 5)]) (g := gName 5) hr rfl sc_heaviest.nd (pi_list (pv 1)) (blkOk_by (own := [("node", 5)]) (N := N_heaviest) (sc := defScope s_heaviest) (by decide +kernel)) (fun _ _ _ _ _ => (pg_name (i := 5) sc_heaviest.nd rfl (Or.inl rfl))) (fun _ _ _ _ _ => pts_nil) (fun _ _ _ _ _ => (pv 5)) (fun _ _ _ _ _ => (pe_dget (hu_of hr) (pv 9) (pe_ngetB (w := w) hr (pv 4) (pv 5) (fun _ _ => rfl)) (fun _ _ => rfl)))) (pa_cons pe_non pa_nil))))))))))), ?_⟩
    -- nodes, ahead, origin = reach(graph)
    refine ⟨_, rfl, a, W, s0, Bd, rfl, hG, gs, fun H1 p1 nodes org pn pa po s1 e1 R => ?_⟩
    obtain ⟨fpn, nv, hpn, rn⟩ := R.hn
    obtain ⟨fpa, ax, hpa, ka, kax, aR⟩ := R.ha
    obtain ⟨fpo, ox, hpo, ko, oR⟩ := R.ho
    have RO := R.out
    have hnB : nodes.length ≤ Bd := gs.bd nodes RO.nd RO.rch
    have hB := gs.small
    have g1 : GraphAt w H1 W nodes pn pa nv ax := ⟨hpn, rn, RO.nd, RO.cl, hpa, ka, fun n hn => let ⟨l, lv, h1, _, h2, h3⟩ := aR n hn; ⟨l, lv, h1, h2, h3⟩, by omega, fun n hn => gs.deg n (RO.rch n hn)⟩
    have hnv : nv.length = nodes.length := rn.length
    refine ⟨p1, _, rfl, SqT.of e1, rfl, _, _, rfl, _, _, rfl, _, _, rfl, rfl, ?_⟩
    -- parts = components(nodes, ahead)
    refine ⟨_, rfl, _, rfl, pn, pa, W, nodes, nv, ax, rfl, g1, fun H2 pp px parts s2 n2 e2 kp2 pr PO ndp hpl => ?_⟩
    obtain ⟨B2, sB2, O2, t2, f2⟩ := (Own.start H1).callNew s2 n2 e2 rfl
    have g2 := g1.same sB2
    have kp := kp2.keep t2
    have pd : ∀ n ∈ nodes, ∃ c, parts n = some c := fun n hn => Option.isSome_iff_exists.mp ((PO.dom n).mpr hn)
    obtain ⟨pt, hpt⟩ : ∃ pt : K1 → Nat, ∀ n ∈ nodes, parts n = some (pt n) := ⟨fun n => (parts n).getD 0, fun n hn => by obtain ⟨c, hc⟩ := pd n hn; show parts n = some ((parts n).getD 0); rw [hc]; rfl⟩
    have hval : ∀ n ∈ nodes, valN px n = some (.int ((pt n : Nat) : Int)) := fun n hn => by rw [pr n, hpt n hn]; rfl
    -- for node in nodes: .. a ring
    refine ⟨_, rfl, pn, rfl, ⟨_, SqL.of (O2.sub _ _ g2.hn)⟩, for_list (K := K) (a := pn) (xs := nv) (fun i σ H' => ∃ (x5 x6 x7 x8 : Option V),
        σ = [some (.ref a), some (.ref pn), some (.ref pa), some (.ref po), some (.ref pp), x5, x6, x7, x8, none, none, none] ∧ H2 = H' ∧
        ∀ (j : Nat) n, j < i → nodes[j]? = some n → ∀ x ∈ W n, 0 < x.2.2 → parts x.2.1 ≠ parts n)
      ⟨none, none, none, none, rfl, rfl, fun j n hj => absurd hj (Nat.not_lt_zero _)⟩ ?_ ?_ ?_⟩
    · rintro i σ H' _ ⟨_, _, _, _, _, rfl, _⟩
      exact SqL.of (O2.sub _ _ g2.hn)
    · rintro i v σ H' hi ⟨x5, x6, x7, x8, rfl, rfl, light⟩
      obtain ⟨n, hn, rnn⟩ := g2.rn.geti hi
      have hmem := Gr.get_mem hn
      have ikn := g2.isK hmem rnn
      obtain ⟨l, lv, hl, bl, rl⟩ := g2.aR n hmem
      have hlv : lv.length = (W n).length := by rw [rl.length, List.length_map]
      refine ⟨_, rfl, _, rfl, pa, ax, n, .ref l, rfl, .inl (O2.sub _ _ g2.ha), g2.ka.keep O2.tups, ikn.keep O2.tups, hl, l, rfl, ⟨_, SqL.of (O2.sub _ _ bl)⟩, for_list (K := K) (a := l) (xs := lv) (fun j σ H' => ∃ (x6 x7 x8 : Option V),
        σ = [some (.ref a), some (.ref pn), some (.ref pa), some (.ref po), some (.ref pp), some v, x6, x7, x8, none, none, none] ∧ H2 = H' ∧ ∀ x ∈ (W n).take j, 0 < x.2.2 → parts x.2.1 ≠ parts n)
        ⟨x6, x7, x8, rfl, rfl, (fun x hx => nomatch hx)⟩ ?_ ?_ ?_⟩
      · rintro j σ H' _ ⟨_, _, _, _, rfl, _⟩
        exact SqL.of (O2.sub _ _ bl)
      · rintro j x σ H' hx ⟨x6, x7, x8, rfl, rfl, lt⟩
        obtain ⟨st, hst, rsx⟩ := Rps.map rl hx
        obtain ⟨lb, t, wt⟩ := st
        obtain ⟨sa, svs, rfl, hsa, rs'⟩ := rsx.tupD
        obtain ⟨lbv, r1, rfl, rlb, rs'⟩ := rs'.consD
        obtain ⟨tvv, r2, rfl, rt, rs'⟩ := rs'.consD
        obtain ⟨wv, r3, rfl, rw', rs'⟩ := rs'.consD
        obtain rfl := rs'.nilD
        obtain rfl := rw'.numD
        have hmW : (lb, t, wt) ∈ W n := Gr.get_mem hst
        have ht : t ∈ nodes := RO.cl n hmem _ hmW
        have ikt : IsK B2 t tvv := g2.isK ht rt
        have etk := take_succ_of hst
        refine ⟨sa, _, rfl, SqT.of (O2.sub _ _ hsa), rfl, _, _, rfl, _, _, rfl, _, _, rfl, rfl, ?_⟩
        have keep : ¬ (0 < wt ∧ pt t = pt n) → ∃ (x6 x7 x8 : Option V), ([some (.ref a), some (.ref pn), some (.ref pa), some (.ref po), some (.ref pp), some v, some lbv, some tvv, some (.int wt), none, none, none] : L2.St) =
            [some (.ref a), some (.ref pn), some (.ref pa), some (.ref po), some (.ref pp), some v, x6, x7, x8, none, none, none] ∧ H2 = H2 ∧ ∀ x ∈ (W n).take (j + 1), 0 < x.2.2 → parts x.2.1 ≠ parts n := fun hno => by
          refine ⟨_, _, _, rfl, rfl, fun x hx hpos => ?_⟩
          rw [etk] at hx
          rcases List.mem_append.mp hx with y | y
          · exact lt x y hpos
          · have : x = (lb, t, wt) := by simpa using y
            subst this
            intro e
            rw [hpt t ht, hpt n hmem] at e
            exact hno ⟨hpos, Option.some.inj e⟩
        refine ⟨_, rfl, _, _, rfl, rfl, _, rfl, ?_⟩
        refine ite2 (fun hpos => ?_) (fun hpos => iteF (keep fun z => hpos (decide_eq_true z.1)))
        refine ⟨_, rfl, _, rfl, pp, px, t, _, rfl, .inl (O2.get 0 rfl), kp.keep O2.tups, ikt.keep O2.tups, hval t ht, _, rfl, _, rfl, pp, px, n, _, rfl, .inl (O2.get 0 rfl), kp.keep O2.tups, ikn.keep O2.tups, hval n hmem, rfl, _, rfl, ?_⟩
        refine ite2 (fun heq => ?_) (fun hne => keep fun z => hne (decide_eq_true (by rw [z.2])))
        have ept : pt t = pt n := by
          have z := of_decide_eq_true heq
          injection z with z
          omega
        have hw0 : 0 < wt := of_decide_eq_true hpos
        -- return (None, (way_to(origin, node), [label] + way_within(ahead, parts, then, node)))
        have t12 : Tups H1 H2 := Same.tups s2
        refine ⟨_, rfl, _, rfl, po, v, n, s0, ox, W, org, _, nodes.length, rfl, s2 _ _ hpo, ko.keep t12, rnn.keep O2.tups, oR.keep t12, RO.orgOk, by omega, (RO.dom n).mpr hmem, fun H3 p3 ls lv3 s3 n3 e3 r3 way hlen => ?_⟩
        have hrk := RO.orgOk.bd n ((RO.dom n).mpr hmem)
        refine ⟨_, rfl, by rw [sz]; show 1 ≤ 16777216; decide, fun q1 hq1 => ?_⟩
        have s4 : Same H3 (upd H3 q1 (.lst [lbv])) := fun b u e => by rw [upd_ne (ne_of_none e hq1)]; exact e
        have s24 := s3.trans s4
        have g4 := (g2.same O2.sub).same s24
        have tB4 : Tups B2 (upd H3 q1 (.lst [lbv])) := O2.tups.trans (Same.tups s24)
        refine ⟨_, rfl, _, rfl, _, rfl, _, rfl, pn, pa, pp, tvv, v, W, nodes, nv, ax, px, parts, t, n, pt n, rfl, g4, s24 _ _ (O2.get 0 rfl), kp.keep tB4, pr, PO, rt.keep tB4, rnn.keep tB4, ht, by rw [hpt t ht, ept], hpt n hmem, fun H5 p5 ls5 lv5 s5 n5 e5 r5 way5 hl5 => ?_⟩
        have hq15 : H5 q1 = some (.lst [lbv]) := s5 _ _ upd_same
        have hls5 : lv5.length = ls5.length := r5.length
        refine ⟨q1, p5, [lbv], lv5, rfl, rfl, hq15, e5, by rw [sz, List.length_singleton]; omega, fun p6 hp6 => ?_⟩
        refine ⟨by rw [sz]; show 2 ≤ 16777216; decide, fun p7 hp7 => ?_⟩
        refine ⟨by rw [sz]; show 2 ≤ 16777216; decide, fun p8 hp8 => ?_⟩
        have s6 : Same H5 (upd H5 p6 (.lst ([lbv] ++ lv5))) := fun b u e => by rw [upd_ne (ne_of_none e hp6)]; exact e
        have s7 : Same (upd H5 p6 (.lst ([lbv] ++ lv5))) (upd (upd H5 p6 (.lst ([lbv] ++ lv5))) p7 (.tup [.ref p3, .ref p6])) := fun b u e => by rw [upd_ne (ne_of_none e hp7)]; exact e
        have s8 : Same (upd (upd H5 p6 (.lst ([lbv] ++ lv5))) p7 (.tup [.ref p3, .ref p6])) (upd (upd (upd H5 p6 (.lst ([lbv] ++ lv5))) p7 (.tup [.ref p3, .ref p6])) p8 (.tup [.non, .ref p7])) := fun b u e => by rw [upd_ne (ne_of_none e hp8)]; exact e
        have s58 := s6.trans (s7.trans s8)
        have s45 := s4.trans s5
        have sH2 : Same H H2 := s1.trans s2
        refine k _ p8 _ _ (((sH2.trans s3).trans s45).trans s58) upd_same (.ring ls (lb :: ls5) p7 p3 p6 lv3 ([lbv] ++ lv5) rfl rfl (s8 _ _ upd_same) (sH2.free n3) ?_ (s58 _ _ (s45 _ _ e3)) (r3.keep (Same.tups (s45.trans s58))) (s8 _ _ (s7 _ _ upd_same)) (.cons ?_ (r5.keep (Same.tups s58))) (by omega) (by simp; omega) ⟨n, t, wt, lb, ls5, way, hmW, hw0, way5, rfl⟩)
        · exact (sH2.trans (s3.trans s45)).free hp6
        · exact rlb.keep (O2.tups.trans (Same.tups (s24.trans (s5.trans s58))))
      · rintro σ H' ⟨x6, x7, x8, rfl, rfl, lt⟩
        rw [hlv, List.take_length] at lt
        refine ⟨_, _, _, _, rfl, rfl, fun j m hj hm => ?_⟩
        by_cases c : j < i
        · exact light j m c hm
        · have : j = i := by omega
          subst this; rw [hn] at hm; cases hm; exact lt
    rintro σ H' ⟨x5, x6, x7, x8, rfl, rfl, light⟩
    have light' : ∀ u ∈ nodes, ∀ x ∈ W u, pt x.2.1 = pt u → ¬ 0 < x.2.2 := fun u hu x hx e hpos => by
      obtain ⟨j, hj⟩ := Gr.mem_get hu
      refine light j u (by have := Gr.get_lt hj; omega) hj x hx hpos ?_
      rw [hpt u hu, hpt x.2.1 (RO.cl u hu x hx), e]
    -- best = {}; for part in parts.values(): best[part] = 0
    refine fun pb hpb => ?_
    have O3 := O2.new (o := .dK []) hpb rfl
    refine ⟨pp, dN w pp px, O3.get 1 rfl, True.intro, fun od => ?_⟩
    have O4 := O3.put 1 (o := .frz od (dN w pp px)) rfl rfl
    have lenp : px.length ≤ 1000000 := by omega
    refine ⟨_, rfl, pp, od, px, rfl, O4.get 1 rfl, for_valsN (w := w) (d := pp) (o := od) (xs := px) (fun i σ H' => ∃ (kvs : List (Key × V)) (x10 : Option V),
        σ = [some (.ref a), some (.ref pn), some (.ref pa), some (.ref po), some (.ref pp), x5, x6, x7, x8, some (.ref pb), x10, none] ∧ Own B2 H' [(pb, .dK kvs), (pp, .frz od (dN w pp px))] ∧ kvs.length ≤ i ∧
        (∀ key v, valV kvs key = some v → v = .int 0) ∧ ∀ (j : Nat) k' a' c, j < i → px[j]? = some (k', a', .int c) → (valV kvs (.inl c)).isSome = true)
      ⟨[], none, rfl, O4, Nat.le_refl _, (fun key v h => nomatch h), fun j k' a' c hj => absurd hj (Nat.not_lt_zero _)⟩ ?_ ?_ ?_⟩
    · rintro i σ H' _ ⟨kvs, x10, _, O, _⟩
      exact O.get 1 rfl
    · rintro i k' a' x σ H' hx ⟨kvs, x10, rfl, O, hl, hz, hp⟩
      -- the value is an int
      have hxm : k' ∈ px.map (·.1) := List.mem_map.mpr ⟨_, List.mem_of_getElem? hx, rfl⟩
      have hk'n : k' ∈ nodes := (PO.dom k').mp (by rw [← pr.isSome]; exact (valN_isSome k' px).mpr hxm)
      obtain ⟨cx, hcx⟩ : ∃ c : Int, x = .int c := by
        have q1 := valN_of_get ndp hx
        rw [hval k' hk'n] at q1
        exact ⟨_, (Option.some.inj q1).symm⟩
      subst hcx
      refine ⟨_, rfl, _, rfl, pb, _, rfl, DPut.k (k := Sum.inl cx) (O.get 0 rfl) (by rw [sz]; have := (List.getElem?_eq_some_iff.mp hx).1; omega), ?_⟩
      have O5 := O.put 0 (o := .dK (putK kvs (.inl cx) (.int 0))) rfl rfl
      refine ⟨_, _, rfl, O5, by have := length_putK kvs (.inl cx) (V.int 0); omega, fun key v h => ?_, fun j k2 a2 c hj hj2 => ?_⟩
      · rw [valV_put] at h
        split at h
        · cases h; rfl
        · exact hz key v h
      · rw [valV_put]
        split
        · rfl
        · rename_i hne
          by_cases q : j < i
          · exact hp j k2 a2 c q hj2
          · have : j = i := by omega
            subst this
            rw [hx] at hj2; cases hj2
            exact absurd rfl hne
    rintro σ H' ⟨kvs0, x10, rfl, O5, hl0, hz0, hp0⟩
    refine ⟨O5.get 1 rfl, ?_⟩
    have O6 := O5.put 1 (o := dN w pp px) rfl rfl
    obtain ⟨B3, sB3, hpp3, O7⟩ := Own.keep (O6.perm (l' := [(pp, dN w pp px), (pb, .dK kvs0)]) (List.Perm.swap _ _ _))
    have g3 := g2.same sB3
    have kp3 := kp.keep (Same.tups sB3)
    have br0 : BestRep kvs0 nodes pt (fun _ => 0) := fun n hn => by
      obtain ⟨j, a', hj⟩ := valN_get (hval n hn)
      have h1 := hp0 j n a' _ (List.getElem?_eq_some_iff.mp hj).1 hj
      obtain ⟨v, hv⟩ := Option.isSome_iff_exists.mp h1
      rw [hv, hz0 _ v hv]
    have bi0 : Gr.BI W nodes pt [] none [] (fun _ => 0) := Gr.BI.init W nodes pt fun _ => rfl
    have lenk : kvs0.length ≤ 1000000 := by omega
    -- sorted([(-parts[node], at) for at, node in enumerate(nodes)])
    refine ⟨_, rfl, pn, nv, rfl, SqL.of (O7.sub _ _ g3.hn), fun D hD => lc_enum (K := K) (a := pn) (xs := nv) (fun i H' => ∃ (B : Hp) (ts : List Addr), Same B3 B ∧ Own B H' [(D, .lst (ts.map V.ref)), (pb, .dK kvs0)] ∧ ts.length = i ∧
        ∀ (j : Nat) t, ts[j]? = some t → ∃ n, nodes[j]? = some n ∧ B t = some (.tup [.int (-((pt n : Nat) : Int)), .int ((j : Nat) : Int)]))
      ⟨B3, [], Same.refl _, O7.new (o := .lst []) hD rfl, rfl, fun j t h => nomatch h⟩ ?_ ?_ ?_⟩
    · rintro i H' _ ⟨B, ts, sB, O, _⟩
      exact SqL.of (O.sub _ _ (sB _ _ g3.hn))
    · rintro i v H8 T8 hi ⟨B, ts, sB, O, hts, hall⟩ hT8
      obtain ⟨B8, sB8, b8, O8⟩ := O.fz (o := .tup [.int ((i : Nat) : Int), v]) hT8
      obtain ⟨n, hn, rnn⟩ := g3.rn.geti hi
      have hmem := Gr.get_mem hn
      have sB38 := sB.trans sB8
      have g8 := g3.same sB38
      have ikn := g8.isK hmem (rnn.keep (Same.tups sB38))
      have hil := Gr.get_lt hn
      refine ⟨T8, _, rfl, SqT.of (O8.sub _ _ b8), rfl, _, _, rfl, _, _, rfl, rfl, ?_⟩
      refine ⟨rfl, ?_⟩
      refine yes_t ?_
      refine ⟨_, rfl, _, rfl, pp, px, n, _, rfl, .inl (O8.sub _ _ (sB38 _ _ hpp3)), (kp3.keep (Same.tups sB38)).keep O8.tups, ikn.keep O8.tups, hval n hmem, _, rfl, _, rfl, by rw [sz]; show 2 ≤ 16777216; decide, fun p9 hp9 => ?_⟩
      obtain ⟨B9, sB9, b9, O9⟩ := O8.fz (o := .tup [.int (-((pt n : Nat) : Int)), .int ((i : Nat) : Int)]) hp9
      refine ⟨ts.map V.ref, O9.get 0 rfl, by rw [sz, List.length_map]; omega, ?_⟩
      have O10 := O9.put 0 (o := .lst (ts.map V.ref ++ [.ref p9])) rfl rfl
      refine ⟨B9, ts ++ [p9], sB38.trans sB9, by rw [List.map_append]; exact O10, by rw [List.length_append, hts]; rfl, fun j t hj => ?_⟩
      rcases Gr.get_snoc hj with ⟨q, _⟩ | ⟨q, e⟩
      · obtain ⟨m, h1, h2⟩ := hall j t q
        exact ⟨m, h1, sB9 _ _ (sB8 _ _ h2)⟩
      · subst e q
        rw [hts]
        exact ⟨n, hn, b9⟩
    rintro H8 ⟨B8, ts, sB8, O8, hts, hall⟩
    have g8 := g3.same sB8
    have kp8 := kp3.keep (Same.tups sB8)
    have hpp8 := sB8 _ _ hpp3
    have hrow : ∀ x ∈ ts.map V.ref, ∃ (t : Addr) (j : Nat) (n : K1), x = .ref t ∧ nodes[j]? = some n ∧ B8 t = some (.tup [.int (-((pt n : Nat) : Int)), .int ((j : Nat) : Int)]) ∧ pairOf H8 x = (-((pt n : Nat) : Int), ((j : Nat) : Int)) := fun x hx => by
      obtain ⟨t, ht, rfl⟩ := List.mem_map.mp hx
      obtain ⟨j, hj⟩ := Gr.mem_get ht
      obtain ⟨n, h1, h2⟩ := hall j t hj
      exact ⟨t, j, n, rfl, h1, h2, pairOf_eq (O8.sub _ _ h2)⟩
    refine ⟨D, ts.map V.ref, pairOf H8, rfl, SqL.of (O8.get 0 rfl), fun x hx => ?_, fun ys ps srt stb hps => ?_⟩
    · obtain ⟨t, j, n, rfl, h1, h2, h3⟩ := hrow x hx
      exact ⟨t, rfl, by rw [h3]; exact O8.sub _ _ h2⟩
    obtain ⟨B9, sB9, b9, O9⟩ := O8.fz (o := .lst ys) hps
    have g9 := g8.same sB9
    have hys : ∀ y ∈ ys, y ∈ ts.map V.ref := fun y hy => stb.perm.mem_iff.mp hy
    obtain ⟨nodeOf, hnodeOf⟩ : ∃ nodeOf : V → K1, nodeOf = fun y => (nodes[(pairOf H8 y).2.toNat]?).getD s0 := ⟨_, rfl⟩
    have hno : ∀ y ∈ ys, ∃ (t : Addr) (j : Nat) (n : K1), y = .ref t ∧ nodes[j]? = some n ∧ B9 t = some (.tup [.int (-((pt n : Nat) : Int)), .int ((j : Nat) : Int)]) ∧ pairOf H8 y = (-((pt n : Nat) : Int), ((j : Nat) : Int)) ∧ nodeOf y = n := fun y hy => by
      obtain ⟨t, j, n, e1, e2, e3, e4⟩ := hrow y (hys y hy)
      refine ⟨t, j, n, e1, e2, sB9 _ _ e3, e4, ?_⟩
      rw [hnodeOf]
      show (nodes[(pairOf H8 y).2.toNat]?).getD s0 = n
      rw [e4]
      show (nodes[((j : Nat) : Int).toNat]?).getD s0 = n
      rw [Int.toNat_natCast, e2]; rfl
    have hwn : ∀ u ∈ nodes, ∀ x ∈ W u, 0 ≤ x.2.2 := fun u hu x hx => gs.nn u (RO.rch u hu) x hx
    have hrch : ∀ a c, a ∈ nodes → c ∈ nodes → pt a = pt c → Gr.Rch W a c := fun a c ha hc e => PO.rch a c (pt a) (hpt a ha) (by rw [hpt c hc, e])
    have hmono : ∀ a ∈ nodes, ∀ y ∈ W a, pt a ≤ pt y.2.1 := fun a ha y hy => PO.back a y.2.1 _ _ ha ⟨y.1, y.2.2, hy⟩ (hpt a ha) (hpt _ (RO.cl a ha y hy))
    -- for part, at in ..
    refine ⟨ps, rfl, ⟨_, SqL.of upd_same⟩, for_list (K := K) (a := ps) (xs := ys) (fun i σ H' => ∃ (kvs : List (Key × V)) (best : Nat → Int) (y6 y7 y8 y10 y11 : Option V),
        σ = [some (.ref a), some (.ref pn), some (.ref pa), some (.ref po), some (.ref pp), x5, y6, y7, y8, some (.ref pb), y10, y11] ∧ Own B9 H' [(pb, .dK kvs)] ∧ kvs.length ≤ 1000000 ∧ BestRep kvs nodes pt best ∧ Gr.BI W nodes pt ((ys.take i).map nodeOf) none [] best)
      ⟨kvs0, fun _ => 0, _, _, _, _, _, rfl, O9.drop (List.sublist_cons_self ..), lenk, br0, bi0⟩ ?_ ?_ ?_⟩
    · rintro i σ H' _ ⟨_, _, _, _, _, _, _, _, O, _⟩
      exact SqL.of (O.sub _ _ b9)
    · rintro i y σ H10 hy ⟨kvs, best, y6, y7, y8, y10, y11, rfl, O, hlk, br, bi⟩
      obtain ⟨t, j, u, rfl, hju, bt, hpair, hnu⟩ := hno y (List.mem_of_getElem? hy)
      have hum := Gr.get_mem hju
      obtain ⟨uv, huv, ru⟩ := g9.rn.get hju
      have iku := g9.isK hum ru
      obtain ⟨l, lv, hl, bl, rl⟩ := g9.aR u hum
      have hlv : lv.length = (W u).length := by rw [rl.length, List.length_map]
      have hd : ∀ a ∈ (ys.take i).map nodeOf, a ∈ nodes ∧ pt u ≤ pt a := fun a ha => by
        obtain ⟨z, hz, e⟩ := List.mem_map.mp ha
        obtain ⟨q, hq⟩ := Gr.mem_get hz
        have hqi := Gr.get_lt hq
        rw [List.length_take] at hqi
        rw [List.getElem?_take, if_pos (by omega)] at hq
        obtain ⟨t', j', n', e1, e2, _, e4, e5⟩ := hno z (List.mem_of_getElem? hq)
        rw [e5] at e
        subst e
        refine ⟨Gr.get_mem e2, ?_⟩
        obtain ⟨g1', e1'⟩ := List.getElem?_eq_some_iff.mp hq
        obtain ⟨g2', e2'⟩ := List.getElem?_eq_some_iff.mp hy
        have := List.pairwise_iff_getElem.mp srt q i g1' g2' (by omega)
        rw [e1', e2'] at this
        have := lexB_le this
        rw [hpair, e4] at this
        simp only at this
        omega
      have er : -(-((pt u : Nat) : Int)) = ((pt u : Nat) : Int) := Int.neg_neg _
      refine ⟨t, _, rfl, SqT.of (O.sub _ _ bt), rfl, _, _, rfl, _, _, rfl, rfl, ?_⟩
      refine ⟨_, rfl, _, rfl, _, rfl, pn, nv, _, uv, rfl, rfl, SqL.of (O.sub _ _ g9.hn), at_of rfl huv, pa, ax, u, .ref l, rfl, .inl (O.sub _ _ g9.ha), g9.ka.keep O.tups, iku.keep O.tups, hl, l, rfl, ⟨_, SqL.of (O.sub _ _ bl)⟩,
        for_list (K := K) (a := l) (xs := lv) (fun m σ H' => ∃ (kvs : List (Key × V)) (best : Nat → Int) (y6 y7 y8 : Option V),
          σ = [some (.ref a), some (.ref pn), some (.ref pa), some (.ref po), some (.ref pp), x5, y6, y7, y8, some (.ref pb), some (.int (-((pt u : Nat) : Int))), some (.int ((j : Nat) : Int))] ∧ Own B9 H' [(pb, .dK kvs)] ∧ kvs.length ≤ 1000000 ∧ BestRep kvs nodes pt best ∧
          Gr.BI W nodes pt ((ys.take i).map nodeOf) (some u) ((W u).take m) best)
        ⟨kvs, best, _, _, _, rfl, O, hlk, br, bi.enter u⟩ ?_ ?_ ?_⟩
      · rintro m σ H' _ ⟨_, _, _, _, _, _, O, _⟩
        exact SqL.of (O.sub _ _ bl)
      · rintro m x σ H11 hx ⟨kvs, best, y6, y7, y8, rfl, O, hlk, br, bi⟩
        obtain ⟨st, hst, rsx⟩ := Rps.map rl hx
        obtain ⟨lb, t', wt⟩ := st
        obtain ⟨sa, svs, rfl, hsa, rs'⟩ := rsx.tupD
        obtain ⟨lbv, r1, rfl, rlb, rs'⟩ := rs'.consD
        obtain ⟨tvv, r2, rfl, rt, rs'⟩ := rs'.consD
        obtain ⟨wv, r3, rfl, rw', rs'⟩ := rs'.consD
        obtain rfl := rs'.nilD
        obtain rfl := rw'.numD
        have hmW : (lb, t', wt) ∈ W u := Gr.get_mem hst
        have ht : t' ∈ nodes := RO.cl u hum _ hmW
        have ikt : IsK B9 t' tvv := g9.isK ht rt
        have etk := take_succ_of hst
        have kp9 : KeysOk H11 px := (kp8.keep (Same.tups sB9)).keep O.tups
        have hpp9 := O.sub _ _ (sB9 _ _ hpp8)
        refine ⟨sa, _, rfl, SqT.of (O.sub _ _ hsa), rfl, _, _, rfl, _, _, rfl, _, _, rfl, rfl, ?_⟩
        refine ⟨_, rfl, _, rfl, pp, px, t', _, rfl, .inl hpp9, kp9, ikt.keep O.tups, hval t' ht, _, rfl, _, rfl, rfl, _, rfl, ?_⟩
        by_cases hne : pt t' = pt u
        · have e0 : (!decide (V.int ((pt t' : Nat) : Int) = V.int (-(-((pt u : Nat) : Int))))) = false := by rw [er, hne]; simp
          rw [e0]
          refine iteF ?_
          refine ⟨kvs, best, _, _, _, rfl, O, hlk, br, ?_⟩
          rw [etk]
          exact bi.stay hne
        · have e0 : (!decide (V.int ((pt t' : Nat) : Int) = V.int (-(-((pt u : Nat) : Int))))) = true := by
            rw [er]
            have : ¬ V.int ((pt t' : Nat) : Int) = V.int ((pt u : Nat) : Int) := fun z => by injection z with z; omega
            rw [decide_eq_false this]; rfl
          rw [e0]
          refine iteT ?_
          have hu1 : valV kvs (.inl (-(-((pt u : Nat) : Int)))) = some (.int (best (pt u))) := by rw [er]; exact br u hum
          refine ⟨_, rfl, _, rfl, _, rfl, pb, .int (best (pt u)), rfl, dget_of (k := Sum.inl (-(-((pt u : Nat) : Int)))) (O.get 0 rfl) hu1, _, rfl, _, rfl, _, rfl, _, rfl, pp, px, t', _, rfl, .inl hpp9, kp9, ikt.keep O.tups, hval t' ht, pb, .int (best (pt t')), rfl, dget_of (k := Sum.inl ((pt t' : Nat) : Int)) (O.get 0 rfl) (br t' ht), _, _, rfl, rfl, _, _, rfl, ?_⟩
          refine ⟨_, rfl, _, rfl, _, rfl, pb, _, rfl, DPut.k (k := Sum.inl (-(-((pt u : Nat) : Int)))) (O.get 0 rfl) (by rw [sz]; omega), ?_⟩
          have hsome : (valV kvs (.inl (-(-((pt u : Nat) : Int))))).isSome = true := by rw [hu1]; rfl
          obtain ⟨nb, hnb⟩ : ∃ nb : Int, nb = (if wt + best (pt t') > best (pt u) then wt + best (pt t') else best (pt u)) := ⟨_, rfl⟩
          have O12 := O.put 0 (o := .dK (putK kvs (.inl (-(-((pt u : Nat) : Int)))) (.int nb))) rfl rfl
          have bi2 := bi.raise (best' := fun c => if c = pt u then max (best (pt u)) (wt + best (pt t')) else best c) hum hmW hne hwn RO.cl hrch hmono hd (fun y hy => List.mem_of_mem_take hy) (fun _ => rfl)
          rw [hnb] at O12
          refine ⟨_, fun c => if c = pt u then max (best (pt u)) (wt + best (pt t')) else best c, _, _, _, rfl, O12, by rw [length_putK_old hsome]; exact hlk, fun n hn => ?_, ?_⟩
          · rw [valV_put]
            dsimp only
            by_cases c : pt n = pt u
            · rw [if_pos (by rw [er, c]), if_pos c]
              congr 2
              show (if wt + best (pt t') > best (pt u) then wt + best (pt t') else best (pt u)) = max (best (pt u)) (wt + best (pt t'))
              split <;> omega
            · rw [if_neg (fun z => by rw [er] at z; injection z with z; omega), if_neg c]
              exact br n hn
          · rw [etk]; exact bi2
      · rintro σ H11 ⟨kvs, best, y6, y7, y8, rfl, O, hlk, br, bi⟩
        rw [hlv, List.take_length] at bi
        refine ⟨kvs, best, _, _, _, _, _, rfl, O, hlk, br, ?_⟩
        have := bi.leave (fun x hx => hx)
        rw [take_succ_of hy, List.map_append]
        show Gr.BI W nodes pt ((ys.take i).map nodeOf ++ [nodeOf (.ref t)]) none [] best
        rw [hnu]; exact this
    rintro σ H10 ⟨kvs, best, y6, y7, y8, y10, y11, rfl, O10, hlk, br, bi⟩
    rw [List.take_length] at bi
    have hnum := bi.out (fun u hu => by
      obtain ⟨j, hj⟩ := Gr.mem_get hu
      obtain ⟨t, ht⟩ : ∃ t, ts[j]? = some t := ⟨_, List.getElem?_eq_getElem (by have := Gr.get_lt hj; omega)⟩
      have hty : V.ref t ∈ ys := stb.perm.mem_iff.mpr (List.mem_map_of_mem (List.mem_of_getElem? ht))
      obtain ⟨t', j', n', e1, e2, e3, e4, e5⟩ := hno _ hty
      obtain ⟨m, h1, h2⟩ := hall j t ht
      cases e1
      have h2' := sB9 _ _ h2
      rw [h2'] at e3
      have ej : j = j' := by
        injection e3 with e3; injection e3 with e3; injection e3 with _ e3; injection e3 with e3 _; injection e3 with e3; omega
      subst ej
      rw [hj] at e2; cases e2
      exact List.mem_map.mpr ⟨_, hty, e5⟩) hwn light'
    -- return ({node: best[parts[node]] for node in nodes}, None)
    refine ⟨_, rfl, pn, rfl, ⟨_, SqL.of (O10.sub _ _ g9.hn)⟩, fun D2 hD2 => dc_listN (w := w) (K := K) (a := pn) (xs := nv) (fun i H' => ∃ (nx : List (NestedKey × Addr × V)), Own B9 H' [(D2, dN w D2 nx), (pb, .dK kvs)] ∧ KeysOk B9 nx ∧ nx.map (·.1) = nodes.take i ∧
        ∀ (j : Nat) n, j < i → nodes[j]? = some n → valN nx n = some (.int (best (pt n))))
      ⟨[], O10.new (o := dN w D2 []) hD2 rfl, (fun x hx => nomatch hx), rfl, fun j n hj => absurd hj (Nat.not_lt_zero _)⟩ ?_ ?_ ?_⟩
    · rintro i H' _ ⟨nx, O, _⟩
      exact SqL.of (O.sub _ _ g9.hn)
    · rintro i v H11 hi ⟨nx, O, kn, knx, hvals⟩
      obtain ⟨n, hn, rnn⟩ := g9.rn.geti hi
      have hmem := Gr.get_mem hn
      have ikn : IsK B9 n v := g9.isK hmem rnn
      obtain ⟨_, dpn, bn, ebn⟩ := id ikn
      subst ebn
      have hil := Gr.get_lt hn
      have nxl : nx.length ≤ i := by
        have := congrArg List.length knx
        rw [List.length_map, List.length_take] at this; omega
      have enone : valN nx n = none := by
        refine valN_none_of fun q => ?_
        rw [knx] at q
        obtain ⟨j, hj⟩ := Gr.mem_get q
        have hjl := Gr.get_lt hj
        rw [List.length_take] at hjl
        rw [List.getElem?_take] at hj
        split at hj
        · have := Gr.nodup_get RO.nd hj hn; omega
        · cases hj
      refine ⟨rfl, ?_⟩
      refine yes_t ?_
      refine ⟨_, rfl, _, rfl, _, rfl, _, rfl, pp, px, n, _, rfl, .inl (O.sub _ _ (sB9 _ _ hpp8)), (kp8.keep (Same.tups sB9)).keep O.tups, ikn.keep O.tups, hval n hmem, pb, _, rfl, dget_of (k := Sum.inl ((pt n : Nat) : Int)) (O.get 1 rfl) (br n hmem), ?_⟩
      refine ⟨nx, n, bn, rfl, O.get 0 rfl, kn.keep O.tups, ikn.1.keep O.tups, dpn, by rw [sz]; omega, ?_⟩
      have O12 := O.put 0 (o := dN w D2 (putN nx n bn (.int (best (pt n))))) rfl rfl
      refine ⟨_, O12, kn.put ikn.1 dpn, ?_, fun j m hj hm => ?_⟩
      · rw [putN_new _ _ enone, List.map_append, knx, take_succ_of hn]; rfl
      · rw [valN_put]
        by_cases q : j < i
        · have : m ≠ n := fun z => by subst z; have := Gr.nodup_get RO.nd hm hn; omega
          rw [if_neg this]; exact hvals j m q hm
        · have : j = i := by omega
          subst this
          rw [hn] at hm; cases hm
          rw [if_pos rfl]
    rintro H11 ⟨nx, O11, kn, knx, hvals⟩
    refine ⟨by rw [sz]; show 2 ≤ 16777216; decide, fun p12 hp12 => ?_⟩
    have s12 : Same H11 (upd H11 p12 (.tup [.ref D2, .non])) := fun b u e => by rw [upd_ne (ne_of_none e hp12)]; exact e
    have sH9 : Same H B9 := s1.trans (sB2.trans (sB3.trans (sB8.trans sB9)))
    refine k _ p12 _ _ ((sH9.trans O11.sub).trans s12) upd_same (.nums nodes (fun n => best (pt n)) D2 nx rfl rfl (sH9.free (O11.fresh 0 rfl)) (s12 _ _ (O11.get 0 rfl)) ((kn.keep O11.tups).keep (Same.tups s12)) ?_ (fun n hn => ?_) RO.nd (fun n => ⟨RO.rch n, RO.all⟩) hnum)
    · rw [knx, List.take_of_length_le (by omega)]
    · obtain ⟨j, hj⟩ := Gr.mem_get hn
      exact hvals j n (by have := Gr.get_lt hj; omega) hj
end
end ND
end
section
set_option Elab.async false
set_option linter.all false
set_option maxRecDepth 100000
set_option maxHeartbeats 4000000
namespace ND
open PySem L2
open PyProof.Rows (envOfC)
open PH
/-! ### halls.py -/
theorem lk_a {a b : Str} {v x : V} : ([(a, v), (b, x)] : List (Str × V)).lookup a = some v := by simp [List.lookup]
theorem lk_b {a b : Str} {v x : V} (h : ¬ b = a) : ([(a, v), (b, x)] : List (Str × V)).lookup b = some x := by
  have : (b == a) = false := by simpa using h
  simp [List.lookup, this]
theorem lk_n {a b m : Str} {v x : V} (h1 : ¬ m = a) (h2 : ¬ m = b) : ([(a, v), (b, x)] : List (Str × V)).lookup m = none := by
  have e1 : (m == a) = false := by simpa using h1
  have e2 : (m == b) = false := by simpa using h2
  simp [List.lookup, e1, e2]
def hasR (s : Str) (rules : List Str) : Bool := inV (.str s) (rules.map V.str)
structure TakingAt (CT : Addr) (H : Hp) (a : Addr) (t : Tk) : Prop where
  ex : ∃ dx lp rp rules, H a = some (.ins CT dx [(("least" : Str), .ref lp), (("rules" : Str), .ref rp)]) ∧ H lp = some (.tup (t.least.map V.int)) ∧ H rp = some (.tup (rules.map V.str)) ∧
    hasR "again" rules = t.again ∧ hasR "any" rules = t.any_ ∧ hasR "half" rules = t.half
  ok : TkOk t
theorem TakingAt.same {CT : Addr} {H H' : Hp} {a : Addr} {t : Tk} (s : Same H H') (h : TakingAt CT H a t) : TakingAt CT H' a t :=
  ⟨let ⟨dx, lp, rp, rules, h1, h2, h3, r⟩ := h.ex; ⟨dx, lp, rp, rules, s _ _ h1, s _ _ h2, s _ _ h3, r⟩, h.ok⟩
structure HallAt (CT CH : Addr) (H : Hp) (a : Addr) (t : Tk) (q0 : List (List Int)) (c n : Nat) : Prop where
  ex : ∃ dx qv tv, H a = some (.ins CH dx [(("queues" : Str), qv), (("taking" : Str), .ref tv)]) ∧ Rp H (queuesK q0) qv ∧ TakingAt CT H tv t
  hv : HV c n (q0, List.replicate c (-1))
  c1 : 1 ≤ c
  c3 : c ≤ 3
  n5 : n ≤ 5
theorem HallAt.same {CT CH : Addr} {H H' : Hp} {a : Addr} {t : Tk} {q0 : List (List Int)} {c n : Nat} (s : Same H H') (h : HallAt CT CH H a t q0 c n) : HallAt CT CH H' a t q0 c n :=
  ⟨let ⟨dx, qv, tv, h1, h2, h3⟩ := h.ex; ⟨dx, qv, tv, s _ _ h1, h2.keep (Same.tups s), h3.same s⟩, h.hv, h.c1, h.c3, h.n5⟩
structure CF (K : PySem.W.Frag) (CT CH : Addr) : Prop where
  clT : Cls K CT
  nTl : NoAttr K CT "least"
  nTr : NoAttr K CT "rules"
  clH : Cls K CH
  nHq : NoAttr K CH "queues"
  nHt : NoAttr K CH "taking"
theorem rep_flat (v : V) : ∀ c : Nat, (List.replicate c [v]).flatten = List.replicate c v
  | 0 => rfl
  | k + 1 => by rw [List.replicate_succ, List.flatten_cons, rep_flat v k]; rfl
theorem ne_rl : ¬ (("rules" : Str) = "least") := by decide +kernel
theorem ne_tq : ¬ (("taking" : Str) = "queues") := by decide +kernel
def spLets (CT : Addr) : Sp := fun vs H Q _ => ∃ (a : Addr) (t : Tk) (own other : Nat), vs = [.ref a, .int ((own : Nat) : Int), .int ((other : Nat) : Int)] ∧ TakingAt CT H a t ∧ Q (.bl (may t.least own other)) H
def spStart (CT CH : Addr) : Sp := fun vs H Q _ => ∃ (a : Addr) (t : Tk) (q0 : List (List Int)) (c n : Nat), vs = [.ref a] ∧ HallAt CT CH H a t q0 c n ∧ ∀ H' v, Same H H' → Rp H' (posK (q0, List.replicate c (-1))) v → Q v H'
def spPicks (CT CH : Addr) : Sp := fun vs H Q _ => ∃ (a : Addr) (pv : V) (t : Tk) (q0 : List (List Int)) (c n : Nat) (p : HPos) (i : Nat), vs = [.ref a, pv, .int ((i : Nat) : Int)] ∧ HallAt CT CH H a t q0 c n ∧ Rp H (posK p) pv ∧ HV c n p ∧ i < c ∧
  ∀ H' l, Same H H' → H l = none → H' l = some (.lst ((picksOf t p i).map V.int)) → Q (.ref l) H'
section
variable {P : Program} {w : World} {K : PySem.W.Frag} {mg : Str → Option Value} {base : Heap}
theorem getD_int {l : List Int} {i : Nat} (h : i < l.length) : (l.map V.int)[i]? = some (.int (l.getD i 0)) := by
  rw [List.getElem?_map, List.getD_eq_getElem?_getD, List.getElem?_eq_getElem h]; rfl
theorem ok_lets {CT CH : Addr} (cf : CF K CT CH) (T : Blt mg) {f : Addr} {fd : FuncData} (F : Fun K "lets" "Taking.lets" s_Taking_lets f fd) : FnOk P w K mg base CX0 1 f fd P_Taking_lets (spLets CT) := by
  refine F.ok sc_Taking_lets (fun vs H Q E h => ?_) (fun cdv A outer s H vs Q E hr h => ?_)
  · obtain ⟨a, t, own, other, rfl, _⟩ := h
    rfl
  · obtain ⟨a, t, own, other, rfl, hT, k⟩ := h
    obtain ⟨dx, lp, rp, rules, h1, h2, h3, _⟩ := hT.ex
    refine ⟨_, (pss_one (ps_ret (pe_and (pe_cmpR op_lt (pv 1) (pe_callB call_len_seq (by rfl) T.len (by decide +kernel) (pa_cons (pe_fld (pv 0) rfl) pa_nil)) (nomark _)) (pe_one (pe_chain op_lt op_le pe_int (pe_ix ix_tup (pe_fld (pv 0) rfl) (pv 1) (fun _ _ => rfl)) (pv 2)))))), ?_⟩
    refine ⟨_, rfl, _, rfl, a, CT, dx, _, _, rfl, h1, cf.clT, cf.nTl, lk_a, lp, _, rfl, .inr (SqT.of h2), _, _, rfl, rfl, _, rfl, ?_⟩
    have e1 : decide (((own : Nat) : Int) < (((t.least.map V.int).length : Nat) : Int)) = decide (own < t.least.length) := by rw [List.length_map]; exact decide_eq_decide.mpr (by omega)
    unfold may at k
    rw [e1]
    by_cases c : own < t.least.length
    · rw [decide_eq_true c] at k ⊢
      rw [Bool.true_and] at k
      refine iteT ?_
      refine ⟨_, rfl, a, CT, dx, _, _, rfl, h1, cf.clT, cf.nTl, lk_a, _, rfl, lp, _, _, _, rfl, rfl, SqT.of h2, at_of rfl (getD_int c), _, _, rfl, rfl, _, rfl, ?_⟩
      by_cases d : (0 : Int) < t.least.getD own 0
      · rw [decide_eq_true d] at k ⊢
        rw [Bool.true_and] at k
        refine iteT ?_
        exact ⟨_, rfl, _, _, rfl, rfl, k⟩
      · rw [decide_eq_false d] at k ⊢
        rw [Bool.false_and] at k
        exact iteF k
    · rw [decide_eq_false c] at k ⊢
      rw [Bool.false_and] at k
      exact iteF k
theorem ok_start {CT CH : Addr} (cf : CF K CT CH) (T : Blt mg) {f : Addr} {fd : FuncData} (F : Fun K "start" "Hall.start" s_Hall_start f fd) : FnOk P w K mg base CX0 1 f fd P_Hall_start (spStart CT CH) := by
  refine F.ok sc_Hall_start (fun vs H Q E h => ?_) (fun cdv A outer s H vs Q E hr h => ?_)
  · obtain ⟨a, t, q0, c, n, rfl, _⟩ := h
    rfl
  · obtain ⟨a, t, q0, c, n, rfl, hH, k⟩ := h
    have sz : sizeLine = 16777216 := sizeLine_eq
    obtain ⟨dx, qv, tv, h1, h2, h3⟩ := hH.ex
    refine ⟨_, (pss_one (ps_ret (pe_tup (pa_cons (pe_fld (pv 0) rfl) (pa_cons (pe_op op_mulT (pe_tup (pa_cons (pe_un un_neg pe_int) pa_nil)) (pe_callB call_len_seq (by rfl) T.len (by decide +kernel) (pa_cons (pe_fld (pv 0) rfl) pa_nil))) pa_nil))))), ?_⟩
    obtain ⟨qa, qvs, rfl, hqa, rqs⟩ := h2.tupD
    have hql : qvs.length = c := by rw [rqs.length, List.length_map]; exact hH.hv.ql
    have hc1 := hH.c1
    have hc3 := hH.c3
    refine ⟨_, rfl, a, CH, dx, _, _, rfl, h1, cf.clH, cf.nHq, lk_a, _, rfl, by rw [sz]; show 1 ≤ 16777216; decide, fun pm hpm => ?_⟩
    have s1 : Same H (upd H pm (.tup [.int (-1)])) := fun b u e => by rw [upd_ne (ne_of_none e hpm)]; exact e
    have fin : ∀ H' p, Same H H' → H' p = some (.tup (List.replicate c (V.int (-1)))) → H' p = some (.tup (List.replicate c (V.int (-1)))) → (∀ q, H' q = none → Q (.ref q) (upd H' q (.tup [.ref qa, .ref p]))) := fun H' p s' hp _ q hq => by
      have s2 : Same H' (upd H' q (.tup [.ref qa, .ref p])) := fun b u e => by rw [upd_ne (ne_of_none e hq)]; exact e
      refine k _ _ (s'.trans s2) (rp_tup upd_same (.cons (h2.keep (Same.tups (s'.trans s2))) (.cons ?_ .nil)))
      refine rp_tup (s2 _ _ hp) ?_
      have := Rps.nums (B := upd H' q (.tup [.ref qa, .ref p])) (List.replicate c (-1))
      rw [List.map_replicate (f := V.int)] at this
      exact this
    refine ⟨_, rfl, a, CH, dx, _, _, rfl, s1 _ _ h1, cf.clH, cf.nHq, lk_a, qa, qvs, rfl, .inr (SqT.of (s1 _ _ hqa)), ?_⟩
    refine ⟨pm, _, [.int (-1)], rfl, rfl, SqT.of upd_same, by simp, by rw [hql]; omega, by rw [hql]; omega, by simp, fun e => ?_, fun e p hp => ?_⟩
    · refine ⟨by rw [sz]; show 2 ≤ 16777216; decide, fun q hq => ?_⟩
      have ec : c = 1 := by rw [hql] at e; omega
      exact fin _ pm s1 (by rw [upd_same, ec]; rfl) (by rw [upd_same, ec]; rfl) q hq
    · have s2 : Same (upd H pm (.tup [.int (-1)])) (upd (upd H pm (.tup [.int (-1)])) p (.tup (List.replicate ((qvs.length : Nat) : Int).toNat [V.int (-1)]).flatten)) := fun b u e => by rw [upd_ne (ne_of_none e hp)]; exact e
      have ec : (List.replicate ((qvs.length : Nat) : Int).toNat [V.int (-1)]).flatten = List.replicate c (V.int (-1)) := by
        rw [Int.toNat_natCast, hql]
        exact rep_flat _ c
      refine ⟨by rw [sz]; show 2 ≤ 16777216; decide, fun q hq => ?_⟩
      exact fin _ p (s1.trans s2) (by rw [upd_same, ec]) (by rw [upd_same, ec]) q hq
end
end ND
end
section
set_option Elab.async false
set_option linter.all false
set_option maxRecDepth 100000
set_option maxHeartbeats 4000000
namespace ND
open PySem L2
open PyProof.Rows (envOfC)
open PH
/-! ### picks -/
/-- a position as it stands -/
structure PosAt (H : Hp) (p : HPos) (pv : V) (qa la : Addr) (qvs : List V) : Prop where
  top : ∃ pa, pv = .ref pa ∧ H pa = some (.tup [.ref qa, .ref la])
  qs : H qa = some (.tup qvs)
  ql : qvs.length = p.1.length
  row : ∀ (j : Nat), j < p.1.length → ∃ aj, qvs[j]? = some (.ref aj) ∧ H aj = some (.tup ((p.1.getD j []).map V.int))
  lk : H la = some (.tup (p.2.map V.int))
theorem posAt_of {H : Hp} {p : HPos} {pv : V} (h : Rp H (posK p) pv) : ∃ qa la qvs, PosAt H p pv qa la qvs := by
  obtain ⟨pa, vs, rfl, hpa, r⟩ := h.tupD
  obtain ⟨qv, r1, rfl, rq, r⟩ := r.consD
  obtain ⟨lv, r2, rfl, rl, r⟩ := r.consD
  obtain rfl := r.nilD
  obtain ⟨qa, qvs, rfl, hqa, rqs⟩ := rq.tupD
  obtain ⟨la, lvs, rfl, hla, rls⟩ := rl.tupD
  have := rls.ofNums
  subst this
  refine ⟨qa, la, qvs, ⟨pa, rfl, hpa⟩, hqa, by rw [rqs.length, List.length_map], fun j hj => ?_, hla⟩
  obtain ⟨v, hv, rv⟩ := rqs.get (i := j) (k := .tup ((p.1.getD j []).map .num)) (by
    rw [List.getElem?_map, List.getD_eq_getElem?_getD, List.getElem?_eq_getElem hj]; rfl)
  obtain ⟨aj, ws, rfl, haj, rws⟩ := rv.tupD
  have := rws.ofNums
  subst this
  exact ⟨aj, hv, haj⟩
theorem PosAt.same {H H' : Hp} {p : HPos} {pv : V} {qa la : Addr} {qvs : List V} (t : Tups H H') (h : PosAt H p pv qa la qvs) : PosAt H' p pv qa la qvs :=
  ⟨let ⟨pa, e, h1⟩ := h.top; ⟨pa, e, t _ _ h1⟩, t _ _ h.qs, h.ql, fun j hj => let ⟨aj, h1, h2⟩ := h.row j hj; ⟨aj, h1, t _ _ h2⟩, t _ _ h.lk⟩
theorem look_at {p : HPos} {i : Nat} (h : i < p.2.length) : (p.2.map V.int)[i]? = some (.int (p.2.getD i (-1))) := by
  rw [List.getElem?_map, List.getD_eq_getElem?_getD, List.getElem?_eq_getElem h]; rfl
theorem flat_strs (l : List Str) : (l.map V.str).all flatV = true := by
  rw [List.all_map]; exact List.all_eq_true.mpr fun _ _ => rfl
theorem flat_ints (l : List Int) : (l.map V.int).all flatV = true := by
  rw [List.all_map]; exact List.all_eq_true.mpr fun _ _ => rfl
abbrev natV (o : Nat) : V := .int ((o : Nat) : Int)
theorem most_ge {l : List Nat} {x : Nat} (h : x ∈ l) : x ≤ most l := by
  unfold most
  have : ∀ (l : List Nat) (a : Nat), a ≤ l.foldl Nat.max a ∧ ∀ x ∈ l, x ≤ l.foldl Nat.max a := by
    intro l
    induction l with
    | nil => intro a; exact ⟨Nat.le_refl _, fun _ h => nomatch h⟩
    | cons b r ih =>
      intro a
      rw [List.foldl_cons]
      obtain ⟨h1, h2⟩ := ih (Nat.max a b)
      have m1 : a ≤ Nat.max a b := Nat.le_max_left _ _
      have m2 : b ≤ Nat.max a b := Nat.le_max_right _ _
      refine ⟨Nat.le_trans m1 h1, fun x hx => ?_⟩
      rcases List.mem_cons.mp hx with e | e
      · subst e; exact Nat.le_trans m2 h1
      · exact h2 x e
  exact (this l 0).2 x h
theorem most_mem {l : List Nat} (h : l ≠ []) : most l ∈ l := by
  unfold most
  have : ∀ (l : List Nat) (a : Nat), l.foldl Nat.max a = a ∨ l.foldl Nat.max a ∈ l := by
    intro l
    induction l with
    | nil => intro a; exact .inl rfl
    | cons b r ih =>
      intro a
      rw [List.foldl_cons]
      rcases ih (Nat.max a b) with e | e
      · rw [e]
        rcases Nat.le_total a b with q | q
        · right; rw [show Nat.max a b = b from Nat.max_eq_right q]; simp
        · left; exact Nat.max_eq_left q
      · right; simp [e]
  rcases this l 0 with e | e
  · cases l with
    | nil => exact absurd rfl h
    | cons b r =>
      have h1 := most_ge (l := b :: r) (x := b) (by simp)
      unfold most at h1
      rw [e] at h1 ⊢
      have : b = 0 := by omega
      subst this; simp
  · exact e
section
variable {P : Program} {w : World} {K : PySem.W.Frag} {mg : Str → Option Value} {base : Heap}
theorem ok_picks {CT CH : Addr} (cf : CF K CT CH) (T : Blt mg) {f_Taking_lets : Addr} {fd_Taking_lets : FuncData} (G_Taking_lets : FnOk P w K mg base CX0 1 f_Taking_lets fd_Taking_lets P_Taking_lets (spLets CT)) (m_Taking_lets : Meth K CT "lets" f_Taking_lets)
    (b_Taking_lets : Binds K fd_Taking_lets P_Taking_lets []) {f : Addr} {fd : FuncData} (F : Fun K "picks" "Hall.picks" s_Hall_picks f fd) : FnOk P w K mg base CX0 2 f fd P_Hall_picks (spPicks CT CH) := by
  have c_Taking_lets := cf.clT
  refine F.ok sc_Hall_picks (fun vs H Q E h => ?_) (fun cdv A outer s H vs Q E hr h => ?_)
  · obtain ⟨a, pv, t, q0, c, n, p, i, rfl, _⟩ := h
    rfl
  · obtain ⟨a, pv, t, q0, c, n, p, i, rfl, hH, rp, hv, hi, k⟩ := h
    have sz : sizeLine = 16777216 := sizeLine_eq
    have hc3 := hH.c3
    obtain ⟨dx, qv0, tv, h1, _, hT⟩ := hH.ex
    obtain ⟨dxT, lp, rpl, rules, hT1, hT2, hT3, _, hany, _⟩ := hT.ex
    obtain ⟨qa, la, qvs, PA⟩ := posAt_of rp
    obtain ⟨pa, rfl, hpa⟩ := PA.top
    have hll : p.2.length = c := hv.ll
    have hql : p.1.length = c := hv.ql
    have hqv : qvs.length = c := by rw [PA.ql, hql]
    have nl : ¬ (("lets" : Str) = "least") := by decide +kernel
    have nr : ¬ (("lets" : Str) = "rules") := by decide +kernel
    refine ⟨_, (pss_cons (ps_asg (pv 1) (pg_tup rfl (pgs_cons (pg_name (i := 3) sc_Hall_picks.nd rfl (Or.inr rfl)) (pgs_cons (pg_name (i := 4) sc_Hall_picks.nd rfl (Or.inl rfl)) pgs_nil))))
  (pss_cons (ps_if (pt_cmpR op_ge (pe_ix ix_tup (pv 4) (pv 2) (fun _ _ => rfl)) pe_int (nomark _))
    (pss_one (ps_ret (pe_lst (pa_cons (pe_un un_neg pe_int) pa_nil))))
    pss_nil)
  (pss_cons (ps_setLc (i := 5) (own := [("other", 7)]) (g := gName 7) rfl sc_Hall_picks.nd rfl rfl (sw_true rfl rfl rfl (by decide +kernel)) (pi_range1 rfl T.range (pa_cons (pe_callB call_len_seq (by rfl) T.len (by decide +kernel) (pa_cons (pv 3) pa_nil)) pa_nil)) (blkOk_by (own := [("other", 7)]) (N := N_Hall_picks) (sc := defScope s_Hall_picks) (by decide +kernel)) (fun _ _ _ _ _ => (pg_name (i := 7) sc_Hall_picks.nd rfl (Or.inl rfl))) (fun _ _ _ _ _ => (pts_one (PW.pt (pw_and (pt_cmpR op_ne (pv 7) (pv 2) (nomark _)) (pw_and1 (pt_val (pe_meth (pe_fldB (K := K) (pv 0) rfl) c_Taking_lets m_Taking_lets G_Taking_lets (hr.mono (show 1 ≤ 1 by decide)) b_Taking_lets .nil pass0 (pa_cons (pe_callB (call_lenB (K := K)) (by rfl) T.len (by decide +kernel) (pa_cons (pe_ix (ix_tupB (K := K)) (pv 3) (pv 2) (fun _ _ => rfl)) pa_nil)) (pa_cons (pe_callB (call_lenB (K := K)) (by rfl) T.len (by decide +kernel) (pa_cons (pe_ix (ix_tupB (K := K)) (pv 3) (pv 7) (fun _ _ => rfl)) pa_nil)) pa_nil))))))))) (fun _ _ _ _ _ => (pv 7)))
  (pss_cons (ps_if (pt_not (pt_truth (pv 5) (by intro _; rfl)))
    (pss_one (ps_ret (pe_lst (pa_cons (pe_un un_neg pe_int) pa_nil))))
    pss_nil)
  (pss_cons (ps_if (pt_cmpR op_in_seq pe_str (pe_fld (pe_fld (pv 0) rfl) rfl) (by rfl))
    (pss_one (ps_ret (pv 5)))
    pss_nil)
  (pss_cons (ps_set (i := 6) sc_Hall_picks.nd rfl (Or.inr rfl) (pe_callB (cr_max rfl) (by rfl) T.max (by decide +kernel) (pa_cons (pe_lc (own := [("other", 7)]) (g := gName 7) rfl sc_Hall_picks.nd (pi_list (pv 5)) (blkOk_by (own := [("other", 7)]) (N := N_Hall_picks) (sc := defScope s_Hall_picks) (by decide +kernel)) (fun _ _ _ _ _ => (pg_name (i := 7) sc_Hall_picks.nd rfl (Or.inl rfl))) (fun _ _ _ _ _ => pts_nil) (fun _ _ _ _ _ => (pe_callB (call_lenB (K := K)) (by rfl) T.len (by decide +kernel) (pa_cons (pe_ix (ix_tupB (K := K)) (pv 3) (pv 7) (fun _ _ => rfl)) pa_nil)))) pa_nil)))
  (pss_one (ps_ret (pe_lst (pa_cons (pe_ix ix_list (pe_lc (own := [("other", 7)]) (g := gName 7) rfl sc_Hall_picks.nd (pi_list (pv 5)) (blkOk_by (own := [("other", 7)]) (N := N_Hall_picks) (sc := defScope s_Hall_picks) (by decide +kernel)) (fun _ _ _ _ _ => (pg_name (i := 7) sc_Hall_picks.nd rfl (Or.inl rfl))) (fun _ _ _ _ _ => (pts_one (pt_cmpR op_eq (pe_callB (call_lenB (K := K)) (by rfl) T.len (by decide +kernel) (pa_cons (pe_ix (ix_tupB (K := K)) (pv 3) (pv 7) (fun _ _ => rfl)) pa_nil)) (pv 6) (nomark _)))) (fun _ _ _ _ _ => (pv 7))) pe_int (fun _ _ => rfl)) pa_nil)))))))))), ?_⟩
    -- queues, looks = position
    refine ⟨_, rfl, pa, _, rfl, SqT.of hpa, rfl, _, _, rfl, _, _, rfl, rfl, ?_⟩
    -- if looks[core] >= 0
    refine ⟨_, rfl, _, rfl, la, _, _, _, rfl, rfl, SqT.of PA.lk, at_of rfl (look_at (by omega)), _, _, rfl, rfl, _, rfl, ?_⟩
    refine ite2 (fun hge => ?_) (fun hlt => ?_)
    · have h0 : 0 ≤ p.2.getD i (-1) := of_decide_eq_true hge
      refine ⟨_, rfl, by rw [sz]; show 1 ≤ 16777216; decide, fun l hl => ?_⟩
      refine k _ l (fun b u e => by rw [upd_ne (ne_of_none e hl)]; exact e) hl ?_
      rw [upd_same]
      unfold picksOf
      rw [if_pos h0]; rfl
    have h0 : ¬ 0 ≤ p.2.getD i (-1) := fun z => hlt (decide_eq_true z)
    have pk : picksOf t p i = if othersOf t p.1 i = [] then [-1] else if t.any_ = true then (othersOf t p.1 i).map Int.ofNat
        else (((othersOf t p.1 i).filter fun o => decide (qlen p.1 o = most ((othersOf t p.1 i).map (qlen p.1)))).take 1).map Int.ofNat := by
      unfold picksOf
      rw [if_neg h0]
    -- others = [..]
    have hn : ((qvs.length : Nat) : Int).toNat = c := by rw [Int.toNat_natCast, hqv]
    refine ⟨_, rfl, qa, qvs, rfl, .inr (SqT.of PA.qs), _, rfl, by omega, by omega, fun D hD => ?_⟩
    rw [hn]
    have O1 : Own H _ [(D, .lst [])] := (Own.start H).new (o := .lst []) hD rfl
    refine lc_range (lo := 0) (n := c) (fun j H' => ∃ B : Hp, Same H B ∧ Own B H' [(D, .lst (((List.range j).filter fun o => decide (o ≠ i) && may t.least (qlen p.1 i) (qlen p.1 o)).map natV))]) ⟨H, Same.refl H, O1⟩ ?_ ?_
    · rintro j H1 hj ⟨B, sB, O⟩
      have sH := sB.trans O.sub
      have PB := PA.same (Same.tups sH)
      obtain ⟨ai, hai, hqi⟩ := PB.row i (by omega)
      obtain ⟨aj, haj, hqj⟩ := PB.row j (by omega)
      have ej : (0 : Int) + ((j : Nat) : Int) = ((j : Nat) : Int) := by omega
      refine ⟨rfl, ?_⟩
      have ef : ((List.range (j + 1)).filter fun o => decide (o ≠ i) && may t.least (qlen p.1 i) (qlen p.1 o)) =
          (List.range j).filter (fun o => decide (o ≠ i) && may t.least (qlen p.1 i) (qlen p.1 o)) ++ if (decide (j ≠ i) && may t.least (qlen p.1 i) (qlen p.1 j)) = true then [j] else [] := by
        rw [List.range_succ, List.filter_append, List.filter_cons]; rfl
      refine ⟨_, rfl, _, rfl, rfl, _, rfl, ?_⟩
      have e0 : (!decide (V.int ((0 : Int) + ((j : Nat) : Int)) = V.int ((i : Nat) : Int))) = decide (j ≠ i) := by
        rw [ej]
        by_cases q : j = i
        · subst q; simp
        · have : ¬ V.int ((j : Nat) : Int) = V.int ((i : Nat) : Int) := fun z => by injection z with z; omega
          rw [decide_eq_false this, decide_eq_true q]; rfl
      rw [e0]
      by_cases q : j = i
      · rw [decide_eq_false (fun z => z q)]
        refine iteF ?_
        refine iteF ?_
        refine ⟨B, sB, ?_⟩
        rw [ef, decide_eq_false (fun z => z q)]
        simpa using O
      · rw [decide_eq_true q]
        refine iteT ?_
        refine ⟨_, rfl, a, CH, dx, _, _, rfl, sH _ _ h1, cf.clH, cf.nHt, lk_b ne_tq, tv, dxT, _, rfl, sH _ _ hT1, lk_n nl nr, _, rfl, _, rfl, qa, qvs, _, _, rfl, rfl, SqT.of PB.qs, at_of rfl hai, ai, _, rfl, .inr (SqT.of hqi), _, rfl, _, rfl, qa, qvs, _, _, rfl, rfl, SqT.of PB.qs, at_of ej haj, aj, _, rfl, .inr (SqT.of hqj), ?_⟩
        refine ⟨tv, t, _, _, rfl, hT.same sH, _, rfl, ?_⟩
        rw [List.length_map, List.length_map]
        show if may t.least (qlen p.1 i) (qlen p.1 j) = true then _ else _
        by_cases m : may t.least (qlen p.1 i) (qlen p.1 j) = true
        · rw [if_pos m]
          refine ⟨_, rfl, _, O.get 0 rfl, ?_, ?_⟩
          · rw [sz, List.length_map]
            have := List.length_filter_le (fun o => decide (o ≠ i) && may t.least (qlen p.1 i) (qlen p.1 o)) (List.range j)
            rw [List.length_range] at this
            omega
          · refine ⟨B, sB, ?_⟩
            rw [ef, decide_eq_true q, m, List.map_append]
            have O2 := O.put 0 (o := .lst (((List.range j).filter fun o => decide (o ≠ i) && may t.least (qlen p.1 i) (qlen p.1 o)).map natV ++ [.int ((0 : Int) + ((j : Nat) : Int))])) rfl rfl
            rw [ej] at O2 ⊢
            exact O2
        · rw [if_neg m]
          refine ⟨B, sB, ?_⟩
          rw [ef, decide_eq_true q, Bool.true_and, if_neg m]
          simpa using O
    rintro H1 ⟨B1, sB1, O1⟩
    have eo : ((List.range c).filter fun o => decide (o ≠ i) && may t.least (qlen p.1 i) (qlen p.1 o)) = othersOf t p.1 i := by unfold othersOf; rw [hql]
    rw [eo] at O1
    obtain ⟨os, hos⟩ : ∃ os, os = othersOf t p.1 i := ⟨_, rfl⟩
    rw [← hos] at O1 pk
    have osc : ∀ o ∈ os, o < c := fun o ho => by
      rw [hos] at ho
      unfold othersOf at ho
      have := (List.mem_filter.mp ho).1
      rw [List.mem_range, hql] at this; exact this
    have osl : os.length ≤ 3 := by
      rw [hos]
      unfold othersOf
      refine Nat.le_trans (List.length_filter_le _ _) ?_
      rw [List.length_range, hql]; exact hc3
    have sH1 := sB1.trans O1.sub
    -- if not others
    refine ⟨_, rfl, _, .inl ⟨_, SqL.of (O1.get 0 rfl), rfl⟩, ?_⟩
    by_cases he : os = []
    · subst he
      refine iteT ?_
      refine ⟨_, rfl, by rw [sz]; show 1 ≤ 16777216; decide, fun l hl => ?_⟩
      refine k _ l (sH1.trans fun b u e => by rw [upd_ne (ne_of_none e hl)]; exact e) (sH1.free hl) ?_
      rw [upd_same, pk, if_pos rfl]; rfl
    have hne : (!(!(os.map natV).isEmpty)) = false := by
      cases os with
      | nil => exact absurd rfl he
      | cons x r => rfl
    dsimp only
    rw [hne]
    refine iteF ?_
    rw [if_neg he] at pk
    -- if "any" in self.taking.rules
    refine ⟨_, rfl, a, CH, dx, _, _, rfl, sH1 _ _ h1, cf.clH, cf.nHt, lk_b ne_tq, tv, CT, dxT, _, _, rfl, sH1 _ _ hT1, cf.clT, cf.nTr, lk_b ne_rl, rpl, _, rfl, .inr (SqT.of (sH1 _ _ hT3)), rfl, flat_strs _, t.any_, ?_, ?_⟩
    · rw [← hany]; rfl
    by_cases ha : t.any_ = true
    · rw [if_pos ha] at pk
      rw [ha]
      refine iteT ?_
      refine ⟨_, rfl, ?_⟩
      refine k _ D sH1 (sB1.free (O1.fresh 0 rfl)) ?_
      rw [O1.get 0 rfl, pk, List.map_map]; rfl
    rw [if_neg ha] at pk
    have hfa : t.any_ = false := by cases q : t.any_ with
      | true => exact absurd q ha
      | false => rfl
    rw [hfa]
    refine iteF ?_
    -- longest = max([..])
    obtain ⟨B2, sB2, hD2, O2⟩ := O1.keep
    have s2 := sB1.trans sB2
    refine ⟨_, rfl, D, rfl, ⟨_, SqL.of (O2.sub _ _ hD2)⟩, fun D2 hDD2 => lc_list (K := K) (a := D) (xs := os.map natV) (fun j H' => ∃ B : Hp, Same B2 B ∧ Own B H' [(D2, .lst ((os.take j).map fun o => natV (qlen p.1 o)))])
      ⟨B2, Same.refl _, O2.new (o := .lst []) hDD2 rfl⟩ ?_ ?_ ?_⟩
    · rintro j H' _ ⟨B, sB, O⟩
      exact SqL.of (O.sub _ _ (sB _ _ hD2))
    · rintro j x H3 hx ⟨B, sB, O⟩
      rw [List.getElem?_map] at hx
      cases ho : os[j]? with
      | none => rw [ho] at hx; cases hx
      | some o =>
        rw [ho] at hx
        cases hx
        have hoc := osc o (List.mem_of_getElem? ho)
        have sH3 := (s2.trans sB).trans O.sub
        have P3 := PA.same (Same.tups sH3)
        obtain ⟨ao, hao, hqo⟩ := P3.row o (by omega)
        have hjl := (List.getElem?_eq_some_iff.mp ho).1
        refine ⟨rfl, ?_⟩
        refine yes_t ?_
        refine ⟨_, rfl, _, rfl, qa, qvs, _, _, rfl, rfl, SqT.of P3.qs, at_of rfl hao, ao, _, rfl, .inr (SqT.of hqo), _, O.get 0 rfl, by rw [sz, List.length_map, List.length_take]; omega, ?_⟩
        have O4 := O.put 0 (o := .lst ((os.take j).map (fun o => natV (qlen p.1 o)) ++ [.int (((((p.1.getD o []).map V.int).length : Nat)) : Int)])) rfl rfl
        refine ⟨B, sB, ?_⟩
        rw [take_succ_of ho, List.map_append]
        have el : ((p.1.getD o []).map V.int).length = qlen p.1 o := by rw [List.length_map]; rfl
        rw [el] at O4 ⊢
        exact O4
    rintro H3 ⟨B3, sB3, O3⟩
    rw [List.length_map, List.take_length] at O3
    obtain ⟨ns, hns⟩ : ∃ ns : List Nat, ns = os.map (qlen p.1) := ⟨_, rfl⟩
    have e3 : os.map (fun o => natV (qlen p.1 o)) = (ns.map fun x => ((x : Nat) : Int)).map V.int := by rw [hns, List.map_map, List.map_map]; rfl
    have nsn : ns ≠ [] := fun z => he (by
      rw [hns] at z
      exact List.map_eq_nil_iff.mp z)
    rw [e3] at O3
    refine ⟨D2, ns.map fun x => ((x : Nat) : Int), rfl, SqL.of (O3.get 0 rfl), by rw [List.length_map]; exact List.length_pos_iff.mpr nsn, fun m hm hmax => ?_⟩
    have em : m = ((most ns : Nat) : Int) := by
      obtain ⟨x, hx, rfl⟩ := List.mem_map.mp hm
      have a1 := most_ge hx
      have a2 := hmax _ (List.mem_map.mpr ⟨_, most_mem nsn, rfl⟩)
      have : x = most ns := by omega
      rw [this]
    subst em
    have s3 := s2.trans sB3
    rw [← hns] at pk
    -- return [[..][0]]
    refine ⟨_, rfl, D, rfl, ⟨_, SqL.of (O3.sub _ _ (sB3 _ _ hD2))⟩, fun D4 hD4 => lc_list (K := K) (a := D) (xs := os.map natV) (fun j H' => ∃ B : Hp, Same B3 B ∧ Own B H' [(D4, .lst (((os.take j).filter fun o => decide (qlen p.1 o = most ns)).map natV))])
      ⟨B3, Same.refl _, (O3.new (o := .lst []) hD4 rfl).drop (by simp)⟩ ?_ ?_ ?_⟩
    · rintro j H' _ ⟨B, sB, O⟩
      exact SqL.of (O.sub _ _ (sB _ _ (sB3 _ _ hD2)))
    · rintro j x H5 hx ⟨B, sB, O⟩
      rw [List.getElem?_map] at hx
      cases ho : os[j]? with
      | none => rw [ho] at hx; cases hx
      | some o =>
        rw [ho] at hx
        cases hx
        have hoc := osc o (List.mem_of_getElem? ho)
        have sH5 := (s3.trans sB).trans O.sub
        have P5 := PA.same (Same.tups sH5)
        obtain ⟨ao, hao, hqo⟩ := P5.row o (by omega)
        have hjl := (List.getElem?_eq_some_iff.mp ho).1
        have el : ((p.1.getD o []).map V.int).length = qlen p.1 o := by rw [List.length_map]; rfl
        have ef : (os.take (j + 1)).filter (fun o => decide (qlen p.1 o = most ns)) = (os.take j).filter (fun o => decide (qlen p.1 o = most ns)) ++ if (decide (qlen p.1 o = most ns)) = true then [o] else [] := by
          rw [take_succ_of ho, List.filter_append, List.filter_cons]; rfl
        refine ⟨rfl, ?_⟩
        refine ⟨_, rfl, _, rfl, qa, qvs, _, _, rfl, rfl, SqT.of P5.qs, at_of rfl hao, ao, _, rfl, .inr (SqT.of hqo), _, rfl, rfl, _, rfl, ?_⟩
        by_cases q : qlen p.1 o = most ns
        · have e5 : decide (V.int (((((p.1.getD o []).map V.int).length : Nat)) : Int) = V.int ((most ns : Nat) : Int)) = true := decide_eq_true (by rw [el, q])
          rw [e5]
          refine iteT ?_
          refine ⟨_, rfl, _, O.get 0 rfl, ?_, ?_⟩
          · rw [sz, List.length_map]
            have := List.length_filter_le (fun o => decide (qlen p.1 o = most ns)) (os.take j)
            rw [List.length_take] at this
            omega
          · refine ⟨B, sB, ?_⟩
            rw [ef, if_pos (decide_eq_true q), List.map_append]
            exact O.put 0 (o := .lst (((os.take j).filter (fun o => decide (qlen p.1 o = most ns))).map natV ++ [natV o])) rfl rfl
        · have e5 : decide (V.int (((((p.1.getD o []).map V.int).length : Nat)) : Int) = V.int ((most ns : Nat) : Int)) = false := decide_eq_false fun z => q (by rw [el] at z; injection z with z; omega)
          rw [e5]
          refine iteF ?_
          refine ⟨B, sB, ?_⟩
          rw [ef, if_neg (by rw [decide_eq_false q]; exact Bool.false_ne_true), List.append_nil]
          exact O
    rintro H5 ⟨B5, sB5, O5⟩
    rw [List.length_map, List.take_length] at O5
    obtain ⟨z, r, hz⟩ : ∃ z r, (os.filter fun o => decide (qlen p.1 o = most ns)) = z :: r := by
      cases q : os.filter fun o => decide (qlen p.1 o = most ns) with
      | nil =>
        have := most_mem nsn
        rw [hns] at this
        obtain ⟨o, ho, e⟩ := List.mem_map.mp this
        have : o ∈ os.filter fun o => decide (qlen p.1 o = most ns) := List.mem_filter.mpr ⟨ho, decide_eq_true (by rw [e, hns])⟩
        rw [q] at this; cases this
      | cons z r => exact ⟨z, r, rfl⟩
    rw [hz] at O5 pk
    refine ⟨D4, _, 0, natV z, rfl, rfl, SqL.of (O5.get 0 rfl), at_of (j := 0) (z := 0) rfl rfl, by rw [sz]; show 1 ≤ 16777216; decide, fun l hl => ?_⟩
    have sH5 := (s3.trans sB5).trans O5.sub
    refine k _ l (sH5.trans fun b u e => by rw [upd_ne (ne_of_none e hl)]; exact e) (sH5.free hl) ?_
    rw [upd_same, pk]; rfl
end
end ND
end
section
set_option Elab.async false
set_option linter.all false
set_option maxRecDepth 100000
set_option maxHeartbeats 4000000
namespace ND
open PySem L2
open PyProof.Rows (envOfC)
open PH
/-! ### take -/
/-- queues as lists -/
structure Rows (H : Hp) (qvs : List V) (qs : List (List Int)) : Prop where
  len : qvs.length = qs.length
  row : ∀ (j : Nat), j < qs.length → ∃ aj, qvs[j]? = some (.ref aj) ∧ H aj = some (.lst ((qs.getD j []).map V.int))
theorem Rows.same {H H' : Hp} {qvs : List V} {qs : List (List Int)} (s : Same H H') (h : Rows H qvs qs) : Rows H' qvs qs :=
  ⟨h.len, fun j hj => let ⟨aj, h1, h2⟩ := h.row j hj; ⟨aj, h1, s _ _ h2⟩⟩
theorem Rows.put {H : Hp} {qvs : List V} {qs : List (List Int)} (h : Rows H qvs qs) {i : Nat} (hi : i < qs.length) {p : Addr} {q : List Int} (hp : H p = some (.lst (q.map V.int))) : Rows H (qvs.set i (.ref p)) (qs.set i q) := by
  refine ⟨by rw [List.length_set, List.length_set, h.len], fun j hj => ?_⟩
  rw [List.length_set] at hj
  by_cases e : i = j
  · subst e
    refine ⟨p, by rw [List.getElem?_set_self (by rw [h.len]; exact hi)], ?_⟩
    rw [getD_set_eq hi]; exact hp
  · obtain ⟨aj, h1, h2⟩ := h.row j hj
    refine ⟨aj, by rw [List.getElem?_set_ne e]; exact h1, ?_⟩
    rw [getD_set_ne e]; exact h2
theorem Rows.ne {H : Hp} {qvs : List V} {qs : List (List Int)} (h : Rows H qvs qs) {L : Addr} (hL : H L = some (.lst qvs)) {j : Nat} {aj : Addr} {q : List Int} (h1 : qvs[j]? = some (.ref aj)) (h2 : H aj = some (.lst (q.map V.int))) : aj ≠ L := fun e => by
  subst e
  rw [hL] at h2
  injection h2 with h2
  injection h2 with h2
  rw [h2, List.getElem?_map] at h1
  cases e : q[j]? with
  | none => rw [e] at h1; cases h1
  | some x => rw [e] at h1; cases h1
/-- queues as lists, held by a list that changes -/
theorem Rows.upd {H : Hp} {qvs qvs' : List V} {qs : List (List Int)} (h : Rows H qvs qs) {L : Addr} (hL : H L = some (.lst qvs)) : Rows (upd H L (.lst qvs')) qvs qs :=
  ⟨h.len, fun j hj => let ⟨aj, h1, h2⟩ := h.row j hj; ⟨aj, h1, by rw [upd_ne (h.ne hL h1 h2)]; exact h2⟩⟩
theorem cutV_from {xs : List Int} {k : Nat} (h : k ≤ xs.length) : cutV (xs.map V.int) (some ((k : Nat) : Int)) none = (xs.drop k).map V.int := by
  unfold cutV
  rw [HT.sIx_none, HT.sIx_nat, List.length_map, Nat.min_eq_left h, List.take_of_length_le (by rw [List.length_drop, List.length_map]; exact Nat.le_refl _), List.map_drop]
theorem cutV_to {xs : List Int} {k : Nat} (h : k ≤ xs.length) : cutV (xs.map V.int) none (some ((k : Nat) : Int)) = (xs.take k).map V.int := by
  unfold cutV
  rw [HT.sIx_none, HT.sIx_nat, List.length_map, Nat.min_eq_left h, List.drop_zero, Nat.sub_zero, List.map_take]
def spTake (CT CH : Addr) : Sp := fun vs H Q _ => ∃ (a L : Addr) (qvs : List V) (qs : List (List Int)) (t : Tk) (q0 : List (List Int)) (c n i o : Nat), vs = [.ref a, .ref L, .int ((i : Nat) : Int), .int ((o : Nat) : Int)] ∧ HallAt CT CH H a t q0 c n ∧
  H L = some (.lst qvs) ∧ Rows H qvs qs ∧ i < qs.length ∧ o < qs.length ∧ o ≠ i ∧ (∀ j, qlen qs j ≤ 5) ∧ ∀ H' qvs', Same (upd H L (.lst qvs')) H' → (∀ x ∈ qvs', x ∈ qvs ∨ ∃ p, x = .ref p ∧ H p = none) → Rows H' qvs' (takeQ t qs i o) → Q .non H'
section
variable {P : Program} {w : World} {K : PySem.W.Frag} {mg : Str → Option Value} {base : Heap}
theorem if_cnt {Q : VK} {H : Hp} {σ : L2.St} {c : Bool} {A : Prop} {x y z : V} (hA : Q x H → A) (h1 : c = true → x = z) (h2 : c = false → y = z) (h : Q z H) : if c = true then A else tC y σ H Q := by
  cases c with
  | true => exact hA (by rw [h1 rfl]; exact h)
  | false =>
    show Q y H
    rw [h2 rfl]; exact h
theorem ixN_at {n j : Nat} (hj : j < n) : ixN n (j : Int) = some j := by
  unfold ixN
  rw [if_pos (by omega), if_pos (by omega), Int.toNat_natCast]
theorem free_of {H H' : Hp} {p : Addr} (s : Same H H') (h : H' p = none) : H p = none := by
  cases q : H p with
  | none => rfl
  | some u => rw [s _ _ q] at h; cases h
theorem upd_id {H : Hp} {L : Addr} {o : HO} (h : H L = some o) : upd H L o = H := by
  funext b
  by_cases e : b = L
  · subst e; rw [upd_same, h]
  · rw [upd_ne e]
theorem ok_take {CT CH : Addr} (cf : CF K CT CH) (T : Blt mg) {f_Taking_lets : Addr} {fd_Taking_lets : FuncData} (G_Taking_lets : FnOk P w K mg base CX0 1 f_Taking_lets fd_Taking_lets P_Taking_lets (spLets CT)) (m_Taking_lets : Meth K CT "lets" f_Taking_lets)
    (b_Taking_lets : Binds K fd_Taking_lets P_Taking_lets []) {f : Addr} {fd : FuncData} (F : Fun K "take" "Hall.take" s_Hall_take f fd) : FnOk P w K mg base CX0 2 f fd P_Hall_take (spTake CT CH) := by
  have c_Taking_lets := cf.clT
  refine F.ok sc_Hall_take (fun vs H Q E h => ?_) (fun cdv A outer s H vs Q E hr h => ?_)
  · obtain ⟨a, L, qvs, qs, t, q0, c, n, i, o, rfl, _⟩ := h
    rfl
  · obtain ⟨a, L, qvs, qs, t, q0, c, n, i, o, rfl, hH, hL, R, hi, ho, hoi, h5, k⟩ := h
    have sz : sizeLine = 16777216 := sizeLine_eq
    obtain ⟨dx, qv0, tv, h1, _, hT⟩ := hH.ex
    obtain ⟨dxT, lp, rpl, rules, hT1, hT2, hT3, hag, hany, hha⟩ := hT.ex
    obtain ⟨ai, hai, hqi⟩ := R.row i hi
    obtain ⟨ao, hao, hqo⟩ := R.row o ho
    have nl : ¬ (("lets" : Str) = "least") := by decide +kernel
    have nr : ¬ (("lets" : Str) = "rules") := by decide +kernel
    have k0 : takeQ t qs i o = qs → Q .non H := fun e => k H qvs (by rw [upd_id hL]; exact Same.refl H) (fun x hx => .inl hx) (by rw [e]; exact R)
    refine ⟨_, (pss_cons (ps_par (i := 4) (j := 5) rfl sc_Hall_take.nd rfl rfl (by decide) rfl rfl (pa_cons (pe_callB call_len_seq (by rfl) T.len (by decide +kernel) (pa_cons (pe_ix ix_list (pv 1) (pv 2) (fun _ _ => rfl)) pa_nil)) (pa_cons (pe_callB call_len_seq (by rfl) T.len (by decide +kernel) (pa_cons (pe_ix ix_list (pv 1) (pv 3) (fun _ _ => rfl)) pa_nil)) pa_nil)) (by rfl))
  (pss_cons (ps_if (PW.pt (pw_or (pt_cmpR op_eq (pv 5) pe_int (nomark _)) (pw_or1 (PW.pt (pw_and (pt_cmpR op_in_seq pe_str (pe_fld (pe_fld (pv 0) rfl) rfl) (by rfl)) (pw_and1 (pt_not (pt_val (pe_meth (pe_fld (pv 0) rfl) c_Taking_lets m_Taking_lets G_Taking_lets (hr.mono (show 1 ≤ 1 by decide)) b_Taking_lets .nil pass0 (pa_cons (pv 4) (pa_cons (pv 5) pa_nil)))))))))))
    (pss_one ps_retN)
    pss_nil)
  (pss_cons (ps_set (i := 6) sc_Hall_take.nd rfl (Or.inl rfl) (pe_ifExp (pt_cmpR op_in_seq pe_str (pe_fld (pe_fld (pv 0) rfl) rfl) (by rfl)) (pe_callB (call_max2 rfl) (by rfl) T.max (by decide +kernel) (pa_cons pe_int (pa_cons (pe_op op_fdiv (pe_op op_sub (pv 5) (pv 4)) pe_int) pa_nil))) pe_int))
  (pss_cons (ps_asg (pe_op op_cat (pe_ix ix_list (pv 1) (pv 2) (fun _ _ => rfl)) (pe_slice sl_list (pe_ix ix_list (pv 1) (pv 3) (fun _ _ => rfl)) (po_some (pe_op op_sub (pv 5) (pv 6))) po_none)) (pg_sub (pv 1) (pv 2) set_list))
  (pss_one (ps_asg (pe_slice sl_list (pe_ix ix_list (pv 1) (pv 3) (fun _ _ => rfl)) po_none (po_some (pe_op op_sub (pv 5) (pv 6)))) (pg_sub (pv 1) (pv 3) set_list))))))), ?_⟩
    refine ⟨_, rfl, _, rfl, L, qvs, _, _, rfl, rfl, SqL.of hL, at_of rfl hai, ai, _, rfl, .inl (SqL.of hqi), _, rfl, _, rfl, L, qvs, _, _, rfl, rfl, SqL.of hL, at_of rfl hao, ao, _, rfl, .inl (SqL.of hqo), ?_⟩
    have eln : ∀ j, ((qs.getD j []).map V.int).length = qlen qs j := fun j => by rw [List.length_map]; rfl
    rw [eln, eln]
    -- if length == 0 or ..
    refine ⟨_, _, rfl, _, rfl, rfl, _, rfl, ?_⟩
    dsimp only
    have hmay : ∀ b : Bool, may t.least (qlen qs i) (qlen qs o) = b → _ := fun b _ => True.intro
    have eq0 : decide (V.int ((qlen qs o : Nat) : Int) = V.int 0) = decide (qlen qs o = 0) := decide_eq_decide.mpr ⟨fun z => by injection z with z; omega, fun z => by rw [z]; rfl⟩
    rw [eq0]
    by_cases h0 : qlen qs o = 0
    · rw [decide_eq_true h0]
      refine iteT ?_
      refine iteT ?_
      exact k0 (by unfold takeQ; rw [if_pos (.inl h0)])
    rw [decide_eq_false h0]
    refine iteF ?_
    refine ⟨_, rfl, a, CH, dx, _, _, rfl, h1, cf.clH, cf.nHt, lk_b ne_tq, tv, CT, dxT, _, _, rfl, hT1, cf.clT, cf.nTr, lk_b ne_rl, rpl, _, rfl, .inr (SqT.of hT3), rfl, flat_strs _, t.again, ?_, ?_⟩
    · rw [← hag]; rfl
    dsimp only
    have h5i := h5 i
    have h5o := h5 o
    have lio : (qs.getD o []).length = qlen qs o := rfl
    have lii : (qs.getD i []).length = qlen qs i := rfl
    -- the count
    obtain ⟨cnt, hcnt⟩ : ∃ cnt : Nat, cnt = (if t.half = true then max 1 ((qlen qs o - qlen qs i) / 2) else 1) := ⟨_, rfl⟩
    have hc1 : 1 ≤ cnt := by rw [hcnt]; split <;> omega
    have hco : cnt ≤ qlen qs o := by rw [hcnt]; split <;> omega
    have tq : ¬ (t.again = true ∧ may t.least (qlen qs i) (qlen qs o) = false) → takeQ t qs i o = (qs.set i (qs.getD i [] ++ (qs.getD o []).drop (qlen qs o - cnt))).set o ((qs.getD o []).take (qlen qs o - cnt)) := fun hx => by
      unfold takeQ
      rw [if_neg (by rintro (z | z); exact h0 z; exact hx z), hcnt]
    have esub : ((qlen qs o : Nat) : Int) - ((cnt : Nat) : Int) = ((qlen qs o - cnt : Nat) : Int) := by omega
    have emax : t.half = true → (if ((qlen qs o : Nat) : Int) - ((qlen qs i : Nat) : Int) < 2 * 1 ∧ False then (1 : Int) else (if (((qlen qs o : Nat) : Int) - ((qlen qs i : Nat) : Int)) / 2 > 1 then (((qlen qs o : Nat) : Int) - ((qlen qs i : Nat) : Int)) / 2 else 1)) = ((cnt : Nat) : Int) := fun e => by
      rw [hcnt, if_pos e, if_neg (fun z => z.2)]
      split <;> omega
    rw [if_neg (fun z => z.2)] at emax
    -- one state at the end
    by_cases hA : t.again = true
    · rw [hA]
      refine iteT ?_
      refine ⟨_, rfl, a, CH, dx, _, _, rfl, h1, cf.clH, cf.nHt, lk_b ne_tq, tv, dxT, _, rfl, hT1, lk_n nl nr, _, rfl, _, rfl, ?_⟩
      refine ⟨tv, t, _, _, rfl, hT, _, rfl, ?_⟩
      dsimp only
      by_cases hm : may t.least (qlen qs i) (qlen qs o) = true
      · rw [hm]
        refine iteF ?_
        have hx : ¬ (t.again = true ∧ may t.least (qlen qs i) (qlen qs o) = false) := fun z => by rw [hm] at z; exact nomatch z.2
        refine ⟨_, rfl, a, CH, dx, _, _, rfl, h1, cf.clH, cf.nHt, lk_b ne_tq, tv, CT, dxT, _, _, rfl, hT1, cf.clT, cf.nTr, lk_b ne_rl, rpl, _, rfl, .inr (SqT.of hT3), rfl, flat_strs _, t.half, ?_, ?_⟩
        · rw [← hha]; rfl
        dsimp only
        refine if_cnt (z := .int ((cnt : Nat) : Int)) (fun q => ⟨_, rfl, _, rfl, _, _, rfl, rfl, _, _, rfl, rfl, ⟨by omega, by omega⟩, _, _, rfl, q⟩) (fun e => by rw [emax e]) (fun e => by rw [hcnt, if_neg (by rw [e]; exact Bool.false_ne_true)]; rfl) ?_
        -- queues[core] = queues[core] + queues[other][length - count:]
        refine ⟨_, rfl, _, rfl, L, qvs, _, _, rfl, rfl, SqL.of hL, at_of rfl hai, ?_⟩
        refine ⟨_, rfl, _, rfl, L, qvs, _, _, rfl, rfl, SqL.of hL, at_of rfl hao, ?_⟩
        refine ⟨_, rfl, _, rfl, _, _, rfl, rfl, ?_⟩
        refine ⟨_, rfl, ao, _, rfl, SqL.of hqo, fun p1 hp1 => ?_⟩
        rw [esub, cutV_from (by rw [lio]; omega)]
        have l2 : (qs.getD i [] ++ (qs.getD o []).drop (qlen qs o - cnt)).length ≤ 10 := by
          rw [List.length_append, List.length_drop, lio, lii]; omega
        have s1 : Same H (upd H p1 (.lst (((qs.getD o []).drop (qlen qs o - cnt)).map V.int))) := fun b u e => by rw [upd_ne (ne_of_none e hp1)]; exact e
        refine ⟨ai, p1, _, _, rfl, rfl, s1 _ _ hqi, upd_same, ?_, fun p2 hp2 => ?_⟩
        · rw [sz, ← List.length_append, ← List.map_append, List.length_map]; omega
        rw [← List.map_append]
        generalize e1 : upd H p1 (.lst (((qs.getD o []).drop (qlen qs o - cnt)).map V.int)) = H1 at *
        have s2 : Same H1 (upd H1 p2 (.lst ((qs.getD i [] ++ (qs.getD o []).drop (qlen qs o - cnt)).map V.int))) := fun b u e => by rw [upd_ne (ne_of_none e hp2)]; exact e
        have hp2' : upd H1 p2 (.lst ((qs.getD i [] ++ (qs.getD o []).drop (qlen qs o - cnt)).map V.int)) p2 = some (.lst ((qs.getD i [] ++ (qs.getD o []).drop (qlen qs o - cnt)).map V.int)) := upd_same
        generalize e2 : upd H1 p2 (.lst ((qs.getD i [] ++ (qs.getD o []).drop (qlen qs o - cnt)).map V.int)) = H2 at *
        have s12 := s1.trans s2
        have hL2 := s12 _ _ hL
        refine ⟨_, rfl, _, rfl, L, qvs, _, i, rfl, rfl, hL2, ixN_at (by rw [R.len]; exact hi), ?_⟩
        have R2 := (R.same s12).put hi hp2'
        have np2 : p2 ≠ L := fun z => by
          rw [z, s1 _ _ hL] at hp2; cases hp2
        have _R3 : Rows (upd H2 L (.lst (qvs.set i (.ref p2)))) (qvs.set i (.ref p2)) (qs.set i (qs.getD i [] ++ (qs.getD o []).drop (qlen qs o - cnt))) :=
          Rows.put (H := upd H2 L (.lst (qvs.set i (.ref p2)))) ((R.same s12).upd hL2) hi (by rw [upd_ne np2]; exact hp2')
        have hL3 : upd H2 L (.lst (qvs.set i (.ref p2))) L = some (.lst (qvs.set i (.ref p2))) := upd_same
        have sL : ∀ b u, b ≠ L → H b = some u → upd H2 L (.lst (qvs.set i (.ref p2))) b = some u := fun b u e1 e2 => by rw [upd_ne e1]; exact s12 _ _ e2
        generalize e3 : upd H2 L (.lst (qvs.set i (.ref p2))) = H3 at *
        -- queues[other] = queues[other][:length - count]
        have hao3 : (qvs.set i (.ref p2))[o]? = some (.ref ao) := by rw [List.getElem?_set_ne (fun z => hoi z.symm)]; exact hao
        have hqo3 := sL _ _ (R.ne hL hao hqo) hqo
        refine ⟨_, rfl, _, rfl, L, _, _, _, rfl, rfl, SqL.of hL3, at_of rfl hao3, _, rfl, _, rfl, _, _, rfl, rfl, _, rfl, ao, _, rfl, SqL.of hqo3, fun p3 hp3 => ?_⟩
        rw [esub, cutV_to (by rw [lio]; omega)]
        have s3 : Same H3 (upd H3 p3 (.lst (((qs.getD o []).take (qlen qs o - cnt)).map V.int))) := fun b u e => by rw [upd_ne (ne_of_none e hp3)]; exact e
        have hp3' : upd H3 p3 (.lst (((qs.getD o []).take (qlen qs o - cnt)).map V.int)) p3 = some (.lst (((qs.getD o []).take (qlen qs o - cnt)).map V.int)) := upd_same
        generalize e4 : upd H3 p3 (.lst (((qs.getD o []).take (qlen qs o - cnt)).map V.int)) = H4 at *
        have hL4 := s3 _ _ hL3
        have np3 : p3 ≠ L := fun z => by rw [z, hL3] at hp3; cases hp3
        refine ⟨_, rfl, _, rfl, L, _, _, o, rfl, rfl, hL4, ixN_at (by rw [List.length_set, R.len]; exact ho), ?_⟩
        refine k _ ((qvs.set i (.ref p2)).set o (.ref p3)) (fun b u e => ?_) (fun x hx1 => ?_) ?_
        · by_cases q : b = L
          · subst q
            rw [upd_same] at e ⊢
            exact e
          · rw [upd_ne q] at e ⊢
            exact s3 _ _ (sL _ _ q e)
        · rcases List.mem_or_eq_of_mem_set hx1 with z | z
          · rcases List.mem_or_eq_of_mem_set z with z | z
            · exact .inl z
            · exact .inr ⟨p2, z, free_of s1 hp2⟩
          · refine .inr ⟨p3, z, ?_⟩
            cases q : H p3 with
            | none => rfl
            | some u => rw [sL _ _ np3 q] at hp3; cases hp3
        · rw [tq hx]
          exact Rows.put ((_R3.same s3).upd hL4) (by rw [List.length_set]; exact ho) (by rw [upd_ne np3]; exact hp3')
      · have hm' : may t.least (qlen qs i) (qlen qs o) = false := by simpa using hm
        rw [hm']
        refine iteT ?_
        exact k0 (by unfold takeQ; rw [if_pos (.inr ⟨hA, hm'⟩)])
    · have hA' : t.again = false := by simpa using hA
      rw [hA']
      refine iteF ?_
      refine iteF ?_
      have hx : ¬ (t.again = true ∧ may t.least (qlen qs i) (qlen qs o) = false) := fun z => hA z.1
      refine ⟨_, rfl, a, CH, dx, _, _, rfl, h1, cf.clH, cf.nHt, lk_b ne_tq, tv, CT, dxT, _, _, rfl, hT1, cf.clT, cf.nTr, lk_b ne_rl, rpl, _, rfl, .inr (SqT.of hT3), rfl, flat_strs _, t.half, ?_, ?_⟩
      · rw [← hha]; rfl
      dsimp only
      refine if_cnt (z := .int ((cnt : Nat) : Int)) (fun q => ⟨_, rfl, _, rfl, _, _, rfl, rfl, _, _, rfl, rfl, ⟨by omega, by omega⟩, _, _, rfl, q⟩) (fun e => by rw [emax e]) (fun e => by rw [hcnt, if_neg (by rw [e]; exact Bool.false_ne_true)]; rfl) ?_
      -- queues[core] = queues[core] + queues[other][length - count:]
      refine ⟨_, rfl, _, rfl, L, qvs, _, _, rfl, rfl, SqL.of hL, at_of rfl hai, ?_⟩
      refine ⟨_, rfl, _, rfl, L, qvs, _, _, rfl, rfl, SqL.of hL, at_of rfl hao, ?_⟩
      refine ⟨_, rfl, _, rfl, _, _, rfl, rfl, ?_⟩
      refine ⟨_, rfl, ao, _, rfl, SqL.of hqo, fun p1 hp1 => ?_⟩
      rw [esub, cutV_from (by rw [lio]; omega)]
      have l2 : (qs.getD i [] ++ (qs.getD o []).drop (qlen qs o - cnt)).length ≤ 10 := by
        rw [List.length_append, List.length_drop, lio, lii]; omega
      have s1 : Same H (upd H p1 (.lst (((qs.getD o []).drop (qlen qs o - cnt)).map V.int))) := fun b u e => by rw [upd_ne (ne_of_none e hp1)]; exact e
      refine ⟨ai, p1, _, _, rfl, rfl, s1 _ _ hqi, upd_same, ?_, fun p2 hp2 => ?_⟩
      · rw [sz, ← List.length_append, ← List.map_append, List.length_map]; omega
      rw [← List.map_append]
      generalize e1 : upd H p1 (.lst (((qs.getD o []).drop (qlen qs o - cnt)).map V.int)) = H1 at *
      have s2 : Same H1 (upd H1 p2 (.lst ((qs.getD i [] ++ (qs.getD o []).drop (qlen qs o - cnt)).map V.int))) := fun b u e => by rw [upd_ne (ne_of_none e hp2)]; exact e
      have hp2' : upd H1 p2 (.lst ((qs.getD i [] ++ (qs.getD o []).drop (qlen qs o - cnt)).map V.int)) p2 = some (.lst ((qs.getD i [] ++ (qs.getD o []).drop (qlen qs o - cnt)).map V.int)) := upd_same
      generalize e2 : upd H1 p2 (.lst ((qs.getD i [] ++ (qs.getD o []).drop (qlen qs o - cnt)).map V.int)) = H2 at *
      have s12 := s1.trans s2
      have hL2 := s12 _ _ hL
      refine ⟨_, rfl, _, rfl, L, qvs, _, i, rfl, rfl, hL2, ixN_at (by rw [R.len]; exact hi), ?_⟩
      have R2 := (R.same s12).put hi hp2'
      have np2 : p2 ≠ L := fun z => by
        rw [z, s1 _ _ hL] at hp2; cases hp2
      have _R3 : Rows (upd H2 L (.lst (qvs.set i (.ref p2)))) (qvs.set i (.ref p2)) (qs.set i (qs.getD i [] ++ (qs.getD o []).drop (qlen qs o - cnt))) :=
        Rows.put (H := upd H2 L (.lst (qvs.set i (.ref p2)))) ((R.same s12).upd hL2) hi (by rw [upd_ne np2]; exact hp2')
      have hL3 : upd H2 L (.lst (qvs.set i (.ref p2))) L = some (.lst (qvs.set i (.ref p2))) := upd_same
      have sL : ∀ b u, b ≠ L → H b = some u → upd H2 L (.lst (qvs.set i (.ref p2))) b = some u := fun b u e1 e2 => by rw [upd_ne e1]; exact s12 _ _ e2
      generalize e3 : upd H2 L (.lst (qvs.set i (.ref p2))) = H3 at *
      -- queues[other] = queues[other][:length - count]
      have hao3 : (qvs.set i (.ref p2))[o]? = some (.ref ao) := by rw [List.getElem?_set_ne (fun z => hoi z.symm)]; exact hao
      have hqo3 := sL _ _ (R.ne hL hao hqo) hqo
      refine ⟨_, rfl, _, rfl, L, _, _, _, rfl, rfl, SqL.of hL3, at_of rfl hao3, _, rfl, _, rfl, _, _, rfl, rfl, _, rfl, ao, _, rfl, SqL.of hqo3, fun p3 hp3 => ?_⟩
      rw [esub, cutV_to (by rw [lio]; omega)]
      have s3 : Same H3 (upd H3 p3 (.lst (((qs.getD o []).take (qlen qs o - cnt)).map V.int))) := fun b u e => by rw [upd_ne (ne_of_none e hp3)]; exact e
      have hp3' : upd H3 p3 (.lst (((qs.getD o []).take (qlen qs o - cnt)).map V.int)) p3 = some (.lst (((qs.getD o []).take (qlen qs o - cnt)).map V.int)) := upd_same
      generalize e4 : upd H3 p3 (.lst (((qs.getD o []).take (qlen qs o - cnt)).map V.int)) = H4 at *
      have hL4 := s3 _ _ hL3
      have np3 : p3 ≠ L := fun z => by rw [z, hL3] at hp3; cases hp3
      refine ⟨_, rfl, _, rfl, L, _, _, o, rfl, rfl, hL4, ixN_at (by rw [List.length_set, R.len]; exact ho), ?_⟩
      refine k _ ((qvs.set i (.ref p2)).set o (.ref p3)) (fun b u e => ?_) (fun x hx1 => ?_) ?_
      · by_cases q : b = L
        · subst q
          rw [upd_same] at e ⊢
          exact e
        · rw [upd_ne q] at e ⊢
          exact s3 _ _ (sL _ _ q e)
      · rcases List.mem_or_eq_of_mem_set hx1 with z | z
        · rcases List.mem_or_eq_of_mem_set z with z | z
          · exact .inl z
          · exact .inr ⟨p2, z, free_of s1 hp2⟩
        · refine .inr ⟨p3, z, ?_⟩
          cases q : H p3 with
          | none => rfl
          | some u => rw [sL _ _ np3 q] at hp3; cases hp3
      · rw [tq hx]
        exact Rows.put ((_R3.same s3).upd hL4) (by rw [List.length_set]; exact ho) (by rw [upd_ne np3]; exact hp3')
end
end ND
end
section
set_option Elab.async false
set_option linter.all false
set_option maxRecDepth 100000
set_option maxHeartbeats 4000000
namespace ND
open PySem L2
open PyProof.Rows (envOfC)
open PH
/-! ### acted -/
theorem seq_mid {t u : TS} {D : Ends} {σ : L2.St} {H : Hp} (Pm : L2.St → Hp → Prop) (h1 : ∀ N : L2.St → Hp → Prop, (∀ σ' H', Pm σ' H' → N σ' H') → t { D with nx := N } σ H) (h2 : ∀ σ' H', Pm σ' H' → u D σ' H') : tSeq t u D σ H := h1 _ h2
theorem Rows.call {B B' H H' : Hp} {qvs qvs' : List V} {qs qs' : List (List Int)} (h : Rows B qvs qs) (hm : ∀ x ∈ qvs', x ∈ qvs ∨ ∃ p, x = .ref p ∧ H p = none) (h' : Rows H' qvs' qs') (s : Same B B') (s' : Same B' H') (f : ∀ b u, H b = none → H' b = some u → B' b = some u) : Rows B' qvs' qs' := by
  refine ⟨h'.len, fun j hj => ?_⟩
  obtain ⟨aj, h1, h2⟩ := h'.row j hj
  refine ⟨aj, h1, ?_⟩
  rcases hm _ (List.mem_of_getElem? h1) with z | ⟨p, z, hp⟩
  · obtain ⟨i, hi⟩ := List.mem_iff_getElem?.mp z
    have hil := (List.getElem?_eq_some_iff.mp hi).1
    obtain ⟨ai, h3, h4⟩ := h.row i (by rw [← h.len]; exact hil)
    rw [hi] at h3
    injection h3 with h3
    injection h3 with h3
    subst h3
    have := s' _ _ (s _ _ h4)
    rw [h2] at this
    injection this with this
    rw [this]
    exact s _ _ h4
  · injection z with z
    subst z
    exact f _ _ hp h2
def spActed (CT CH : Addr) : Sp := fun vs H Q _ => ∃ (a : Addr) (pv : V) (t : Tk) (q0 : List (List Int)) (c n : Nat) (p : HPos) (i : Nat) (k : Int), vs = [.ref a, pv, .int ((i : Nat) : Int), .int k] ∧ HallAt CT CH H a t q0 c n ∧ Rp H (posK p) pv ∧ HV c n p ∧ i < c ∧
  ∀ H' v, Same H H' → Rp H' (actK t p (i, k)) v → Q v H'
section
variable {P : Program} {w : World} {K : PySem.W.Frag} {mg : Str → Option Value} {base : Heap}
theorem ok_acted {CT CH : Addr} (cf : CF K CT CH) (T : Blt mg) {f_Hall_take : Addr} {fd_Hall_take : FuncData} (G_Hall_take : FnOk P w K mg base CX0 2 f_Hall_take fd_Hall_take P_Hall_take (spTake CT CH)) (m_Hall_take : Meth K CH "take" f_Hall_take)
    (b_Hall_take : Binds K fd_Hall_take P_Hall_take []) {f : Addr} {fd : FuncData} (F : Fun K "acted" "Hall.acted" s_Hall_acted f fd) : FnOk P w K mg base CX0 3 f fd P_Hall_acted (spActed CT CH) := by
  have c_Hall_take := cf.clH
  refine F.ok sc_Hall_acted (fun vs H Q E h => ?_) (fun cdv A outer s H vs Q E hr h => ?_)
  · obtain ⟨a, pv, t, q0, c, n, p, i, k, rfl, _⟩ := h
    rfl
  · obtain ⟨a, pv, t, q0, c, n, p, i, k, rfl, hH, rp, hv, hi, kk⟩ := h
    have sz : sizeLine = 16777216 := sizeLine_eq
    have hc3 := hH.c3
    have hn5 := hH.n5
    obtain ⟨dx, qv0, tv, h1, _, hT⟩ := hH.ex
    obtain ⟨qa, la, qvs, PA⟩ := posAt_of rp
    obtain ⟨pa, rfl, hpa⟩ := PA.top
    have hll : p.2.length = c := hv.ll
    have hql : p.1.length = c := hv.ql
    have hqv : qvs.length = c := by rw [PA.ql, hql]
    have nl : ¬ (("take" : Str) = "queues") := by decide +kernel
    have nr : ¬ (("take" : Str) = "taking") := by decide +kernel
    refine ⟨_, (pss_cons (ps_setLc (i := 4) (own := [("queue", 8)]) (g := gName 8) rfl sc_Hall_acted.nd rfl rfl (sw_true rfl rfl rfl (by decide +kernel)) (pi_tup (pe_ix ix_tup (pv 1) pe_int (fun _ _ => rfl))) (blkOk_by (own := [("queue", 8)]) (N := N_Hall_acted) (sc := defScope s_Hall_acted) (by decide +kernel)) (fun _ _ _ _ _ => (pg_name (i := 8) sc_Hall_acted.nd rfl (Or.inl rfl))) (fun _ _ _ _ _ => pts_nil) (fun _ _ _ _ _ => (pe_callTy (call_listB (K := K)) (by rfl) T.list (by decide +kernel) (pa_cons (pv 8) pa_nil))))
  (pss_cons (ps_set (i := 5) sc_Hall_acted.nd rfl (Or.inl rfl) (pe_callTy call_list_of (by rfl) T.list (by decide +kernel) (pa_cons (pe_ix ix_tup (pv 1) pe_int (fun _ _ => rfl)) pa_nil)))
  (pss_cons (ps_if (pt_cmpR op_ge (pe_ix ix_list (pv 5) (pv 2) (fun _ _ => rfl)) pe_int (nomark _))
    (pss_one (ps_expr (pe_meth (pv 0) c_Hall_take m_Hall_take G_Hall_take (hr.mono (show 2 ≤ 2 by decide)) b_Hall_take .nil pass0 (pa_cons (pv 4) (pa_cons (pv 2) (pa_cons (pe_ix ix_list (pv 5) (pv 2) (fun _ _ => rfl)) pa_nil))))))
    pss_nil)
  (pss_cons (ps_asg (pv 3) (pg_sub (pv 5) (pv 2) set_list))
  (pss_cons (ps_asg (pe_tup (pa_cons (pe_un un_neg pe_int) (pa_cons pe_int pa_nil))) (pg_tup rfl (pgs_cons (pg_name (i := 6) sc_Hall_acted.nd rfl (Or.inl rfl)) (pgs_cons (pg_name (i := 7) sc_Hall_acted.nd rfl (Or.inl rfl)) pgs_nil))))
  (pss_cons (ps_if (pt_truth (pe_ix ix_list (pv 4) (pv 2) (fun _ _ => rfl)) (by intro _; rfl))
    (pss_cons (ps_set (i := 6) sc_Hall_acted.nd rfl (Or.inl rfl) (pe_ix ix_list (pe_ix ix_list (pv 4) (pv 2) (fun _ _ => rfl)) pe_int (fun _ _ => rfl)))
    (pss_one (ps_asg (pe_op op_cat (pe_slice sl_list (pe_ix ix_list (pv 4) (pv 2) (fun _ _ => rfl)) (po_some pe_int) po_none) (pe_lst (pa_cons (pv 6) pa_nil))) (pg_sub (pv 4) (pv 2) set_list))))
    (pss_one (ps_if (pt_val (pe_callB (cr_any rfl) (by rfl) T.any (by decide +kernel) (pa_cons (pe_lc (own := [("queue", 8)]) (g := gName 8) rfl sc_Hall_acted.nd (pi_list (pv 4)) (blkOk_by (own := [("queue", 8)]) (N := N_Hall_acted) (sc := defScope s_Hall_acted) (by decide +kernel)) (fun _ _ _ _ _ => (pg_name (i := 8) sc_Hall_acted.nd rfl (Or.inl rfl))) (fun _ _ _ _ _ => pts_nil) (fun _ _ _ _ _ => (pe_cmpR op_ge (pe_callB (call_lenB (K := K)) (by rfl) T.len (by decide +kernel) (pa_cons (pv 8) pa_nil)) pe_int (nomark _)))) pa_nil)))
      (pss_one (ps_set (i := 7) sc_Hall_acted.nd rfl (Or.inl rfl) pe_int))
      pss_nil)))
  (pss_one (ps_ret (pe_tup (pa_cons (pv 2) (pa_cons (pv 3) (pa_cons (pe_tup (pa_cons (pe_callTy call_tuple_of (by rfl) T.tuple (by decide +kernel) (pa_cons (pe_lc (own := [("queue", 8)]) (g := gName 8) rfl sc_Hall_acted.nd (pi_list (pv 4)) (blkOk_by (own := [("queue", 8)]) (N := N_Hall_acted) (sc := defScope s_Hall_acted) (by decide +kernel)) (fun _ _ _ _ _ => (pg_name (i := 8) sc_Hall_acted.nd rfl (Or.inl rfl))) (fun _ _ _ _ _ => pts_nil) (fun _ _ _ _ _ => (pe_callTy (call_tupB (K := K)) (by rfl) T.tuple (by decide +kernel) (pa_cons (pv 8) pa_nil)))) pa_nil)) (pa_cons (pe_callTy call_tuple_of (by rfl) T.tuple (by decide +kernel) (pa_cons (pv 5) pa_nil)) pa_nil))) (pa_cons (pv 6) (pa_cons (pv 7) pa_nil)))))))))))))), ?_⟩
    -- queues = [list(queue) for queue in position[0]]
    refine ⟨_, rfl, pa, _, _, _, rfl, rfl, SqT.of hpa, at_of (j := 0) rfl rfl, qa, rfl, ⟨_, SqT.of PA.qs⟩, fun D hD => ?_⟩
    refine lc_tup (K := K) (a := qa) (xs := qvs) (fun j H' => ∃ (B : Hp) (qs' : List V), Same H B ∧ Own B H' [(D, .lst qs')] ∧ Rows B qs' (p.1.take j))
      ⟨H, [], Same.refl H, (Own.start H).new (o := .lst []) hD rfl, ⟨rfl, fun j hj => by rw [List.take_zero] at hj; exact absurd hj (Nat.not_lt_zero _)⟩⟩ ?_ ?_ ?_
    · rintro j H' _ ⟨B, qs', sB, O, _⟩
      exact SqT.of ((sB.trans O.sub) _ _ PA.qs)
    · rintro j x H1 hx ⟨B, qs', sB, O, R⟩
      have sH := sB.trans O.sub
      have PB := PA.same (Same.tups sH)
      have hjl : j < p.1.length := by rw [← PA.ql]; exact (List.getElem?_eq_some_iff.mp hx).1
      obtain ⟨aj, haj, hqj⟩ := PB.row j hjl
      rw [haj] at hx
      cases hx
      refine ⟨rfl, ?_⟩
      refine yes_t ?_
      refine ⟨_, rfl, aj, _, rfl, .inr (SqT.of hqj), fun l hl => ?_⟩
      obtain ⟨B', sB', hl', O'⟩ := O.fz (o := .lst ((p.1.getD j []).map V.int)) hl
      have el : (p.1.take j).length = j := by rw [List.length_take]; omega
      refine ⟨_, O'.get 0 rfl, by rw [sz, R.len, el]; omega, B', qs' ++ [.ref l], sB.trans sB', O'.put 0 rfl rfl, ?_⟩
      have e1 : p.1.take (j + 1) = p.1.take j ++ [p.1.getD j []] := take_succ_of (by rw [List.getD_eq_getElem?_getD, List.getElem?_eq_getElem hjl]; rfl)
      rw [e1]
      refine ⟨by rw [List.length_append, List.length_append, R.len]; rfl, fun m hm => ?_⟩
      rw [List.length_append, el] at hm
      by_cases q : m < j
      · obtain ⟨am, h1, h2⟩ := R.row m (by rw [el]; exact q)
        refine ⟨am, by rw [List.getElem?_append_left (by rw [R.len, el]; exact q)]; exact h1, ?_⟩
        rw [List.getD_eq_getElem?_getD, List.getElem?_append_left (by rw [el]; exact q), ← List.getD_eq_getElem?_getD]
        exact sB' _ _ h2
      · have : m = j := by
          have : ([p.1.getD j []] : List (List Int)).length = 1 := rfl
          omega
        subst this
        refine ⟨l, by rw [List.getElem?_append_right (by rw [R.len, el]; exact Nat.le_refl _), R.len, el, Nat.sub_self]; rfl, ?_⟩
        rw [List.getD_eq_getElem?_getD, List.getElem?_append_right (by rw [el]; exact Nat.le_refl _), el, Nat.sub_self]
        exact hl'
    rintro H1 ⟨B1, qs1, sB1, O1, R1⟩
    rw [PA.ql, List.take_length] at R1
    have sH1 := sB1.trans O1.sub
    have P1 := PA.same (Same.tups sH1)
    -- looks = list(position[1])
    refine ⟨_, rfl, pa, _, _, _, rfl, rfl, SqT.of (sH1 _ _ hpa), at_of (j := 1) rfl rfl, la, _, rfl, .inr (SqT.of P1.lk), fun L hL => ?_⟩
    have O2 := O1.new (o := .lst (p.2.map V.int)) hL rfl
    -- if looks[core] >= 0
    dsimp only [gName]
    refine seq_mid (fun σ' H' => σ' = [some (.ref a), some (.ref pa), some (.int ((i : Nat) : Int)), some (.int k), some (.ref D), some (.ref L), none, none, none] ∧
      ∃ B qs', Same H B ∧ Own B H' [(L, .lst (p.2.map V.int)), (D, .lst qs')] ∧ Rows B qs' (movedQ t p i)) (fun N hN => ?_) ?_
    · refine ⟨_, rfl, _, rfl, L, _, _, _, rfl, rfl, SqL.of (O2.get 0 rfl), at_of rfl (look_at (by omega)), _, _, rfl, rfl, _, rfl, ?_⟩
      have sH2 := sB1.trans O2.sub
      by_cases hge : 0 ≤ p.2.getD i (-1)
      · rw [decide_eq_true hge]
        refine iteT ?_
        obtain ⟨o, ho⟩ : ∃ o : Nat, p.2.getD i (-1) = ((o : Nat) : Int) := ⟨(p.2.getD i (-1)).toNat, by omega⟩
        have hlk := hv.lk i hi
        rw [ho] at hlk
        refine ⟨_, rfl, a, dx, _, rfl, sH2 _ _ h1, lk_n nl nr, _, rfl, _, rfl, _, rfl, _, rfl, L, _, _, _, rfl, rfl, SqL.of (O2.get 0 rfl), at_of rfl (look_at (by omega)), ?_⟩
        rw [ho]
        refine ⟨a, D, qs1, p.1, t, q0, c, n, i, o, rfl, hH.same sH2, O2.get 1 rfl, R1.same O2.sub, by omega, by omega, by omega, fun j => Nat.le_trans (qlen_le hv j) hn5, fun H3 qs3 s3 hm R3 => ?_⟩
        obtain ⟨B3, sB3, O3, _, f3⟩ := (O2.put 1 (o := .lst qs3) rfl rfl).call s3
        refine hN _ _ ⟨rfl, B3, qs3, sB1.trans sB3, O3, ?_⟩
        have em : movedQ t p i = takeQ t p.1 i o := by
          unfold movedQ
          rw [if_pos hge, ho, Int.toNat_natCast]
        rw [em]
        refine R1.call hm R3 sB3 O3.sub fun b u e1 e2 => f3 b u ?_ e2
        by_cases q : b = D
        · subst q
          rw [O2.get 1 rfl] at e1; cases e1
        · rw [upd_ne q]; exact e1
      · rw [decide_eq_false hge]
        refine iteF ?_
        exact hN _ _ ⟨rfl, B1, qs1, sB1, O2, by unfold movedQ; rw [if_neg hge]; exact R1⟩
    rintro σ3 H3 ⟨rfl, B3, qs3, sB3, O3, R3⟩
    have hmq : (movedQ t p i).length = c := by rw [movedQ_len, hql]
    have m5 : ∀ j, qlen (movedQ t p i) j ≤ 5 := fun j => by
      have : HV c n (movedQ t p i, p.2) := ⟨hmq, hll, hv.lk, hv.moved t hi⟩
      exact Nat.le_trans (qlen_le this j) hn5
    obtain ⟨mq, emq⟩ : ∃ mq, mq = movedQ t p i := ⟨_, rfl⟩
    rw [← emq] at R3 hmq m5
    -- looks[core] = pick
    refine ⟨_, rfl, _, rfl, _, rfl, L, _, _, i, rfl, rfl, O3.get 0 rfl, ixN_at (by rw [List.length_map]; omega), ?_⟩
    have O4 := O3.put 0 (o := .lst ((p.2.map V.int).set i (.int k))) rfl rfl
    have el4 : (p.2.map V.int).set i (.int k) = (p.2.set i k).map V.int := (List.map_set ..).symm
    rw [el4] at O4 ⊢
    -- ran, wasted = -1, 0
    refine ⟨_, rfl, by rw [sz]; show 2 ≤ 16777216; decide, fun l hl => ?_⟩
    obtain ⟨B5, sB5, hl5, O5⟩ := O4.fz (o := .tup [.int (-1), .int 0]) hl
    generalize e5 : upd (upd H3 L (.lst ((p.2.set i k).map V.int))) l (.tup [.int (-1), .int 0]) = H5 at *
    refine ⟨l, _, rfl, SqT.of (O5.sub _ _ hl5), rfl, _, _, rfl, _, _, rfl, rfl, ?_⟩
    have R5 := R3.same sB5
    have sH5 := sB3.trans sB5
    obtain ⟨ai, hai, hqi⟩ := R5.row i (by rw [hmq]; exact hi)
    have hlD : O5 = O5 := rfl
    dsimp only [gName]
    refine seq_mid (fun σ' H' => ∃ qs' x y B, σ' = [some (.ref a), some (.ref pa), some (.int ((i : Nat) : Int)), some (.int k), some (.ref D), some (.ref L), some (.int x), some (.int y), none] ∧
      Same H B ∧ Own B H' [(L, .lst ((p.2.set i k).map V.int)), (D, .lst qs')] ∧ Rows B qs' (actedP t p i k).1.1 ∧ x = (actedP t p i k).2.1 ∧ y = (actedP t p i k).2.2 ∧ (actedP t p i k).1.2 = p.2.set i k ∧ (actedP t p i k).1.1.length = c) (fun N hN => ?_) ?_
    · refine ⟨_, rfl, _, rfl, D, _, _, _, rfl, rfl, SqL.of (O5.get 1 rfl), at_of rfl hai, _, .inl ⟨_, SqL.of (O5.sub _ _ hqi), rfl⟩, ?_⟩
      dsimp only
      cases eq : mq.getD i [] with
      | cons x r =>
        refine iteT ?_
        rw [eq] at hqi
        -- ran = queues[core][0]
        refine ⟨_, rfl, _, rfl, D, _, _, _, rfl, rfl, SqL.of (O5.get 1 rfl), at_of rfl hai, ai, _, _, _, rfl, rfl, SqL.of (O5.sub _ _ hqi), at_of (j := 0) rfl rfl, ?_⟩
        -- queues[core] = queues[core][1:] + [ran]
        refine ⟨_, rfl, _, rfl, D, _, _, _, rfl, rfl, SqL.of (O5.get 1 rfl), at_of rfl hai, ?_⟩
        refine ⟨_, rfl, ai, _, rfl, SqL.of (O5.sub _ _ hqi), fun p1 hp1 => ?_⟩
        have ecut : cutV ((x :: r).map V.int) (some 1) none = r.map V.int := cutV_from (xs := x :: r) (k := 1) (by simp)
        rw [ecut]
        obtain ⟨B6, sB6, hp1', O6⟩ := O5.fz (o := .lst (r.map V.int)) hp1
        generalize upd H5 p1 (.lst (r.map V.int)) = H6 at *
        refine ⟨_, rfl, by rw [sz]; show 1 ≤ 16777216; decide, fun p2 hp2 => ?_⟩
        obtain ⟨B7, sB7, hp2', O7⟩ := O6.fz (o := .lst [.int x]) hp2
        generalize upd H6 p2 (.lst [.int x]) = H7 at *
        have lr : r.length ≤ 5 := by
          have := m5 i
          unfold qlen at this
          rw [eq] at this
          exact Nat.le_of_succ_le this
        refine ⟨p1, p2, _, _, rfl, rfl, O7.sub _ _ (sB7 _ _ hp1'), O7.sub _ _ hp2', by rw [sz, List.length_map]; exact Nat.le_trans (Nat.add_le_add_right lr 1) (by decide), fun p3 hp3 => ?_⟩
        have e8 : r.map V.int ++ [.int x] = (r ++ [x]).map V.int := by rw [List.map_append]; rfl
        rw [e8]
        obtain ⟨B8, sB8, hp3', O8⟩ := O7.fz (o := .lst ((r ++ [x]).map V.int)) hp3
        generalize upd H7 p3 (.lst ((r ++ [x]).map V.int)) = H8 at *
        have s58 := sB6.trans (sB7.trans sB8)
        refine ⟨_, rfl, _, rfl, D, _, _, i, rfl, rfl, O8.get 1 rfl, ixN_at (by rw [R3.len, hmq]; exact hi), ?_⟩
        have ea : actedP t p i k = ((mq.set i (r ++ [x]), p.2.set i k), x, 0) := by unfold actedP; rw [← emq, eq]
        rw [ea] at hN
        refine hN _ _ ⟨_, x, 0, B8, rfl, sH5.trans s58, O8.put 1 rfl rfl, (R5.same s58).put (by rw [hmq]; exact hi) hp3', rfl, rfl, rfl, by rw [List.length_set]; exact hmq⟩
      | nil =>
        refine iteF ?_
        have ea : actedP t p i k = ((mq, p.2.set i k), -1, if mq.any (fun q => decide (2 ≤ q.length)) = true then 1 else 0) := by unfold actedP; rw [← emq, eq]
        rw [ea] at hN
        -- any([len(queue) >= 2 for queue in queues])
        refine ⟨_, rfl, D, rfl, ⟨_, SqL.of (O5.get 1 rfl)⟩, fun D2 hD2 => ?_⟩
        refine lc_list (K := K) (a := D) (xs := qs3) (fun j H' => Own B5 H' [(D2, .lst (((mq.take j).map fun q => decide (2 ≤ q.length)).map V.bl)), (L, .lst ((p.2.set i k).map V.int)), (D, .lst qs3)])
          (O5.new (o := .lst []) hD2 rfl) ?_ ?_ ?_
        · rintro j H' _ O
          exact SqL.of (O.get 2 rfl)
        · rintro j x H6 hx O
          have hjl : j < mq.length := by rw [← R5.len]; exact (List.getElem?_eq_some_iff.mp hx).1
          obtain ⟨aj, haj, hqj⟩ := R5.row j hjl
          rw [haj] at hx
          cases hx
          refine ⟨rfl, ?_⟩
          refine yes_t ?_
          have et : mq.take (j + 1) = mq.take j ++ [mq.getD j []] := take_succ_of (by rw [List.getD_eq_getElem?_getD, List.getElem?_eq_getElem hjl]; rfl)
          refine ⟨_, rfl, aj, _, rfl, .inl (SqL.of (O.sub _ _ hqj)), _, _, rfl, rfl, _, O.get 0 rfl, by rw [sz, List.length_map, List.length_map, List.length_take]; omega, ?_⟩
          rw [et, List.map_append, List.map_append]
          have O7 := O.put 0 (o := .lst (((mq.take j).map fun q => decide (2 ≤ q.length)).map V.bl ++ [.bl (decide ((2 : Int) ≤ (((mq.getD j []).map V.int).length : Nat)))])) rfl rfl
          have eb : decide ((2 : Int) ≤ (((mq.getD j []).map V.int).length : Nat)) = decide (2 ≤ (mq.getD j []).length) := decide_eq_decide.mpr (by rw [List.length_map]; omega)
          rw [eb] at O7
          dsimp only
          rw [eb]
          exact O7
        intro H6 O6
        rw [R5.len, List.take_length] at O6
        refine ⟨D2, _, rfl, SqL.of (O6.get 0 rfl), _, rfl, ?_⟩
        have eany : (mq.map fun q => decide (2 ≤ q.length)).any id = mq.any (fun q => decide (2 ≤ q.length)) := by rw [List.any_map]; rfl
        rw [eany]
        have O7 := O6.drop (l' := [(L, .lst ((p.2.set i k).map V.int)), (D, .lst qs3)]) (by simp)
        by_cases ha : mq.any (fun q => decide (2 ≤ q.length)) = true
        · rw [if_pos ha] at hN
          rw [ha]
          refine iteT ?_
          exact hN _ _ ⟨qs3, -1, 1, B5, rfl, sH5, O7, R5, rfl, rfl, rfl, hmq⟩
        · rw [if_neg ha] at hN
          have ha' : mq.any (fun q => decide (2 ≤ q.length)) = false := by simpa using ha
          rw [ha']
          refine iteF ?_
          exact hN _ _ ⟨qs3, -1, 0, B5, rfl, sH5, O7, R5, rfl, rfl, rfl, hmq⟩
    rintro σ6 H6 ⟨qs6, x, y, B6, rfl, sB6, O6, R6, ex, ey, elk, elen⟩
    obtain ⟨fq, hfq⟩ : ∃ fq, fq = (actedP t p i k).1.1 := ⟨_, rfl⟩
    rw [← hfq] at R6 elen
    -- the result
    refine ⟨_, rfl, _, rfl, _, rfl, D, rfl, ⟨_, SqL.of (O6.get 1 rfl)⟩, fun D2 hD2 => ?_⟩
    refine lc_list (K := K) (a := D) (xs := qs6) (fun j H' => ∃ (B : Hp) (tvs : List V), Same B6 B ∧ Own B H' [(D2, .lst tvs), (L, .lst ((p.2.set i k).map V.int)), (D, .lst qs6)] ∧ Rps B ((fq.take j).map fun q => .tup (q.map .num)) tvs)
      ⟨B6, [], Same.refl _, O6.new (o := .lst []) hD2 rfl, by rw [List.take_zero]; exact .nil⟩ ?_ ?_ ?_
    · rintro j H' _ ⟨B, tvs, sB, O, _⟩
      exact SqL.of (O.get 2 rfl)
    · rintro j x H7 hx ⟨B, tvs, sB, O, R⟩
      have hjl : j < fq.length := by rw [← R6.len]; exact (List.getElem?_eq_some_iff.mp hx).1
      obtain ⟨aj, haj, hqj⟩ := R6.row j hjl
      rw [haj] at hx
      cases hx
      refine ⟨rfl, ?_⟩
      refine yes_t ?_
      refine ⟨_, rfl, aj, _, rfl, .inl ⟨SqL.of (O.sub _ _ (sB _ _ hqj)), fun l hl => ?_⟩⟩
      obtain ⟨B', sB', hl', O'⟩ := O.fz (o := .tup ((fq.getD j []).map V.int)) hl
      refine ⟨_, O'.get 0 rfl, ?_, B', tvs ++ [.ref l], sB.trans sB', O'.put 0 rfl rfl, ?_⟩
      · have := R.length
        rw [List.length_map, List.length_take] at this
        rw [sz]; omega
      have et : fq.take (j + 1) = fq.take j ++ [fq.getD j []] := take_succ_of (by rw [List.getD_eq_getElem?_getD, List.getElem?_eq_getElem hjl]; rfl)
      rw [et, List.map_append]
      refine Rps.snoc (R.keep (Same.tups sB')) ?_
      exact rp_tup hl' (Rps.nums _)
    rintro H7 ⟨B7, tvs, sB7, O7, R7⟩
    rw [R6.len, List.take_length] at R7
    refine ⟨D2, _, rfl, .inl ⟨SqL.of (O7.get 0 rfl), fun qp hqp => ?_⟩⟩
    obtain ⟨B8, sB8, hqp', O8⟩ := O7.fz (o := .tup tvs) hqp
    generalize upd H7 qp (.tup tvs) = H8 at *
    refine ⟨_, rfl, L, _, rfl, .inl ⟨SqL.of (O8.get 1 rfl), fun lp hlp => ?_⟩⟩
    obtain ⟨B9, sB9, hlp', O9⟩ := O8.fz (o := .tup ((p.2.set i k).map V.int)) hlp
    generalize upd H8 lp (.tup ((p.2.set i k).map V.int)) = H9 at *
    refine ⟨by rw [sz]; show 2 ≤ 16777216; decide, fun pp hpp => ?_⟩
    obtain ⟨B10, sB10, hpp', O10⟩ := O9.fz (o := .tup [.ref qp, .ref lp]) hpp
    generalize upd H9 pp (.tup [.ref qp, .ref lp]) = H10 at *
    refine ⟨_, rfl, _, rfl, by rw [sz]; show 5 ≤ 16777216; decide, fun fp hfp => ?_⟩
    obtain ⟨B11, sB11, hfp', O11⟩ := O10.fz (o := .tup [.int ((i : Nat) : Int), .int k, .ref pp, .int x, .int y]) hfp
    generalize upd H10 fp (.tup [.int ((i : Nat) : Int), .int k, .ref pp, .int x, .int y]) = H11 at *
    have s9 := sB9.trans (sB10.trans sB11)
    refine kk _ _ ((sB6.trans (sB7.trans (sB8.trans s9))).trans O11.sub) ?_
    refine Rp.keep (O11.tups) (rp_tup hfp' (.cons (rp_num _) (.cons (rp_num _) (.cons ?_ (.cons ?_ (.cons ?_ .nil))))))
    · refine rp_tup (sB11 _ _ hpp') (.cons ?_ (.cons ?_ .nil))
      · rw [← hfq]
        refine rp_tup (sB9.trans (sB10.trans sB11) _ _ hqp') (R7.keep (Same.tups (sB8.trans s9)))
      · rw [elk]
        exact rp_tup (sB10.trans sB11 _ _ hlp') (Rps.nums _)
    · rw [← ex]; exact rp_num _
    · rw [← ey]; exact rp_num _
end
end ND
end
section
set_option Elab.async false
set_option linter.all false
set_option maxRecDepth 100000
set_option maxHeartbeats 4000000
namespace ND
open PySem L2
open PyProof.Rows (envOfC)
open PH
/-! ### acts -/
theorem it_range {lo : Int} {n : Nat} {H0 : Hp} {Qd : Hp → Prop} {bd : V → Hp → (Hp → Prop) → Prop} (Pv : Nat → Hp → Prop) (h0 : Pv 0 H0) (hs : ∀ i H, i < n → Pv i H → bd (.int (lo + i)) H (Pv (i + 1))) (hd : ∀ H, Pv n H → Qd H) :
    ∃ W : Nat → Nat → Hp → Prop, (∃ m, W 0 m H0) ∧ ∀ i m H, W i m H →
      ((Itr lo n).stop i H ∧ Qd H) ∨ ((Itr lo n).go i H ∧ ∃ Nx : Hp → Prop, (∀ H', Nx H' → ∃ m', m' < m ∧ W (i + 1) m' H') ∧ ∀ x H', (Itr lo n).yld i H x H' → bd x H' Nx) := by
  refine ⟨fun i m H => m = n - i ∧ i ≤ n ∧ Pv i H, ⟨n, by simp, Nat.zero_le _, h0⟩, ?_⟩
  rintro i m H ⟨rfl, hi, p⟩
  by_cases hlt : i < n
  · refine .inr ⟨hlt, Pv (i + 1), fun H' p' => ⟨n - (i + 1), by omega, rfl, hlt, p'⟩, fun x H' y => ?_⟩
    obtain ⟨e, y⟩ := y
    subst e y
    exact hs i _ hlt p
  · have e : i = n := by omega
    subst e
    exact .inl ⟨Nat.le_refl _, hd H p⟩
theorem it_list {K : PySem.W.Frag} {a : Addr} {xs : List V} {H0 : Hp} {Qd : Hp → Prop} {bd : V → Hp → (Hp → Prop) → Prop} (Pv : Nat → Hp → Prop) (h0 : Pv 0 H0) (hl : ∀ i H, i ≤ xs.length → Pv i H → SqL K H a xs)
    (hs : ∀ (i : Nat) x H, xs[i]? = some x → Pv i H → bd x H (Pv (i + 1))) (hd : ∀ H, Pv xs.length H → Qd H) :
    ∃ W : Nat → Nat → Hp → Prop, (∃ m, W 0 m H0) ∧ ∀ i m H, W i m H →
      ((Itl K a).stop i H ∧ Qd H) ∨ ((Itl K a).go i H ∧ ∃ Nx : Hp → Prop, (∀ H', Nx H' → ∃ m', m' < m ∧ W (i + 1) m' H') ∧ ∀ x H', (Itl K a).yld i H x H' → bd x H' Nx) := by
  refine ⟨fun i m H => m = xs.length - i ∧ i ≤ xs.length ∧ Pv i H, ⟨xs.length, by simp, Nat.zero_le _, h0⟩, ?_⟩
  rintro i m H ⟨rfl, hi, p⟩
  have q := hl i H hi p
  by_cases hlt : i < xs.length
  · refine .inr ⟨⟨xs, xs[i], q, by simp [hlt]⟩, Pv (i + 1), fun H' p' => ⟨xs.length - (i + 1), by omega, rfl, hlt, p'⟩, fun x H' y => ?_⟩
    obtain ⟨e, y⟩ := y
    subst e
    exact hs i x _ (y xs q) p
  · have e : i = xs.length := by omega
    subst e
    exact .inl ⟨⟨xs, q, Nat.le_refl _⟩, hd H p⟩
theorem it_tup {K : PySem.W.Frag} {a : Addr} {xs : List V} {H0 : Hp} {Qd : Hp → Prop} {bd : V → Hp → (Hp → Prop) → Prop} (Pv : Nat → Hp → Prop) (h0 : Pv 0 H0) (hl : ∀ i H, i ≤ xs.length → Pv i H → SqT K H a xs)
    (hs : ∀ (i : Nat) x H, xs[i]? = some x → Pv i H → bd x H (Pv (i + 1))) (hd : ∀ H, Pv xs.length H → Qd H) :
    ∃ W : Nat → Nat → Hp → Prop, (∃ m, W 0 m H0) ∧ ∀ i m H, W i m H →
      ((Itt K a).stop i H ∧ Qd H) ∨ ((Itt K a).go i H ∧ ∃ Nx : Hp → Prop, (∀ H', Nx H' → ∃ m', m' < m ∧ W (i + 1) m' H') ∧ ∀ x H', (Itt K a).yld i H x H' → bd x H' Nx) := by
  refine ⟨fun i m H => m = xs.length - i ∧ i ≤ xs.length ∧ Pv i H, ⟨xs.length, by simp, Nat.zero_le _, h0⟩, ?_⟩
  rintro i m H ⟨rfl, hi, p⟩
  have q := hl i H hi p
  by_cases hlt : i < xs.length
  · refine .inr ⟨⟨xs, xs[i], q, by simp [hlt]⟩, Pv (i + 1), fun H' p' => ⟨xs.length - (i + 1), by omega, rfl, hlt, p'⟩, fun x H' y => ?_⟩
    obtain ⟨e, y⟩ := y
    subst e
    exact hs i x _ (y xs q) p
  · have e : i = xs.length := by omega
    subst e
    exact .inl ⟨⟨xs, q, Nat.le_refl _⟩, hd H p⟩
def spActs (CT CH : Addr) : Sp := fun vs H Q _ => ∃ (a : Addr) (zv : V) (t : Tk) (q0 : List (List Int)) (c n : Nat) (p : HPos), vs = [.ref a, zv] ∧ HallAt CT CH H a t q0 c n ∧ Rp H (posK p) zv ∧ HV c n p ∧
  ∀ H' l lv, Same H H' → H l = none → H' l = some (.lst lv) → Rps H' ((actsOf t p).map (actK t p)) lv → Q (.ref l) H'
theorem actsOf_take {t : Tk} {p : HPos} : actsOf t p = ((List.range p.1.length).map fun c => (picksOf t p c).map fun k => (c, k)).flatten := by
  unfold actsOf
  rw [List.flatMap_def]
section
variable {P : Program} {w : World} {K : PySem.W.Frag} {mg : Str → Option Value} {base : Heap}
theorem ok_acts {CT CH : Addr} (cf : CF K CT CH) (T : Blt mg) {f_Hall_picks : Addr} {fd_Hall_picks : FuncData} (G_Hall_picks : FnOk P w K mg base CX0 2 f_Hall_picks fd_Hall_picks P_Hall_picks (spPicks CT CH)) (m_Hall_picks : Meth K CH "picks" f_Hall_picks)
    (b_Hall_picks : Binds K fd_Hall_picks P_Hall_picks []) {f_Hall_acted : Addr} {fd_Hall_acted : FuncData} (G_Hall_acted : FnOk P w K mg base CX0 3 f_Hall_acted fd_Hall_acted P_Hall_acted (spActed CT CH)) (m_Hall_acted : Meth K CH "acted" f_Hall_acted)
    (b_Hall_acted : Binds K fd_Hall_acted P_Hall_acted []) {f : Addr} {fd : FuncData} (F : Fun K "acts" "Hall.acts" s_Hall_acts f fd) : FnOk P w K mg base CX0 4 f fd P_Hall_acts (spActs CT CH) := by
  have c_Hall_picks := cf.clH
  have c_Hall_acted := cf.clH
  refine F.ok sc_Hall_acts (fun vs H Q E h => ?_) (fun cdv A outer s H vs Q E hr h => ?_)
  · obtain ⟨a, zv, t, q0, c, n, p, rfl, _⟩ := h
    rfl
  · obtain ⟨a, zv, t, q0, c, n, p, rfl, hH, rp, hv, kk⟩ := h
    have sz : sizeLine = 16777216 := sizeLine_eq
    have hc3 := hH.c3
    obtain ⟨dx, qv0, tv, h1, h2, hT⟩ := hH.ex
    have hql : p.1.length = c := hv.ql
    have np : ¬ (("picks" : Str) = "queues") := by decide +kernel
    have np' : ¬ (("picks" : Str) = "taking") := by decide +kernel
    have na : ¬ (("acted" : Str) = "queues") := by decide +kernel
    have na' : ¬ (("acted" : Str) = "taking") := by decide +kernel
    refine ⟨_, (pss_one (ps_ret (pe_lc2 (own := [("core", 2), ("pick", 3)]) (g := gName 2) (vs1 := [3]) (g1 := gName 3) rfl sc_Hall_acts.nd (pi_range1 rfl T.range (pa_cons (pe_callB call_len_seq (by rfl) T.len (by decide +kernel) (pa_cons (pe_fld (pv 0) rfl) pa_nil)) pa_nil)) (blkOk_by (own := [("core", 2), ("pick", 3)]) (N := N_Hall_acts) (sc := defScope s_Hall_acts) (by decide +kernel)) (by decide) (fun _ _ _ _ _ => (pg_name (i := 2) sc_Hall_acts.nd rfl (Or.inl rfl))) (fun _ _ _ _ _ => pts_nil) (fun _ _ _ _ _ => (pi_listB (K := K) (pe_meth (pv 0) c_Hall_picks m_Hall_picks G_Hall_picks (hr.mono (show 2 ≤ 3 by decide)) b_Hall_picks .nil pass0 (pa_cons (pv 1) (pa_cons (pv 2) pa_nil))))) (fun _ _ _ _ _ => (pg_name (i := 3) sc_Hall_acts.nd rfl (Or.inl rfl))) (fun _ _ _ _ _ => pts_nil) (fun _ _ _ _ _ => (pe_meth (pv 0) c_Hall_acted m_Hall_acted G_Hall_acted (hr.mono (show 3 ≤ 3 by decide)) b_Hall_acted .nil pass0 (pa_cons (pv 1) (pa_cons (pv 2) (pa_cons (pv 3) pa_nil)))))))), ?_⟩
    obtain ⟨qa, qvs, rfl, hqa, rqs⟩ := h2.tupD
    have hqv : qvs.length = c := by rw [rqs.length, List.length_map]; exact hH.hv.ql
    have hn : ((qvs.length : Nat) : Int).toNat = c := by rw [Int.toNat_natCast, hqv]
    refine ⟨_, rfl, a, CH, dx, _, _, rfl, h1, cf.clH, cf.nHq, lk_a, qa, qvs, rfl, .inr (SqT.of hqa), _, rfl, by omega, by omega, fun D hD => ?_⟩
    rw [hn]
    refine it_range (lo := 0) (n := c) (fun j H' => ∃ (B : Hp) (lv : List V), Same H B ∧ Own B H' [(D, .lst lv)] ∧ Rps B (((List.range j).flatMap fun c => (picksOf t p c).map fun k => (c, k)).map (actK t p)) lv ∧ lv.length ≤ 2 * j)
      ⟨H, [], Same.refl H, (Own.start H).new (o := .lst []) hD rfl, .nil, Nat.le_refl _⟩ ?_ ?_
    · rintro j H1 hj ⟨B1, lv1, sB1, O1, R1, l1⟩
      have sH1 := sB1.trans O1.sub
      have ej : (0 : Int) + ((j : Nat) : Int) = ((j : Nat) : Int) := by omega
      refine ⟨rfl, ?_⟩
      refine yes_t ?_
      refine ⟨_, rfl, a, dx, _, rfl, sH1 _ _ h1, lk_n np np', _, rfl, _, rfl, ?_⟩
      refine ⟨a, zv, t, q0, c, n, p, j, by rw [ej]; rfl, hH.same sH1, rp.keep (Same.tups sH1), hv, hj, fun H2 l s2 hl hl' => ?_⟩
      obtain ⟨B2, sB2, O2, _, f2⟩ := O1.call s2
      have hlB : B2 l = some (.lst ((picksOf t p j).map V.int)) := f2 _ _ hl hl'
      have ef : ∀ m x, (picksOf t p j)[m]? = some x → ((((List.range j).flatMap fun c => (picksOf t p c).map fun k => (c, k)) ++ ((picksOf t p j).take (m + 1)).map fun k => (j, k)).map (actK t p)) =
          ((((List.range j).flatMap fun c => (picksOf t p c).map fun k => (c, k)) ++ ((picksOf t p j).take m).map fun k => (j, k)).map (actK t p)) ++ [actK t p (j, x)] := fun m x hx => by
        rw [take_succ_of hx]; simp
      have pl := picks_len hv hc3 t j hj
      refine ⟨l, rfl, ⟨_, SqL.of hl'⟩, ?_⟩
      refine it_list (K := K) (a := l) (xs := (picksOf t p j).map V.int) (fun m H' => ∃ (B : Hp) (lv : List V), Same B2 B ∧ Own B H' [(D, .lst lv)] ∧ Rps B ((((List.range j).flatMap fun c => (picksOf t p c).map fun k => (c, k)) ++ ((picksOf t p j).take m).map fun k => (j, k)).map (actK t p)) lv ∧ lv.length ≤ 2 * j + m)
        ⟨B2, lv1, Same.refl _, O2, by rw [List.take_zero, List.map_nil, List.append_nil]; exact R1.keep (Same.tups sB2), l1⟩ ?_ ?_ ?_
      · rintro m H' _ ⟨B, lv, sB, O, _⟩
        exact SqL.of (O.sub _ _ (sB _ _ hlB))
      · rintro m x H3 hx ⟨B3, lv, sB, O3, R3, l3⟩
        rw [List.getElem?_map] at hx
        cases hk : (picksOf t p j)[m]? with
        | none => rw [hk] at hx; cases hx
        | some k =>
          rw [hk] at hx
          cases hx
          have hml := (List.getElem?_eq_some_iff.mp hk).1
          have sH3 := (sB1.trans (sB2.trans sB)).trans O3.sub
          refine ⟨rfl, ?_⟩
          refine yes_t ?_
          refine ⟨_, rfl, a, dx, _, rfl, sH3 _ _ h1, lk_n na na', _, rfl, _, rfl, _, rfl, ?_⟩
          refine ⟨a, zv, t, q0, c, n, p, j, k, by rw [ej]; rfl, hH.same sH3, rp.keep (Same.tups sH3), hv, hj, fun H4 v s4 rv => ?_⟩
          obtain ⟨B4, sB4, O4, t4, _⟩ := O3.call s4
          refine ⟨lv, O4.get 0 rfl, by rw [sz]; omega, B4, lv ++ [v], sB.trans sB4, O4.put 0 rfl rfl, ?_, by rw [List.length_append]; exact Nat.succ_le_succ l3⟩
          rw [ef m k hk]
          exact (R3.keep (Same.tups sB4)).snoc (rv.keep t4)
      · rintro H3 ⟨B3, lv, sB, O3, R3, l3⟩
        rw [List.length_map] at l3 R3
        rw [List.take_length] at R3
        refine ⟨B3, lv, sB1.trans (sB2.trans sB), O3, ?_, by omega⟩
        have : ((List.range (j + 1)).flatMap fun c => (picksOf t p c).map fun k => (c, k)) = ((List.range j).flatMap fun c => (picksOf t p c).map fun k => (c, k)) ++ (picksOf t p j).map fun k => (j, k) := by
          rw [List.range_succ, List.flatMap_append]; simp
        rw [this]
        exact R3
    · rintro H3 ⟨B3, lv, sB3, O3, R3, _⟩
      refine kk H3 D lv (sB3.trans O3.sub) (sB3.free (O3.fresh 0 rfl)) (O3.get 0 rfl) ?_
      have : actsOf t p = (List.range c).flatMap fun c => (picksOf t p c).map fun k => (c, k) := by unfold actsOf; rw [hql]
      rw [this]
      exact R3.keep O3.tups
end
end ND
end
section
set_option Elab.async false
set_option linter.all false
set_option maxRecDepth 100000
set_option maxHeartbeats 4000000
namespace ND
open PySem L2
open PyProof.Rows (envOfC)
open PH
/-! ### play -/
/-- where one is after these acts -/
def aftP (t : Tk) (p : HPos) : List (Nat × Int) → HPos
  | [] => p
  | a :: r => aftP t (actedP t p a.1 a.2).1 r
/-- the tuples of these acts -/
def rowsP (t : Tk) (p : HPos) : List (Nat × Int) → List NestedKey
  | [] => []
  | a :: r => actK t p a :: rowsP t (actedP t p a.1 a.2).1 r
/-- these acts are possible -/
def CanP (t : Tk) (p : HPos) : List (Nat × Int) → Prop
  | [] => True
  | a :: r => a ∈ actsOf t p ∧ CanP t (actedP t p a.1 a.2).1 r
theorem aftP_app (t : Tk) : ∀ (l m : List (Nat × Int)) (p : HPos), aftP t p (l ++ m) = aftP t (aftP t p l) m
  | [], _, _ => rfl
  | a :: r, m, p => aftP_app t r m _
theorem rowsP_app (t : Tk) : ∀ (l m : List (Nat × Int)) (p : HPos), rowsP t p (l ++ m) = rowsP t p l ++ rowsP t (aftP t p l) m
  | [], _, _ => rfl
  | a :: r, m, p => by
    show actK t p a :: rowsP t _ (r ++ m) = actK t p a :: (rowsP t _ r ++ _)
    rw [rowsP_app t r m]; rfl
theorem rowsP_len (t : Tk) : ∀ (l : List (Nat × Int)) (p : HPos), (rowsP t p l).length = l.length
  | [], _ => rfl
  | a :: r, p => by
    show (rowsP t _ r).length + 1 = r.length + 1
    rw [rowsP_len t r]
theorem CanP_app (t : Tk) : ∀ (l m : List (Nat × Int)) (p : HPos), CanP t p (l ++ m) ↔ CanP t p l ∧ CanP t (aftP t p l) m
  | [], m, p => ⟨fun h => ⟨True.intro, h⟩, fun h => h.2⟩
  | a :: r, m, p => by
    have ih := CanP_app t r m (actedP t p a.1 a.2).1
    exact ⟨fun h => ⟨⟨h.1, (ih.mp h.2).1⟩, (ih.mp h.2).2⟩, fun h => ⟨h.1.1, ih.mpr ⟨h.1.2, h.2⟩⟩⟩
theorem HV.aft {c n : Nat} {t : Tk} : ∀ {l : List (Nat × Int)} {p : HPos}, HV c n p → CanP t p l → HV c n (aftP t p l)
  | [], _, h, _ => h
  | a :: r, p, h, k => HV.aft (l := r) (h.acted (by rw [← h.ql]; exact (acts_mem.mp k.1).1) (acts_mem.mp k.1).2) k.2
def spPlay (CT CH : Addr) : Sp := fun vs H Q _ => ∃ (a L : Addr) (lv : List V) (t : Tk) (q0 : List (List Int)) (c n : Nat) (ls : List (Nat × Int)), vs = [.ref a, .ref L] ∧ HallAt CT CH H a t q0 c n ∧ H L = some (.lst lv) ∧ Rps H (ls.map labK) lv ∧
  CanP t (q0, List.replicate c (-1)) ls ∧ ls.length < 16777216 ∧ ∀ H' l rv, Same H H' → H l = none → H' l = some (.lst rv) → Rps H' (rowsP t (q0, List.replicate c (-1)) ls) rv → Q (.ref l) H'
section
variable {P : Program} {w : World} {K : PySem.W.Frag} {mg : Str → Option Value} {base : Heap}
theorem ok_play {CT CH : Addr} (cf : CF K CT CH) (T : Blt mg) {f_Hall_start : Addr} {fd_Hall_start : FuncData} (G_Hall_start : FnOk P w K mg base CX0 1 f_Hall_start fd_Hall_start P_Hall_start (spStart CT CH)) (m_Hall_start : Meth K CH "start" f_Hall_start)
    (b_Hall_start : Binds K fd_Hall_start P_Hall_start []) {f_Hall_picks : Addr} {fd_Hall_picks : FuncData} (G_Hall_picks : FnOk P w K mg base CX0 2 f_Hall_picks fd_Hall_picks P_Hall_picks (spPicks CT CH)) (m_Hall_picks : Meth K CH "picks" f_Hall_picks)
    (b_Hall_picks : Binds K fd_Hall_picks P_Hall_picks []) {f_Hall_acted : Addr} {fd_Hall_acted : FuncData} (G_Hall_acted : FnOk P w K mg base CX0 3 f_Hall_acted fd_Hall_acted P_Hall_acted (spActed CT CH)) (m_Hall_acted : Meth K CH "acted" f_Hall_acted)
    (b_Hall_acted : Binds K fd_Hall_acted P_Hall_acted []) {f : Addr} {fd : FuncData} (F : Fun K "play" "Hall.play" s_Hall_play f fd) : FnOk P w K mg base CX0 4 f fd P_Hall_play (spPlay CT CH) := by
  have c_Hall_start := cf.clH
  have c_Hall_picks := cf.clH
  have c_Hall_acted := cf.clH
  refine F.ok sc_Hall_play (fun vs H Q E h => ?_) (fun cdv A outer s H vs Q E hr h => ?_)
  · obtain ⟨a, L, lv, t, q0, c, n, ls, rfl, _⟩ := h
    rfl
  · obtain ⟨a, L, lv, t, q0, c, n, ls, rfl, hH, hL, rl, can, hlen, kk⟩ := h
    have sz : sizeLine = 16777216 := sizeLine_eq
    have hc3 := hH.c3
    obtain ⟨dx, qv0, tv, h1, h2, hT⟩ := hH.ex
    have np : ¬ (("picks" : Str) = "queues") := by decide +kernel
    have np' : ¬ (("picks" : Str) = "taking") := by decide +kernel
    have na : ¬ (("acted" : Str) = "queues") := by decide +kernel
    have na' : ¬ (("acted" : Str) = "taking") := by decide +kernel
    have ns : ¬ (("start" : Str) = "queues") := by decide +kernel
    have ns' : ¬ (("start" : Str) = "taking") := by decide +kernel
    have hlv : lv.length = ls.length := by rw [rl.length, List.length_map]
    refine ⟨_, (pss_cons (ps_set (i := 2) sc_Hall_play.nd rfl (Or.inl rfl) (pe_meth0 (pv 0) c_Hall_start m_Hall_start G_Hall_start (hr.mono (show 1 ≤ 3 by decide)) b_Hall_start .nil pass0))
  (pss_cons (ps_set (i := 3) sc_Hall_play.nd rfl (Or.inl rfl) (pe_lst pa_nil))
  (pss_cons (ps_for PassesOwn.never rfl (pi_enum (by rfl) T.enumerate (pa_cons (pv 1) pa_nil)) (pg_tup rfl (pgs_cons (pg_name (i := 4) sc_Hall_play.nd rfl (Or.inl rfl)) (pgs_cons (pg_tup rfl (pgs_cons (pg_name (i := 5) sc_Hall_play.nd rfl (Or.inl rfl)) (pgs_cons (pg_name (i := 6) sc_Hall_play.nd rfl (Or.inl rfl)) pgs_nil))) pgs_nil)))
    (pss_cons (ps_if (PW.pt (pw_or (pt_not (pt_chain op_le op_lt pe_int (pv 5) (pe_callB call_len_seq (by rfl) T.len (by decide +kernel) (pa_cons (pe_fld (pv 0) rfl) pa_nil)))) (pw_or1 (pt_cmpR op_notIn_seq (pv 6) (pe_meth (pv 0) c_Hall_picks m_Hall_picks G_Hall_picks (hr.mono (show 2 ≤ 3 by decide)) b_Hall_picks .nil pass0 (pa_cons (pv 2) (pa_cons (pv 5) pa_nil))) (by rfl)))))
      (pss_one ps_never)
      pss_nil)
    (pss_cons (ps_expr (pe_bm PySem.F.plainAttrs_list PySem.F.slot_list_append PySem.F.type_list_append mt_append (pv 3) (pa_cons (pe_meth (pv 0) c_Hall_acted m_Hall_acted G_Hall_acted (hr.mono (show 3 ≤ 3 by decide)) b_Hall_acted .nil pass0 (pa_cons (pv 2) (pa_cons (pv 5) (pa_cons (pv 6) pa_nil)))) pa_nil)))
    (pss_one (ps_set (i := 2) sc_Hall_play.nd rfl (Or.inl rfl) (pe_ix ix_tup (pe_ix ix_list (pv 3) (pe_un un_neg pe_int) (fun _ _ => rfl)) pe_int (fun _ _ => rfl)))))))
  (pss_one (ps_ret (pv 3)))))), ?_⟩
    obtain ⟨qa, qvs, rfl, hqa, rqs⟩ := h2.tupD
    have hqv : qvs.length = c := by rw [rqs.length, List.length_map]; exact hH.hv.ql
    refine ⟨_, rfl, a, dx, _, rfl, h1, lk_n ns ns', ?_⟩
    refine ⟨a, t, q0, c, n, rfl, hH, fun H1 zv s1 rz => ?_⟩
    obtain ⟨p0, hp0⟩ : ∃ p0, p0 = ((q0, List.replicate c (-1)) : HPos) := ⟨_, rfl⟩
    rw [← hp0] at can kk rz
    have hv0 : HV c n p0 := by rw [hp0]; exact hH.hv
    refine ⟨by rw [sz]; show 0 ≤ 16777216; decide, fun D hD => ?_⟩
    refine ⟨_, rfl, L, lv, rfl, SqL.of (by rw [upd_ne (ne_of_none (s1 _ _ hL) hD)]; exact s1 _ _ hL), ?_⟩
    obtain ⟨B1, sB1, O1, t1, _⟩ := (Own.start H).call s1
    have O2 := O1.new (o := .lst []) hD rfl
    refine for_enum (K := K) (a := L) (xs := lv) (fun j σ H' => ∃ (pz : V) (x y z : Option V) (B : Hp) (rv : List V), σ = [some (.ref a), some (.ref L), some pz, some (.ref D), x, y, z] ∧ Same H B ∧ Own B H' [(D, .lst rv)] ∧
      Rp B (posK (aftP t p0 (ls.take j))) pz ∧ Rps B (rowsP t p0 (ls.take j)) rv)
      ⟨zv, none, none, none, B1, [], rfl, sB1, O2, rz.keep t1, .nil⟩ ?_ ?_ ?_
    · rintro j σ H' _ ⟨pz, x, y, z, B, rv, rfl, sB, O, _⟩
      exact SqL.of (O.sub _ _ (sB _ _ hL))
    · rintro j x σ H2 Tp hx ⟨pz, x1, y1, z1, B, rv, rfl, sB, O, rp, rr⟩ hTp
      have hjl : j < ls.length := by rw [← hlv]; exact (List.getElem?_eq_some_iff.mp hx).1
      obtain ⟨⟨ci, k⟩, hck⟩ : ∃ ck, ls[j]? = some ck := ⟨_, List.getElem?_eq_getElem hjl⟩
      obtain ⟨v, hv', rv'⟩ := rl.get (i := j) (k := labK (ci, k)) (by rw [List.getElem?_map, hck]; rfl)
      rw [hx] at hv'
      cases hv'
      obtain ⟨b, bs, rfl, hb, rb⟩ := rv'.tupD
      obtain ⟨v1, r1, rfl, e1, rb⟩ := rb.consD
      obtain ⟨v2, r2, rfl, e2, rb⟩ := rb.consD
      obtain rfl := rb.nilD
      have e1 := e1.numD
      have e2 := e2.numD
      subst e1 e2
      have canj := (CanP_app t (ls.take j) (ls.drop j) p0).mp (by rw [List.take_append_drop]; exact can)
      have edr : ls.drop j = (ci, k) :: ls.drop (j + 1) := by
        rw [List.drop_eq_getElem_cons hjl]
        have := List.getElem?_eq_getElem hjl
        rw [hck] at this
        injection this with this
        rw [this]
      rw [edr] at canj
      obtain ⟨can1, canh, _⟩ := canj
      have hvj := HV.aft hv0 can1
      obtain ⟨pj, hpj⟩ : ∃ pj, pj = aftP t p0 (ls.take j) := ⟨_, rfl⟩
      rw [← hpj] at rp hvj canh
      obtain ⟨hci, hk⟩ := acts_mem.mp canh
      rw [hvj.ql] at hci
      obtain ⟨B3, sB3, hT3, O3⟩ := O.fz (o := .tup [.int ((j : Nat) : Int), .ref b]) hTp
      generalize upd H2 Tp (.tup [.int ((j : Nat) : Int), .ref b]) = H3 at *
      have sH3 := (sB.trans sB3).trans O3.sub
      refine ⟨Tp, _, rfl, SqT.of (O3.sub _ _ hT3), rfl, _, _, rfl, _, _, rfl, ⟨b, _, rfl, SqT.of (sH3 _ _ hb), rfl, _, _, rfl, _, _, rfl, rfl, rfl, ?_⟩⟩
      refine ⟨_, rfl, _, _, rfl, rfl, _, rfl, ?_⟩
      have e0 : decide ((0 : Int) ≤ ((ci : Nat) : Int)) = true := decide_eq_true (by omega)
      rw [e0]
      refine iteT ?_
      refine ⟨_, rfl, a, CH, dx, _, _, rfl, sH3 _ _ h1, cf.clH, cf.nHq, lk_a, qa, qvs, rfl, .inr (SqT.of (sH3 _ _ hqa)), _, _, rfl, rfl, _, rfl, ?_⟩
      have e1 : decide (((ci : Nat) : Int) < ((qvs.length : Nat) : Int)) = true := decide_eq_true (by rw [hqv]; omega)
      dsimp only
      rw [e1]
      refine iteF ?_
      refine ⟨_, rfl, _, rfl, a, dx, _, rfl, sH3 _ _ h1, lk_n np np', _, rfl, _, rfl, ?_⟩
      refine ⟨a, pz, t, q0, c, n, pj, ci, rfl, hH.same sH3, (rp.keep (Same.tups sB3)).keep O3.tups, hvj, hci, fun H4 l s4 hl hl' => ?_⟩
      obtain ⟨B4, sB4, O4, _, _⟩ := O3.call s4
      refine ⟨l, _, rfl, .inl (SqL.of hl'), rfl, flat_ints _, _, rfl, ?_⟩
      have ein : inV (.int k) ((picksOf t pj ci).map V.int) = true := by
        unfold inV
        exact List.any_eq_true.mpr ⟨.int k, List.mem_map.mpr ⟨k, hk, rfl⟩, by simp [eqV]⟩
      rw [ein]
      refine iteF ?_
      -- found.append(self.acted(position, core, pick))
      have sH4 := (sB.trans (sB3.trans sB4)).trans O4.sub
      refine ⟨_, rfl, .inl ⟨rfl, rv, SqL.of (O4.get 0 rfl)⟩, _, rfl, a, dx, _, rfl, sH4 _ _ h1, lk_n na na', _, rfl, _, rfl, _, rfl, ?_⟩
      refine ⟨a, pz, t, q0, c, n, pj, ci, k, rfl, hH.same sH4, (rp.keep (Same.tups (sB3.trans sB4))).keep O4.tups, hvj, hci, fun H5 v s5 rv5 => ?_⟩
      obtain ⟨B5, sB5, O5, t5, _⟩ := O4.call s5
      have hrl : rv.length = j := by rw [rr.length, rowsP_len, List.length_take]; omega
      refine ⟨D, rv, v, rfl, rfl, O5.get 0 rfl, by rw [sz, hrl]; omega, ?_⟩
      have O6 := O5.put 0 (o := .lst (rv ++ [v])) rfl rfl
      generalize upd H5 D (.lst (rv ++ [v])) = H6 at *
      have rv6 := rv5.keep t5
      obtain ⟨vb, vs6, rfl, hvb, rb6⟩ := rv6.tupD
      obtain ⟨w1, r1, rfl, _, rb6⟩ := rb6.consD
      obtain ⟨w2, r2, rfl, _, rb6⟩ := rb6.consD
      obtain ⟨w3, r3, rfl, rw3, rb6⟩ := rb6.consD
      refine ⟨_, rfl, _, rfl, D, _, _, _, rfl, rfl, SqL.of (O6.get 0 rfl), atI_last rv (.ref vb), vb, _, _, _, rfl, rfl, SqT.of (O6.sub _ _ hvb), at_of (j := 2) rfl rfl, ?_⟩
      have etk : ls.take (j + 1) = ls.take j ++ [(ci, k)] := take_succ_of hck
      refine ⟨w3, _, _, _, B5, rv ++ [V.ref vb], rfl, sB.trans (sB3.trans (sB4.trans sB5)), O6, ?_, ?_⟩
      · rw [etk, aftP_app, ← hpj]; exact rw3
      · rw [etk, rowsP_app, ← hpj]
        exact (rr.keep (Same.tups (sB3.trans (sB4.trans sB5)))).snoc rv6
    · rintro σ H2 ⟨pz, x, y, z, B, rv, rfl, sB, O, _, rr⟩
      rw [hlv, List.take_length] at rr
      exact ⟨_, rfl, kk _ D rv (sB.trans O.sub) (sB.free (O.fresh 0 rfl)) (O.get 0 rfl) (rr.keep O.tups)⟩
end
end ND
end
section
set_option Elab.async false
set_option linter.all false
set_option maxRecDepth 100000
set_option maxHeartbeats 4000000
namespace ND
open PySem L2
open PyProof.Rows (envOfC)
open PH
/-! ### settling.py: the graphs -/
structure CG (K : PySem.W.Frag) (CW CP CS : Addr) : Prop where
  clW : Cls K CW
  nWh : NoAttr K CW "hall"
  clP : Cls K CP
  nPh : NoAttr K CP "hall"
  nPt : NoAttr K CP "task"
  clS : Cls K CS
  nSn : NoAttr K CS "numbers"
  nSl : NoAttr K CS "lead"
  nSo : NoAttr K CS "loop"
/-- what an __init__ leaves -/
def spIni (C : Addr) (n : Nat) (fs : List V → List (Str × V)) : Sp := fun vs H Q _ => ∃ (a dx : Addr) (xs : List V), vs = .ref a :: xs ∧ xs.length = n ∧ H a = some (.ins C dx []) ∧ ∀ H', (∀ b, b ≠ a → H' b = H b) → H' a = some (.ins C dx (fs xs)) → Q .non H'
abbrev fsW : List V → List (Str × V) := fun xs => [(("hall" : Str), xs.getD 0 .non)]
abbrev fsP : List V → List (Str × V) := fun xs => [(("hall" : Str), xs.getD 0 .non), (("task" : Str), xs.getD 1 .non)]
abbrev fsS : List V → List (Str × V) := fun xs => [(("numbers" : Str), xs.getD 0 .non), (("lead" : Str), xs.getD 1 .non), (("loop" : Str), xs.getD 2 .non)]
def GGW (CT CH CW : Addr) : GrT := fun W s0 H a => ∃ dx hv t q0 c n, H a = some (.ins CW dx [(("hall" : Str), .ref hv)]) ∧ HallAt CT CH H hv t q0 c n ∧ W = waysW t ∧ s0 = posK (q0, List.replicate c (-1))
def GGP (CT CH CP : Addr) : GrT := fun W s0 H a => ∃ dx hv t q0 c n task, H a = some (.ins CP dx [(("hall" : Str), .ref hv), (("task" : Str), .int task)]) ∧ HallAt CT CH H hv t q0 c n ∧ W = waysP t task ∧ s0 = nodeP (q0, List.replicate c (-1)) 0
theorem nl_fh : ¬ (("first_nodes" : Str) = "hall") := by decide +kernel
theorem nl_wh : ¬ (("ways_on" : Str) = "hall") := by decide +kernel
theorem nl_ft : ¬ (("first_nodes" : Str) = "task") := by decide +kernel
theorem nl_wt : ¬ (("ways_on" : Str) = "task") := by decide +kernel
theorem nl_th : ¬ (("task" : Str) = "hall") := by decide +kernel
theorem lk_1 {a : Str} {v : V} : ([(a, v)] : List (Str × V)).lookup a = some v := by simp [List.lookup]
theorem lk_0 {a m : Str} {v : V} (h : ¬ m = a) : ([(a, v)] : List (Str × V)).lookup m = none := by
  have e1 : (m == a) = false := by simpa using h
  simp [List.lookup, e1]
theorem wipe_in {σ : L2.St} {j : Nat} : ∀ {vs : List Nat}, j ∈ vs → (wipe σ vs)[j]? = if j < σ.length then some none else none
  | v :: vs, h => by
    show ((wipe σ vs).set v none)[j]? = _
    by_cases e : v = j
    · subst e
      rw [List.getElem?_set, wipe_length]
      simp
    · rw [List.getElem?_set_ne e]
      rcases List.mem_cons.mp h with q | q
      · exact absurd q.symm e
      · exact wipe_in q
theorem wipe_set {σ : L2.St} {i : Nat} {x : Option V} {vs : List Nat} (h : i ∈ vs) : wipe (σ.set i x) vs = wipe σ vs := by
  refine List.ext_getElem? fun j => ?_
  by_cases q : j ∈ vs
  · rw [wipe_in q, wipe_in q, List.length_set]
  · rw [wipe_out q, wipe_out q, List.getElem?_set_ne (by rintro rfl; exact q h)]
theorem wipe_wipe {σ : L2.St} {vs : List Nat} : wipe (wipe σ vs) vs = wipe σ vs := by
  refine List.ext_getElem? fun j => ?_
  by_cases q : j ∈ vs
  · rw [wipe_in q, wipe_in q, wipe_length]
  · rw [wipe_out q]
theorem putF0 {f : Str} {v : V} : putF f v [] = [(f, v)] := rfl
theorem putF1 {f g : Str} {v x : V} (h : ¬ g = f) : putF f v [(g, x)] = [(g, x), (f, v)] := by
  show (if g = f then _ else _) = _
  rw [if_neg h]; rfl
theorem putF2 {f g m : Str} {v x y : V} (h : ¬ g = f) (h2 : ¬ m = f) : putF f v [(g, x), (m, y)] = [(g, x), (m, y), (f, v)] := by
  show (if g = f then _ else _) = _
  rw [if_neg h, putF1 h2]
theorem nl_nl : ¬ (("numbers" : Str) = "lead") := by decide +kernel
theorem nl_no : ¬ (("numbers" : Str) = "loop") := by decide +kernel
theorem nl_lo : ¬ (("lead" : Str) = "loop") := by decide +kernel
theorem nl_ht : ¬ (("hall" : Str) = "task") := by decide +kernel
theorem gobjW {CT CH CW : Addr} : GObj CW (GGW CT CH CW) where
  ins := by
    rintro W s0 H a ⟨dx, hv, t, q0, c, n, h, _⟩
    exact ⟨dx, _, h, lk_0 nl_fh, lk_0 nl_wh⟩
  same := by
    rintro W s0 H H' a s ⟨dx, hv, t, q0, c, n, h, hH, e1, e2⟩
    exact ⟨dx, hv, t, q0, c, n, s _ _ h, hH.same s, e1, e2⟩
theorem gobjP {CT CH CP : Addr} : GObj CP (GGP CT CH CP) where
  ins := by
    rintro W s0 H a ⟨dx, hv, t, q0, c, n, task, h, _⟩
    exact ⟨dx, _, h, lk_n nl_fh nl_ft, lk_n nl_wh nl_wt⟩
  same := by
    rintro W s0 H H' a s ⟨dx, hv, t, q0, c, n, task, h, hH, e1, e2⟩
    exact ⟨dx, hv, t, q0, c, n, task, s _ _ h, hH.same s, e1, e2⟩
theorem gspecW {c n : Nat} {t : Tk} {p0 : HPos} (h0 : HV c n p0) (hc : c ≤ 3) (hn : n ≤ 5) : GSpec (waysW t) (posK p0) 276480 where
  bd := fun nodes nd h => bdW h0 hc hn nd h
  small := by decide
  key := fun k r => by
    obtain ⟨p, rfl, _⟩ := rchW h0 r
    exact ⟨Nat.le_trans (depth_posK p) (by decide), _, rfl⟩
  deg := fun k r => by
    obtain ⟨p, rfl, hp⟩ := rchW h0 r
    exact degW hp hc
  nn := fun k _ x hx => nnW k hx
theorem gspecP {c n : Nat} {t : Tk} {task : Int} {p0 : HPos} (h0 : HV c n p0) (hc : c ≤ 3) (hn : n ≤ 5) : GSpec (waysP t task) (nodeP p0 0) 552960 where
  bd := fun nodes nd h => bdP h0 hc hn nd h
  small := by decide
  key := fun k r => by
    obtain ⟨p, ph, rfl, _⟩ := rchP h0 r
    exact ⟨Nat.le_trans (depth_nodeP p ph) (by decide), _, rfl⟩
  deg := fun k r => by
    obtain ⟨p, ph, rfl, hp, _⟩ := rchP h0 r
    exact degP hp hc
  nn := fun k _ x hx => nnP k hx
section
variable {P : Program} {w : World} {K : PySem.W.Frag} {mg : Str → Option Value} {base : Heap}
theorem ok_iniS {CW CP CS : Addr} (cg : CG K CW CP CS) (T : Blt mg) {f : Addr} {fd : FuncData} (F : Fun K "__init__" "Settled.__init__" s_Settled_init f fd) : FnOk P w K mg base CX0 1 f fd P_Settled_init (spIni CS 3 fsS) := by
  refine F.ok sc_Settled_init (fun vs H Q E h => ?_) (fun cdv A outer s H vs Q E hr h => ?_)
  · obtain ⟨a, dx, xs, rfl, hl, _⟩ := h
    show xs.length + 1 = 4
    omega
  · obtain ⟨a, dx, xs, rfl, hl, ha, k⟩ := h
    obtain ⟨x, y, z, rfl⟩ : ∃ x y z, xs = [x, y, z] := by
      match xs, hl with
      | [x, y, z], _ => exact ⟨x, y, z, rfl⟩
    refine ⟨_, (pss_cons (ps_fld (pv 0) (pv 1) rfl)
  (pss_cons (ps_fld (pv 0) (pv 2) rfl)
  (pss_one (ps_fld (pv 0) (pv 3) rfl)))), ?_⟩
    refine ⟨_, rfl, _, rfl, a, CS, dx, [], rfl, ha, cg.clS, cg.nSn, by show 0 < 1000; omega, ?_⟩
    rw [putF0]
    refine ⟨_, rfl, _, rfl, a, CS, dx, _, rfl, upd_same, cg.clS, cg.nSl, by show 1 < 1000; omega, ?_⟩
    rw [putF1 nl_nl]
    refine ⟨_, rfl, _, rfl, a, CS, dx, _, rfl, upd_same, cg.clS, cg.nSo, by show 2 < 1000; omega, ?_⟩
    rw [putF2 nl_no nl_lo]
    exact k _ (fun b hb => by rw [upd_ne hb, upd_ne hb, upd_ne hb]) upd_same
theorem ok_iniW {CW CP CS : Addr} (cg : CG K CW CP CS) (T : Blt mg) {f : Addr} {fd : FuncData} (F : Fun K "__init__" "WastedActs.__init__" s_WastedActs_init f fd) : FnOk P w K mg base CX0 1 f fd P_WastedActs_init (spIni CW 1 fsW) := by
  refine F.ok sc_WastedActs_init (fun vs H Q E h => ?_) (fun cdv A outer s H vs Q E hr h => ?_)
  · obtain ⟨a, dx, xs, rfl, hl, _⟩ := h
    show xs.length + 1 = 2
    omega
  · obtain ⟨a, dx, xs, rfl, hl, ha, k⟩ := h
    obtain ⟨x, rfl⟩ : ∃ x, xs = [x] := by
      match xs, hl with
      | [x], _ => exact ⟨x, rfl⟩
    refine ⟨_, (pss_one (ps_fld (pv 0) (pv 1) rfl)), ?_⟩
    refine ⟨_, rfl, _, rfl, a, CW, dx, [], rfl, ha, cg.clW, cg.nWh, by show 0 < 1000; omega, ?_⟩
    rw [putF0]
    exact k _ (fun b hb => by rw [upd_ne hb]) upd_same
theorem ok_iniP {CW CP CS : Addr} (cg : CG K CW CP CS) (T : Blt mg) {f : Addr} {fd : FuncData} (F : Fun K "__init__" "PassingActs.__init__" s_PassingActs_init f fd) : FnOk P w K mg base CX0 1 f fd P_PassingActs_init (spIni CP 2 fsP) := by
  refine F.ok sc_PassingActs_init (fun vs H Q E h => ?_) (fun cdv A outer s H vs Q E hr h => ?_)
  · obtain ⟨a, dx, xs, rfl, hl, _⟩ := h
    show xs.length + 1 = 3
    omega
  · obtain ⟨a, dx, xs, rfl, hl, ha, k⟩ := h
    obtain ⟨x, y, rfl⟩ : ∃ x y, xs = [x, y] := by
      match xs, hl with
      | [x, y], _ => exact ⟨x, y, rfl⟩
    refine ⟨_, (pss_cons (ps_fld (pv 0) (pv 1) rfl)
  (pss_one (ps_fld (pv 0) (pv 2) rfl))), ?_⟩
    refine ⟨_, rfl, _, rfl, a, CP, dx, [], rfl, ha, cg.clP, cg.nPh, by show 0 < 1000; omega, ?_⟩
    rw [putF0]
    refine ⟨_, rfl, _, rfl, a, CP, dx, _, rfl, upd_same, cg.clP, cg.nPt, by show 1 < 1000; omega, ?_⟩
    rw [putF1 nl_ht]
    exact k _ (fun b hb => by rw [upd_ne hb, upd_ne hb]) upd_same
theorem ok_firstW {CT CH CW CP CS : Addr} (cf : CF K CT CH) (cg : CG K CW CP CS) (T : Blt mg) {f_Hall_start : Addr} {fd_Hall_start : FuncData} (G_Hall_start : FnOk P w K mg base CX0 1 f_Hall_start fd_Hall_start P_Hall_start (spStart CT CH)) (m_Hall_start : Meth K CH "start" f_Hall_start)
    (b_Hall_start : Binds K fd_Hall_start P_Hall_start []) {f : Addr} {fd : FuncData} (F : Fun K "first_nodes" "WastedActs.first_nodes" s_WastedActs_first_nodes f fd) : FnOk P w K mg base CX0 2 f fd P_WastedActs_first_nodes (spFirst (GGW CT CH CW)) := by
  have c_Hall_start := cf.clH
  refine F.ok sc_WastedActs_first_nodes (fun vs H Q E h => ?_) (fun cdv A outer s H vs Q E hr h => ?_)
  · obtain ⟨a, W, s0, rfl, _⟩ := h
    rfl
  · obtain ⟨a, W, s0, rfl, ⟨dx, hv, t, q0, c, n, ha, hH, rfl, rfl⟩, k⟩ := h
    have sz : sizeLine = 16777216 := sizeLine_eq
    obtain ⟨dxh, qv0, tv, h1, _, _⟩ := hH.ex
    have ns : ¬ (("start" : Str) = "queues") := by decide +kernel
    have ns' : ¬ (("start" : Str) = "taking") := by decide +kernel
    refine ⟨_, (pss_one (ps_ret (pe_lst (pa_cons (pe_meth0 (pe_fld (pv 0) rfl) c_Hall_start m_Hall_start G_Hall_start (hr.mono (show 1 ≤ 1 by decide)) b_Hall_start .nil pass0) pa_nil)))), ?_⟩
    refine ⟨_, rfl, a, CW, dx, _, _, rfl, ha, cg.clW, cg.nWh, lk_1, hv, dxh, _, rfl, h1, lk_n ns ns', ?_⟩
    refine ⟨hv, t, q0, c, n, rfl, hH, fun H1 zv s1 rz => ?_⟩
    refine ⟨by rw [sz]; show 1 ≤ 16777216; decide, fun D hD => ?_⟩
    have s2 : Same H1 (upd H1 D (.lst [zv])) := fun b u e => by rw [upd_ne (ne_of_none e hD)]; exact e
    exact k _ D zv (s1.trans s2) (free_of s1 hD) upd_same (rz.keep (Same.tups s2))
theorem ok_firstP {CT CH CW CP CS : Addr} (cf : CF K CT CH) (cg : CG K CW CP CS) (T : Blt mg) {f_Hall_start : Addr} {fd_Hall_start : FuncData} (G_Hall_start : FnOk P w K mg base CX0 1 f_Hall_start fd_Hall_start P_Hall_start (spStart CT CH)) (m_Hall_start : Meth K CH "start" f_Hall_start)
    (b_Hall_start : Binds K fd_Hall_start P_Hall_start []) {f : Addr} {fd : FuncData} (F : Fun K "first_nodes" "PassingActs.first_nodes" s_PassingActs_first_nodes f fd) : FnOk P w K mg base CX0 2 f fd P_PassingActs_first_nodes (spFirst (GGP CT CH CP)) := by
  have c_Hall_start := cf.clH
  refine F.ok sc_PassingActs_first_nodes (fun vs H Q E h => ?_) (fun cdv A outer s H vs Q E hr h => ?_)
  · obtain ⟨a, W, s0, rfl, _⟩ := h
    rfl
  · obtain ⟨a, W, s0, rfl, ⟨dx, hv, t, q0, c, n, task, ha, hH, rfl, rfl⟩, k⟩ := h
    have sz : sizeLine = 16777216 := sizeLine_eq
    obtain ⟨dxh, qv0, tv, h1, _, _⟩ := hH.ex
    have ns : ¬ (("start" : Str) = "queues") := by decide +kernel
    have ns' : ¬ (("start" : Str) = "taking") := by decide +kernel
    refine ⟨_, (pss_one (ps_ret (pe_lst (pa_cons (pe_tup (pa_cons (pe_meth0 (pe_fld (pv 0) rfl) c_Hall_start m_Hall_start G_Hall_start (hr.mono (show 1 ≤ 1 by decide)) b_Hall_start .nil pass0) (pa_cons pe_int pa_nil))) pa_nil)))), ?_⟩
    refine ⟨_, rfl, a, CP, dx, _, _, rfl, ha, cg.clP, cg.nPh, lk_a, hv, dxh, _, rfl, h1, lk_n ns ns', ?_⟩
    refine ⟨hv, t, q0, c, n, rfl, hH, fun H1 zv s1 rz => ?_⟩
    refine ⟨by rw [sz]; show 2 ≤ 16777216; decide, fun pp hpp => ?_⟩
    have s2 : Same H1 (upd H1 pp (.tup [zv, .int 0])) := fun b u e => by rw [upd_ne (ne_of_none e hpp)]; exact e
    have hp' : upd H1 pp (.tup [zv, .int 0]) pp = some (.tup [zv, .int 0]) := upd_same
    generalize upd H1 pp (.tup [zv, .int 0]) = H2 at *
    refine ⟨by rw [sz]; show 1 ≤ 16777216; decide, fun D hD => ?_⟩
    have s3 : Same H2 (upd H2 D (.lst [.ref pp])) := fun b u e => by rw [upd_ne (ne_of_none e hD)]; exact e
    exact k _ D _ (s1.trans (s2.trans s3)) (free_of (s1.trans s2) hD) upd_same (rp_tup (s3 _ _ hp') (.cons (rz.keep (Same.tups (s2.trans s3))) (.cons (rp_num _) .nil)))
theorem ok_waysW {CT CH CW CP CS : Addr} (cf : CF K CT CH) (cg : CG K CW CP CS) (T : Blt mg) {f_Hall_acts : Addr} {fd_Hall_acts : FuncData} (G_Hall_acts : FnOk P w K mg base CX0 4 f_Hall_acts fd_Hall_acts P_Hall_acts (spActs CT CH)) (m_Hall_acts : Meth K CH "acts" f_Hall_acts)
    (b_Hall_acts : Binds K fd_Hall_acts P_Hall_acts []) {f : Addr} {fd : FuncData} (F : Fun K "ways_on" "WastedActs.ways_on" s_WastedActs_ways_on f fd) : FnOk P w K mg base CX0 5 f fd P_WastedActs_ways_on (spWays (GGW CT CH CW)) := by
  have c_Hall_acts := cf.clH
  refine F.ok sc_WastedActs_ways_on (fun vs H Q E h => ?_) (fun cdv A outer s H vs Q E hr h => ?_)
  · obtain ⟨a, W, s0, n, v, rfl, _⟩ := h
    rfl
  · obtain ⟨a, W, s0, nk, zv, rfl, ⟨dx, hvA, t, q0, c, n, ha, hH, rfl, rfl⟩, rn, rch, k⟩ := h
    have sz : sizeLine = 16777216 := sizeLine_eq
    have hc3 := hH.c3
    obtain ⟨p, rfl, hv⟩ := rchW hH.hv rch
    obtain ⟨dxh, qv0, tv, h1, _, _⟩ := hH.ex
    have ns : ¬ (("acts" : Str) = "queues") := by decide +kernel
    have ns' : ¬ (("acts" : Str) = "taking") := by decide +kernel
    refine ⟨_, (pss_one (ps_ret (pe_lc (own := [("core", 2), ("pick", 3), ("then", 4), ("ran", 5), ("wasted", 6)]) (g := gTup K 5 (gCons (gName 2) (gCons (gName 3) (gCons (gName 4) (gCons (gName 5) (gCons (gName 6) gNil)))))) rfl sc_WastedActs_ways_on.nd (pi_list (pe_meth (pe_fld (pv 0) rfl) c_Hall_acts m_Hall_acts G_Hall_acts (hr.mono (show 4 ≤ 4 by decide)) b_Hall_acts .nil pass0 (pa_cons (pv 1) pa_nil))) (blkOk_by (own := [("core", 2), ("pick", 3), ("then", 4), ("ran", 5), ("wasted", 6)]) (N := N_WastedActs_ways_on) (sc := defScope s_WastedActs_ways_on) (by decide +kernel)) (fun _ _ _ _ _ => (pg_tup rfl (pgs_cons (pg_name (i := 2) sc_WastedActs_ways_on.nd rfl (Or.inl rfl)) (pgs_cons (pg_name (i := 3) sc_WastedActs_ways_on.nd rfl (Or.inl rfl)) (pgs_cons (pg_name (i := 4) sc_WastedActs_ways_on.nd rfl (Or.inl rfl)) (pgs_cons (pg_name (i := 5) sc_WastedActs_ways_on.nd rfl (Or.inl rfl)) (pgs_cons (pg_name (i := 6) sc_WastedActs_ways_on.nd rfl (Or.inl rfl)) pgs_nil))))))) (fun _ _ _ _ _ => pts_nil) (fun _ _ _ _ _ => (pe_tup (pa_cons (pe_tup (pa_cons (pv 2) (pa_cons (pv 3) pa_nil))) (pa_cons (pv 4) (pa_cons (pv 6) pa_nil)))))))), ?_⟩
    refine ⟨_, rfl, a, CW, dx, _, _, rfl, ha, cg.clW, cg.nWh, lk_1, hvA, dxh, _, rfl, h1, lk_n ns ns', _, rfl, ?_⟩
    refine ⟨hvA, zv, t, q0, c, n, p, rfl, hH, rn, hv, fun H1 l lv s1 hl hl' rl => ?_⟩
    have hwl : lv.length = (actsOf t p).length := by rw [rl.length, List.length_map]
    have h6 := acts_len hv hc3 t
    refine ⟨l, rfl, ⟨_, SqL.of hl'⟩, fun D hD => ?_⟩
    refine it_list (K := K) (a := l) (xs := lv) (fun j H' => ∃ (B : Hp) (wv : List V), Same H1 B ∧ Own B H' [(D, .lst wv)] ∧ Rps B ((((actsOf t p).take j).map fun a => (labK a, posK (actedP t p a.1 a.2).1, (actedP t p a.1 a.2).2.2)).map stepK) wv)
      ⟨H1, [], Same.refl _, (Own.start H1).new (o := .lst []) hD rfl, by rw [List.take_zero]; exact .nil⟩ ?_ ?_ ?_
    · rintro j H' _ ⟨B, wv, sB, O, _⟩
      exact SqL.of (O.sub _ _ (sB _ _ hl'))
    · rintro j x H2 hx ⟨B, wv, sB, O, R⟩
      have hjl : j < (actsOf t p).length := by rw [← hwl]; exact (List.getElem?_eq_some_iff.mp hx).1
      obtain ⟨⟨ci, pk⟩, hck⟩ : ∃ ck, (actsOf t p)[j]? = some ck := ⟨_, List.getElem?_eq_getElem hjl⟩
      obtain ⟨v, hv', rv'⟩ := rl.get (i := j) (k := actK t p (ci, pk)) (by rw [List.getElem?_map, hck]; rfl)
      rw [hx] at hv'
      cases hv'
      have rvB := rv'.keep (Same.tups sB)
      obtain ⟨b, bs, rfl, hb, rb⟩ := rvB.tupD
      obtain ⟨v1, r1, rfl, e1, rb⟩ := rb.consD
      obtain ⟨v2, r2, rfl, e2, rb⟩ := rb.consD
      obtain ⟨v3, r3, rfl, e3, rb⟩ := rb.consD
      obtain ⟨v4, r4, rfl, e4, rb⟩ := rb.consD
      obtain ⟨v5, r5, rfl, e5, rb⟩ := rb.consD
      obtain rfl := rb.nilD
      refine ⟨b, [v1, v2, v3, v4, v5], rfl, SqT.of (O.sub _ _ hb), rfl, v1, [v2, v3, v4, v5], rfl, v2, [v3, v4, v5], rfl, v3, [v4, v5], rfl, v4, [v5], rfl, v5, [], rfl, rfl, ?_, ?_⟩
      · rw [wipe_set (by decide), wipe_set (by decide), wipe_set (by decide), wipe_set (by decide), wipe_set (by decide), wipe_wipe]
      refine yes_t ?_
      refine ⟨_, rfl, _, rfl, by rw [sz]; show 2 ≤ 16777216; decide, fun p1 hp1 => ?_⟩
      obtain ⟨B1, sB1, hp1', O1⟩ := O.fz (o := .tup [v1, v2]) hp1
      generalize upd H2 p1 (.tup [v1, v2]) = H3 at *
      refine ⟨_, rfl, _, rfl, by rw [sz]; show 3 ≤ 16777216; decide, fun p2 hp2 => ?_⟩
      obtain ⟨B2, sB2, hp2', O2⟩ := O1.fz (o := .tup [.ref p1, v3, v5]) hp2
      generalize upd H3 p2 (.tup [.ref p1, v3, v5]) = H4 at *
      have s12 := sB1.trans sB2
      refine ⟨wv, O2.get 0 rfl, ?_, B2, wv ++ [.ref p2], sB.trans s12, O2.put 0 rfl rfl, ?_⟩
      · rw [sz, R.length, List.length_map, List.length_map, List.length_take]; omega
      rw [take_succ_of hck, List.map_append, List.map_append]
      refine (R.keep (Same.tups s12)).snoc ?_
      have t12 := Same.tups s12
      exact rp_tup hp2' (.cons (rp_tup (sB2 _ _ hp1') (.cons (e1.keep t12) (.cons (e2.keep t12) .nil))) (.cons (e3.keep t12) (.cons (e5.keep t12) .nil)))
    · rintro H2 ⟨B, wv, sB, O, R⟩
      rw [hwl, List.take_length] at R
      refine k H2 D wv ((s1.trans sB).trans O.sub) (free_of (s1.trans sB) (O.fresh 0 rfl)) (O.get 0 rfl) ?_
      unfold waysW
      rw [unPos_posK]
      exact R.keep O.tups
end
end ND
end
section
set_option Elab.async false
set_option linter.all false
set_option maxRecDepth 100000
set_option maxHeartbeats 4000000
namespace ND
open PySem L2
open PyProof.Rows (envOfC)
open PH
/-! ### PassingActs.ways_on -/
def conP (t : Tk) (task : Int) (p : HPos) (ph : Int) (a : Nat × Int) : List (NestedKey × NestedKey × Int) :=
  if ph = 0 then [(labK a, nodeP (actedP t p a.1 a.2).1 0, 0)]
  else if (actedP t p a.1 a.2).2.1 ≠ task then [(labK a, nodeP (actedP t p a.1 a.2).1 1, passW task (actedP t p a.1 a.2).1 a.1)] else []
theorem waysP_eq (t : Tk) (task : Int) (p : HPos) (ph : Int) : waysP t task (nodeP p ph) = (actsOf t p).flatMap (conP t task p ph) ++ if ph = 0 then [(.none, nodeP p 1, 0)] else [] := by
  unfold waysP
  rw [unP_nodeP]
  dsimp only
  by_cases e : ph = 0
  · rw [if_pos e, if_pos e]
    congr 1
    induction actsOf t p with
    | nil => rfl
    | cons a r ih =>
      rw [List.map_cons, List.flatMap_cons, ih]
      unfold conP
      rw [if_pos e]; rfl
  · rw [if_neg e, if_neg e, List.append_nil]
    induction actsOf t p with
    | nil => rfl
    | cons a r ih =>
      rw [List.flatMap_cons, ← ih, List.filter_cons]
      unfold conP
      rw [if_neg e]
      by_cases q : (actedP t p a.1 a.2).2.1 ≠ task
      · rw [if_pos q, if_pos (decide_eq_true q)]; rfl
      · rw [if_neg q, if_neg (by simpa using q)]; rfl
theorem conP_len (t : Tk) (task : Int) (p : HPos) (ph : Int) (l : List (Nat × Int)) : (l.flatMap (conP t task p ph)).length ≤ l.length := by
  have := length_flatMap_le (f := conP t task p ph) (m := 1) (l := l) fun a _ => by
    unfold conP
    split
    · simp
    · split <;> simp
  omega
theorem if_val {Q : VK} {H : Hp} {σ : L2.St} {c : Bool} {x y z : V} (h : (if c = true then x else y) = z) (hq : Q z H) : if c = true then tC x σ H Q else tC y σ H Q := by
  cases c with
  | true =>
    rw [if_pos rfl] at h ⊢
    show Q x H
    rw [h]; exact hq
  | false =>
    rw [if_neg Bool.false_ne_true] at h ⊢
    show Q y H
    rw [h]; exact hq
theorem inV_ints (x : Int) (l : List Int) : inV (.int x) (l.map V.int) = decide (x ∈ l) := by
  unfold inV
  rw [List.any_map]
  rw [Bool.eq_iff_iff, List.any_eq_true]
  simp only [decide_eq_true_eq]
  constructor
  · rintro ⟨y, hy, e⟩
    have e : (y == x) = true := e
    have : y = x := by simpa using e
    exact this ▸ hy
  · intro h
    exact ⟨x, h, by show (x == x) = true; simp⟩
section
variable {P : Program} {w : World} {K : PySem.W.Frag} {mg : Str → Option Value} {base : Heap}
theorem ok_waysP {CT CH CW CP CS : Addr} (cf : CF K CT CH) (cg : CG K CW CP CS) (T : Blt mg) {f_Hall_acts : Addr} {fd_Hall_acts : FuncData} (G_Hall_acts : FnOk P w K mg base CX0 4 f_Hall_acts fd_Hall_acts P_Hall_acts (spActs CT CH)) (m_Hall_acts : Meth K CH "acts" f_Hall_acts)
    (b_Hall_acts : Binds K fd_Hall_acts P_Hall_acts []) {f : Addr} {fd : FuncData} (F : Fun K "ways_on" "PassingActs.ways_on" s_PassingActs_ways_on f fd) : FnOk P w K mg base CX0 5 f fd P_PassingActs_ways_on (spWays (GGP CT CH CP)) := by
  have c_Hall_acts := cf.clH
  refine F.ok sc_PassingActs_ways_on (fun vs H Q E h => ?_) (fun cdv A outer s H vs Q E hr h => ?_)
  · obtain ⟨a, W, s0, n, v, rfl, _⟩ := h
    rfl
  · obtain ⟨a, W, s0, nk, zv, rfl, ⟨dx, hvA, t, q0, c, n, task, ha, hH, rfl, rfl⟩, rn, rch, k⟩ := h
    have sz : sizeLine = 16777216 := sizeLine_eq
    have hc3 := hH.c3
    obtain ⟨p, ph, rfl, hv, hph⟩ := rchP hH.hv rch
    obtain ⟨dxh, qv0, tv, h1, _, _⟩ := hH.ex
    have ns : ¬ (("acts" : Str) = "queues") := by decide +kernel
    have ns' : ¬ (("acts" : Str) = "taking") := by decide +kernel
    rw [waysP_eq] at k
    refine ⟨_, (pss_cons (ps_asg (pv 1) (pg_tup rfl (pgs_cons (pg_name (i := 2) sc_PassingActs_ways_on.nd rfl (Or.inl rfl)) (pgs_cons (pg_name (i := 3) sc_PassingActs_ways_on.nd rfl (Or.inl rfl)) pgs_nil))))
  (pss_cons (ps_set (i := 4) sc_PassingActs_ways_on.nd rfl (Or.inl rfl) (pe_lst pa_nil))
  (pss_cons (ps_for PassesOwn.never rfl (pi_list (pe_meth (pe_fld (pv 0) rfl) c_Hall_acts m_Hall_acts G_Hall_acts (hr.mono (show 4 ≤ 4 by decide)) b_Hall_acts .nil pass0 (pa_cons (pv 2) pa_nil))) (pg_tup rfl (pgs_cons (pg_name (i := 5) sc_PassingActs_ways_on.nd rfl (Or.inl rfl)) (pgs_cons (pg_name (i := 6) sc_PassingActs_ways_on.nd rfl (Or.inl rfl)) (pgs_cons (pg_name (i := 7) sc_PassingActs_ways_on.nd rfl (Or.inl rfl)) (pgs_cons (pg_name (i := 8) sc_PassingActs_ways_on.nd rfl (Or.inl rfl)) (pgs_cons (pg_name (i := 9) sc_PassingActs_ways_on.nd rfl (Or.inl rfl)) pgs_nil))))))
    (pss_one (ps_if (pt_cmpR op_eq (pv 3) pe_int (nomark _))
      (pss_one (ps_expr (pe_bm PySem.F.plainAttrs_list PySem.F.slot_list_append PySem.F.type_list_append mt_append (pv 4) (pa_cons (pe_tup (pa_cons (pe_tup (pa_cons (pv 5) (pa_cons (pv 6) pa_nil))) (pa_cons (pe_tup (pa_cons (pv 7) (pa_cons pe_int pa_nil))) (pa_cons pe_int pa_nil)))) pa_nil))))
      (pss_one (ps_if (pt_cmpR op_ne (pv 8) (pe_fld (pv 0) rfl) (nomark _))
        (pss_one (ps_expr (pe_bm PySem.F.plainAttrs_list PySem.F.slot_list_append PySem.F.type_list_append mt_append (pv 4) (pa_cons (pe_tup (pa_cons (pe_tup (pa_cons (pv 5) (pa_cons (pv 6) pa_nil))) (pa_cons (pe_tup (pa_cons (pv 7) (pa_cons pe_int pa_nil))) (pa_cons (pe_ifExp (pt_cmpR op_in_seq (pe_fld (pv 0) rfl) (pe_ix ix_tup (pe_ix ix_tup (pv 7) pe_int (fun _ _ => rfl)) (pv 5) (fun _ _ => rfl)) (by rfl)) pe_int pe_int) pa_nil)))) pa_nil))))
        pss_nil)))))
  (pss_cons (ps_if (pt_cmpR op_eq (pv 3) pe_int (nomark _))
    (pss_one (ps_expr (pe_bm PySem.F.plainAttrs_list PySem.F.slot_list_append PySem.F.type_list_append mt_append (pv 4) (pa_cons (pe_tup (pa_cons pe_non (pa_cons (pe_tup (pa_cons (pv 2) (pa_cons pe_int pa_nil))) (pa_cons pe_int pa_nil)))) pa_nil))))
    pss_nil)
  (pss_one (ps_ret (pv 4))))))), ?_⟩
    obtain ⟨na, nvs, rfl, hna, rns⟩ := rn.tupD
    obtain ⟨pz, r1, rfl, rpz, rns⟩ := rns.consD
    obtain ⟨phv, r2, rfl, rph, rns⟩ := rns.consD
    obtain rfl := rns.nilD
    obtain rfl := rph.numD
    refine ⟨_, rfl, na, [pz, .int ph], rfl, SqT.of hna, rfl, pz, [.int ph], rfl, .int ph, [], rfl, rfl, ?_⟩
    refine ⟨by rw [sz]; show 0 ≤ 16777216; decide, fun D hD => ?_⟩
    have O0 := (Own.start H).new (o := .lst []) hD rfl
    have sD : Same H (upd H D (.lst [])) := O0.sub
    generalize upd H D (.lst []) = H0 at *
    refine ⟨_, rfl, a, CP, dx, _, _, rfl, sD _ _ ha, cg.clP, cg.nPh, lk_a, hvA, dxh, _, rfl, sD _ _ h1, lk_n ns ns', _, rfl, ?_⟩
    refine ⟨hvA, pz, t, q0, c, n, p, rfl, hH.same sD, rpz.keep (Same.tups sD), hv, fun H1 l lv s1 hl hl' rl => ?_⟩
    have hwl : lv.length = (actsOf t p).length := by rw [rl.length, List.length_map]
    have h6 := acts_len hv hc3 t
    obtain ⟨B1, sB1, O1, t1, f1⟩ := O0.call s1
    have hlB := f1 _ _ hl hl'
    have rlB := rl.keep t1
    refine ⟨l, rfl, ⟨_, SqL.of hl'⟩, ?_⟩
    refine for_list (K := K) (a := l) (xs := lv) (fun j σ H' => ∃ (B : Hp) (wv : List V) (x5 x6 x7 x8 x9 : Option V), σ = [some (.ref a), some (.ref na), some pz, some (.int ph), some (.ref D), x5, x6, x7, x8, x9] ∧ Same B1 B ∧ Own B H' [(D, .lst wv)] ∧
      Rps B ((((actsOf t p).take j).flatMap (conP t task p ph)).map stepK) wv)
      ⟨B1, [], none, none, none, none, none, rfl, Same.refl _, O1, .nil⟩ ?_ ?_ ?_
    · rintro j σ H' _ ⟨B, wv, x5, x6, x7, x8, x9, rfl, sB, O, _⟩
      exact SqL.of (O.sub _ _ (sB _ _ hlB))
    · rintro j x σ H2 hx ⟨B, wv, x5, x6, x7, x8, x9, rfl, sB, O, R⟩
      have hjl : j < (actsOf t p).length := by rw [← hwl]; exact (List.getElem?_eq_some_iff.mp hx).1
      obtain ⟨⟨ci, pk⟩, hck⟩ : ∃ ck, (actsOf t p)[j]? = some ck := ⟨_, List.getElem?_eq_getElem hjl⟩
      obtain ⟨hci, hpk⟩ := acts_mem.mp (List.mem_of_getElem? hck)
      rw [hv.ql] at hci
      have hv' := hv.acted (t := t) hci hpk
      obtain ⟨v, hv1, rv'⟩ := rlB.get (i := j) (k := actK t p (ci, pk)) (by rw [List.getElem?_map, hck]; rfl)
      rw [hx] at hv1
      cases hv1
      have rvB := rv'.keep (Same.tups sB)
      obtain ⟨b, bs, rfl, hb, rb⟩ := rvB.tupD
      obtain ⟨v1, r1, rfl, e1, rb⟩ := rb.consD
      obtain ⟨v2, r2, rfl, e2, rb⟩ := rb.consD
      obtain ⟨v3, r3, rfl, e3, rb⟩ := rb.consD
      obtain ⟨v4, r4, rfl, e4, rb⟩ := rb.consD
      obtain ⟨v5, r5, rfl, e5, rb⟩ := rb.consD
      obtain rfl := rb.nilD
      obtain rfl := e1.numD
      obtain rfl := e2.numD
      obtain rfl := e4.numD
      have et := take_succ_of hck
      have wl : wv.length ≤ 6 := by
        rw [R.length, List.length_map]
        refine Nat.le_trans (conP_len ..) ?_
        rw [List.length_take]; omega
      obtain ⟨nx, enx⟩ : ∃ nx, nx = (actedP t p ci pk).1 := ⟨_, rfl⟩
      obtain ⟨ran, eran⟩ : ∃ ran, ran = (actedP t p ci pk).2.1 := ⟨_, rfl⟩
      have e3' : Rp B (posK nx) v3 := by rw [enx]; exact e3
      refine ⟨b, [.int ((ci : Nat) : Int), .int pk, v3, .int (actedP t p ci pk).2.1, v5], rfl, SqT.of (O.sub _ _ hb), rfl, _, _, rfl, _, _, rfl, _, _, rfl, _, _, rfl, v5, [], rfl, rfl, ?_⟩
      show tIfS _ _ _ _ [some (.ref a), some (.ref na), some pz, some (.int ph), some (.ref D), some (.int ((ci : Nat) : Int)), some (.int pk), some v3, some (.int (actedP t p ci pk).2.1), some v5] _
      rw [← eran]
      refine ⟨_, rfl, rfl, _, rfl, ?_⟩
      have ep : decide (V.int ph = V.int 0) = decide (ph = 0) := decide_eq_decide.mpr ⟨fun z => by injection z, fun z => by rw [z]⟩
      dsimp only
      rw [ep]
      by_cases z : ph = 0
      · rw [decide_eq_true z]
        refine iteT ?_
        refine ⟨_, rfl, .inl ⟨rfl, wv, SqL.of (O.get 0 rfl)⟩, ?_⟩
        refine ⟨_, rfl, _, rfl, by rw [sz]; show 2 ≤ 16777216; decide, fun p1 hp1 => ?_⟩
        obtain ⟨B2, sB2, hp1', O2⟩ := O.fz (o := .tup [.int ((ci : Nat) : Int), .int pk]) hp1
        generalize upd H2 p1 (.tup [.int ((ci : Nat) : Int), .int pk]) = H3 at *
        refine ⟨_, rfl, by rw [sz]; show 2 ≤ 16777216; decide, fun p2 hp2 => ?_⟩
        obtain ⟨B3, sB3, hp2', O3⟩ := O2.fz (o := .tup [v3, .int 0]) hp2
        generalize upd H3 p2 (.tup [v3, .int 0]) = H4 at *
        refine ⟨by rw [sz]; show 3 ≤ 16777216; decide, fun p3 hp3 => ?_⟩
        obtain ⟨B4, sB4, hp3', O4⟩ := O3.fz (o := .tup [.ref p1, .ref p2, .int 0]) hp3
        generalize upd H4 p3 (.tup [.ref p1, .ref p2, .int 0]) = H5 at *
        have s24 := sB2.trans (sB3.trans sB4)
        refine ⟨D, wv, .ref p3, rfl, rfl, O4.get 0 rfl, by rw [sz]; omega, ?_⟩
        refine ⟨B4, wv ++ [V.ref p3], _, _, _, _, _, rfl, sB.trans s24, O4.put 0 rfl rfl, ?_⟩
        have ec : conP t task p ph (ci, pk) = [(labK (ci, pk), nodeP nx 0, 0)] := by unfold conP; rw [if_pos z, enx]
        rw [et, List.flatMap_append, List.map_append, List.flatMap_cons, ec]
        refine (R.keep (Same.tups s24)).snoc ?_
        exact rp_tup hp3' (.cons (rp_tup ((sB3.trans sB4) _ _ hp1') (.cons (rp_num _) (.cons (rp_num _) .nil))) (.cons (rp_tup (sB4 _ _ hp2') (.cons (e3'.keep (Same.tups s24)) (.cons (rp_num _) .nil))) (.cons (rp_num _) .nil)))
      · rw [decide_eq_false z]
        refine iteF ?_
        have sH2 := (sD.trans s1).trans (Same.refl _)
        have aB : B1 a = some (.ins CP dx [(("hall" : Str), .ref hvA), (("task" : Str), .int task)]) := sB1 _ _ ha
        have aH2 := O.sub _ _ (sB _ _ aB)
        refine ⟨_, rfl, _, rfl, a, CP, dx, _, _, rfl, aH2, cg.clP, cg.nPt, lk_b nl_th, rfl, _, rfl, ?_⟩
        have er : (!decide (V.int ran = V.int task)) = decide (ran ≠ task) := by
          by_cases q : ran = task
          · rw [decide_eq_true (by rw [q]), decide_eq_false (fun z => z q)]; rfl
          · rw [decide_eq_false (fun z => q (by injection z)), decide_eq_true q]; rfl
        dsimp only
        rw [er]
        by_cases q : ran ≠ task
        · rw [decide_eq_true q]
          refine iteT ?_
          refine ⟨_, rfl, .inl ⟨rfl, wv, SqL.of (O.get 0 rfl)⟩, ?_⟩
          refine ⟨_, rfl, _, rfl, by rw [sz]; show 2 ≤ 16777216; decide, fun p1 hp1 => ?_⟩
          obtain ⟨B2, sB2, hp1', O2⟩ := O.fz (o := .tup [.int ((ci : Nat) : Int), .int pk]) hp1
          generalize upd H2 p1 (.tup [.int ((ci : Nat) : Int), .int pk]) = H3 at *
          refine ⟨_, rfl, by rw [sz]; show 2 ≤ 16777216; decide, fun p2 hp2 => ?_⟩
          obtain ⟨B3, sB3, hp2', O3⟩ := O2.fz (o := .tup [v3, .int 1]) hp2
          generalize upd H3 p2 (.tup [v3, .int 1]) = H4 at *
          -- 1 if self.task in then[0][core] else 0
          have sBB := sB.trans (sB2.trans sB3)
          have aH4 := O3.sub _ _ (sBB _ _ aB)
          obtain ⟨qa, la, qvs, PA⟩ := posAt_of (e3'.keep (Same.tups (sB2.trans sB3)))
          obtain ⟨pa, ev3, hpa⟩ := PA.top
          have hqn : nx.1.length = c := by rw [enx]; exact hv'.ql
          obtain ⟨ai, hai, hqi⟩ := PA.row ci (by omega)
          subst ev3
          refine ⟨_, rfl, a, CP, dx, _, _, rfl, aH4, cg.clP, cg.nPt, lk_b nl_th, _, rfl, pa, _, _, _, rfl, rfl, SqT.of (O3.sub _ _ hpa), at_of (j := 0) rfl rfl, _, rfl, qa, _, _, _, rfl, rfl, SqT.of (O3.sub _ _ PA.qs), at_of rfl hai, ai, _, rfl, .inr (SqT.of (O3.sub _ _ hqi)), rfl, flat_ints _, _, rfl, ?_⟩
          dsimp only
          refine if_val (z := .int (passW task nx ci)) ?_ ?_
          · rw [inV_ints, if_neg Bool.false_ne_true]
            unfold passW
            by_cases g : task ∈ nx.1.getD ci []
            · rw [if_pos (decide_eq_true g), if_pos g]
            · rw [if_neg (by rw [decide_eq_false g]; exact Bool.false_ne_true), if_neg g]
          refine ⟨by rw [sz]; show 3 ≤ 16777216; decide, fun p3 hp3 => ?_⟩
          obtain ⟨B4, sB4, hp3', O4⟩ := O3.fz (o := .tup [.ref p1, .ref p2, .int (passW task nx ci)]) hp3
          generalize upd H4 p3 (.tup [.ref p1, .ref p2, .int (passW task nx ci)]) = H5 at *
          have s24 := sB2.trans (sB3.trans sB4)
          refine ⟨D, wv, .ref p3, rfl, rfl, O4.get 0 rfl, by rw [sz]; omega, ?_⟩
          refine ⟨B4, wv ++ [V.ref p3], _, _, _, _, _, rfl, sB.trans s24, O4.put 0 rfl rfl, ?_⟩
          have ec : conP t task p ph (ci, pk) = [(labK (ci, pk), nodeP nx 1, passW task nx ci)] := by unfold conP; rw [if_neg z, if_pos (by rw [← eran]; exact q), enx]
          rw [et, List.flatMap_append, List.map_append, List.flatMap_cons, ec]
          refine (R.keep (Same.tups s24)).snoc ?_
          exact rp_tup hp3' (.cons (rp_tup ((sB3.trans sB4) _ _ hp1') (.cons (rp_num _) (.cons (rp_num _) .nil))) (.cons (rp_tup (sB4 _ _ hp2') (.cons (e3'.keep (Same.tups s24)) (.cons (rp_num _) .nil))) (.cons (rp_num _) .nil)))
        · rw [decide_eq_false q]
          refine iteF ?_
          refine ⟨B, wv, _, _, _, _, _, rfl, sB, O, ?_⟩
          have ec : conP t task p ph (ci, pk) = [] := by unfold conP; rw [if_neg z, if_neg (by rw [← eran]; exact q)]
          rw [et, List.flatMap_append, List.flatMap_cons, ec]
          simpa using R
    rintro σ H2 ⟨B, wv, x5, x6, x7, x8, x9, rfl, sB, O, R⟩
    rw [hwl, List.take_length] at R
    have wl : wv.length ≤ 6 := by
      rw [R.length, List.length_map]
      exact Nat.le_trans (conP_len ..) h6
    have rpzB := rpz.keep (Same.tups (sB1.trans sB))
    have fr := (sB1.trans sB).free (O.fresh 0 rfl)
    refine ⟨_, rfl, rfl, _, rfl, ?_⟩
    have ep : decide (V.int ph = V.int 0) = decide (ph = 0) := decide_eq_decide.mpr ⟨fun z => by injection z, fun z => by rw [z]⟩
    dsimp only
    rw [ep]
    by_cases z : ph = 0
    · rw [decide_eq_true z]
      refine iteT ?_
      refine ⟨_, rfl, .inl ⟨rfl, wv, SqL.of (O.get 0 rfl)⟩, ?_⟩
      refine ⟨_, rfl, by rw [sz]; show 2 ≤ 16777216; decide, fun p2 hp2 => ?_⟩
      obtain ⟨B3, sB3, hp2', O3⟩ := O.fz (o := .tup [pz, .int 1]) hp2
      generalize upd H2 p2 (.tup [pz, .int 1]) = H4 at *
      refine ⟨by rw [sz]; show 3 ≤ 16777216; decide, fun p3 hp3 => ?_⟩
      obtain ⟨B4, sB4, hp3', O4⟩ := O3.fz (o := .tup [.non, .ref p2, .int 0]) hp3
      generalize upd H4 p3 (.tup [.non, .ref p2, .int 0]) = H5 at *
      have s24 := sB3.trans sB4
      refine ⟨D, wv, .ref p3, rfl, rfl, O4.get 0 rfl, by rw [sz]; omega, ?_⟩
      have O5 := O4.put 0 (o := .lst (wv ++ [.ref p3])) rfl rfl
      refine ⟨_, rfl, k _ D (wv ++ [V.ref p3]) ((sB1.trans (sB.trans s24)).trans O5.sub) fr (O5.get 0 rfl) ?_⟩
      rw [if_pos z, List.map_append]
      refine Rps.keep O5.tups ((R.keep (Same.tups s24)).snoc ?_)
      exact rp_tup hp3' (.cons rp_none (.cons (rp_tup (sB4 _ _ hp2') (.cons (rpzB.keep (Same.tups s24)) (.cons (rp_num _) .nil))) (.cons (rp_num _) .nil)))
    · rw [decide_eq_false z]
      refine iteF ?_
      refine ⟨_, rfl, k _ D wv ((sB1.trans sB).trans O.sub) fr (O.get 0 rfl) ?_⟩
      rw [if_neg z, List.append_nil]
      exact R.keep O.tups
end
end ND
end
section
set_option Elab.async false
set_option linter.all false
set_option maxRecDepth 100000
set_option maxHeartbeats 4000000
namespace ND
open PySem L2
open PyProof.Rows (envOfC)
open PH
/-! ### settle, serve -/
structure AnsNums (w : World) (CS : Addr) (H : Hp) (a : Addr) (ks : List K1) (f : K1 → Int) : Prop where
  ex : ∃ dx d nx, H a = some (.ins CS dx [(("numbers" : Str), .ref d), (("lead" : Str), .non), (("loop" : Str), .non)]) ∧ H d = some (dN w d nx) ∧ KeysOk H nx ∧ nx.map (·.1) = ks ∧ ks.Nodup ∧ ∀ n ∈ ks, valN nx n = some (.int (f n))
  len : ks.length ≤ 1000000
structure AnsRing (CS : Addr) (H : Hp) (a : Addr) (lead loop : List K1) : Prop where
  ex : ∃ dx l1 l2 v1 v2, H a = some (.ins CS dx [(("numbers" : Str), .non), (("lead" : Str), .ref l1), (("loop" : Str), .ref l2)]) ∧ H l1 = some (.lst v1) ∧ Rps H lead v1 ∧ H l2 = some (.lst v2) ∧ Rps H loop v2
  len1 : lead.length ≤ 1000000
  len2 : loop.length ≤ 1000001
theorem KeysOk.same {H H' : Hp} {nx : List (NestedKey × Addr × V)} (s : Same H H') (h : KeysOk H nx) : KeysOk H' nx := h.keep (Same.tups s)
theorem AnsNums.same {w : World} {CS : Addr} {H H' : Hp} {a : Addr} {ks : List K1} {f : K1 → Int} (s : Same H H') (h : AnsNums w CS H a ks f) : AnsNums w CS H' a ks f :=
  ⟨let ⟨dx, d, nx, h1, h2, h3, r⟩ := h.ex; ⟨dx, d, nx, s _ _ h1, s _ _ h2, h3.same s, r⟩, h.len⟩
theorem AnsRing.same {CS : Addr} {H H' : Hp} {a : Addr} {lead loop : List K1} (s : Same H H') (h : AnsRing CS H a lead loop) : AnsRing CS H' a lead loop :=
  ⟨let ⟨dx, l1, l2, v1, v2, h1, h2, h3, h4, h5⟩ := h.ex; ⟨dx, l1, l2, v1, v2, s _ _ h1, s _ _ h2, h3.keep (Same.tups s), s _ _ h4, h5.keep (Same.tups s)⟩, h.len1, h.len2⟩
def SettleOut (w : World) (CS : Addr) (H : Hp) (a : Addr) (t : Tk) (p0 : HPos) : Prop :=
  (∃ ks f, AnsNums w CS H a ks f ∧ (∀ k, k ∈ ks ↔ Gr.Rch (waysW t) (posK p0) k) ∧ Gr.HNum (waysW t) ks f) ∨ (∃ lead loop, AnsRing CS H a lead loop ∧ Gr.HRing (waysW t) (posK p0) lead loop)
def ServeOut (w : World) (CS : Addr) (H : Hp) (a : Addr) (t : Tk) (task : Int) (p0 : HPos) : Prop :=
  (∃ ks f nodes num, AnsNums w CS H a ks f ∧ (∀ k, k ∈ nodes ↔ Gr.Rch (waysP t task) (nodeP p0 0) k) ∧ Gr.HNum (waysP t task) nodes num ∧ ∀ p, nodeP p 1 ∈ nodes → posK p ∈ ks ∧ f (posK p) = num (nodeP p 1)) ∨
  (∃ lead loop, AnsRing CS H a (lead.filter fun x => decide (x ≠ .none)) loop ∧ Gr.HRing (waysP t task) (nodeP p0 0) lead loop)
/-- the lists of a ring are new -/
def FreshAns (CS : Addr) (H H' : Hp) (a : Addr) : Prop := ∀ dx x l1 l2, H' a = some (.ins CS dx [(("numbers" : Str), x), (("lead" : Str), .ref l1), (("loop" : Str), .ref l2)]) → H l1 = none ∧ H l2 = none
theorem freshAns_of {CS a dx l1 l2 : Addr} {H H' : Hp} {x : V} (e : H' a = some (.ins CS dx [(("numbers" : Str), x), (("lead" : Str), .ref l1), (("loop" : Str), .ref l2)])) (h1 : H l1 = none) (h2 : H l2 = none) : FreshAns CS H H' a := fun _ _ m1 m2 e' => by
  rw [e] at e'
  injection e' with e'
  injection e' with _ _ e'
  injection e' with _ e'
  injection e' with e1 e'
  injection e' with e2 _
  injection e1 with _ e1
  injection e1 with e1
  injection e2 with _ e2
  injection e2 with e2
  exact ⟨e1 ▸ h1, e2 ▸ h2⟩
theorem freshAns_nums {CS a dx : Addr} {H H' : Hp} {x y : V} (e : H' a = some (.ins CS dx [(("numbers" : Str), x), (("lead" : Str), .non), (("loop" : Str), y)])) : FreshAns CS H H' a := fun _ _ m1 m2 e' => by
  rw [e] at e'
  injection e' with e'
  injection e' with _ _ e'
  injection e' with _ e'
  injection e' with e1 e'
  injection e1 with _ e1
  cases e1
def spSettle (w : World) (CT CH CS : Addr) : Sp := fun vs H Q _ => ∃ (h : Addr) (t : Tk) (q0 : List (List Int)) (c n : Nat), vs = [.ref h] ∧ HallAt CT CH H h t q0 c n ∧
  ∀ H' a, Same H H' → FreshAns CS H H' a → SettleOut w CS H' a t (q0, List.replicate c (-1)) → Q (.ref a) H'
def spServe (w : World) (CT CH CS : Addr) : Sp := fun vs H Q _ => ∃ (h : Addr) (t : Tk) (q0 : List (List Int)) (c n : Nat) (task : Int), vs = [.ref h, .int task] ∧ HallAt CT CH H h t q0 c n ∧
  ∀ H' a, Same H H' → FreshAns CS H H' a → ServeOut w CS H' a t task (q0, List.replicate c (-1)) → Q (.ref a) H'
theorem Rp.non_iff {B : Hp} {k : NestedKey} {v : V} (h : Rp B k v) : (v = .non) ↔ (k = .none) := by
  cases k with
  | none => unfold Rp at h; subst h; exact ⟨fun _ => rfl, fun _ => rfl⟩
  | num i => unfold Rp at h; subst h; exact ⟨(fun e => nomatch e), (fun e => nomatch e)⟩
  | text x => unfold Rp at h; subst h; exact ⟨(fun e => nomatch e), (fun e => nomatch e)⟩
  | tup ks =>
    obtain ⟨a, vs, rfl, _⟩ := h.tupD
    exact ⟨(fun e => nomatch e), (fun e => nomatch e)⟩
theorem nodup_put {xs : List (NestedKey × Addr × V)} {k : NestedKey} {a : Addr} {v : V} (h : (xs.map (·.1)).Nodup) : ((putN xs k a v).map (·.1)).Nodup := by
  cases e : valN xs k with
  | none =>
    rw [putN_new _ _ e, List.map_append]
    refine Gr.nodup_snoc h fun q => ?_
    have := (valN_isSome k xs).mpr q
    rw [e] at this; cases this
  | some u =>
    unfold putN
    rw [if_pos (by rw [e]; rfl), List.map_map]
    have : ((fun x : NestedKey × Addr × V => x.1) ∘ fun x => if x.1 = k then (x.1, x.2.1, v) else x) = fun x => x.1 := by
      funext x
      show (if x.1 = k then (x.1, x.2.1, v) else x).1 = x.1
      split <;> rfl
    rw [this]; exact h
/-- a new object of a class, after its __init__ -/
theorem made_same {H H' : Hp} {x dx C : Addr} (hx : H x = none) (hd : H dx = none) (ne : dx ≠ x) (h : ∀ b, b ≠ x → H' b = upd (upd H dx (.own x)) x (.ins C dx []) b) : Same H H' := fun b u e => by
  have n1 : b ≠ x := ne_of_none e hx
  have n2 : b ≠ dx := ne_of_none e hd
  rw [h b n1, upd_ne n1, upd_ne n2]; exact e
section
variable {P : Program} {w : World} {K : PySem.W.Frag} {mg : Str → Option Value} {base : Heap}
theorem ok_settle {CT CH CW CP CS : Addr} (cg : CG K CW CP CS) (T : Blt mg)
    {f_heaviest : Addr} {fd_heaviest : FuncData} (G_heaviest : FnOk P w K mg base CX0 7 f_heaviest fd_heaviest P_heaviest (spHeaviest w (GGW CT CH CW))) (g_heaviest : mg "heaviest" = some (.ref f_heaviest)) (k_heaviest : PySem.W.keepIn K (.ref f_heaviest) = true) (b_heaviest : Binds K fd_heaviest P_heaviest [])
    {f_WastedActs : Addr} {fd_WastedActs : FuncData} (G_WastedActs : FnOk P w K mg base CX0 1 f_WastedActs fd_WastedActs P_WastedActs_init (spIni CW 1 fsW)) (Mk_WastedActs : Mk K CW f_WastedActs) (g_WastedActs : mg "WastedActs" = some (.ref CW)) (b_WastedActs : Binds K fd_WastedActs P_WastedActs_init [])
    {f_Settled : Addr} {fd_Settled : FuncData} (G_Settled : FnOk P w K mg base CX0 1 f_Settled fd_Settled P_Settled_init (spIni CS 3 fsS)) (Mk_Settled : Mk K CS f_Settled) (g_Settled : mg "Settled" = some (.ref CS)) (b_Settled : Binds K fd_Settled P_Settled_init [])
    {f : Addr} {fd : FuncData} (F : Fun K "settle" "settle" s_settle f fd) : FnOk P w K mg base CX0 8 f fd P_settle (spSettle w CT CH CS) := by
  refine F.ok sc_settle (fun vs H Q E h => ?_) (fun cdv A outer s H vs Q E hr h => ?_)
  · obtain ⟨h, t, q0, c, n, rfl, _⟩ := h
    rfl
  · obtain ⟨ha, t, q0, c, n, rfl, hH, k⟩ := h
    have sz : sizeLine = 16777216 := sizeLine_eq
    have hc3 := hH.c3
    have hn5 := hH.n5
    refine ⟨_, (pss_cons (ps_asg (pe_call G_heaviest (hr.mono (show 7 ≤ 7 by decide)) rfl g_heaviest k_heaviest b_heaviest .nil pass0 (pa_cons (pe_make Mk_WastedActs G_WastedActs (hr.mono (by decide)) rfl g_WastedActs b_WastedActs .nil pass0 (pa_cons (pv 0) pa_nil)) pa_nil)) (pg_tup rfl (pgs_cons (pg_name (i := 1) sc_settle.nd rfl (Or.inl rfl)) (pgs_cons (pg_name (i := 2) sc_settle.nd rfl (Or.inl rfl)) pgs_nil))))
  (pss_cons (ps_if (pt_cmp (pc_isN (pv 2)))
    (pss_one (ps_ret (pe_make Mk_Settled G_Settled (hr.mono (by decide)) rfl g_Settled b_Settled .nil pass0 (pa_cons (pv 1) (pa_cons pe_non (pa_cons pe_non pa_nil))))))
    pss_nil)
  (pss_cons (ps_asg (pv 2) (pg_tup rfl (pgs_cons (pg_name (i := 3) sc_settle.nd rfl (Or.inl rfl)) (pgs_cons (pg_name (i := 4) sc_settle.nd rfl (Or.inl rfl)) pgs_nil))))
  (pss_one (ps_ret (pe_make Mk_Settled G_Settled (hr.mono (by decide)) rfl g_Settled b_Settled .nil pass0 (pa_cons pe_non (pa_cons (pv 3) (pa_cons (pv 4) pa_nil))))))))), ?_⟩
    refine ⟨_, rfl, fun x dx hx hdx hne => ?_⟩
    refine ⟨x, dx, _, rfl, rfl, upd_same, fun H1 e1 e2 => ⟨rfl, ?_⟩⟩
    have s1 := made_same hx hdx hne e1
    refine ⟨x, waysW t, posK (q0, List.replicate c (-1)), 276480, rfl, ⟨dx, ha, t, q0, c, n, e2, hH.same s1, rfl, rfl⟩, gspecW hH.hv hc3 hn5, fun H2 p2 xv yv s2 hp2 ho => ?_⟩
    refine ⟨p2, [xv, yv], rfl, SqT.of hp2, rfl, xv, [yv], rfl, yv, [], rfl, rfl, ?_⟩
    cases ho with
    | nums nodes num d nx ex ey fr hd ko keys vals nd mem hn =>
      subst ex ey
      refine ⟨_, rfl, _, rfl, ?_⟩
      refine iteT ?_
      refine ⟨_, rfl, fun y dy hy hdy hne2 => ?_⟩
      refine ⟨y, dy, _, rfl, rfl, upd_same, fun H3 e3 e4 => ⟨rfl, ?_⟩⟩
      have s3 := made_same hy hdy hne2 e3
      have bd := (gspecW (t := t) hH.hv hc3 hn5).bd nodes nd fun m hm => (mem m).mp hm
      exact k _ _ (s1.trans (s2.trans s3)) (freshAns_nums e4) (.inl ⟨nodes, num, ⟨⟨dy, d, nx, e4, s3 _ _ hd, ko.same s3, keys, nd, vals⟩, by omega⟩, mem, hn⟩)
    | ring lead loop r l1 l2 v1 v2 ex ey hr f1 f2 h1 r1 h2 r2 len1 len2 hg =>
      subst ex ey
      refine ⟨_, rfl, _, rfl, ?_⟩
      refine iteF ?_
      refine ⟨_, rfl, r, [.ref l1, .ref l2], rfl, SqT.of hr, rfl, .ref l1, [.ref l2], rfl, .ref l2, [], rfl, rfl, ?_⟩
      refine ⟨_, rfl, _, rfl, fun y dy hy hdy hne2 => ?_⟩
      refine ⟨y, dy, _, rfl, rfl, upd_same, fun H3 e3 e4 => ⟨rfl, ?_⟩⟩
      have s3 := made_same hy hdy hne2 e3
      exact k _ _ (s1.trans (s2.trans s3)) (freshAns_of e4 (s1.free f1) (s1.free f2)) (.inr ⟨lead, loop, ⟨⟨dy, l1, l2, v1, v2, e4, s3 _ _ h1, r1.keep (Same.tups s3), s3 _ _ h2, r2.keep (Same.tups s3)⟩, len1, len2⟩, hg⟩)
theorem ok_serve {CT CH CW CP CS : Addr} (cg : CG K CW CP CS) (T : Blt mg)
    {f_heaviest : Addr} {fd_heaviest : FuncData} (G_heaviest : FnOk P w K mg base CX0 7 f_heaviest fd_heaviest P_heaviest (spHeaviest w (GGP CT CH CP))) (g_heaviest : mg "heaviest" = some (.ref f_heaviest)) (k_heaviest : PySem.W.keepIn K (.ref f_heaviest) = true) (b_heaviest : Binds K fd_heaviest P_heaviest [])
    {f_PassingActs : Addr} {fd_PassingActs : FuncData} (G_PassingActs : FnOk P w K mg base CX0 1 f_PassingActs fd_PassingActs P_PassingActs_init (spIni CP 2 fsP)) (Mk_PassingActs : Mk K CP f_PassingActs) (g_PassingActs : mg "PassingActs" = some (.ref CP)) (b_PassingActs : Binds K fd_PassingActs P_PassingActs_init [])
    {f_Settled : Addr} {fd_Settled : FuncData} (G_Settled : FnOk P w K mg base CX0 1 f_Settled fd_Settled P_Settled_init (spIni CS 3 fsS)) (Mk_Settled : Mk K CS f_Settled) (g_Settled : mg "Settled" = some (.ref CS)) (b_Settled : Binds K fd_Settled P_Settled_init [])
    {f : Addr} {fd : FuncData} (F : Fun K "serve" "serve" s_serve f fd) : FnOk P w K mg base CX0 8 f fd P_serve (spServe w CT CH CS) := by
  refine F.ok sc_serve (fun vs H Q E h => ?_) (fun cdv A outer s H vs Q E hr h => ?_)
  · obtain ⟨h, t, q0, c, n, task, rfl, _⟩ := h
    rfl
  · obtain ⟨ha, t, q0, c, n, task, rfl, hH, k⟩ := h
    have sz : sizeLine = 16777216 := sizeLine_eq
    have hc3 := hH.c3
    have hn5 := hH.n5
    refine ⟨_, (pss_cons (ps_asg (pe_call G_heaviest (hr.mono (show 7 ≤ 7 by decide)) rfl g_heaviest k_heaviest b_heaviest .nil pass0 (pa_cons (pe_make Mk_PassingActs G_PassingActs (hr.mono (by decide)) rfl g_PassingActs b_PassingActs .nil pass0 (pa_cons (pv 0) (pa_cons (pv 1) pa_nil))) pa_nil)) (pg_tup rfl (pgs_cons (pg_name (i := 2) sc_serve.nd rfl (Or.inr rfl)) (pgs_cons (pg_name (i := 3) sc_serve.nd rfl (Or.inl rfl)) pgs_nil))))
  (pss_cons (ps_if (pt_cmp (pc_isN (pv 3)))
    (pss_one (ps_ret (pe_make Mk_Settled G_Settled (hr.mono (by decide)) rfl g_Settled b_Settled .nil pass0 (pa_cons (pe_lock (pe_dcN (own := [("position", 6), ("phase", 7)]) (g := gTup K 2 (gCons (gName 6) (gCons (gName 7) gNil))) hr rfl sc_serve.nd (pi_keysN (pv 2)) (blkOk_by (own := [("position", 6), ("phase", 7)]) (N := N_serve) (sc := defScope s_serve) (by decide +kernel)) (fun _ _ _ _ _ => (pg_tup rfl (pgs_cons (pg_name (i := 6) sc_serve.nd rfl (Or.inl rfl)) (pgs_cons (pg_name (i := 7) sc_serve.nd rfl (Or.inl rfl)) pgs_nil)))) (fun _ _ _ _ _ => (pts_one (pt_cmpR op_eq (pv 7) pe_int (nomark _)))) (fun _ _ _ _ _ => (pv 6)) (fun _ _ _ _ _ => (pe_ngetB (w := w) hr (pv 2) (pe_tup (pa_cons (pv 6) (pa_cons (pv 7) pa_nil))) (fun _ _ => rfl))))) (pa_cons pe_non (pa_cons pe_non pa_nil))))))
    pss_nil)
  (pss_cons (ps_asg (pv 3) (pg_tup rfl (pgs_cons (pg_name (i := 4) sc_serve.nd rfl (Or.inl rfl)) (pgs_cons (pg_name (i := 5) sc_serve.nd rfl (Or.inl rfl)) pgs_nil))))
  (pss_one (ps_ret (pe_make Mk_Settled G_Settled (hr.mono (by decide)) rfl g_Settled b_Settled .nil pass0 (pa_cons pe_non (pa_cons (pe_lc (own := [("label", 8)]) (g := gName 8) rfl sc_serve.nd (pi_list (pv 4)) (blkOk_by (own := [("label", 8)]) (N := N_serve) (sc := defScope s_serve) (by decide +kernel)) (fun _ _ _ _ _ => (pg_name (i := 8) sc_serve.nd rfl (Or.inl rfl))) (fun _ _ _ _ _ => (pts_one (pt_cmp (pc_notN (pv 8))))) (fun _ _ _ _ _ => (pv 8))) (pa_cons (pv 5) pa_nil))))))))), ?_⟩
    refine ⟨_, rfl, _, rfl, fun x dx hx hdx hne => ?_⟩
    refine ⟨x, dx, _, rfl, rfl, upd_same, fun H1 e1 e2 => ⟨rfl, ?_⟩⟩
    have s1 := made_same hx hdx hne e1
    have gsp := gspecP (t := t) (task := task) hH.hv hc3 hn5
    refine ⟨x, waysP t task, nodeP (q0, List.replicate c (-1)) 0, 552960, rfl, ⟨dx, ha, t, q0, c, n, task, e2, hH.same s1, rfl, rfl⟩, gsp, fun H2 p2 xv yv s2 hp2 ho => ?_⟩
    refine ⟨p2, [xv, yv], rfl, SqT.of hp2, rfl, xv, [yv], rfl, yv, [], rfl, rfl, ?_⟩
    cases ho with
    | nums nodes num d nx ex ey fr hd ko keys vals nd mem hn =>
      subst ex ey
      refine ⟨_, rfl, _, rfl, ?_⟩
      refine iteT ?_
      have bd := gsp.bd nodes nd fun m hm => (mem m).mp hm
      have hnx : nx.length = nodes.length := by rw [← keys, List.length_map]
      obtain ⟨B2, sB2, O2, t2, _⟩ := (Own.start H1).callNew s2 fr hd rfl
      have koB := ko.keep t2
      refine ⟨d, dN w d nx, O2.get 0 rfl, True.intro, fun od => ?_⟩
      have O3 := O2.put 0 (o := .frz od (dN w d nx)) rfl rfl
      generalize upd H2 d (.frz od (dN w d nx)) = H3 at *
      refine ⟨_, rfl, d, od, nx, rfl, O3.get 0 rfl, fun D hD => ?_⟩
      refine dc_keysN (w := w) (d := d) (o := od) (xs := nx) (fun i H' => ∃ (B : Hp) (mx : List (NestedKey × Addr × V)), Same B2 B ∧ Own B H' [(D, dN w D mx), (d, .frz od (dN w d nx))] ∧ KeysOk B mx ∧
          mx.length ≤ i ∧ (mx.map (·.1)).Nodup ∧ (∀ k v, valN mx k = some v → ∃ p, k = posK p ∧ v = .int (num (nodeP p 1))) ∧
          ∀ p, nodeP p 1 ∈ nodes.take i → (valN mx (posK p)).isSome = true)
        ⟨B2, [], Same.refl _, O3.new (o := dN w D []) hD rfl, (fun x hx => nomatch hx), Nat.le_refl _, List.nodup_nil, (fun k v h => nomatch h), fun p hp => by rw [List.take_zero] at hp; cases hp⟩ ?_ ?_ ?_
      · rintro i H' _ ⟨B, mx, sB, O, _⟩
        exact O.get 1 rfl
      · rintro i key a v H4 hx4 ⟨B, mx, sB, O, km, lm, ndm, hvals, hall⟩
        have hil : i < nx.length := (List.getElem?_eq_some_iff.mp hx4).1
        have hkn : nodes[i]? = some key := by rw [← keys, List.getElem?_map, hx4]; rfl
        obtain ⟨p, ph, rfl, hvp, hph⟩ := rchP hH.hv ((mem key).mp (List.mem_of_getElem? hkn))
        have hka := ((koB.same sB) _ (List.mem_of_getElem? hx4)).1
        obtain ⟨ka, kvs, eka, hka', rks⟩ := hka.tupD
        cases eka
        obtain ⟨pz, r1, rfl, rpz, rks⟩ := rks.consD
        obtain ⟨phv, r2, rfl, rph, rks⟩ := rks.consD
        obtain rfl := rks.nilD
        obtain rfl := rph.numD
        obtain ⟨pa, pvs, epz, hpa, _⟩ := id rpz.tupD
        subst epz
        have et := take_succ_of hkn
        refine ⟨_, [.ref pa, .int ph], rfl, SqT.of (O.sub _ _ hka'), rfl, .ref pa, [.int ph], rfl, .int ph, [], rfl, rfl, ?_, ?_⟩
        · rw [wipe_set (by decide), wipe_set (by decide), wipe_wipe]
        refine ⟨_, rfl, rfl, _, rfl, ?_⟩
        have ep : decide (V.int ph = V.int 1) = decide (ph = 1) := decide_eq_decide.mpr ⟨fun z => by injection z, fun z => by rw [z]⟩
        dsimp only
        rw [ep]
        by_cases z : ph = 1
        · subst z
          rw [decide_eq_true rfl]
          refine iteT ?_
          refine ⟨_, rfl, _, rfl, _, rfl, _, rfl, by rw [sz]; show 2 ≤ 16777216; decide, fun p1 hp1 => ?_⟩
          obtain ⟨B3, sB3, hp1', O4⟩ := O.fz (o := .tup [.ref pa, .int 1]) hp1
          generalize upd H4 p1 (.tup [.ref pa, .int 1]) = H5 at *
          have rpz3 := rpz.keep (Same.tups sB3)
          refine ⟨d, nx, nodeP p 1, .int (num (nodeP p 1)), rfl, .inr ⟨od, O4.get 1 rfl⟩, (koB.same (sB.trans sB3)).keep O4.tups, ⟨(rp_tup hp1' (.cons rpz3 (.cons (rp_num _) .nil))).keep O4.tups, Nat.le_trans (depth_nodeP p 1) (by decide), _, rfl⟩, vals _ (List.mem_of_getElem? hkn), ?_⟩
          refine ⟨mx, posK p, pa, rfl, O4.get 0 rfl, (km.same sB3).keep O4.tups, rpz3.keep O4.tups, Nat.le_trans (depth_posK p) (by decide), by rw [sz]; omega, ?_⟩
          refine ⟨B3, putN mx (posK p) pa (.int (num (nodeP p 1))), sB.trans sB3, O4.put 0 rfl rfl, (km.same sB3).put rpz3 (Nat.le_trans (depth_posK p) (by decide)), Nat.le_trans (length_putN ..) (by omega), nodup_put ndm, fun k v hk => ?_, fun p' hp' => ?_⟩
          · rw [valN_put] at hk
            by_cases q : k = posK p
            · rw [if_pos q] at hk
              cases hk
              exact ⟨p, q, rfl⟩
            · rw [if_neg q] at hk
              exact hvals k v hk
          · rw [valN_put]
            by_cases q : posK p' = posK p
            · rw [if_pos q]; rfl
            · rw [if_neg q]
              rw [et] at hp'
              rcases List.mem_append.mp hp' with g | g
              · exact hall p' g
              · have g' : nodeP p' 1 = nodeP p 1 := by simpa using g
                have := congrArg unP g'
                rw [unP_nodeP, unP_nodeP] at this
                injection this with this
                exact absurd (by rw [this]) q
        · rw [decide_eq_false z]
          refine iteF ?_
          refine ⟨B, mx, sB, O, km, by omega, ndm, hvals, fun p' hp' => ?_⟩
          rw [et] at hp'
          rcases List.mem_append.mp hp' with g | g
          · exact hall p' g
          · have g' : nodeP p' 1 = nodeP p ph := by simpa using g
            have := congrArg unP g'
            rw [unP_nodeP, unP_nodeP] at this
            injection this with _ this
            exact absurd this.symm z
      · rintro H4 ⟨B, mx, sB, O, km, lm, ndm, hvals, hall⟩
        rw [List.take_of_length_le (by omega)] at hall
        have O5 := O.put 1 (o := dN w d nx) rfl rfl
        refine ⟨O.get 1 rfl, ?_⟩
        generalize upd H4 d (dN w d nx) = H5 at *
        refine fun y dy hy hdy hne2 => ?_
        refine ⟨y, dy, _, rfl, rfl, upd_same, fun H6 e3 e4 => ⟨rfl, ?_⟩⟩
        have s6 := made_same hy hdy hne2 e3
        have sE := (s1.trans (sB2.trans sB)).trans (O5.sub.trans s6)
        refine k _ _ sE (freshAns_nums e4) (.inl ⟨mx.map (·.1), fun k => num (nodeP (unPos k) 1), nodes, num, ⟨⟨dy, D, mx, e4, s6 _ _ (O5.get 0 rfl), (km.keep O5.tups).same s6, rfl, ndm, fun m hm => ?_⟩, by rw [List.length_map]; omega⟩, mem, hn, fun p hp => ⟨?_, ?_⟩⟩)
        · have h1 := (valN_isSome m mx).mpr hm
          obtain ⟨v, hv⟩ := Option.isSome_iff_exists.mp h1
          obtain ⟨p, rfl, rfl⟩ := hvals m v hv
          rw [hv, unPos_posK]
        · exact (valN_isSome _ mx).mp (hall p hp)
        · show num (nodeP (unPos (posK p)) 1) = _
          rw [unPos_posK]
    | ring lead loop r l1 l2 v1 v2 ex ey hr f1 f2 h1 r1 h2 r2 len1 len2 hg =>
      subst ex ey
      refine ⟨_, rfl, _, rfl, ?_⟩
      refine iteF ?_
      refine ⟨_, rfl, r, [.ref l1, .ref l2], rfl, SqT.of hr, rfl, .ref l1, [.ref l2], rfl, .ref l2, [], rfl, rfl, ?_⟩
      refine ⟨_, rfl, l1, rfl, ⟨_, SqL.of h1⟩, fun D hD => ?_⟩
      have O2 := (Own.start H2).new (o := .lst []) hD rfl
      refine it_list (K := K) (a := l1) (xs := v1) (fun j H' => ∃ (B : Hp) (wv : List V), Same H2 B ∧ Own B H' [(D, .lst wv)] ∧ Rps B ((lead.take j).filter fun x => decide (x ≠ .none)) wv ∧ wv.length ≤ j)
        ⟨H2, [], Same.refl _, O2, by rw [List.take_zero]; exact .nil, Nat.le_refl _⟩ ?_ ?_ ?_
      · rintro j H' _ ⟨B, wv, sB, O, _⟩
        exact SqL.of (O.sub _ _ (sB _ _ h1))
      · rintro j x H3 hx3 ⟨B, wv, sB, O, R, wl⟩
        have hjl := (List.getElem?_eq_some_iff.mp hx3).1
        rw [r1.length] at hjl
        obtain ⟨key, hkey⟩ : ∃ key, lead[j]? = some key := ⟨_, List.getElem?_eq_getElem hjl⟩
        obtain ⟨v', hv', rv'⟩ := r1.get hkey
        rw [hx3] at hv'
        cases hv'
        have rvB := rv'.keep (Same.tups sB)
        refine ⟨rfl, ?_⟩
        refine ⟨_, rfl, _, rfl, ?_⟩
        have en : (!decide (x = .non)) = decide (key ≠ .none) := by
          by_cases g : key = .none
          · rw [decide_eq_true (rvB.non_iff.mpr g), decide_eq_false (fun z => z g)]; rfl
          · rw [decide_eq_false (fun z => g (rvB.non_iff.mp z)), decide_eq_true g]; rfl
        dsimp only
        rw [en]
        have ef : (lead.take (j + 1)).filter (fun x => decide (x ≠ .none)) = (lead.take j).filter (fun x => decide (x ≠ .none)) ++ if decide (key ≠ .none) = true then [key] else [] := by
          rw [take_succ_of hkey, List.filter_append, List.filter_cons]; rfl
        by_cases g : key ≠ .none
        · rw [decide_eq_true g]
          refine iteT ?_
          refine ⟨_, rfl, wv, O.get 0 rfl, by rw [sz]; omega, B, wv ++ [x], sB, O.put 0 rfl rfl, ?_, by rw [List.length_append]; exact Nat.succ_le_succ wl⟩
          rw [ef, if_pos (decide_eq_true g)]
          exact R.snoc rvB
        · rw [decide_eq_false g]
          refine iteF ?_
          refine ⟨B, wv, sB, O, ?_, by omega⟩
          rw [ef, if_neg (by rw [decide_eq_false g]; exact Bool.false_ne_true), List.append_nil]
          exact R
      · rintro H3 ⟨B, wv, sB, O, R, wl⟩
        rw [r1.length, List.take_length] at R
        refine ⟨_, rfl, fun y dy hy hdy hne2 => ?_⟩
        refine ⟨y, dy, _, rfl, rfl, upd_same, fun H4 e3 e4 => ⟨rfl, ?_⟩⟩
        have s3 := made_same hy hdy hne2 e3
        have sE := O.sub.trans s3
        refine k _ _ (s1.trans (s2.trans (sB.trans sE))) (freshAns_of e4 ((s1.trans (s2.trans sB)).free (O.fresh 0 rfl)) (s1.free f2)) (.inr ⟨lead, loop, ⟨⟨dy, D, l2, wv, v2, e4, s3 _ _ (O.get 0 rfl), R.keep (O.tups.trans (Same.tups s3)), (sB.trans sE) _ _ h2, r2.keep (Same.tups (sB.trans sE))⟩, Nat.le_trans (List.length_filter_le _ _) len1, len2⟩, hg⟩)
end
end ND
end
section
set_option Elab.async false
set_option linter.all false
set_option maxRecDepth 100000
set_option maxHeartbeats 4000000
namespace ND
open PySem L2
open PyProof.Rows (envOfC)
open PH
/-! ### the __init__s of Taking and Hall -/
structure Con (K : PySem.W.Frag) (mg : Str → Option Value) : Prop where
  mq : ∃ t, mg "MOST_QUEUES" = some (.int 3 t)
  mt : ∃ t, mg "MOST_TASKS" = some (.int 5 t)
  rl : ∃ r, mg "RULES" = some (.ref r) ∧ ∀ H, SqT K H r ([("again" : Str), "any", "half"].map V.str)
def RuleOk (x : Str) : Prop := x ∈ [("again" : Str), "any", "half"]
structure TakIn (least : List Int) (rules : List Str) : Prop where
  l1 : 1 ≤ least.length
  l5 : least.length ≤ 5
  bd : ∀ x ∈ least, 0 ≤ x ∧ x ≤ 5
  nd : rules.Nodup
  ok : ∀ x ∈ rules, RuleOk x
def spTakB (CT : Addr) : Sp := fun vs H Q _ => ∃ (a l p dx : Addr) (least : List Int) (rules : List Str), vs = [.ref a, .ref l, .ref p] ∧ H a = some (.ins CT dx []) ∧ H l = some (.lst (least.map V.int)) ∧ H p = some (.tup (rules.map V.str)) ∧ TakIn least rules ∧
  ∀ (H' : Hp) (lp rp : Addr) (rules' : List Str), (∀ b u, b ≠ a → H b = some u → H' b = some u) → H' a = some (.ins CT dx [(("least" : Str), .ref lp), (("rules" : Str), .ref rp)]) → H' lp = some (.tup (least.map V.int)) → H' rp = some (.tup (rules'.map V.str)) → rules'.Perm rules → Q .non H'
theorem inV_strs (x : Str) (l : List Str) : inV (.str x) (l.map V.str) = decide (x ∈ l) := by
  unfold inV
  rw [List.any_map]
  rw [Bool.eq_iff_iff, List.any_eq_true]
  simp only [decide_eq_true_eq]
  constructor
  · rintro ⟨y, hy, e⟩
    have e : (y == x) = true := e
    have : y = x := by simpa using e
    exact this ▸ hy
  · intro h
    exact ⟨x, h, by show (x == x) = true; simp⟩
theorem nl_lr : ¬ (("least" : Str) = "rules") := by decide +kernel
theorem nl_qt : ¬ (("queues" : Str) = "taking") := by decide +kernel
section
variable {P : Program} {w : World} {K : PySem.W.Frag} {mg : Str → Option Value} {base : Heap}
theorem ok_takB {CT CH : Addr} (cf : CF K CT CH) (C : Con K mg) (T : Blt mg) {cdv : Value} {f : Addr} {A : Around} {outer : List Env} {s : Shared} {H : Hp} {vs : List V} {Q : VK} {E : XK}
    (hr : Room 0 (A.deeper (envOfC "Taking.__init__" (defScope s_Taking_init) s.heap.objs.size f cdv))) (h : spTakB CT vs H Q E) :
    ∃ t, PSs (cxOf CX0 P w K mg base N_Taking_init "Taking.__init__" (defScope s_Taking_init) f cdv A outer s H E).nox (defBody s_Taking_init) t ∧ t { nx := fun _ H' => Q .non H', rt := Q } (L2.start N_Taking_init vs) H := by
  obtain ⟨a, l, p, dx, least, rules, rfl, ha, hl, hp, ti, k⟩ := h
  have sz : sizeLine = 16777216 := sizeLine_eq
  obtain ⟨_, mt⟩ := C.mt
  obtain ⟨rla, mrl, sqr⟩ := C.rl
  have rl3 : rules.length ≤ 3 := Gr.len_le_of_sub ti.nd (m := [("again" : Str), "any", "half"]) ti.ok
  refine ⟨_, (pss_cons (ps_fld (pv 0) (pe_callTy call_tuple_of (by rfl) T.tuple (by decide +kernel) (pa_cons (pv 1) pa_nil)) rfl)
  (pss_cons (ps_fld (pv 0) (pe_callTy call_tuple_of (by rfl) T.tuple (by decide +kernel) (pa_cons (pe_callB SB.cr_sortedTS (by rfl) T.sorted (by decide +kernel) (pa_cons (pv 2) pa_nil)) pa_nil)) rfl)
  (pss_cons (ps_if (PW.pt (pw_or (pt_not (pt_chain op_le op_le pe_int (pe_callB call_len_seq (by rfl) T.len (by decide +kernel) (pa_cons (pe_fld (pv 0) rfl) pa_nil)) (pe_glob (v := V.int 5) (by rfl) mt ⟨_, rfl⟩))) (pw_or1 (pt_val (pe_callB (cr_any rfl) (by rfl) T.any (by decide +kernel) (pa_cons (pe_lc (own := [("entry", 3)]) (g := gName 3) rfl sc_Taking_init.nd (pi_tup (pe_fld (pv 0) rfl)) (blkOk_by (own := [("entry", 3)]) (N := N_Taking_init) (sc := defScope s_Taking_init) (by decide +kernel)) (fun _ _ _ _ _ => (pg_name (i := 3) sc_Taking_init.nd rfl (Or.inl rfl))) (fun _ _ _ _ _ => pts_nil) (fun _ _ _ _ _ => (pe_not (pe_chain op_le op_le pe_int (pv 3) (pe_glob (v := V.int 5) (by rfl) mt ⟨_, rfl⟩))))) pa_nil))))))
    (pss_one ps_never)
    pss_nil)
  (pss_one (ps_if (PW.pt (pw_or (pt_val (pe_callB (cr_any rfl) (by rfl) T.any (by decide +kernel) (pa_cons (pe_lc (own := [("rule", 4)]) (g := gName 4) rfl sc_Taking_init.nd (pi_tup (pv 2)) (blkOk_by (own := [("rule", 4)]) (N := N_Taking_init) (sc := defScope s_Taking_init) (by decide +kernel)) (fun _ _ _ _ _ => (pg_name (i := 4) sc_Taking_init.nd rfl (Or.inl rfl))) (fun _ _ _ _ _ => pts_nil) (fun _ _ _ _ _ => (pe_cmpR (op_notInB (K := K)) (pv 4) (pe_glob (v := V.ref rla) (by rfl) mrl rfl) (by rfl)))) pa_nil))) (pw_or1 (pt_cmpR op_lt (SB.pe_lenSetT rfl (by rfl) T.len (by rfl) T.set (pv 2)) (pe_callB call_len_seq (by rfl) T.len (by decide +kernel) (pa_cons (pv 2) pa_nil)) (nomark _)))))
    (pss_one ps_never)
    pss_nil))))), ?_⟩
  refine ⟨_, rfl, l, _, rfl, .inl ⟨SqL.of hl, fun lp hlp => ?_⟩⟩
  have n1 : a ≠ lp := ne_of_none ha hlp
  refine ⟨_, rfl, a, CT, dx, [], rfl, by rw [upd_ne n1]; exact ha, cf.clT, cf.nTl, by show 0 < 1000; omega, ?_⟩
  rw [putF0]
  obtain ⟨H1, e1⟩ : ∃ H1, H1 = upd (upd H lp (.tup (least.map V.int))) a (.ins CT dx [(("least" : Str), .ref lp)]) := ⟨_, rfl⟩
  rw [← e1]
  have k1 : ∀ b u, b ≠ a → H b = some u → H1 b = some u := fun b u hb e => by rw [e1, upd_ne hb, upd_ne (ne_of_none e hlp)]; exact e
  have ha1 : H1 a = some (.ins CT dx [(("least" : Str), .ref lp)]) := by rw [e1]; exact upd_same
  have hl1 : H1 lp = some (.tup (least.map V.int)) := by rw [e1, upd_ne (fun z => n1 z.symm)]; exact upd_same
  have npa : p ≠ a := fun z => by rw [z, ha] at hp; cases hp
  have hp1 := k1 _ _ npa hp
  clear e1
  -- self.rules = tuple(sorted(rules))
  refine ⟨_, rfl, p, rules, rfl, SqT.of hp1, by omega, fun rules' q hpm hso hq => ?_⟩
  refine ⟨q, _, rfl, .inl ⟨SqL.of upd_same, fun rp hrp => ?_⟩⟩
  have nq : a ≠ q := ne_of_none ha1 hq
  have s2 : Same H1 (upd H1 q (.lst (rules'.map V.str))) := fun b u e => by rw [upd_ne (ne_of_none e hq)]; exact e
  generalize upd H1 q (.lst (rules'.map V.str)) = H2 at *
  have ha2 := s2 _ _ ha1
  have nr : a ≠ rp := ne_of_none ha2 hrp
  refine ⟨_, rfl, a, CT, dx, _, rfl, by rw [upd_ne nr]; exact ha2, cf.clT, cf.nTr, by show 1 < 1000; omega, ?_⟩
  rw [putF1 nl_lr]
  obtain ⟨H3, e3⟩ : ∃ H3, H3 = upd (upd H2 rp (.tup (rules'.map V.str))) a (.ins CT dx [(("least" : Str), .ref lp), (("rules" : Str), .ref rp)]) := ⟨_, rfl⟩
  rw [← e3]
  have k3 : ∀ b u, b ≠ a → H1 b = some u → H3 b = some u := fun b u hb e => by rw [e3, upd_ne hb, upd_ne (ne_of_none (s2 _ _ e) hrp)]; exact s2 _ _ e
  have ha3 : H3 a = some (.ins CT dx [(("least" : Str), .ref lp), (("rules" : Str), .ref rp)]) := by rw [e3]; exact upd_same
  have hl3 := k3 _ _ (fun z => n1 z.symm) hl1
  have hr3 : H3 rp = some (.tup (rules'.map V.str)) := by rw [e3, upd_ne (fun z => nr z.symm)]; exact upd_same
  have hp3 := k3 _ _ npa hp1
  have kk3 : ∀ b u, b ≠ a → H b = some u → H3 b = some u := fun b u hb e => k3 _ _ hb (k1 _ _ hb e)
  clear e3
  -- the first test
  refine ⟨_, rfl, a, CT, dx, _, _, rfl, ha3, cf.clT, cf.nTl, lk_a, lp, _, rfl, .inr (SqT.of hl3), _, _, rfl, rfl, _, rfl, ?_⟩
  have elen : (least.map V.int).length = least.length := List.length_map ..
  rw [elen]
  have hl1' := ti.l1
  have hl5' := ti.l5
  have d1 : decide ((1 : Int) ≤ ((least.length : Nat) : Int)) = true := decide_eq_true (by omega)
  rw [d1]
  refine iteT ?_
  refine ⟨_, _, rfl, rfl, _, rfl, ?_⟩
  have d2 : decide (((least.length : Nat) : Int) ≤ 5) = true := decide_eq_true (by omega)
  dsimp only
  rw [d2]
  refine iteF ?_
  refine ⟨_, rfl, a, CT, dx, _, _, rfl, ha3, cf.clT, cf.nTl, lk_a, lp, rfl, ⟨_, SqT.of hl3⟩, fun D hD => ?_⟩
  refine it_tup (K := K) (a := lp) (xs := least.map V.int) (fun j H' => ∃ B, Same H3 B ∧ Own B H' [(D, .lst (((least.take j).map fun _ => false).map V.bl))])
    ⟨H3, Same.refl _, (Own.start H3).new (o := .lst []) hD rfl⟩ ?_ ?_ ?_
  · rintro j H' _ ⟨B, sB, O⟩
    exact SqT.of (O.sub _ _ (sB _ _ hl3))
  · rintro j x H4 hx ⟨B, sB, O⟩
    rw [List.getElem?_map] at hx
    cases he : least[j]? with
    | none => rw [he] at hx; cases hx
    | some e =>
      rw [he] at hx
      cases hx
      have hjl := (List.getElem?_eq_some_iff.mp he).1
      obtain ⟨b0, b5⟩ := ti.bd e (List.mem_of_getElem? he)
      refine ⟨rfl, ?_⟩
      refine yes_t ?_
      have c1 : decide ((0 : Int) ≤ e) = true := decide_eq_true b0
      have c2 : decide (e ≤ (5 : Int)) = true := decide_eq_true b5
      refine ⟨_, rfl, _, _, rfl, rfl, _, rfl, ?_⟩
      rw [c1]
      refine iteT ?_
      refine ⟨_, _, rfl, rfl, ?_⟩
      dsimp only
      rw [c2]
      refine ⟨_, rfl, _, O.get 0 rfl, by rw [sz, List.length_map, List.length_map, List.length_take]; omega, B, sB, ?_⟩
      rw [take_succ_of he, List.map_append, List.map_append]
      exact O.put 0 rfl rfl
  rintro H4 ⟨B4, sB4, O4⟩
  rw [List.length_map, List.take_length] at O4
  have sH4 := sB4.trans O4.sub
  have hany : ∀ l : List Int, ((l.map fun _ => false).any id) = false := fun l => by rw [List.any_map, List.any_eq_false]; intro x _; exact Bool.false_ne_true
  refine ⟨D, _, rfl, SqL.of (O4.get 0 rfl), _, rfl, ?_⟩
  rw [hany]
  refine iteF ?_
  -- the second test
  have hp4 := sH4 _ _ hp3
  refine ⟨_, rfl, p, rfl, ⟨_, SqT.of hp4⟩, fun D2 hD2 => ?_⟩
  refine it_tup (K := K) (a := p) (xs := rules.map V.str) (fun j H' => ∃ B, Same H4 B ∧ Own B H' [(D2, .lst (((rules.take j).map fun _ => false).map V.bl))])
    ⟨H4, Same.refl _, (Own.start H4).new (o := .lst []) hD2 rfl⟩ ?_ ?_ ?_
  · rintro j H' _ ⟨B, sB, O⟩
    exact SqT.of (O.sub _ _ (sB _ _ hp4))
  · rintro j x H5 hx ⟨B, sB, O⟩
    rw [List.getElem?_map] at hx
    cases he : rules[j]? with
    | none => rw [he] at hx; cases hx
    | some e =>
      rw [he] at hx
      cases hx
      have hjl := (List.getElem?_eq_some_iff.mp he).1
      have hok := ti.ok e (List.mem_of_getElem? he)
      refine ⟨rfl, ?_⟩
      refine yes_t ?_
      have c1 : inV (.str e) ([("again" : Str), "any", "half"].map V.str) = true := by rw [inV_strs]; exact decide_eq_true hok
      refine ⟨_, rfl, rla, _, rfl, .inr (sqr _), rfl, flat_strs _, ?_⟩
      rw [c1]
      refine ⟨_, O.get 0 rfl, by rw [sz, List.length_map, List.length_map, List.length_take]; omega, B, sB, ?_⟩
      rw [take_succ_of he, List.map_append, List.map_append]
      exact O.put 0 rfl rfl
  rintro H5 ⟨B5, sB5, O5⟩
  rw [List.length_map, List.take_length] at O5
  have sH5 := sB5.trans O5.sub
  have hany2 : ∀ l : List Str, ((l.map fun _ => false).any id) = false := fun l => by rw [List.any_map, List.any_eq_false]; intro x _; exact Bool.false_ne_true
  refine ⟨D2, _, rfl, SqL.of (O5.get 0 rfl), _, rfl, ?_⟩
  rw [hany2]
  refine iteF ?_
  have hp5 := sH5 _ _ hp4
  refine ⟨_, rfl, p, rules, rfl, SqT.of hp5, ti.nd, by omega, _, rfl, p, _, rfl, .inr (SqT.of hp5), _, _, rfl, rfl, _, rfl, ?_⟩
  have d3 : decide (((rules.length : Nat) : Int) < (((rules.map V.str).length : Nat) : Int)) = false := decide_eq_false (by rw [List.length_map]; omega)
  dsimp only
  rw [d3]
  refine iteF ?_
  have sE := sH4.trans sH5
  exact k _ lp rp rules' (fun b u hb e => sE _ _ (kk3 _ _ hb e)) (sE _ _ ha3) (sE _ _ hl3) (sE _ _ hr3) hpm
def spIniT (CT : Addr) : Sp := fun vs H Q _ => ∃ (a l dx : Addr) (least : List Int) (rules : List Str), vs = [.ref a, .ref l] ++ rules.map V.str ∧ H a = some (.ins CT dx []) ∧ H l = some (.lst (least.map V.int)) ∧ TakIn least rules ∧
  ∀ (H' : Hp) (lp rp : Addr) (rules' : List Str), (∀ b u, b ≠ a → H b = some u → H' b = some u) → H' a = some (.ins CT dx [(("least" : Str), .ref lp), (("rules" : Str), .ref rp)]) → H' lp = some (.tup (least.map V.int)) → H' rp = some (.tup (rules'.map V.str)) → rules'.Perm rules → Q .non H'
theorem ok_iniT {CT CH : Addr} (cf : CF K CT CH) (C : Con K mg) (T : Blt mg) {f : Addr} {fd : FuncData} (F : Fun K "__init__" "Taking.__init__" s_Taking_init f fd) : FnR P w K mg base CX0 1 f (spIniT CT) := by
  obtain ⟨oc, od, kV, doc, pm, an, cdv, ct, osl, rfl, lk, hcd⟩ := F.ex
  have S : FnScope N_Taking_init (([("self" : Str), "least"] : List Str) ++ [("rules" : Str)]) (defScope s_Taking_init) := sc_Taking_init
  have R := StX.fn_star (P := P) (w := w) (K := K) (mg := mg) (base := base) (CX := CX0) (k := 0) (pv := "rules") (ps := ["self", "least"]) (sp := spTakB CT) lk hcd S StX.cxUp_none (fun us rest hl => StX.bind_star2 (B := fun us => bindArgs (PySem.W.fnOf "__init__" "Taking.__init__" (defArgs s_Taking_init) (defBody s_Taking_init) (defScope s_Taking_init) .none kV doc pm an cdv ct) ⟨us, []⟩) (fun _ _ => rfl) (fun _ _ _ _ => rfl) us rest hl) (fun A outer s H vs Q E hr h => by
    obtain ⟨t, ht, q⟩ := ok_takB (P := P) (w := w) (base := base) (outer := outer) cf C T hr h
    exact ⟨t, ht.nox, q⟩)
  intro A outer s H us vs Q E hr e0 r h
  refine R A outer s H us vs Q E hr e0 r ?_
  obtain ⟨a, l, dx, least, rules, rfl, ha, hl, ti, k⟩ := h
  have sz : sizeLine = 16777216 := sizeLine_eq
  have rl3 : rules.length ≤ 3 := Gr.len_le_of_sub ti.nd (m := [("again" : Str), "any", "half"]) ti.ok
  refine ⟨[.ref a, .ref l], rules.map V.str, rfl, rfl, by rw [sz, List.length_map]; omega, fun p hp => ?_⟩
  have s1 : Same H (upd H p (.tup (rules.map V.str))) := fun b u e => by rw [upd_ne (ne_of_none e hp)]; exact e
  exact ⟨a, l, p, dx, least, rules, rfl, s1 _ _ ha, s1 _ _ hl, upd_same, ti, fun H' lp rp rules' h1 h2 h3 h4 h5 => k H' lp rp rules' (fun b u hb e => h1 b u hb (s1 _ _ e)) h2 h3 h4 h5⟩
end
end ND
end
section
set_option Elab.async false
set_option linter.all false
set_option maxRecDepth 100000
set_option maxHeartbeats 4000000
namespace ND
open PySem L2
open PyProof.Rows (envOfC)
open PH
/-! ### Hall.__init__, Settled.__bool__ -/
def spIniH (CT CH : Addr) : Sp := fun vs H Q _ => ∃ (a L tv dx : Addr) (qvs : List V) (t : Tk) (q0 : List (List Int)) (c n : Nat), vs = [.ref a, .ref L, .ref tv] ∧ H a = some (.ins CH dx []) ∧ H L = some (.lst qvs) ∧ Rows H qvs q0 ∧ TakingAt CT H tv t ∧
  HV c n (q0, List.replicate c (-1)) ∧ 1 ≤ c ∧ c ≤ 3 ∧ n ≤ 5 ∧ ∀ H', (∀ b u, b ≠ a → H b = some u → H' b = some u) → HallAt CT CH H' a t q0 c n → Q .non H'
theorem lk_1st {a : Str} {v : V} {r : List (Str × V)} : ((a, v) :: r).lookup a = some v := by simp [List.lookup]
theorem sorted_range {ns : List Int} {n : Nat} (h : ns.Pairwise (· ≤ ·)) (p : ns.Perm ((List.range n).map Int.ofNat)) : ns = (List.range n).map Int.ofNat := by
  refine List.Perm.eq_of_pairwise (le := (· ≤ ·)) (fun a b _ _ h1 h2 => Int.le_antisymm h1 h2) h ?_ p
  rw [List.pairwise_map]
  exact List.pairwise_lt_range.imp fun {a b} h => by show (a : Int) ≤ (b : Int); omega
section
variable {P : Program} {w : World} {K : PySem.W.Frag} {mg : Str → Option Value} {base : Heap}
theorem ok_iniH {CT CH : Addr} (cf : CF K CT CH) (C : Con K mg) (T : Blt mg) {f : Addr} {fd : FuncData} (F : Fun K "__init__" "Hall.__init__" s_Hall_init f fd) : FnOk P w K mg base CX0 1 f fd P_Hall_init (spIniH CT CH) := by
  refine F.ok sc_Hall_init (fun vs H Q E h => ?_) (fun cdv A outer s H vs Q E hr h => ?_)
  · obtain ⟨a, L, tv, dx, qvs, t, q0, c, n, rfl, _⟩ := h
    rfl
  · obtain ⟨a, L, tv, dx, qvs, t, q0, c, n, rfl, ha, hL, R, hT, hv, c1, c3, n5, k⟩ := h
    have sz : sizeLine = 16777216 := sizeLine_eq
    obtain ⟨_, mt⟩ := C.mt
    obtain ⟨_, mq⟩ := C.mq
    have hq0 : q0.length = c := hv.ql
    refine ⟨_, (pss_cons (ps_fld (pv 0) (pe_callTy call_tuple_of (by rfl) T.tuple (by decide +kernel) (pa_cons (pe_lc (own := [("queue", 4)]) (g := gName 4) rfl sc_Hall_init.nd (pi_list (pv 1)) (blkOk_by (own := [("queue", 4)]) (N := N_Hall_init) (sc := defScope s_Hall_init) (by decide +kernel)) (fun _ _ _ _ _ => (pg_name (i := 4) sc_Hall_init.nd rfl (Or.inl rfl))) (fun _ _ _ _ _ => pts_nil) (fun _ _ _ _ _ => (pe_callTy (call_tupB (K := K)) (by rfl) T.tuple (by decide +kernel) (pa_cons (pv 4) pa_nil)))) pa_nil)) rfl)
  (pss_cons (ps_fld (pv 0) (pv 2) rfl)
  (pss_cons (ps_set (i := 3) sc_Hall_init.nd rfl (Or.inl rfl) (pe_callB cr_sorted (by rfl) T.sorted (by decide +kernel) (pa_cons (pe_lc2 (own := [("queue", 4), ("task", 5)]) (g := gName 4) (vs1 := [5]) (g1 := gName 5) rfl sc_Hall_init.nd (pi_tup (pe_fld (pv 0) rfl)) (blkOk_by (own := [("queue", 4), ("task", 5)]) (N := N_Hall_init) (sc := defScope s_Hall_init) (by decide +kernel)) (by decide) (fun _ _ _ _ _ => (pg_name (i := 4) sc_Hall_init.nd rfl (Or.inl rfl))) (fun _ _ _ _ _ => pts_nil) (fun _ _ _ _ _ => (pi_tupB (K := K) (pv 4))) (fun _ _ _ _ _ => (pg_name (i := 5) sc_Hall_init.nd rfl (Or.inl rfl))) (fun _ _ _ _ _ => pts_nil) (fun _ _ _ _ _ => (pv 5))) pa_nil)))
  (pss_cons (ps_if (pt_not (pt_chain op_le op_le pe_int (pe_callB call_len_seq (by rfl) T.len (by decide +kernel) (pa_cons (pe_fld (pv 0) rfl) pa_nil)) (pe_glob (v := V.int 3) (by rfl) mq ⟨_, rfl⟩)))
    (pss_one ps_never)
    pss_nil)
  (pss_one (ps_if (PW.pt (pw_or (pt_cmpR op_gt (pe_callB call_len_seq (by rfl) T.len (by decide +kernel) (pa_cons (pv 3) pa_nil)) (pe_glob (v := V.int 5) (by rfl) mt ⟨_, rfl⟩) (nomark _)) (pw_or1 (pt_cmpR (op_neD hr.units) (pv 3) (pe_listRg rfl (by rfl) T.list (prg_1 (by rfl) T.range (pe_callB call_len_seq (by rfl) T.len (by decide +kernel) (pa_cons (pv 3) pa_nil)))) (nomark _)))))
    (pss_one ps_never)
    pss_nil)))))), ?_⟩
    refine ⟨_, rfl, L, rfl, ⟨_, SqL.of hL⟩, fun D hD => ?_⟩
    refine it_list (K := K) (a := L) (xs := qvs) (fun j H' => ∃ (B : Hp) (tvs : List V), Same H B ∧ Own B H' [(D, .lst tvs)] ∧ Rps B ((q0.take j).map fun q => .tup (q.map .num)) tvs)
      ⟨H, [], Same.refl _, (Own.start H).new (o := .lst []) hD rfl, by rw [List.take_zero]; exact .nil⟩ ?_ ?_ ?_
    · rintro j H' _ ⟨B, tvs, sB, O, _⟩
      exact SqL.of (O.sub _ _ (sB _ _ hL))
    · rintro j x H1 hx ⟨B, tvs, sB, O, Rt⟩
      have hjl : j < q0.length := by rw [← R.len]; exact (List.getElem?_eq_some_iff.mp hx).1
      obtain ⟨aj, haj, hqj⟩ := R.row j hjl
      rw [haj] at hx
      cases hx
      refine ⟨rfl, ?_⟩
      refine yes_t ?_
      refine ⟨_, rfl, aj, _, rfl, .inl ⟨SqL.of (O.sub _ _ (sB _ _ hqj)), fun l hl => ?_⟩⟩
      obtain ⟨B', sB', hl', O'⟩ := O.fz (o := .tup ((q0.getD j []).map V.int)) hl
      refine ⟨_, O'.get 0 rfl, ?_, B', tvs ++ [.ref l], sB.trans sB', O'.put 0 rfl rfl, ?_⟩
      · have := Rt.length
        rw [List.length_map, List.length_take] at this
        rw [sz]; omega
      have et : q0.take (j + 1) = q0.take j ++ [q0.getD j []] := take_succ_of (by rw [List.getD_eq_getElem?_getD, List.getElem?_eq_getElem hjl]; rfl)
      rw [et, List.map_append]
      refine Rps.snoc (Rt.keep (Same.tups sB')) ?_
      exact rp_tup hl' (Rps.nums _)
    rintro H1 ⟨B1, tvs, sB1, O1, R1⟩
    rw [R.len, List.take_length] at R1
    refine ⟨D, _, rfl, .inl ⟨SqL.of (O1.get 0 rfl), fun qp hqp => ?_⟩⟩
    have sH1 := sB1.trans O1.sub
    have s2 : Same H1 (upd H1 qp (.tup tvs)) := fun b u e => by rw [upd_ne (ne_of_none e hqp)]; exact e
    have hqp' : upd H1 qp (.tup tvs) qp = some (.tup tvs) := upd_same
    generalize upd H1 qp (.tup tvs) = H2 at *
    have sH2 := sH1.trans s2
    have ha2 := sH2 _ _ ha
    refine ⟨_, rfl, a, CH, dx, [], rfl, ha2, cf.clH, cf.nHq, by show 0 < 1000; omega, ?_⟩
    rw [putF0]
    refine ⟨_, rfl, _, rfl, a, CH, dx, _, rfl, upd_same, cf.clH, cf.nHt, by show 1 < 1000; omega, ?_⟩
    rw [putF1 nl_qt]
    obtain ⟨H3, e3⟩ : ∃ H3, H3 = upd (upd H2 a (.ins CH dx [(("queues" : Str), .ref qp)])) a (.ins CH dx [(("queues" : Str), .ref qp), (("taking" : Str), .ref tv)]) := ⟨_, rfl⟩
    rw [← e3]
    have k3 : ∀ b u, b ≠ a → H2 b = some u → H3 b = some u := fun b u hb e => by rw [e3, upd_ne hb, upd_ne hb]; exact e
    have ha3 : H3 a = some (.ins CH dx [(("queues" : Str), .ref qp), (("taking" : Str), .ref tv)]) := by rw [e3]; exact upd_same
    have tup3 : Tups H2 H3 := fun b xs e => k3 _ _ (fun z => by rw [z, ha2] at e; cases e) e
    clear e3
    have R3 := (R1.keep (O1.tups.trans (Same.tups s2))).keep tup3
    have hqp3 := tup3 _ _ hqp'
    have ht3 : TakingAt CT H3 tv t := by
      obtain ⟨dxT, lp, rp, rules, g1, g2, g3, g4⟩ := hT.ex
      refine ⟨⟨dxT, lp, rp, rules, k3 _ _ (fun z => ?_) (sH2 _ _ g1), tup3 _ _ (sH2 _ _ g2), tup3 _ _ (sH2 _ _ g3), g4⟩, hT.ok⟩
      rw [z, ha] at g1; cases g1
    have fin : ∀ H', Same H3 H' → Q .non H' := fun H' s' => by
      refine k H' (fun b u hb e => s' _ _ (k3 _ _ hb (sH2 _ _ e))) ⟨⟨dx, .ref qp, tv, s' _ _ ha3, (rp_tup hqp3 R3).keep (Same.tups s'), ht3.same s'⟩, hv, c1, c3, n5⟩
    -- tasks = sorted(..)
    obtain ⟨tvs', hq3, rq3⟩ : ∃ vs, H3 qp = some (.tup vs) ∧ Rps H3 (q0.map fun q => .tup (q.map .num)) vs := ⟨tvs, hqp3, R3⟩
    have hflat : q0.flatten.length = n := by rw [hv.pm.length_eq]; simp
    have htl : ∀ j, (q0.take j).flatten.length ≤ 5 := fun j => by
      have h1 : (q0.take j).flatten.length + (q0.drop j).flatten.length = q0.flatten.length := by
        rw [← List.length_append, ← List.flatten_append, List.take_append_drop]
      omega
    have hql5 : ∀ j, (q0.getD j []).length ≤ 5 := fun j => Nat.le_trans (qlen_le hv j) n5
    refine ⟨_, rfl, a, CH, dx, _, _, rfl, ha3, cf.clH, cf.nHq, lk_a, qp, rfl, ⟨_, SqT.of hqp3⟩, fun D2 hD2 => ?_⟩
    refine it_tup (K := K) (a := qp) (xs := tvs) (fun j H' => ∃ B, Same H3 B ∧ Own B H' [(D2, .lst ((q0.take j).flatten.map V.int))])
      ⟨H3, Same.refl _, (Own.start H3).new (o := .lst []) hD2 rfl⟩ ?_ ?_ ?_
    · rintro j H' _ ⟨B, sB, O⟩
      exact SqT.of (O.sub _ _ (sB _ _ hqp3))
    · rintro j x H4 hx ⟨B, sB, O⟩
      obtain ⟨key, hkey, rx⟩ := R3.geti hx
      rw [List.getElem?_map] at hkey
      cases hq : q0[j]? with
      | none => rw [hq] at hkey; cases hkey
      | some qj =>
        rw [hq] at hkey
        cases hkey
        obtain ⟨ta, ws, rfl, hta, rws⟩ := rx.tupD
        have := rws.ofNums
        subst this
        have eqj : q0.getD j [] = qj := by rw [List.getD_eq_getElem?_getD, hq]; rfl
        refine ⟨rfl, ?_⟩
        refine yes_t ?_
        have hta4 := O.sub _ _ (sB _ _ hta)
        refine ⟨_, rfl, ta, rfl, ⟨_, SqT.of hta4⟩, ?_⟩
        refine it_tup (K := K) (a := ta) (xs := qj.map V.int) (fun m H' => ∃ B, Same H3 B ∧ Own B H' [(D2, .lst (((q0.take j).flatten ++ qj.take m).map V.int))])
          ⟨B, sB, by rw [List.take_zero, List.append_nil]; exact O⟩ ?_ ?_ ?_
        · rintro m H' _ ⟨B, sB, O⟩
          exact SqT.of (O.sub _ _ (sB _ _ hta))
        · rintro m x H5 hx5 ⟨B, sB, O⟩
          rw [List.getElem?_map] at hx5
          cases he : qj[m]? with
          | none => rw [he] at hx5; cases hx5
          | some e =>
            rw [he] at hx5
            cases hx5
            refine ⟨rfl, ?_⟩
            refine yes_t ?_
            refine ⟨_, rfl, _, O.get 0 rfl, ?_, B, sB, ?_⟩
            · have h1 := htl j
              have h2 := hql5 j
              rw [eqj] at h2
              rw [sz, List.length_map, List.length_append, List.length_take]; omega
            · have ea : ((q0.take j).flatten ++ qj.take (m + 1)).map V.int = ((q0.take j).flatten ++ qj.take m).map V.int ++ [V.int e] := by
                rw [take_succ_of he]; simp
              rw [ea]
              exact O.put 0 rfl rfl
        · rintro H5 ⟨B, sB, O⟩
          refine ⟨B, sB, ?_⟩
          rw [List.length_map, List.take_length] at O
          rw [take_succ_of hq, List.flatten_append]
          simpa using O
    rintro H4 ⟨B4, sB4, O4⟩
    rw [R3.length, List.length_map, List.take_length] at O4
    have sH4 := sB4.trans O4.sub
    refine ⟨D2, q0.flatten, rfl, SqL.of (O4.get 0 rfl), by omega, fun ns' tp hpm hso htp => ?_⟩
    have en : ns' = (List.range n).map Int.ofNat := sorted_range hso (hpm.trans hv.pm)
    have hnl : ns'.length = n := by rw [en]; simp
    have s5 : Same H4 (upd H4 tp (.lst (ns'.map V.int))) := fun b u e => by rw [upd_ne (ne_of_none e htp)]; exact e
    have htp' : upd H4 tp (.lst (ns'.map V.int)) tp = some (.lst (ns'.map V.int)) := upd_same
    generalize upd H4 tp (.lst (ns'.map V.int)) = H5 at *
    have sH5 := sH4.trans s5
    -- the tests
    have hqp5 := sH5 _ _ hqp3
    have tl : tvs.length = c := by rw [R3.length, List.length_map]; exact hq0
    refine ⟨_, rfl, a, CH, dx, _, _, rfl, sH5 _ _ ha3, cf.clH, cf.nHq, lk_a, qp, _, rfl, .inr (SqT.of hqp5), _, _, rfl, rfl, _, rfl, ?_⟩
    rw [tl]
    have d1 : decide ((1 : Int) ≤ ((c : Nat) : Int)) = true := decide_eq_true (by omega)
    rw [d1]
    refine iteT ?_
    refine ⟨_, _, rfl, rfl, _, rfl, ?_⟩
    have d2 : decide (((c : Nat) : Int) ≤ 3) = true := decide_eq_true (by omega)
    dsimp only
    rw [d2]
    refine iteF ?_
    refine ⟨_, rfl, tp, _, rfl, .inl (SqL.of htp'), _, _, rfl, rfl, _, rfl, ?_⟩
    have d3 : decide ((5 : Int) < (((ns'.map V.int).length : Nat) : Int)) = false := decide_eq_false (by rw [List.length_map]; omega)
    dsimp only
    rw [d3]
    refine iteF ?_
    refine ⟨_, rfl, _, rfl, tp, _, rfl, .inl (SqL.of htp'), _, rfl, ?_⟩
    rw [List.length_map, hnl]
    refine ⟨RgOk.of_le (Int.le_refl 0) (by omega) (by omega) (by omega), fun rp hrp => ?_⟩
    have s6 : Same H5 (upd H5 rp (.lst (rgV 0 ((n : Nat) : Int)))) := fun b u e => by rw [upd_ne (ne_of_none e hrp)]; exact e
    have hrp' : upd H5 rp (.lst (rgV 0 ((n : Nat) : Int))) rp = some (.lst (ns'.map V.int)) := by
      rw [upd_same, en]
      unfold rgV
      rw [List.map_map]
      congr 2
      have : (((n : Nat) : Int) - 0).toNat = n := by omega
      rw [this]
      refine List.map_congr_left fun i _ => ?_
      show V.int (0 + (i : Int)) = V.int (Int.ofNat i)
      rw [Int.zero_add]; rfl
    generalize upd H5 rp (.lst (rgV 0 ((n : Nat) : Int))) = H6 at *
    refine neD_ints (SqL.of (s6 _ _ htp')) (SqL.of hrp') ?_
    refine ⟨_, rfl, ?_⟩
    refine iteF ?_
    exact fin _ (sH5.trans s6)
theorem ok_boolS {CW CP CS : Addr} (cg : CG K CW CP CS) (T : Blt mg) {f : Addr} {fd : FuncData} (F : Fun K "__bool__" "Settled.__bool__" s_Settled_bool f fd) :
    FnOk P w K mg base CX0 1 f fd P_Settled_bool (fun vs H Q _ => ∃ a dx x y z, vs = [.ref a] ∧ H a = some (.ins CS dx [(("numbers" : Str), x), (("lead" : Str), y), (("loop" : Str), z)]) ∧ Q (.bl (!decide (x = .non))) H) := by
  refine F.ok sc_Settled_bool (fun vs H Q E h => ?_) (fun cdv A outer s H vs Q E hr h => ?_)
  · obtain ⟨a, dx, x, y, z, rfl, _⟩ := h
    rfl
  · obtain ⟨a, dx, x, y, z, rfl, ha, k⟩ := h
    refine ⟨_, (pss_one (ps_ret (pe_cmp (pc_notN (pe_fld (pv 0) rfl)) rfl))), ?_⟩
    exact ⟨_, rfl, a, CS, dx, _, _, rfl, ha, cg.clS, cg.nSn, lk_1st, k⟩
end
end ND
end
section
set_option Elab.async false
set_option linter.all false
set_option maxRecDepth 100000
set_option maxHeartbeats 4000000
namespace ND
open PySem L2
open PyProof.Rows (envOfC)
open PH
/-! ### the law's plain facts -/
/-- what an act counts -/
def cntP (t : Tk) (task : Int) (p : HPos) (a : Nat × Int) : Int :=
  if task < 0 then (actedP t p a.1 a.2).2.2 else if (actedP t p a.1 a.2).2.1 ≠ task then passW task (actedP t p a.1 a.2).1 a.1 else 0
def sumP (t : Tk) (task : Int) (p : HPos) : List (Nat × Int) → Int
  | [] => 0
  | a :: r => cntP t task p a + sumP t task (actedP t p a.1 a.2).1 r
def NoRun (t : Tk) (task : Int) (p : HPos) : List (Nat × Int) → Prop
  | [] => True
  | a :: r => (0 ≤ task → (actedP t p a.1 a.2).2.1 ≠ task) ∧ NoRun t task (actedP t p a.1 a.2).1 r
theorem cntP_nn (t : Tk) (task : Int) (p : HPos) (a : Nat × Int) : 0 ≤ cntP t task p a := by
  unfold cntP
  split
  · exact (wasted_nn t p a.1 a.2).1
  · split
    · unfold passW; split <;> omega
    · omega
theorem sumP_nn (t : Tk) (task : Int) : ∀ (l : List (Nat × Int)) (p : HPos), 0 ≤ sumP t task p l
  | [], _ => Int.le_refl _
  | a :: r, p => by
    have h1 := cntP_nn t task p a
    have h2 := sumP_nn t task r (actedP t p a.1 a.2).1
    show 0 ≤ cntP t task p a + sumP t task _ r
    omega
theorem NoRun_app (t : Tk) (task : Int) : ∀ (l m : List (Nat × Int)) (p : HPos), NoRun t task p (l ++ m) ↔ NoRun t task p l ∧ NoRun t task (aftP t p l) m
  | [], m, p => ⟨fun h => ⟨True.intro, h⟩, fun h => h.2⟩
  | a :: r, m, p => by
    have ih := NoRun_app t task r m (actedP t p a.1 a.2).1
    exact ⟨fun h => ⟨⟨h.1, (ih.mp h.2).1⟩, (ih.mp h.2).2⟩, fun h => ⟨h.1.1, ih.mpr ⟨h.1.2, h.2⟩⟩⟩
/-- a loop behind a lead -/
structure RingOk (t : Tk) (p0 : HPos) (task : Int) (lead loop : List (Nat × Int)) : Prop where
  can : CanP t p0 (lead ++ loop)
  back : aftP t (aftP t p0 lead) loop = aftP t p0 lead
  cnt : 1 ≤ sumP t task (aftP t p0 lead) loop
  no : NoRun t task (aftP t p0 lead) loop
section
variable {c n : Nat} {t : Tk}
theorem wayW {p : HPos} (h : HV c n p) {ls : List NestedKey} {k : NestedKey} (x : Gr.Way (waysW t) (posK p) ls k) : ∃ as, ls = as.map labK ∧ CanP t p as ∧ k = posK (aftP t p as) := by
  induction x with
  | nil => exact ⟨[], rfl, True.intro, rfl⟩
  | snoc _ m ih =>
    obtain ⟨as, e1, e2, e3⟩ := ih
    rw [e3] at m
    obtain ⟨a, ha, e, _⟩ := waysW_next (HV.aft h e2) m
    cases e
    refine ⟨as ++ [a], by rw [e1, List.map_append]; rfl, (CanP_app t as [a] p).mpr ⟨e2, ha, True.intro⟩, ?_⟩
    rw [aftP_app]; rfl
theorem lab_ne (a : Nat × Int) : labK a ≠ .none := fun e => nomatch e
theorem labs_filter (as : List (Nat × Int)) : (as.map labK).filter (fun x => decide (x ≠ NestedKey.none)) = as.map labK := by
  rw [List.filter_eq_self]
  intro x hx
  obtain ⟨a, _, rfl⟩ := List.mem_map.mp hx
  exact decide_eq_true (lab_ne a)
theorem nodeP_inj {p q : HPos} {x y : Int} (h : nodeP p x = nodeP q y) : p = q ∧ x = y := by
  have := congrArg unP h
  rw [unP_nodeP, unP_nodeP] at this
  injection this with h1 h2
  exact ⟨h1, h2⟩
theorem wayP1 {task : Int} {p : HPos} (h : HV c n p) {ls : List NestedKey} {k : NestedKey} (x : Gr.Way (waysP t task) (nodeP p 1) ls k) :
    ∃ as, ls = as.map labK ∧ CanP t p as ∧ k = nodeP (aftP t p as) 1 ∧ (0 ≤ task → NoRun t task p as) := by
  induction x with
  | nil => exact ⟨[], rfl, True.intro, rfl, fun _ => True.intro⟩
  | snoc _ m ih =>
    obtain ⟨as, e1, e2, e3, e4⟩ := ih
    rw [e3] at m
    rcases waysP_next (HV.aft h e2) m with ⟨z, _⟩ | ⟨z, _⟩ | ⟨_, a, ha, hr, e, _⟩
    · exact absurd z (by decide)
    · exact absurd z (by decide)
    · cases e
      refine ⟨as ++ [a], by rw [e1, List.map_append]; rfl, (CanP_app t as [a] p).mpr ⟨e2, ha, True.intro⟩, by rw [aftP_app]; rfl, fun ht => (NoRun_app t task as [a] p).mpr ⟨e4 ht, fun _ => hr, True.intro⟩⟩
theorem wayP0 {task : Int} {p : HPos} (h : HV c n p) {ls : List NestedKey} {k : NestedKey} (x : Gr.Way (waysP t task) (nodeP p 0) ls k) :
    ∃ as ph, ls.filter (fun x => decide (x ≠ NestedKey.none)) = as.map labK ∧ CanP t p as ∧ k = nodeP (aftP t p as) ph := by
  induction x with
  | nil => exact ⟨[], 0, rfl, True.intro, rfl⟩
  | snoc _ m ih =>
    obtain ⟨as, ph, e1, e2, e3⟩ := ih
    rw [e3] at m
    rw [List.filter_append, e1]
    rcases waysP_next (HV.aft h e2) m with ⟨z, a, ha, e, _⟩ | ⟨z, e⟩ | ⟨_, a, ha, hr, e, _⟩
    · cases e
      exact ⟨as ++ [a], 0, by rw [List.map_append]; rfl, (CanP_app t as [a] p).mpr ⟨e2, ha, True.intro⟩, by rw [aftP_app]; rfl⟩
    · cases e
      exact ⟨as, 1, by show as.map labK ++ [] = _; rw [List.append_nil], e2, rfl⟩
    · cases e
      exact ⟨as ++ [a], 1, by rw [List.map_append]; rfl, (CanP_app t as [a] p).mpr ⟨e2, ha, True.intro⟩, by rw [aftP_app]; rfl⟩
theorem noRun_neg (t : Tk) {task : Int} (h : task < 0) : ∀ (l : List (Nat × Int)) (p : HPos), NoRun t task p l
  | [], _ => True.intro
  | a :: r, p => ⟨fun z => by omega, noRun_neg t h r _⟩
theorem ringW {p0 : HPos} (h : HV c n p0) {lead loop : List NestedKey} (g : Gr.HRing (waysW t) (posK p0) lead loop) : ∃ l1 l2, lead = l1.map labK ∧ loop = l2.map labK ∧ RingOk t p0 (-1) l1 l2 := by
  obtain ⟨u, v, w, l, ls, h1, m, hw, h2, rfl⟩ := g.ex
  obtain ⟨as, rfl, ca, rfl⟩ := wayW h h1
  have hu := HV.aft h ca
  obtain ⟨a, ha, e, hv⟩ := waysW_next hu m
  cases e
  obtain ⟨bs, rfl, cb, eb⟩ := wayW hv h2
  refine ⟨as, a :: bs, rfl, rfl, (CanP_app t as _ p0).mpr ⟨ca, ha, cb⟩, (posK_inj eb).symm, ?_, noRun_neg t (by decide) _ _⟩
  show 1 ≤ cntP t (-1) _ a + sumP t (-1) _ bs
  have := sumP_nn t (-1) bs (actedP t (aftP t p0 as) a.1 a.2).1
  have e : cntP t (-1) (aftP t p0 as) a = (actedP t (aftP t p0 as) a.1 a.2).2.2 := by unfold cntP; rw [if_pos (by decide)]
  omega
theorem ringP {task : Int} (ht : 0 ≤ task) {p0 : HPos} (h : HV c n p0) {lead loop : List NestedKey} (g : Gr.HRing (waysP t task) (nodeP p0 0) lead loop) :
    ∃ l1 l2, lead.filter (fun x => decide (x ≠ NestedKey.none)) = l1.map labK ∧ loop = l2.map labK ∧ RingOk t p0 task l1 l2 := by
  obtain ⟨u, v, w, l, ls, h1, m, hw, h2, rfl⟩ := g.ex
  obtain ⟨as, ph, e1, ca, rfl⟩ := wayP0 h h1
  have hu := HV.aft h ca
  rcases waysP_next hu m with ⟨_, a, ha, e, _⟩ | ⟨_, e⟩ | ⟨_, a, ha, hr, e, hv⟩
  · cases e; exact absurd hw (by decide)
  · cases e; exact absurd hw (by decide)
  · cases e
    obtain ⟨bs, rfl, cb, eb, nr⟩ := wayP1 hv h2
    refine ⟨as, a :: bs, e1, rfl, (CanP_app t as _ p0).mpr ⟨ca, ha, cb⟩, (nodeP_inj eb).1.symm, ?_, fun _ => hr, nr ht⟩
    show 1 ≤ cntP t task _ a + sumP t task _ bs
    have := sumP_nn t task bs (actedP t (aftP t p0 as) a.1 a.2).1
    have e : cntP t task (aftP t p0 as) a = passW task (actedP t (aftP t p0 as) a.1 a.2).1 a.1 := by
      unfold cntP; rw [if_neg (by omega), if_pos hr]
    omega
/-- numbers that bound what is counted -/
structure BndOk (t : Tk) (p0 : HPos) (task : Int) (f : HPos → Int) : Prop where
  nn : ∀ as, CanP t p0 as → 0 ≤ f (aftP t p0 as)
  st : ∀ as a, CanP t p0 as → a ∈ actsOf t (aftP t p0 as) → (0 ≤ task → (actedP t (aftP t p0 as) a.1 a.2).2.1 ≠ task) → cntP t task (aftP t p0 as) a + f (actedP t (aftP t p0 as) a.1 a.2).1 ≤ f (aftP t p0 as)
theorem way_of {p : HPos} : ∀ {as : List (Nat × Int)}, CanP t p as → Gr.Rch (waysW t) (posK p) (posK (aftP t p as)) := by
  intro as
  induction as generalizing p with
  | nil => intro _; exact Gr.Rch.refl _ _
  | cons a r ih =>
    rintro ⟨ha, hr⟩
    refine Gr.Rch.trans (Gr.Rch.edge ⟨labK a, (actedP t p a.1 a.2).2.2, ?_⟩) (ih hr)
    unfold waysW
    rw [unPos_posK]
    exact List.mem_map.mpr ⟨a, ha, rfl⟩
theorem way_ofP {task : Int} {p : HPos} : ∀ {as : List (Nat × Int)}, CanP t p as → Gr.Rch (waysP t task) (nodeP p 0) (nodeP (aftP t p as) 0) := by
  intro as
  induction as generalizing p with
  | nil => intro _; exact Gr.Rch.refl _ _
  | cons a r ih =>
    rintro ⟨ha, hr⟩
    refine Gr.Rch.trans (Gr.Rch.edge ⟨labK a, 0, ?_⟩) (ih hr)
    unfold waysP
    rw [unP_nodeP]
    dsimp only
    rw [if_pos rfl]
    exact List.mem_append_left _ (List.mem_map.mpr ⟨a, ha, rfl⟩)
theorem way_ofP1 {task : Int} {p : HPos} {as : List (Nat × Int)} (h : CanP t p as) : Gr.Rch (waysP t task) (nodeP p 0) (nodeP (aftP t p as) 1) := by
  refine Gr.Rch.trans (way_ofP h) (Gr.Rch.edge ⟨.none, 0, ?_⟩)
  unfold waysP
  rw [unP_nodeP]
  dsimp only
  rw [if_pos rfl]
  exact List.mem_append_right _ (by simp)
theorem bndW {p0 : HPos} {ks : List NestedKey} {f : NestedKey → Int} (mem : ∀ k, k ∈ ks ↔ Gr.Rch (waysW t) (posK p0) k) (hn : Gr.HNum (waysW t) ks f) : BndOk t p0 (-1) (fun p => f (posK p)) where
  nn := fun as h => hn.dom.nn _ ((mem _).mpr (way_of h))
  st := fun as a h ha _ => by
    have := hn.dom.st _ ((mem _).mpr (way_of h)) (labK a, posK (actedP t (aftP t p0 as) a.1 a.2).1, (actedP t (aftP t p0 as) a.1 a.2).2.2) (by
      unfold waysW
      rw [unPos_posK]
      exact List.mem_map.mpr ⟨a, ha, rfl⟩)
    have e : cntP t (-1) (aftP t p0 as) a = (actedP t (aftP t p0 as) a.1 a.2).2.2 := by unfold cntP; rw [if_pos (by decide)]
    rw [e]; exact this
theorem bndP {p0 : HPos} {task : Int} (ht : 0 ≤ task) {nodes : List NestedKey} {f : NestedKey → Int} (mem : ∀ k, k ∈ nodes ↔ Gr.Rch (waysP t task) (nodeP p0 0) k) (hn : Gr.HNum (waysP t task) nodes f) : BndOk t p0 task (fun p => f (nodeP p 1)) where
  nn := fun as h => hn.dom.nn _ ((mem _).mpr (way_ofP1 h))
  st := fun as a h ha hr => by
    have hr := hr ht
    have := hn.dom.st _ ((mem _).mpr (way_ofP1 h)) (labK a, nodeP (actedP t (aftP t p0 as) a.1 a.2).1 1, passW task (actedP t (aftP t p0 as) a.1 a.2).1 a.1) (by
      unfold waysP
      rw [unP_nodeP]
      dsimp only
      rw [if_neg (by decide)]
      exact List.mem_map.mpr ⟨a, List.mem_filter.mpr ⟨ha, decide_eq_true hr⟩, rfl⟩)
    have e : cntP t task (aftP t p0 as) a = passW task (actedP t (aftP t p0 as) a.1 a.2).1 a.1 := by unfold cntP; rw [if_neg (by omega), if_pos hr]
    rw [e]; exact this
/-! ### with the rule any and without -/
def setAny (t : Tk) (b : Bool) : Tk := { t with any_ := b }
theorem picks_sub (t : Tk) (p : HPos) (i : Nat) : ∀ k ∈ picksOf (setAny t false) p i, k ∈ picksOf (setAny t true) p i := by
  intro k hk
  unfold picksOf at hk ⊢
  split at hk
  · rename_i h; rw [if_pos h]; exact hk
  · rename_i h
    rw [if_neg h]
    have eo : othersOf (setAny t true) p.1 i = othersOf (setAny t false) p.1 i := rfl
    dsimp only at hk ⊢
    rw [eo]
    split at hk
    · rename_i h2; rw [if_pos h2]; exact hk
    · rename_i h2
      rw [if_neg h2]
      have e1 : (setAny t true).any_ = true := rfl
      rw [if_pos e1]
      have e2 : ¬ (setAny t false).any_ = true := Bool.false_ne_true
      rw [if_neg e2] at hk
      obtain ⟨o, ho, e⟩ := List.mem_map.mp hk
      exact List.mem_map.mpr ⟨o, (List.mem_filter.mp (List.mem_of_mem_take ho)).1, e⟩
theorem waysW_sub (t : Tk) (k : NestedKey) : ∀ x ∈ waysW (setAny t false) k, x ∈ waysW (setAny t true) k := by
  intro x hx
  unfold waysW at hx ⊢
  obtain ⟨a, ha, e⟩ := List.mem_map.mp hx
  obtain ⟨h1, h2⟩ := acts_mem.mp ha
  exact List.mem_map.mpr ⟨a, acts_mem.mpr ⟨h1, picks_sub t _ _ _ h2⟩, e⟩
theorem no_ring {p0 : HPos} {t : Tk} {ks : List NestedKey} {f : NestedKey → Int} (mem : ∀ k, k ∈ ks ↔ Gr.Rch (waysW (setAny t true)) (posK p0) k) (hn : Gr.HNum (waysW (setAny t true)) ks f) {lead loop : List NestedKey}
    (g : Gr.HRing (waysW (setAny t false)) (posK p0) lead loop) : False := by
  obtain ⟨u, v, w, l, ls, h1, m, hw, h2, _⟩ := g.ex
  have r1 : Gr.Rch (waysW (setAny t true)) (posK p0) u := ⟨_, h1.mono (fun k x hx => waysW_sub t k x hx)⟩
  have m1 := waysW_sub t u _ m
  have r2 : Gr.Rch (waysW (setAny t true)) v u := ⟨_, h2.mono (fun k x hx => waysW_sub t k x hx)⟩
  have hu := (mem u).mpr r1
  have hv := (mem v).mpr (r1.tail ⟨l, w, m1⟩)
  have e1 := hn.dom.st u hu _ m1
  have e2 := hn.dom.rch (fun u _ x hx => nnW u hx) (fun n hn' x hx => (mem _).mpr (((mem n).mp hn').tail ⟨x.1, x.2.2, hx⟩)) hv r2
  dsimp only at e1
  omega
theorem less_any {p0 : HPos} {t : Tk} {ks kf : List NestedKey} {g f : NestedKey → Int} (mem : ∀ k, k ∈ ks ↔ Gr.Rch (waysW (setAny t false)) (posK p0) k) (hn : Gr.HNum (waysW (setAny t false)) ks g)
    (memf : ∀ k, k ∈ kf ↔ Gr.Rch (waysW (setAny t true)) (posK p0) k) (hf : Gr.HNum (waysW (setAny t true)) kf f) : ∀ k ∈ ks, k ∈ kf ∧ g k ≤ f k := by
  have sub : ∀ k ∈ ks, k ∈ kf := fun k hk => by
    obtain ⟨ls, x⟩ := (mem k).mp hk
    exact (memf k).mpr ⟨ls, x.mono (fun k x hx => waysW_sub t k x hx)⟩
  refine fun k hk => ⟨sub k hk, hn.least f ⟨fun u hu => hf.dom.nn u (sub u hu), fun u hu x hx => hf.dom.st u (sub u hu) x (waysW_sub t u x hx)⟩ k hk⟩
end
end ND
end
section
set_option Elab.async false
set_option linter.all false
set_option maxRecDepth 100000
set_option maxHeartbeats 4000000
namespace ND
open PySem L2
open PyProof.Rows (envOfC)
open PH
/-! ### the law: cells, draws, small helpers -/
theorem kitx_of_dN {K : PySem.W.Frag} {w : World} {P : Program} {H : Hp} {h : Heap} {d : Addr} {xs : List (NestedKey × Addr × V)} (ok : HOk P w H h) (e : Rd H d (dN w d xs)) : ∃ o, h.get? d = some o ∧ o.cls = .type "dict" := by
  obtain ⟨_, _, _, us, o, es, ep, _, h1, h2, _⟩ := dN_phi ok e
  exact ⟨o, h1, h2.1⟩
section
variable {X : Cx} {K : PySem.W.Frag}
def rIsD (w : World) : List V → Hp → VK → Prop := fun xs H Q => ∃ d ys, xs = [.ref d, .ty "dict"] ∧ H d = some (dN w d ys) ∧ Q (.bl true) H
theorem call_isiD : CallR X (.builtin "isinstance") (rIsD X.w) := by
  intro pins s σ H xs us Q I r h
  obtain ⟨d, ys, rfl, hd, q⟩ := h
  obtain ⟨u1, u2, rfl, r1, r2⟩ := vals2 r
  cases (show u1 = Value.ref d from r1)
  have e2 : u2 = .type "dict" := (ClsV.ty "dict").eq r2
  subst e2
  exact PySem.W.kia_one (PySem.W.kitx_dict (K := X.K)) I.kIn (kitx_of_dN (K := X.K) I.hok (.inl hd)) (kit_ty (by decide +kernel)) (fun z => nomatch z) fun tk => ⟨.bl true, H, I.tok tk, rfl, q⟩
theorem call_isiB (hK : X.K = K := by rfl) : CallR X (.builtin "isinstance") (rIsi K) := by subst hK; exact call_isi
end
/-- the cell that is drawn from -/
def cellOf (ns : List Int) (i : Nat) : Int := ns.getD i 0
def spCell (K : PySem.W.Frag) : Sp := fun vs H Q _ => ∃ (a : Addr) (ns : List Int) (i : Nat), vs = [.ref a, .int ((i : Nat) : Int)] ∧ SqL K H a (ns.map V.int) ∧ Q (.int (cellOf ns i)) H
def spWhole : Sp := fun vs H Q _ => ∃ i : Int, vs = [.int i] ∧ Q (.bl true) H
def spMay : Sp := fun vs H Q _ => ∃ (a : Addr) (least : List Int) (own other : Nat), vs = [.ref a, .int ((own : Nat) : Int), .int ((other : Nat) : Int)] ∧ H a = some (.lst (least.map V.int)) ∧ Q (.bl (may least own other)) H
def spDraws (K : PySem.W.Frag) : Sp := fun vs H Q _ => ∃ (a : Addr) (ns : List Int) (i m : Nat), vs = [.ref a, .int ((i : Nat) : Int), .int ((m : Nat) : Int)] ∧ SqL K H a (ns.map V.int) ∧ i < 1000 ∧ m < 1000 ∧
  ∀ (H' : Hp) (l : Addr) (ds : List Int), Same H H' → H l = none → H' l = some (.lst (ds.map V.int)) → ds.length = m → (∀ x ∈ ds, 0 ≤ x ∧ x < 60) → Q (.ref l) H'
section
variable {P : Program} {w : World} {K : PySem.W.Frag} {mg : Str → Option Value} {base : Heap}
theorem ok_cell (T : Blt mg) {f : Addr} {fd : FuncData} (F : Fun K "_law_cell" "_law_cell" s_l_cell f fd) : FnOk P w K mg base CX0 1 f fd P_l_cell (spCell K) := by
  refine F.ok sc_l_cell (fun vs H Q E h => ?_) (fun cdv A outer s H vs Q E hr h => ?_)
  · obtain ⟨a, ns, i, rfl, _⟩ := h
    rfl
  · obtain ⟨a, ns, i, rfl, ha, k⟩ := h
    refine ⟨_, (pss_cons (ps_if (pt_cmpR op_lt (pv 1) (pe_callB call_len_seq (by rfl) T.len (by decide +kernel) (pa_cons (pv 0) pa_nil)) (nomark _))
    (pss_one (ps_ret (pe_ix ix_list (pv 0) (pv 1) (fun _ _ => rfl))))
    pss_nil)
  (pss_one (ps_ret pe_int))), ?_⟩
    refine ⟨_, rfl, _, rfl, a, _, rfl, .inl (ha), _, _, rfl, rfl, _, rfl, ?_⟩
    unfold cellOf at k
    by_cases c : i < ns.length
    · have d1 : decide (((i : Nat) : Int) < (((ns.map V.int).length : Nat) : Int)) = true := decide_eq_true (by rw [List.length_map]; omega)
      dsimp only
      rw [d1]
      refine iteT ?_
      exact ⟨_, rfl, _, rfl, a, _, _, _, rfl, rfl, ha, at_of rfl (getD_int c), k⟩
    · have d1 : decide (((i : Nat) : Int) < (((ns.map V.int).length : Nat) : Int)) = false := decide_eq_false (by rw [List.length_map]; omega)
      dsimp only
      rw [d1]
      refine iteF ?_
      rw [List.getD_eq_getElem?_getD, List.getElem?_eq_none (by omega)] at k
      exact k
theorem ok_whole (T : Blt mg) {f : Addr} {fd : FuncData} (F : Fun K "_law_whole" "_law_whole" s_l_whole f fd) : FnOk P w K mg base CX0 1 f fd P_l_whole spWhole := by
  refine F.ok sc_l_whole (fun vs H Q E h => ?_) (fun cdv A outer s H vs Q E hr h => ?_)
  · obtain ⟨i, rfl, _⟩ := h
    rfl
  · obtain ⟨i, rfl, k⟩ := h
    refine ⟨_, (pss_one (ps_ret (pe_and (pe_callB call_isi (by rfl) T.isinstance (by decide +kernel) (pa_cons (pv 0) (pa_cons (pe_bltn (v := .ty "int") (by rfl) T.int (by decide +kernel) rfl) pa_nil))) (pe_one (pe_not (pe_callB call_isi (by rfl) T.isinstance (by decide +kernel) (pa_cons (pv 0) (pa_cons (pe_bltn (v := .ty "bool") (by rfl) T.bool (by decide +kernel) rfl) pa_nil)))))))), ?_⟩
    refine ⟨_, rfl, .int i, .ty "int", .type "int", .type "int", true, rfl, .ty _, .base (.int i), kit_ty (by decide +kernel), _, rfl, ?_⟩
    refine iteT ?_
    exact ⟨_, rfl, .int i, .ty "bool", .type "int", .type "bool", false, rfl, .ty _, .base (.int i), kit_ty (by decide +kernel), _, rfl, k⟩
theorem ok_lmay (T : Blt mg) {f : Addr} {fd : FuncData} (F : Fun K "_law_may" "_law_may" s_l_may f fd) : FnOk P w K mg base CX0 1 f fd P_l_may spMay := by
  refine F.ok sc_l_may (fun vs H Q E h => ?_) (fun cdv A outer s H vs Q E hr h => ?_)
  · obtain ⟨a, least, own, other, rfl, _⟩ := h
    rfl
  · obtain ⟨a, least, own, other, rfl, ha, k⟩ := h
    refine ⟨_, (pss_one (ps_ret (pe_and (pe_cmpR op_lt (pv 1) (pe_callB call_len_seq (by rfl) T.len (by decide +kernel) (pa_cons (pv 0) pa_nil)) (nomark _)) (pe_and (pe_cmpR op_gt (pe_ix ix_list (pv 0) (pv 1) (fun _ _ => rfl)) pe_int (nomark _)) (pe_one (pe_cmpR op_ge (pv 2) (pe_ix ix_list (pv 0) (pv 1) (fun _ _ => rfl)) (nomark _))))))), ?_⟩
    unfold may at k
    refine ⟨_, rfl, _, rfl, a, _, rfl, .inl (SqL.of ha), _, _, rfl, rfl, _, rfl, ?_⟩
    have e1 : decide (((own : Nat) : Int) < (((least.map V.int).length : Nat) : Int)) = decide (own < least.length) := by rw [List.length_map]; exact decide_eq_decide.mpr (by omega)
    dsimp only
    rw [e1]
    by_cases c : own < least.length
    · rw [decide_eq_true c] at k ⊢
      rw [Bool.true_and] at k
      refine iteT ?_
      refine ⟨_, rfl, _, rfl, a, _, _, _, rfl, rfl, SqL.of ha, at_of rfl (getD_int c), _, _, rfl, rfl, _, rfl, ?_⟩
      by_cases d : (0 : Int) < least.getD own 0
      · rw [decide_eq_true d] at k ⊢
        rw [Bool.true_and] at k
        refine iteT ?_
        exact ⟨_, rfl, _, rfl, _, rfl, a, _, _, _, rfl, rfl, SqL.of ha, at_of rfl (getD_int c), _, _, rfl, rfl, k⟩
      · rw [decide_eq_false d] at k ⊢
        rw [Bool.false_and] at k
        exact iteF k
    · rw [decide_eq_false c] at k ⊢
      rw [Bool.false_and] at k
      exact iteF k
theorem mod60 (x : Int) : 0 ≤ x.fmod 60 ∧ x.fmod 60 < 60 := ⟨Int.fmod_nonneg_of_pos x (by decide), Int.fmod_lt_of_pos x (by decide)⟩
theorem ok_draws (T : Blt mg) {f_l_cell : Addr} {fd_l_cell : FuncData} (G_l_cell : FnOk P w K mg base CX0 1 f_l_cell fd_l_cell P_l_cell (spCell K)) (g_l_cell : mg "_law_cell" = some (.ref f_l_cell)) (k_l_cell : PySem.W.keepIn K (.ref f_l_cell) = true) (b_l_cell : Binds K fd_l_cell P_l_cell [])
    {f : Addr} {fd : FuncData} (F : Fun K "_law_draws" "_law_draws" s_l_draws f fd) : FnOk P w K mg base CX0 2 f fd P_l_draws (spDraws K) := by
  refine F.ok sc_l_draws (fun vs H Q E h => ?_) (fun cdv A outer s H vs Q E hr h => ?_)
  · obtain ⟨a, ns, i, m, rfl, _⟩ := h
    rfl
  · obtain ⟨a, ns, i, m, rfl, ha, hi, hm, k⟩ := h
    have sz : sizeLine = 16777216 := sizeLine_eq
    refine ⟨_, (pss_cons (ps_set (i := 3) sc_l_draws.nd rfl (Or.inl rfl) (pe_callB call_abs (by rfl) T.abs (by decide +kernel) (pa_cons (pe_call G_l_cell (hr.mono (show 1 ≤ 1 by decide)) rfl g_l_cell k_l_cell b_l_cell .nil pass0 (pa_cons (pv 0) (pa_cons (pv 1) pa_nil))) pa_nil)))
  (pss_cons (ps_par (i := 4) (j := 5) rfl sc_l_draws.nd rfl rfl (by decide) rfl rfl (pa_cons pe_int (pa_cons (pe_op op_modN (pe_callTy call_int1 (by rfl) T.int (by decide +kernel) (pa_cons (pe_op op_add (pv 3) (pe_op op_mul (pv 1) pe_int)) pa_nil)) pe_int) pa_nil)) (by rfl))
  (pss_cons (ps_if (pt_cmpR op_ge (pv 3) (pe_op op_pow pe_int pe_int) (nomark _))
    (pss_one (ps_set (i := 4) sc_l_draws.nd rfl (Or.inl rfl) (pe_op op_sub (pv 3) (pe_op op_pow pe_int pe_int))))
    pss_nil)
  (pss_cons (ps_set (i := 6) sc_l_draws.nd rfl (Or.inl rfl) (pe_lst pa_nil))
  (pss_cons (ps_for PassesOwn.never rfl (pi_range1 rfl T.range (pa_cons (pv 2) pa_nil)) (pg_name (i := 7) sc_l_draws.nd rfl (Or.inl rfl))
    (pss_cons (ps_set (i := 5) sc_l_draws.nd rfl (Or.inl rfl) (pe_op op_modN (pe_callTy call_int1 (by rfl) T.int (by decide +kernel) (pa_cons (pe_op op_add (pe_op op_add (pe_op op_mul (pv 5) pe_int) pe_int) (pv 7)) pa_nil)) pe_int))
    (pss_one (ps_if (pt_cmpR op_gt (pv 4) pe_int (nomark _))
      (pss_cons (ps_expr (pe_bm PySem.F.plainAttrs_list PySem.F.slot_list_append PySem.F.type_list_append mt_append (pv 6) (pa_cons (pe_op op_modN (pe_callTy call_int1 (by rfl) T.int (by decide +kernel) (pa_cons (pv 4) pa_nil)) pe_int) pa_nil)))
      (pss_one (ps_set (i := 4) sc_l_draws.nd rfl (Or.inl rfl) (pe_op op_fdiv (pv 4) pe_int))))
      (pss_one (ps_expr (pe_bm PySem.F.plainAttrs_list PySem.F.slot_list_append PySem.F.type_list_append mt_append (pv 6) (pa_cons (pe_op op_modN (pe_callTy call_int1 (by rfl) T.int (by decide +kernel) (pa_cons (pe_op op_fdiv (pv 5) pe_int) pa_nil)) pe_int) pa_nil))))))))
  (pss_one (ps_ret (pv 6)))))))), ?_⟩
    refine ⟨_, rfl, _, rfl, a, ns, i, rfl, ha, _, rfl, ?_⟩
    obtain ⟨ch, hch⟩ : ∃ ch, ch = (if cellOf ns i < 0 then -cellOf ns i else cellOf ns i) := ⟨_, rfl⟩
    rw [← hch]
    refine ⟨_, rfl, _, rfl, _, _, rfl, rfl, .inr ⟨by decide, by decide⟩, _, _, rfl, rfl, .inl ⟨_, rfl, _, _, rfl, rfl, (by show (1000003 : Int) ≠ 0; decide), _, _, rfl, ?_⟩⟩
    dsimp only
    refine seq_mid (fun σ' H' => H' = H ∧ ∃ rest mixed : Int, σ' = [some (.ref a), some (.int ((i : Nat) : Int)), some (.int ((m : Nat) : Int)), some (.int ch), some (.int rest), some (.int mixed), none, none]) (fun N hN => ?_) ?_
    · refine ⟨_, rfl, _, _, rfl, rfl, ⟨by decide, by decide, by decide⟩, _, _, rfl, rfl, _, rfl, ?_⟩
      refine ite2 (fun _ => ?_) (fun _ => ?_)
      · refine ⟨_, rfl, _, _, rfl, rfl, ⟨by decide, by decide, by decide⟩, _, _, rfl, rfl, ?_⟩
        exact hN _ _ ⟨rfl, _, _, rfl⟩
      · exact hN _ _ ⟨rfl, _, _, rfl⟩
    rintro σ1 H1 ⟨rfl, rest, mixed, rfl⟩
    refine ⟨by rw [sz]; show 0 ≤ 16777216; decide, fun D hD => ?_⟩
    have O1 := (Own.start H1).new (o := .lst []) hD rfl
    refine ⟨_, rfl, _, rfl, by omega, by omega, ?_⟩
    rw [Int.toNat_natCast]
    refine for_range (lo := 0) (n := m) (fun j σ H' => ∃ (rest mixed : Int) (x : Option V) (ds : List Int), σ = [some (.ref a), some (.int ((i : Nat) : Int)), some (.int ((m : Nat) : Int)), some (.int ch), some (.int rest), some (.int mixed), some (.ref D), x] ∧
      Own H1 H' [(D, .lst (ds.map V.int))] ∧ ds.length = j ∧ ∀ x ∈ ds, 0 ≤ x ∧ x < 60)
      ⟨rest, mixed, none, [], rfl, O1, rfl, (fun x h => nomatch h)⟩ ?_ ?_
    · rintro j σ H2 hj ⟨rest, mixed, x, ds, rfl, O, hl, hb⟩
      refine ⟨_, rfl, _, _, rfl, rfl, .inr ⟨by decide, by decide⟩, _, _, rfl, rfl, _, rfl, _, _, rfl, rfl, .inl ⟨_, rfl, _, _, rfl, rfl, (by show (1000003 : Int) ≠ 0; decide), ?_⟩⟩
      refine ⟨_, rfl, _, _, rfl, rfl, _, rfl, ?_⟩
      have app : ∀ v : Int, 0 ≤ v ∧ v < 60 → ((ds ++ [v]).length = j + 1 ∧ ∀ x ∈ ds ++ [v], 0 ≤ x ∧ x < 60) ∧ ds.map V.int ++ [V.int v] = (ds ++ [v]).map V.int := fun v hv => by
        refine ⟨⟨by rw [List.length_append, hl]; rfl, fun x hx => ?_⟩, by rw [List.map_append]; rfl⟩
        rcases List.mem_append.mp hx with q | q
        · exact hb x q
        · have : x = v := by simpa using q
          rw [this]; exact hv
      have hsl : (ds.map V.int).length < sizeLine := by rw [sz, List.length_map, hl]; omega
      refine ite2 (fun _ => ?_) (fun _ => ?_)
      · refine ⟨_, rfl, .inl ⟨rfl, _, SqL.of (O.get 0 rfl)⟩, _, rfl, .inl ⟨_, rfl, _, _, rfl, rfl, (by show (60 : Int) ≠ 0; decide), D, _, _, rfl, rfl, O.get 0 rfl, hsl, ?_⟩⟩
        obtain ⟨⟨h1, h2⟩, h3⟩ := app _ (mod60 rest)
        refine ⟨_, rfl, _, _, rfl, rfl, ⟨by decide, by decide⟩, ?_⟩
        refine ⟨_, _, _, _, rfl, ?_, h1, h2⟩
        have O2 := O.put 0 (o := .lst (ds.map V.int ++ [V.int (rest.fmod 60)])) rfl rfl
        rw [← h3]
        exact O2
      · refine ⟨_, rfl, .inl ⟨rfl, _, SqL.of (O.get 0 rfl)⟩, _, rfl, _, _, rfl, rfl, ⟨by decide, by decide⟩, .inl ⟨_, rfl, _, _, rfl, rfl, (by show (60 : Int) ≠ 0; decide), D, _, _, rfl, rfl, O.get 0 rfl, hsl, ?_⟩⟩
        obtain ⟨⟨h1, h2⟩, h3⟩ := app _ (mod60 ((mixed * 48271 + 12345 + (0 + (j : Int))).fmod 1000003 / 13))
        refine ⟨_, _, _, _, rfl, ?_, h1, h2⟩
        have O2 := O.put 0 (o := .lst (ds.map V.int ++ [V.int (((mixed * 48271 + 12345 + (0 + (j : Int))).fmod 1000003 / 13).fmod 60)])) rfl rfl
        rw [← h3]
        exact O2
    · rintro σ H2 ⟨rest, mixed, x, ds, rfl, O, hl, hb⟩
      exact ⟨_, rfl, k _ D ds O.sub (O.fresh 0 rfl) (O.get 0 rfl) hl hb⟩
end
end ND
end
section
set_option Elab.async false
set_option linter.all false
set_option maxRecDepth 100000
set_option maxHeartbeats 4000000
namespace ND
open PySem L2
open PyProof.Rows (envOfC)
open PH
/-! ### the law: taking, book -/
def tkOf (least : List Int) (rules : List Str) : Tk := ⟨least, hasR "again" rules, hasR "any" rules, hasR "half" rules⟩
theorem hasR_perm {s : Str} {r r' : List Str} (h : r'.Perm r) : hasR s r' = hasR s r := by
  unfold hasR
  rw [inV_strs, inV_strs]
  exact decide_eq_decide.mpr h.mem_iff
theorem strs_at {l : List Str} {i : Nat} {x : Str} (h : l[i]? = some x) : (l.map V.str)[i]? = some (.str x) := by rw [List.getElem?_map, h]; rfl
theorem ints_at {l : List Int} {i : Nat} {x : Int} (h : l[i]? = some x) : (l.map V.int)[i]? = some (.int x) := by rw [List.getElem?_map, h]; rfl
def spTaking (CT : Addr) : Sp := fun vs H Q _ => ∃ (lv rv : Addr) (least : List Int) (rules : List Str), vs = [.ref lv, .ref rv] ∧ H lv = some (.lst (least.map V.int)) ∧ H rv = some (.lst (rules.map V.str)) ∧ TakIn least rules ∧
  ∀ (H' : Hp) (a : Addr), Same H H' → TakingAt CT H' a (tkOf least rules) → Q (.ref a) H'
section
variable {P : Program} {w : World} {K : PySem.W.Frag} {mg : Str → Option Value} {base : Heap}
theorem ok_ltaking {CT : Addr} (T : Blt mg) {f_Taking : Addr} (G_Taking : FnR P w K mg base CX0 1 f_Taking (spIniT CT)) (Mk_Taking : Mk K CT f_Taking) (g_Taking : mg "Taking" = some (.ref CT))
    {f : Addr} {fd : FuncData} (F : Fun K "_law_taking" "_law_taking" s_l_taking f fd) : FnOk P w K mg base CX0 3 f fd P_l_taking (spTaking CT) := by
  refine F.ok sc_l_taking (fun vs H Q E h => ?_) (fun cdv A outer s H vs Q E hr h => ?_)
  · obtain ⟨lv, rv, least, rules, rfl, _⟩ := h
    rfl
  · obtain ⟨lv, rv, least, rules, rfl, hl, hrv, ti, k⟩ := h
    have rl3 : rules.length ≤ 3 := Gr.len_le_of_sub ti.nd (m := [("again" : Str), "any", "half"]) ti.ok
    refine ⟨_, (pss_cons (ps_if (pt_cmpR op_eq (pe_callB call_len_seq (by rfl) T.len (by decide +kernel) (pa_cons (pv 1) pa_nil)) pe_int (nomark _))
    (pss_one (ps_ret (StX.pe_makeR Mk_Taking G_Taking (hr.mono (by decide)) rfl g_Taking pass0 (pa_cons (pe_callTy call_list_of (by rfl) T.list (by decide +kernel) (pa_cons (pv 0) pa_nil)) pa_nil))))
    pss_nil)
  (pss_cons (ps_if (pt_cmpR op_eq (pe_callB call_len_seq (by rfl) T.len (by decide +kernel) (pa_cons (pv 1) pa_nil)) pe_int (nomark _))
    (pss_one (ps_ret (StX.pe_makeR Mk_Taking G_Taking (hr.mono (by decide)) rfl g_Taking pass0 (pa_cons (pe_callTy call_list_of (by rfl) T.list (by decide +kernel) (pa_cons (pv 0) pa_nil)) (pa_cons (pe_ix ix_list (pv 1) pe_int (fun _ _ => rfl)) pa_nil)))))
    pss_nil)
  (pss_cons (ps_if (pt_cmpR op_eq (pe_callB call_len_seq (by rfl) T.len (by decide +kernel) (pa_cons (pv 1) pa_nil)) pe_int (nomark _))
    (pss_one (ps_ret (StX.pe_makeR Mk_Taking G_Taking (hr.mono (by decide)) rfl g_Taking pass0 (pa_cons (pe_callTy call_list_of (by rfl) T.list (by decide +kernel) (pa_cons (pv 0) pa_nil)) (pa_cons (pe_ix ix_list (pv 1) pe_int (fun _ _ => rfl)) (pa_cons (pe_ix ix_list (pv 1) pe_int (fun _ _ => rfl)) pa_nil))))))
    pss_nil)
  (pss_one (ps_ret (StX.pe_makeR Mk_Taking G_Taking (hr.mono (by decide)) rfl g_Taking pass0 (pa_cons (pe_callTy call_list_of (by rfl) T.list (by decide +kernel) (pa_cons (pv 0) pa_nil)) (pa_cons (pe_ix ix_list (pv 1) pe_int (fun _ _ => rfl)) (pa_cons (pe_ix ix_list (pv 1) pe_int (fun _ _ => rfl)) (pa_cons (pe_ix ix_list (pv 1) pe_int (fun _ _ => rfl)) pa_nil)))))))))), ?_⟩
    -- what every branch ends with
    have fin : ∀ (H1 : Hp) (l2 x dx : Addr) (ws : List V), Same H H1 → H1 l2 = some (.lst (least.map V.int)) → H1 x = none → H1 dx = none → dx ≠ x → ws = rules.map V.str →
        spIniT CT (.ref x :: .ref l2 :: ws) (upd (upd H1 dx (.own x)) x (.ins CT dx [])) (fun v H2 => v = .non ∧ Q (.ref x) H2) E0 := by
      intro H1 l2 x dx ws s1 h1 hx hdx ne ew
      have n1 : l2 ≠ x := ne_of_none h1 hx
      have n2 : l2 ≠ dx := ne_of_none h1 hdx
      refine ⟨x, l2, dx, least, rules, by rw [ew]; rfl, upd_same, by rw [upd_ne n1, upd_ne n2]; exact h1, ti, fun H' lp rp rules' kp h2 h3 h4 hp => ⟨rfl, ?_⟩⟩
      refine k H' x (fun b u e => ?_) ⟨⟨dx, lp, rp, rules', h2, h3, h4, hasR_perm hp, hasR_perm hp, hasR_perm hp⟩, ⟨ti.l5, ti.l1, ti.bd⟩⟩
      have e1 := s1 _ _ e
      have m1 : b ≠ x := ne_of_none e1 hx
      have m2 : b ≠ dx := ne_of_none e1 hdx
      exact kp b u m1 (by rw [upd_ne m1, upd_ne m2]; exact e1)
    have eln : (rules.map V.str).length = rules.length := List.length_map ..
    have dl : ∀ m : Nat, decide (V.int ((rules.length : Nat) : Int) = V.int (m : Int)) = decide (rules.length = m) := fun m => decide_eq_decide.mpr ⟨fun z => by injection z with z; omega, fun z => by rw [z]⟩
    have sl : ∀ p, H p = none → Same H (upd H p (.lst (least.map V.int))) := fun p hp b u e => by rw [upd_ne (ne_of_none e hp)]; exact e
    have de : ∀ (m j : Nat), m = j → decide (V.int ((m : Nat) : Int) = V.int (j : Int)) = true := fun m j e => decide_eq_true (by rw [e])
    have dn : ∀ (m j : Nat), m ≠ j → decide (V.int ((m : Nat) : Int) = V.int (j : Int)) = false := fun m j e => decide_eq_false fun z => by injection z with z; omega
    refine ⟨_, rfl, rv, _, rfl, .inl (SqL.of hrv), rfl, _, rfl, ?_⟩
    rw [eln]
    dsimp only
    by_cases c0 : rules.length = 0
    · rw [show decide (V.int ((rules.length : Nat) : Int) = V.int 0) = true from de _ 0 c0]
      refine iteT ?_
      refine ⟨_, rfl, lv, _, rfl, .inl (SqL.of hl), fun p hp => fun x dx hx hdx ne => ?_⟩
      exact fin _ p x dx [] (sl p hp) upd_same hx hdx ne (by rw [List.eq_nil_of_length_eq_zero c0]; rfl)
    rw [show decide (V.int ((rules.length : Nat) : Int) = V.int 0) = false from dn _ 0 c0]
    refine iteF ?_
    refine ⟨_, rfl, rv, _, rfl, .inl (SqL.of hrv), rfl, _, rfl, ?_⟩
    rw [eln]
    dsimp only
    by_cases c1 : rules.length = 1
    · rw [show decide (V.int ((rules.length : Nat) : Int) = V.int 1) = true from de _ 1 c1]
      refine iteT ?_
      obtain ⟨x1, er⟩ : ∃ x1, rules = [x1] := by
        match rules, c1 with
        | [x1], _ => exact ⟨x1, rfl⟩
      refine ⟨_, rfl, lv, _, rfl, .inl (SqL.of hl), fun p hp => ?_⟩
      have h1 := sl p hp _ _ hrv
      refine ⟨_, rfl, rv, _, _, .str x1, rfl, rfl, SqL.of h1, at_of (j := 0) rfl (by rw [er]; rfl), fun x dx hx hdx ne => ?_⟩
      exact fin _ p x dx [.str x1] (sl p hp) upd_same hx hdx ne (by rw [er]; rfl)
    rw [show decide (V.int ((rules.length : Nat) : Int) = V.int 1) = false from dn _ 1 c1]
    refine iteF ?_
    refine ⟨_, rfl, rv, _, rfl, .inl (SqL.of hrv), rfl, _, rfl, ?_⟩
    rw [eln]
    dsimp only
    by_cases c2 : rules.length = 2
    · rw [show decide (V.int ((rules.length : Nat) : Int) = V.int 2) = true from de _ 2 c2]
      refine iteT ?_
      obtain ⟨x1, x2, er⟩ : ∃ x1 x2, rules = [x1, x2] := by
        match rules, c2 with
        | [x1, x2], _ => exact ⟨x1, x2, rfl⟩
      refine ⟨_, rfl, lv, _, rfl, .inl (SqL.of hl), fun p hp => ?_⟩
      have h1 := sl p hp _ _ hrv
      refine ⟨_, rfl, rv, _, _, .str x1, rfl, rfl, SqL.of h1, at_of (j := 0) rfl (by rw [er]; rfl), _, rfl, rv, _, _, .str x2, rfl, rfl, SqL.of h1, at_of (j := 1) rfl (by rw [er]; rfl), fun x dx hx hdx ne => ?_⟩
      exact fin _ p x dx [.str x1, .str x2] (sl p hp) upd_same hx hdx ne (by rw [er]; rfl)
    rw [show decide (V.int ((rules.length : Nat) : Int) = V.int 2) = false from dn _ 2 c2]
    refine iteF ?_
    obtain ⟨x1, x2, x3, er⟩ : ∃ x1 x2 x3, rules = [x1, x2, x3] := by
      have c3 : rules.length = 3 := by omega
      match rules, c3 with
      | [x1, x2, x3], _ => exact ⟨x1, x2, x3, rfl⟩
    refine ⟨_, rfl, lv, _, rfl, .inl (SqL.of hl), fun p hp => ?_⟩
    have h1 := sl p hp _ _ hrv
    refine ⟨_, rfl, rv, _, _, .str x1, rfl, rfl, SqL.of h1, at_of (j := 0) rfl (by rw [er]; rfl), _, rfl, rv, _, _, .str x2, rfl, rfl, SqL.of h1, at_of (j := 1) rfl (by rw [er]; rfl), _, rfl, rv, _, _, .str x3, rfl, rfl, SqL.of h1, at_of (j := 2) rfl (by rw [er]; rfl), fun x dx hx hdx ne => ?_⟩
    exact fin _ p x dx [.str x1, .str x2, .str x3] (sl p hp) upd_same hx hdx ne (by rw [er]; rfl)
end
end ND
end
section
set_option Elab.async false
set_option linter.all false
set_option maxRecDepth 100000
set_option maxHeartbeats 4000000
namespace ND
open PySem L2
open PyProof.Rows (envOfC)
open PH
/-! ### the law: book -/
def DrawsOk (ds : List Int) (n : Nat) : Prop := ds.length = n ∧ ∀ x ∈ ds, 0 ≤ x ∧ x < 60
def spBook : Sp := fun vs H Q _ => ∃ (l : Addr) (ds : List Int), vs = [.ref l] ∧ H l = some (.lst (ds.map V.int)) ∧ DrawsOk ds 7 ∧
  ∀ (H' : Hp) (p lv rv : Addr) (least : List Int) (rules : List Str), Same H H' → H' p = some (.tup [.ref lv, .ref rv]) → H' lv = some (.lst (least.map V.int)) → H' rv = some (.lst (rules.map V.str)) → TakIn least rules → Q (.ref p) H'
theorem fmod_at {l : List Int} {x : Int} {m : Int} (hm : 0 < m) (hl : m = (l.length : Nat)) : ∃ j v, x.fmod m = ((j : Nat) : Int) ∧ l[j]? = some v := by
  have h1 := Int.fmod_nonneg_of_pos x hm
  have h2 := Int.fmod_lt_of_pos x hm
  refine ⟨(x.fmod m).toNat, l[(x.fmod m).toNat]'(by omega), by omega, List.getElem?_eq_getElem _⟩
theorem draws_at {ds : List Int} {n i : Nat} (h : DrawsOk ds n) (hi : i < n) : ∃ x, ds[i]? = some x ∧ 0 ≤ x ∧ x < 60 := by
  have hil : i < ds.length := by rw [h.1]; exact hi
  exact ⟨ds[i], List.getElem?_eq_getElem hil, h.2 _ (List.getElem_mem hil)⟩
section
variable {P : Program} {w : World} {K : PySem.W.Frag} {mg : Str → Option Value} {base : Heap}
theorem ok_book (T : Blt mg) {f : Addr} {fd : FuncData} (F : Fun K "_law_book" "_law_book" s_l_book f fd) : FnOk P w K mg base CX0 1 f fd P_l_book spBook := by
  refine F.ok sc_l_book (fun vs H Q E h => ?_) (fun cdv A outer s H vs Q E hr h => ?_)
  · obtain ⟨l, ds, rfl, _⟩ := h
    rfl
  · obtain ⟨l, ds, rfl, hl, hds, k⟩ := h
    have sz : sizeLine = 16777216 := sizeLine_eq
    refine ⟨_, (pss_cons (ps_set (i := 1) sc_l_book.nd rfl (Or.inl rfl) (pe_ix ix_list (pe_lst (pa_cons pe_int (pa_cons pe_int (pa_cons pe_int (pa_cons pe_int (pa_cons pe_int (pa_cons pe_int (pa_cons pe_int (pa_cons pe_int pa_nil))))))))) (pe_op op_modN (pe_callTy call_int1 (by rfl) T.int (by decide +kernel) (pa_cons (pe_ix ix_list (pv 0) pe_int (fun _ _ => rfl)) pa_nil)) pe_int) (fun _ _ => rfl)))
  (pss_cons (ps_setLc (i := 2) (own := [("_law_k", 3)]) (g := gName 3) rfl sc_l_book.nd rfl rfl (sw_true rfl rfl rfl (by decide +kernel)) (pi_range1 rfl T.range (pa_cons (pv 1) pa_nil)) (blkOk_by (own := [("_law_k", 3)]) (N := N_l_book) (sc := defScope s_l_book) (by decide +kernel)) (fun _ _ _ _ _ => (pg_name (i := 3) sc_l_book.nd rfl (Or.inl rfl))) (fun _ _ _ _ _ => pts_nil) (fun _ _ _ _ _ => (pe_ix (ix_listB (K := K)) (pe_lst (pa_cons pe_int (pa_cons pe_int (pa_cons pe_int (pa_cons pe_int (pa_cons pe_int (pa_cons pe_int (pa_cons pe_int (pa_cons pe_int (pa_cons pe_int (pa_cons pe_int pa_nil))))))))))) (pe_op op_modN (pe_callTy call_int1 (by rfl) T.int (by decide +kernel) (pa_cons (pe_ix (ix_listB (K := K)) (pv 0) (pe_op op_add pe_int (pv 3)) (fun _ _ => rfl)) pa_nil)) pe_int) (fun _ _ => rfl))))
  (pss_one (ps_ret (pe_tup (pa_cons (pv 2) (pa_cons (pe_lc (own := [("_law_k", 3)]) (g := gName 3) rfl sc_l_book.nd (pi_range1 rfl T.range (pa_cons pe_int pa_nil)) (blkOk_by (own := [("_law_k", 3)]) (N := N_l_book) (sc := defScope s_l_book) (by decide +kernel)) (fun _ _ _ _ _ => (pg_name (i := 3) sc_l_book.nd rfl (Or.inl rfl))) (fun _ _ _ _ _ => (pts_one (pt_cmpR op_eq (pe_op op_modN (pe_callTy call_int1 (by rfl) T.int (by decide +kernel) (pa_cons (pe_op op_fdiv (pe_ix (ix_listB (K := K)) (pv 0) pe_int (fun _ _ => rfl)) (pe_ix (ix_listB (K := K)) (pe_lst (pa_cons pe_int (pa_cons pe_int (pa_cons pe_int pa_nil)))) (pv 3) (fun _ _ => rfl))) pa_nil)) pe_int) pe_int (nomark _)))) (fun _ _ _ _ _ => (pe_ix (ix_listB (K := K)) (pe_lst (pa_cons pe_str (pa_cons pe_str (pa_cons pe_str pa_nil)))) (pv 3) (fun _ _ => rfl)))) pa_nil))))))), ?_⟩
    -- many
    obtain ⟨d0, hd0, _⟩ := draws_at hds (i := 0) (by decide)
    refine ⟨by rw [sz]; show 8 ≤ 16777216; decide, fun p1 hp1 => ?_⟩
    have s1 : Same H (upd H p1 (.lst [.int 1, .int 2, .int 2, .int 3, .int 1, .int 4, .int 2, .int 5])) := fun b u e => by rw [upd_ne (ne_of_none e hp1)]; exact e
    have hp1' : upd H p1 (.lst [.int 1, .int 2, .int 2, .int 3, .int 1, .int 4, .int 2, .int 5]) p1 = some (.lst (([1, 2, 2, 3, 1, 4, 2, 5] : List Int).map V.int)) := upd_same
    generalize upd H p1 (.lst [.int 1, .int 2, .int 2, .int 3, .int 1, .int 4, .int 2, .int 5]) = H1 at *
    have hl1 := s1 _ _ hl
    obtain ⟨j1, many, ej1, hm⟩ := fmod_at (l := ([1, 2, 2, 3, 1, 4, 2, 5] : List Int)) (x := d0) (m := 8) (by decide) rfl
    have hmany : 1 ≤ many ∧ many ≤ 5 := by
      have : ∀ x ∈ ([1, 2, 2, 3, 1, 4, 2, 5] : List Int), 1 ≤ x ∧ x ≤ 5 := by decide
      exact this _ (List.mem_of_getElem? hm)
    refine ⟨_, rfl, l, _, _, _, rfl, rfl, SqL.of hl1, at_of (j := 0) rfl (ints_at hd0), .inl ⟨_, rfl, _, _, rfl, rfl, (by show (8 : Int) ≠ 0; decide), p1, _, _, _, rfl, rfl, SqL.of hp1', at_of ej1 (ints_at hm), ?_⟩⟩
    -- least
    refine ⟨_, rfl, _, rfl, by omega, by omega, fun D hD => ?_⟩
    have O1 := (Own.start H1).new (o := .lst []) hD rfl
    refine it_range (lo := 0) (n := many.toNat) (fun j H' => ∃ (B : Hp) (ls : List Int), Same H1 B ∧ Own B H' [(D, .lst (ls.map V.int))] ∧ ls.length = j ∧ ∀ x ∈ ls, 0 ≤ x ∧ x ≤ 5)
      ⟨H1, [], Same.refl _, O1, rfl, (fun x h => nomatch h)⟩ ?_ ?_
    · rintro j H2 hj ⟨B, ls, sB, O, hlen, hb⟩
      have ej : (0 : Int) + ((j : Nat) : Int) = ((j : Nat) : Int) := by omega
      obtain ⟨dj, hdj, _⟩ := draws_at hds (i := 1 + j) (by omega)
      refine ⟨rfl, ?_⟩
      refine yes_t ?_
      refine ⟨by rw [sz]; show 10 ≤ 16777216; decide, fun p2 hp2 => ?_⟩
      obtain ⟨B2, sB2, hp2', O2⟩ := O.fz (o := .lst [.int 2, .int 1, .int 3, .int 0, .int 2, .int 4, .int 1, .int 5, .int 3, .int 2]) hp2
      generalize upd H2 p2 (.lst [.int 2, .int 1, .int 3, .int 0, .int 2, .int 4, .int 1, .int 5, .int 3, .int 2]) = H3 at *
      have hp3 : H3 p2 = some (.lst (([2, 1, 3, 0, 2, 4, 1, 5, 3, 2] : List Int).map V.int)) := O2.sub _ _ hp2'
      have hl3 := (sB.trans sB2).trans O2.sub _ _ hl1
      obtain ⟨j2, v, ej2, hv⟩ := fmod_at (l := ([2, 1, 3, 0, 2, 4, 1, 5, 3, 2] : List Int)) (x := dj) (m := 10) (by decide) rfl
      have hvb : 0 ≤ v ∧ v ≤ 5 := by
        have : ∀ x ∈ ([2, 1, 3, 0, 2, 4, 1, 5, 3, 2] : List Int), 0 ≤ x ∧ x ≤ 5 := by decide
        exact this _ (List.mem_of_getElem? hv)
      refine ⟨_, rfl, _, rfl, _, _, rfl, rfl, l, _, _, _, rfl, rfl, SqL.of hl3, at_of (j := 1 + j) (by omega) (ints_at hdj), .inl ⟨_, rfl, _, _, rfl, rfl, (by show (10 : Int) ≠ 0; decide), p2, _, _, _, rfl, rfl, SqL.of hp3, at_of ej2 (ints_at hv), ?_⟩⟩
      refine ⟨_, O2.get 0 rfl, by rw [sz, List.length_map]; omega, B2, ls ++ [v], sB.trans sB2, ?_, by rw [List.length_append, hlen]; rfl, fun x hx => ?_⟩
      · rw [List.map_append]
        exact O2.put 0 rfl rfl
      · rcases List.mem_append.mp hx with q | q
        · exact hb x q
        · have : x = v := by simpa using q
          rw [this]; exact hvb
    rintro H2 ⟨B2, ls, sB2, O2, hlen, hb⟩
    obtain ⟨B3, sB3, hD3, O3⟩ := O2.keep
    have hs13 := sB2.trans sB3
    -- the rules
    refine ⟨_, rfl, _, rfl, by decide, by decide, fun D2 hD2 => ?_⟩
    obtain ⟨d6, hd6, _⟩ := draws_at hds (i := 6) (by decide)
    refine it_range (lo := 0) (n := 3) (fun j H' => ∃ (B : Hp) (rs : List Str), Same B3 B ∧ Own B H' [(D2, .lst (rs.map V.str))] ∧ rs.Sublist (([("again" : Str), "any", "half"] : List Str).take j))
      ⟨B3, [], Same.refl _, O3.new (o := .lst []) hD2 rfl, List.Sublist.refl _⟩ ?_ ?_
    · rintro j H3 hj ⟨B, rs, sB, O, hsub⟩
      have ej : (0 : Int) + ((j : Nat) : Int) = ((j : Nat) : Int) := by omega
      obtain ⟨dv, hdv, hd0, hd1⟩ : ∃ dv : Int, ([1, 2, 4] : List Int)[j]? = some dv ∧ 0 < dv ∧ dv < 1073741824 := by
        match j, hj with
        | 0, _ => exact ⟨1, rfl, by decide, by decide⟩
        | 1, _ => exact ⟨2, rfl, by decide, by decide⟩
        | 2, _ => exact ⟨4, rfl, by decide, by decide⟩
      obtain ⟨nm, hnm⟩ : ∃ nm : Str, ([("again" : Str), "any", "half"] : List Str)[j]? = some nm := by
        match j, hj with
        | 0, _ => exact ⟨_, rfl⟩
        | 1, _ => exact ⟨_, rfl⟩
        | 2, _ => exact ⟨_, rfl⟩
      have etk := take_succ_of hnm
      refine ⟨rfl, ?_⟩
      have hl3 := (hs13.trans sB).trans O.sub _ _ hl1
      refine ⟨_, rfl, l, _, _, _, rfl, rfl, SqL.of hl3, at_of (j := 6) rfl (ints_at hd6), by rw [sz]; show 3 ≤ 16777216; decide, fun p3 hp3 => ?_⟩
      obtain ⟨B4, sB4, hp3', O4⟩ := O.fz (o := .lst [.int 1, .int 2, .int 4]) hp3
      generalize upd H3 p3 (.lst [.int 1, .int 2, .int 4]) = H4 at *
      have hp4 : H4 p3 = some (.lst (([1, 2, 4] : List Int).map V.int)) := O4.sub _ _ hp3'
      refine ⟨_, rfl, p3, _, _, _, rfl, rfl, SqL.of hp4, at_of ej (ints_at hdv), _, _, rfl, rfl, ⟨hd0, hd1⟩, .inl ⟨_, rfl, _, _, rfl, rfl, (by show (2 : Int) ≠ 0; decide), rfl, _, rfl, ?_⟩⟩
      refine ite2 (fun _ => ?_) (fun _ => ?_)
      · refine ⟨by rw [sz]; show 3 ≤ 16777216; decide, fun p4 hp4 => ?_⟩
        obtain ⟨B5, sB5, hp5', O5⟩ := O4.fz (o := .lst [.str "again", .str "any", .str "half"]) hp4
        generalize upd H4 p4 (.lst [.str "again", .str "any", .str "half"]) = H5 at *
        have hp6 : H5 p4 = some (.lst (([("again" : Str), "any", "half"] : List Str).map V.str)) := O5.sub _ _ hp5'
        refine ⟨_, rfl, p4, _, _, _, rfl, rfl, SqL.of hp6, at_of ej (strs_at hnm), ?_⟩
        refine ⟨_, O5.get 0 rfl, ?_, B5, rs ++ [nm], sB.trans (sB4.trans sB5), ?_, ?_⟩
        · have := hsub.length_le
          rw [List.length_take] at this
          rw [sz, List.length_map]; omega
        · rw [List.map_append]
          exact O5.put 0 rfl rfl
        · rw [etk]; exact hsub.append (List.Sublist.refl _)
      · exact ⟨B4, rs, sB.trans sB4, O4, by rw [etk]; exact hsub.trans (List.sublist_append_left _ _)⟩
    rintro H3 ⟨B4, rs, sB4, O4, hsub⟩
    refine ⟨by rw [sz]; show 2 ≤ 16777216; decide, fun p hp => ?_⟩
    have s5 : Same H3 (upd H3 p (.tup [.ref D, .ref D2])) := fun b u e => by rw [upd_ne (ne_of_none e hp)]; exact e
    have sE := O4.sub.trans s5
    have hsub' : rs.Sublist [("again" : Str), "any", "half"] := hsub
    have ndn : ([("again" : Str), "any", "half"] : List Str).Nodup := by decide +kernel
    refine k _ p D D2 ls rs (s1.trans (hs13.trans (sB4.trans sE))) upd_same ((sB4.trans sE) _ _ hD3) (s5 _ _ (O4.get 0 rfl)) ⟨by omega, by omega, hb, hsub'.nodup ndn, fun x hx => hsub'.subset hx⟩
end
end ND
end
section
set_option Elab.async false
set_option linter.all false
set_option maxRecDepth 100000
set_option maxHeartbeats 4000000
namespace ND
open PySem L2
open PyProof.Rows (envOfC)
open PH
/-! ### the law: spread -/
theorem cutV_all {xs : List V} {lo hi : Option Int} (h1 : HT.sIx xs.length 0 lo = 0) (h2 : HT.sIx xs.length xs.length hi = xs.length) : cutV xs lo hi = xs := by
  unfold cutV
  rw [h1, h2, List.drop_zero, Nat.sub_zero, List.take_length]
theorem sliceA_of {K : PySem.W.Frag} {H : Hp} {a : Addr} {xs : List V} {lo hi : Option Int} {Q : VK} (h : H a = some (.tup xs)) (k : ∀ (H' : Hp) (p : Addr), Same H H' → H' p = some (.tup (cutV xs lo hi)) → Q (.ref p) H') : rSlA K (.ref a) lo hi H Q := by
  refine ⟨a, xs, rfl, SqT.of h, fun e => k H a (Same.refl H) (by rw [cutV_all e.1 e.2]; exact h), fun _ p hp => k _ p (fun b u e => by rw [upd_ne (ne_of_none e hp)]; exact e) upd_same⟩
theorem catA_of {K : PySem.W.Frag} {H : Hp} {a b : Addr} {xs ys : List V} {Q : VK} (ha : H a = some (.tup xs)) (hb : H b = some (.tup ys)) (hz : xs.length + ys.length ≤ sizeLine) (k : ∀ (H' : Hp) (p : Addr), Same H H' → H' p = some (.tup (xs ++ ys)) → Q (.ref p) H') : rCatA K (.ref a) (.ref b) H Q := by
  refine ⟨a, b, xs, ys, rfl, rfl, SqT.of ha, SqT.of hb, hz, fun e => k H b (Same.refl H) (by rw [e]; exact hb), fun _ e => k H a (Same.refl H) (by rw [e, List.append_nil]; exact ha), fun _ _ p hp => k _ p (fun b u e => by rw [upd_ne (ne_of_none e hp)]; exact e) upd_same⟩
theorem Rps.set {B : Hp} : ∀ {ks : List NestedKey} {vs : List V} {i : Nat} {k : NestedKey} {v : V}, Rps B ks vs → Rp B k v → Rps B (ks.set i k) (vs.set i v)
  | [], vs, i, k, v, h, _ => by obtain rfl := h.nilD; exact .nil
  | a :: ks, vs, 0, k, v, h, hk => by
    obtain ⟨x, r, rfl, q, z⟩ := h.consD
    exact .cons hk z
  | a :: ks, vs, i + 1, k, v, h, hk => by
    obtain ⟨x, r, rfl, q, z⟩ := h.consD
    exact .cons q (Rps.set z hk)
/-- a task put into a queue -/
theorem flatten_put {x : Int} : ∀ {qs : List (List Int)} {i : Nat} {q : List Int}, i < qs.length → q.Perm (qs.getD i [] ++ [x]) → (qs.set i q).flatten.Perm (qs.flatten ++ [x])
  | [], i, q, h, _ => by simp at h
  | a :: r, 0, q, _, e => by
    simp only [List.set_cons_zero, List.flatten_cons]
    have e' : q.Perm (a ++ [x]) := e
    rw [List.append_assoc]
    refine (List.Perm.append_right _ e').trans ?_
    rw [List.append_assoc]
    exact List.Perm.append_left _ List.perm_append_comm
  | a :: r, i + 1, q, h, e => by
    simp only [List.set_cons_succ, List.flatten_cons]
    rw [List.append_assoc]
    exact List.Perm.append_left _ (flatten_put (by simpa using h) e)
def spSpread : Sp := fun vs H Q _ => ∃ (l : Addr) (ds : List Int) (c n : Nat), vs = [.ref l, .int ((c : Nat) : Int), .int ((n : Nat) : Int)] ∧ H l = some (.lst (ds.map V.int)) ∧ DrawsOk ds 6 ∧ 1 ≤ c ∧ c ≤ 3 ∧ n ≤ 5 ∧
  ∀ (H' : Hp) (p : Addr) (q0 : List (List Int)), Same H H' → Rp H' (queuesK q0) (.ref p) → q0.length = c → q0.flatten.Perm ((List.range n).map Int.ofNat) → Q (.ref p) H'
theorem fmod_nat {x : Int} {m : Nat} (hm : 0 < m) : ∃ j : Nat, x.fmod (m : Int) = (j : Int) ∧ j < m := by
  have h1 := Int.fmod_nonneg_of_pos x (b := (m : Int)) (by omega)
  have h2 := Int.fmod_lt_of_pos x (b := (m : Int)) (by omega)
  exact ⟨(x.fmod m).toNat, by omega, by omega⟩
section
variable {P : Program} {w : World} {K : PySem.W.Frag} {mg : Str → Option Value} {base : Heap}
theorem ok_spread (T : Blt mg) {f : Addr} {fd : FuncData} (F : Fun K "_law_spread" "_law_spread" s_l_spread f fd) : FnOk P w K mg base CX0 1 f fd P_l_spread spSpread := by
  refine F.ok sc_l_spread (fun vs H Q E h => ?_) (fun cdv A outer s H vs Q E hr h => ?_)
  · obtain ⟨l, ds, c, n, rfl, _⟩ := h
    rfl
  · obtain ⟨l, ds, c, n, rfl, hl, hds, c1, c3, n5, k⟩ := h
    have sz : sizeLine = 16777216 := sizeLine_eq
    refine ⟨_, (pss_cons (ps_setLc (i := 3) (own := [("_law_k", 7)]) (g := gName 7) rfl sc_l_spread.nd rfl rfl (sw_true rfl rfl rfl (by decide +kernel)) (pi_range1 rfl T.range (pa_cons (pv 1) pa_nil)) (blkOk_by (own := [("_law_k", 7)]) (N := N_l_spread) (sc := defScope s_l_spread) (by decide +kernel)) (fun _ _ _ _ _ => (pg_name (i := 7) sc_l_spread.nd rfl (Or.inl rfl))) (fun _ _ _ _ _ => pts_nil) (fun _ _ _ _ _ => (pe_tup pa_nil)))
  (pss_cons (ps_for PassesOwn.never rfl (pi_range1 rfl T.range (pa_cons (pv 2) pa_nil)) (pg_name (i := 4) sc_l_spread.nd rfl (Or.inl rfl))
    (pss_cons (ps_set (i := 5) sc_l_spread.nd rfl (Or.inl rfl) (pe_op op_modN (pe_callTy call_int1 (by rfl) T.int (by decide +kernel) (pa_cons (pe_ix ix_list (pv 0) (pe_op op_add pe_int (pv 4)) (fun _ _ => rfl)) pa_nil)) (pv 1)))
    (pss_cons (ps_if (pt_cmpR op_eq (pe_op op_modN (pe_callTy call_int1 (by rfl) T.int (by decide +kernel) (pa_cons (pe_ix ix_list (pv 0) pe_int (fun _ _ => rfl)) pa_nil)) pe_int) pe_int (nomark _))
      (pss_one (ps_set (i := 5) sc_l_spread.nd rfl (Or.inl rfl) (pe_op op_modN (pe_callTy call_int1 (by rfl) T.int (by decide +kernel) (pa_cons (pe_op op_fdiv (pe_ix ix_list (pv 0) pe_int (fun _ _ => rfl)) pe_int) pa_nil)) (pv 1))))
      pss_nil)
    (pss_cons (ps_set (i := 6) sc_l_spread.nd rfl (Or.inl rfl) (pe_op op_modN (pe_callTy call_int1 (by rfl) T.int (by decide +kernel) (pa_cons (pe_op op_fdiv (pe_ix ix_list (pv 0) (pe_op op_add pe_int (pv 4)) (fun _ _ => rfl)) pe_int) pa_nil)) (pe_op op_add (pe_callB call_len_seq (by rfl) T.len (by decide +kernel) (pa_cons (pe_ix ix_list (pv 3) (pv 5) (fun _ _ => rfl)) pa_nil)) pe_int)))
    (pss_one (ps_asg (pe_op op_catA (pe_op op_catA (pe_slice sl_tupA (pe_ix ix_list (pv 3) (pv 5) (fun _ _ => rfl)) po_none (po_some (pv 6))) (pe_tup (pa_cons (pv 4) pa_nil))) (pe_slice sl_tupA (pe_ix ix_list (pv 3) (pv 5) (fun _ _ => rfl)) (po_some (pv 6)) po_none)) (pg_sub (pv 3) (pv 5) set_list)))))))
  (pss_one (ps_ret (pe_callTy call_tuple_of (by rfl) T.tuple (by decide +kernel) (pa_cons (pv 3) pa_nil)))))), ?_⟩
    refine ⟨_, rfl, _, rfl, by omega, by omega, fun D hD => ?_⟩
    rw [Int.toNat_natCast]
    refine it_range (lo := 0) (n := c) (fun j H' => ∃ (B : Hp) (qvs : List V), Same H B ∧ Own B H' [(D, .lst qvs)] ∧ Rps B ((List.replicate j ([] : List Int)).map fun q => .tup (q.map .num)) qvs)
      ⟨H, [], Same.refl _, (Own.start H).new (o := .lst []) hD rfl, .nil⟩ ?_ ?_
    · rintro j H1 hj ⟨B, qvs, sB, O, R⟩
      refine ⟨rfl, ?_⟩
      refine yes_t ?_
      refine ⟨by rw [sz]; show 0 ≤ 16777216; decide, fun p hp => ?_⟩
      obtain ⟨B1, sB1, hp1, O1⟩ := O.fz (o := .tup []) hp
      have hql : qvs.length = j := by rw [R.length, List.length_map, List.length_replicate]
      refine ⟨_, O1.get 0 rfl, by rw [sz]; omega, B1, qvs ++ [.ref p], sB.trans sB1, O1.put 0 rfl rfl, ?_⟩
      rw [List.replicate_succ', List.map_append]
      exact (R.keep (Same.tups sB1)).snoc (rp_tup hp1 .nil)
    rintro H1 ⟨B1, qvs1, sB1, O1, R1⟩
    refine ⟨_, rfl, _, rfl, by omega, by omega, ?_⟩
    rw [Int.toNat_natCast]
    refine for_range (lo := 0) (n := n) (fun j σ H' => ∃ (B : Hp) (qvs : List V) (qs : List (List Int)) (x4 x5 x6 x7 : Option V), σ = [some (.ref l), some (.int ((c : Nat) : Int)), some (.int ((n : Nat) : Int)), some (.ref D), x4, x5, x6, x7] ∧
      Same H B ∧ Own B H' [(D, .lst qvs)] ∧ Rps B (qs.map fun q => .tup (q.map .num)) qvs ∧ qs.length = c ∧ qs.flatten.Perm ((List.range j).map Int.ofNat))
      ⟨B1, qvs1, _, none, none, none, none, rfl, sB1, O1, R1, List.length_replicate, by simp⟩ ?_ ?_
    · rintro j σ H2 hj ⟨B, qvs, qs, x4, x5, x6, x7, rfl, sB, O, R, hqs, hpm⟩
      have ej : (0 : Int) + ((j : Nat) : Int) = ((j : Nat) : Int) := by omega
      obtain ⟨d0, hd0, _⟩ := draws_at hds (i := 0) (by decide)
      obtain ⟨dj, hdj, _⟩ := draws_at hds (i := 1 + j) (by omega)
      have hl2 := (sB.trans O.sub) _ _ hl
      dsimp only [gName]
      -- at
      obtain ⟨i1, ei1, hi1⟩ := fmod_nat (x := dj) (m := c) (by omega)
      refine ⟨_, rfl, _, rfl, _, _, rfl, rfl, l, _, _, _, rfl, rfl, SqL.of hl2, at_of (j := 1 + j) (by omega) (ints_at hdj), .inl ⟨_, rfl, _, rfl, _, _, rfl, rfl, (by show ((c : Nat) : Int) ≠ 0; omega), ?_⟩⟩
      dsimp only [gName]
      rw [ei1, ej]
      refine seq_mid (fun σ' H' => H' = H2 ∧ ∃ i : Nat, i < c ∧ σ' = [some (.ref l), some (.int ((c : Nat) : Int)), some (.int ((n : Nat) : Int)), some (.ref D), some (.int ((j : Nat) : Int)), some (.int ((i : Nat) : Int)), x6, x7]) (fun N hN => ?_) ?_
      · refine ⟨_, rfl, l, _, _, _, rfl, rfl, SqL.of hl2, at_of (j := 0) rfl (ints_at hd0), .inl ⟨_, rfl, _, _, rfl, rfl, (by show (3 : Int) ≠ 0; decide), rfl, _, rfl, ?_⟩⟩
        refine ite2 (fun _ => ?_) (fun _ => ?_)
        · obtain ⟨i2, ei2, hi2⟩ := fmod_nat (x := d0 / 3) (m := c) (by omega)
          refine ⟨_, rfl, l, _, _, _, rfl, rfl, SqL.of hl2, at_of (j := 0) rfl (ints_at hd0), _, _, rfl, rfl, ⟨by decide, by decide⟩, .inl ⟨_, rfl, _, rfl, _, _, rfl, rfl, (by show ((c : Nat) : Int) ≠ 0; omega), ?_⟩⟩
          dsimp only [gName]
          rw [ei2]
          exact hN _ _ ⟨rfl, i2, hi2, rfl⟩
        · exact hN _ _ ⟨rfl, i1, hi1, rfl⟩
      rintro σ3 H3 ⟨rfl, i, hi, rfl⟩
      -- place
      have hiq : i < qs.length := by rw [hqs]; exact hi
      obtain ⟨qv, hqv, rq⟩ := R.get (i := i) (k := .tup ((qs.getD i []).map .num)) (by rw [List.getElem?_map, List.getD_eq_getElem?_getD, List.getElem?_eq_getElem hiq]; rfl)
      obtain ⟨qa, ws, rfl, hqa, rws⟩ := rq.tupD
      have := rws.ofNums
      subst this
      have hql : (qs.getD i []).length ≤ 5 := by
        have hm : qs.getD i [] ∈ qs := by
          rw [List.getD_eq_getElem?_getD, List.getElem?_eq_getElem hiq]
          exact List.getElem_mem hiq
        have h1 := (List.sublist_flatten_of_mem hm).length_le
        have h2 : qs.flatten.length = j := by rw [hpm.length_eq]; simp
        omega
      obtain ⟨q, hq⟩ : ∃ q, q = qs.getD i [] := ⟨_, rfl⟩
      rw [← hq] at hqa hql
      have hqa3 := O.sub _ _ hqa
      obtain ⟨pl, epl, hpl⟩ := fmod_nat (x := dj / 3) (m := q.length + 1) (by omega)
      have elq : (((q.map V.int).length : Nat) : Int) + 1 = ((q.length + 1 : Nat) : Int) := by rw [List.length_map]; omega
      refine ⟨_, rfl, _, rfl, _, _, rfl, rfl, l, _, _, _, rfl, rfl, SqL.of hl2, at_of (j := 1 + j) (by omega) (ints_at hdj), _, _, rfl, rfl, ⟨by decide, by decide⟩, .inl ⟨_, rfl, _, rfl, _, rfl, D, _, _, _, rfl, rfl, SqL.of (O.get 0 rfl), at_of rfl hqv, qa, _, rfl, .inr (SqT.of hqa3), _, _, rfl, rfl, _, _, rfl, rfl, ?_, ?_⟩⟩
      · rw [elq]; show (((q.length + 1 : Nat)) : Int) ≠ 0; omega
      dsimp only [gName]
      rw [elq, epl]
      -- queues[at] = ..
      refine ⟨_, rfl, _, rfl, D, _, _, _, rfl, rfl, SqL.of (O.get 0 rfl), at_of rfl hqv, _, rfl, _, rfl, ?_⟩
      refine sliceA_of hqa3 fun H4 p1 s4 hp1 => ?_
      rw [cutV_to (by omega)] at hp1
      refine ⟨_, rfl, by rw [sz]; show 1 ≤ 16777216; decide, fun p2 hp2 => ?_⟩
      have s5 : Same H4 (upd H4 p2 (.tup [.int ((j : Nat) : Int)])) := fun b u e => by rw [upd_ne (ne_of_none e hp2)]; exact e
      have hp2' : upd H4 p2 (.tup [.int ((j : Nat) : Int)]) p2 = some (.tup [.int ((j : Nat) : Int)]) := upd_same
      generalize upd H4 p2 (.tup [.int ((j : Nat) : Int)]) = H5 at *
      refine catA_of (s5 _ _ hp1) hp2' (by rw [sz, List.length_map, List.length_take]; show _ + 1 ≤ 16777216; omega) fun H6 p3 s6 hp3 => ?_
      have s36 := s4.trans (s5.trans s6)
      refine ⟨_, rfl, _, rfl, D, _, _, _, rfl, rfl, SqL.of (s36 _ _ (O.get 0 rfl)), at_of rfl hqv, _, rfl, _, rfl, ?_⟩
      dsimp only [tNoPart]
      refine sliceA_of (s36 _ _ hqa3) fun H7 p4 s7 hp4 => ?_
      rw [cutV_from (by omega)] at hp4
      have e3 : (q.take pl).map V.int ++ [V.int ((j : Nat) : Int)] = (q.take pl ++ [((j : Nat) : Int)]).map V.int := by rw [List.map_append]; rfl
      rw [e3] at hp3
      refine catA_of (s7 _ _ hp3) hp4 (by rw [sz, List.length_map, List.length_map, List.length_append, List.length_take, List.length_drop]; show min pl q.length + 1 + _ ≤ 16777216; omega) fun H8 p5 s8 hp5 => ?_
      rw [← List.map_append] at hp5
      obtain ⟨B8, sB8, O8, t8, _⟩ := O.call (s36.trans (s7.trans s8))
      refine ⟨_, rfl, _, rfl, D, _, _, i, rfl, rfl, O8.get 0 rfl, ixN_at (by rw [R.length, List.length_map]; exact hiq), ?_⟩
      have O9 := O8.put 0 (o := .lst (qvs.set i (.ref p5))) rfl rfl
      refine ⟨B8, _, qs.set i (q.take pl ++ [((j : Nat) : Int)] ++ q.drop pl), _, _, _, _, rfl, sB.trans sB8, O9, ?_, by rw [List.length_set]; exact hqs, ?_⟩
      · rw [List.map_set]
        exact Rps.set (R.keep (Same.tups sB8)) (rp_tup (t8 _ _ hp5) (Rps.nums _))
      · have e1 := flatten_put (x := ((j : Nat) : Int)) (qs := qs) (i := i) (q := q.take pl ++ [((j : Nat) : Int)] ++ q.drop pl) hiq (by
          rw [← hq, List.append_assoc]
          refine (List.Perm.append_left _ List.perm_append_comm).trans ?_
          rw [← List.append_assoc, List.take_append_drop])
        rw [List.range_succ, List.map_append]
        exact e1.trans (List.Perm.append_right _ hpm)
    · rintro σ H2 ⟨B, qvs, qs, x4, x5, x6, x7, rfl, sB, O, R, hqs, hpm⟩
      refine ⟨_, rfl, D, _, rfl, .inl ⟨SqL.of (O.get 0 rfl), fun p hp => ?_⟩⟩
      have s1 : Same H2 (upd H2 p (.tup qvs)) := fun b u e => by rw [upd_ne (ne_of_none e hp)]; exact e
      exact k _ p qs (sB.trans (O.sub.trans s1)) (rp_tup upd_same (R.keep (Same.tups (Same.trans O.sub s1)))) hqs hpm
end
end ND
end
section
set_option Elab.async false
set_option linter.all false
set_option maxRecDepth 100000
set_option maxHeartbeats 4000000
namespace ND
open PySem L2
open PyProof.Rows (envOfC)
open PH
/-! ### the law: hall -/
def tPairs : List (Int × Int) → TA
  | [] => tNil
  | (a, b) :: r => tCons (tTup (tCons (tC (.int a)) (tCons (tC (.int b)) tNil))) (tPairs r)
theorem pairs_ok : ∀ (l : List (Int × Int)) (σ : L2.St) (H : Hp) (Q : List V → Hp → Prop), (∀ (H' : Hp) (vs : List V), Same H H' → vs.length = l.length → (∀ (i : Nat) a b, l[i]? = some (a, b) → ∃ p, vs[i]? = some (.ref p) ∧ H' p = some (.tup [.int a, .int b])) → Q vs H') → tPairs l σ H Q
  | [], σ, H, Q, h => h H [] (Same.refl H) rfl (fun i a b e => by simp at e)
  | (a, b) :: r, σ, H, Q, h => by
    have sz : sizeLine = 16777216 := sizeLine_eq
    refine ⟨by rw [sz]; show 2 ≤ 16777216; decide, fun p hp => ?_⟩
    have s1 : Same H (upd H p (.tup [.int a, .int b])) := fun b u e => by rw [upd_ne (ne_of_none e hp)]; exact e
    refine pairs_ok r σ _ _ fun H' vs s' hl hv => ?_
    refine h H' (.ref p :: vs) (s1.trans s') (by rw [List.length_cons, hl]; rfl) fun i x y e => ?_
    cases i with
    | zero =>
      simp at e
      obtain ⟨rfl, rfl⟩ := e
      exact ⟨p, rfl, s' _ _ upd_same⟩
    | succ i => exact hv i x y (by simpa using e)
def sizesL : List (Int × Int) := [(2, 3), (2, 2), (3, 2), (2, 3), (2, 1), (2, 4), (2, 2), (1, 3), (2, 3), (3, 2), (1, 4), (3, 1), (2, 3), (3, 4), (2, 0), (2, 3), (2, 2), (3, 2), (1, 5), (2, 3), (2, 4), (1, 2), (2, 3), (2, 3), (3, 5), (3, 0), (1, 1), (2, 3), (2, 4), (1, 0)]
structure HallIn (H : Hp) (qa lv rv : Addr) (q0 : List (List Int)) (c n : Nat) (least : List Int) (rules : List Str) : Prop where
  q : Rp H (queuesK q0) (.ref qa)
  hv : HV c n (q0, List.replicate c (-1))
  c1 : 1 ≤ c
  c3 : c ≤ 3
  n5 : n ≤ 5
  hl : H lv = some (.lst (least.map V.int))
  hr : H rv = some (.lst (rules.map V.str))
  ti : TakIn least rules
theorem hv_of {q0 : List (List Int)} {c n : Nat} (h1 : q0.length = c) (h2 : q0.flatten.Perm ((List.range n).map Int.ofNat)) : HV c n (q0, List.replicate c (-1)) :=
  ⟨h1, List.length_replicate, fun i hi => .inl (by
    show (List.replicate c (-1 : Int)).getD i (-1) = -1
    rw [List.getD_eq_getElem?_getD, List.getElem?_replicate]
    split <;> rfl), h2⟩
def spHall (K : PySem.W.Frag) : Sp := fun vs H Q _ => ∃ (s : Addr) (ns : List Int), vs = [.ref s] ∧ SqL K H s (ns.map V.int) ∧
  ∀ (H' : Hp) (p qa lv rv : Addr) (q0 : List (List Int)) (c n : Nat) (least : List Int) (rules : List Str), Same H H' → H' p = some (.tup [.ref qa, .ref lv, .ref rv]) → HallIn H' qa lv rv q0 c n least rules → Q (.ref p) H'
section
variable {P : Program} {w : World} {K : PySem.W.Frag} {mg : Str → Option Value} {base : Heap}
theorem ok_hall (T : Blt mg) {f_l_draws : Addr} {fd_l_draws : FuncData} (G_l_draws : FnOk P w K mg base CX0 2 f_l_draws fd_l_draws P_l_draws (spDraws K)) (g_l_draws : mg "_law_draws" = some (.ref f_l_draws)) (k_l_draws : PySem.W.keepIn K (.ref f_l_draws) = true) (b_l_draws : Binds K fd_l_draws P_l_draws [])
    {f_l_book : Addr} {fd_l_book : FuncData} (G_l_book : FnOk P w K mg base CX0 1 f_l_book fd_l_book P_l_book spBook) (g_l_book : mg "_law_book" = some (.ref f_l_book)) (k_l_book : PySem.W.keepIn K (.ref f_l_book) = true) (b_l_book : Binds K fd_l_book P_l_book [])
    {f_l_spread : Addr} {fd_l_spread : FuncData} (G_l_spread : FnOk P w K mg base CX0 1 f_l_spread fd_l_spread P_l_spread spSpread) (g_l_spread : mg "_law_spread" = some (.ref f_l_spread)) (k_l_spread : PySem.W.keepIn K (.ref f_l_spread) = true) (b_l_spread : Binds K fd_l_spread P_l_spread [])
    {f : Addr} {fd : FuncData} (F : Fun K "_law_hall" "_law_hall" s_l_hall f fd) : FnOk P w K mg base CX0 3 f fd P_l_hall (spHall K) := by
  refine F.ok sc_l_hall (fun vs H Q E h => ?_) (fun cdv A outer s H vs Q E hr h => ?_)
  · obtain ⟨sa, ns, rfl, _⟩ := h
    rfl
  · obtain ⟨sa, ns, rfl, hs, k⟩ := h
    have sz : sizeLine = 16777216 := sizeLine_eq
    refine ⟨_, (pss_cons (ps_set (i := 1) sc_l_hall.nd rfl (Or.inl rfl) (pe_lst (t := tPairs sizesL) (pa_cons (pe_tup (pa_cons pe_int (pa_cons pe_int pa_nil))) (pa_cons (pe_tup (pa_cons pe_int (pa_cons pe_int pa_nil))) (pa_cons (pe_tup (pa_cons pe_int (pa_cons pe_int pa_nil))) (pa_cons (pe_tup (pa_cons pe_int (pa_cons pe_int pa_nil))) (pa_cons (pe_tup (pa_cons pe_int (pa_cons pe_int pa_nil))) (pa_cons (pe_tup (pa_cons pe_int (pa_cons pe_int pa_nil))) (pa_cons (pe_tup (pa_cons pe_int (pa_cons pe_int pa_nil))) (pa_cons (pe_tup (pa_cons pe_int (pa_cons pe_int pa_nil))) (pa_cons (pe_tup (pa_cons pe_int (pa_cons pe_int pa_nil))) (pa_cons (pe_tup (pa_cons pe_int (pa_cons pe_int pa_nil))) (pa_cons (pe_tup (pa_cons pe_int (pa_cons pe_int pa_nil))) (pa_cons (pe_tup (pa_cons pe_int (pa_cons pe_int pa_nil))) (pa_cons (pe_tup (pa_cons pe_int (pa_cons pe_int pa_nil))) (pa_cons (pe_tup (pa_cons pe_int (pa_cons pe_int pa_nil))) (pa_cons (pe_tup (pa_cons pe_int (pa_cons pe_int pa_nil))) (pa_cons (pe_tup (pa_cons pe_int (pa_cons pe_int pa_nil))) (pa_cons (pe_tup (pa_cons pe_int (pa_cons pe_int pa_nil))) (pa_cons (pe_tup (pa_cons pe_int (pa_cons pe_int pa_nil))) (pa_cons (pe_tup (pa_cons pe_int (pa_cons pe_int pa_nil))) (pa_cons (pe_tup (pa_cons pe_int (pa_cons pe_int pa_nil))) (pa_cons (pe_tup (pa_cons pe_int (pa_cons pe_int pa_nil))) (pa_cons (pe_tup (pa_cons pe_int (pa_cons pe_int pa_nil))) (pa_cons (pe_tup (pa_cons pe_int (pa_cons pe_int pa_nil))) (pa_cons (pe_tup (pa_cons pe_int (pa_cons pe_int pa_nil))) (pa_cons (pe_tup (pa_cons pe_int (pa_cons pe_int pa_nil))) (pa_cons (pe_tup (pa_cons pe_int (pa_cons pe_int pa_nil))) (pa_cons (pe_tup (pa_cons pe_int (pa_cons pe_int pa_nil))) (pa_cons (pe_tup (pa_cons pe_int (pa_cons pe_int pa_nil))) (pa_cons (pe_tup (pa_cons pe_int (pa_cons pe_int pa_nil))) (pa_cons (pe_tup (pa_cons pe_int (pa_cons pe_int pa_nil))) pa_nil))))))))))))))))))))))))))))))))
  (pss_cons (ps_set (i := 2) sc_l_hall.nd rfl (Or.inl rfl) (pe_call G_l_draws (hr.mono (show 2 ≤ 2 by decide)) rfl g_l_draws k_l_draws b_l_draws .nil pass0 (pa_cons (pv 0) (pa_cons pe_int (pa_cons pe_int pa_nil)))))
  (pss_cons (ps_asg (pe_ix ix_list (pv 1) (pe_op op_modN (pe_callTy call_int1 (by rfl) T.int (by decide +kernel) (pa_cons (pe_ix ix_list (pv 2) pe_int (fun _ _ => rfl)) pa_nil)) pe_int) (fun _ _ => rfl)) (pg_tup rfl (pgs_cons (pg_name (i := 3) sc_l_hall.nd rfl (Or.inl rfl)) (pgs_cons (pg_name (i := 4) sc_l_hall.nd rfl (Or.inl rfl)) pgs_nil))))
  (pss_cons (ps_asg (pe_call G_l_book (hr.mono (show 1 ≤ 2 by decide)) rfl g_l_book k_l_book b_l_book .nil pass0 (pa_cons (pe_call G_l_draws (hr.mono (show 2 ≤ 2 by decide)) rfl g_l_draws k_l_draws b_l_draws .nil pass0 (pa_cons (pv 0) (pa_cons pe_int (pa_cons pe_int pa_nil)))) pa_nil)) (pg_tup rfl (pgs_cons (pg_name (i := 5) sc_l_hall.nd rfl (Or.inl rfl)) (pgs_cons (pg_name (i := 6) sc_l_hall.nd rfl (Or.inl rfl)) pgs_nil))))
  (pss_cons (ps_if (pt_cmpR op_gt (pe_op op_mul (pv 3) (pv 4)) pe_int (nomark _))
    (pss_one (ps_set (i := 5) sc_l_hall.nd rfl (Or.inl rfl) (pe_slice sl_list (pv 5) po_none (po_some pe_int))))
    pss_nil)
  (pss_one (ps_ret (pe_tup (pa_cons (pe_call G_l_spread (hr.mono (show 1 ≤ 2 by decide)) rfl g_l_spread k_l_spread b_l_spread .nil pass0 (pa_cons (pe_slice sl_list (pv 2) (po_some pe_int) (po_some pe_int)) (pa_cons (pv 3) (pa_cons (pv 4) pa_nil)))) (pa_cons (pv 5) (pa_cons (pv 6) pa_nil))))))))))), ?_⟩
    dsimp only [tSeq, tAsg, tLst]
    refine pairs_ok sizesL _ _ _ fun H1 vs1 s1 hl1 hv1 => ?_
    refine ⟨by rw [sz, hl1]; show 30 ≤ 16777216; decide, fun p1 hp1 => ?_⟩
    have s2 : Same H1 (upd H1 p1 (.lst vs1)) := fun b u e => by rw [upd_ne (ne_of_none e hp1)]; exact e
    have hp1' : upd H1 p1 (.lst vs1) p1 = some (.lst vs1) := upd_same
    generalize upd H1 p1 (.lst vs1) = H2 at *
    -- d
    refine ⟨_, rfl, sa, ns, 0, 7, rfl, (s1.trans s2).seq hs, by decide, by decide, fun H3 dl ds s3 _ hdl hdn hdb => ?_⟩
    have hds : DrawsOk ds 7 := ⟨hdn, hdb⟩
    obtain ⟨d0, hd0, _⟩ := draws_at hds (i := 0) (by decide)
    obtain ⟨j1, ⟨cc, nn⟩, ej1, hsz⟩ : ∃ j v, d0.fmod 30 = ((j : Nat) : Int) ∧ sizesL[j]? = some v := by
      obtain ⟨j, ej, hj⟩ := fmod_nat (x := d0) (m := 30) (by decide)
      exact ⟨j, sizesL[j]'hj, ej, List.getElem?_eq_getElem hj⟩
    have hcn : (1 ≤ cc ∧ cc ≤ 3) ∧ 0 ≤ nn ∧ nn ≤ 5 := by
      have : ∀ x ∈ sizesL, (1 ≤ x.1 ∧ x.1 ≤ 3) ∧ 0 ≤ x.2 ∧ x.2 ≤ 5 := by decide
      exact this _ (List.mem_of_getElem? hsz)
    obtain ⟨c, hc⟩ : ∃ c : Nat, cc = ((c : Nat) : Int) := ⟨cc.toNat, by omega⟩
    obtain ⟨n, hn⟩ : ∃ n : Nat, nn = ((n : Nat) : Int) := ⟨nn.toNat, by omega⟩
    subst hc hn
    obtain ⟨pt, hpt, hpt'⟩ := hv1 j1 _ _ hsz
    refine ⟨_, rfl, _, rfl, dl, _, _, _, rfl, rfl, SqL.of hdl, at_of (j := 0) rfl (ints_at hd0), .inl ⟨_, rfl, _, _, rfl, rfl, (by show (30 : Int) ≠ 0; decide), p1, _, _, _, rfl, rfl, SqL.of (s3 _ _ hp1'), at_of ej1 hpt, ?_⟩⟩
    have s23 := s2.trans s3
    refine ⟨pt, [.int ((c : Nat) : Int), .int ((n : Nat) : Int)], rfl, SqT.of (s23 _ _ hpt'), rfl, _, _, rfl, _, _, rfl, rfl, ?_⟩
    -- least, rules
    have s13 := s1.trans s23
    refine ⟨_, rfl, sa, ns, 1, 7, rfl, s13.seq hs, by decide, by decide, fun H4 el es s4 _ hel hen heb => ?_⟩
    refine ⟨el, es, rfl, hel, ⟨hen, heb⟩, fun H5 pb lv rv least rules s5 hpb hlv hrv ti => ?_⟩
    refine ⟨pb, [.ref lv, .ref rv], rfl, SqT.of hpb, rfl, _, _, rfl, _, _, rfl, rfl, ?_⟩
    have s35 := s4.trans s5
    dsimp only [gName]
    refine seq_mid (fun σ' H' => ∃ (lv2 : Addr) (least2 : List Int), σ' = [some (.ref sa), some (.ref p1), some (.ref dl), some (.int ((c : Nat) : Int)), some (.int ((n : Nat) : Int)), some (.ref lv2), some (.ref rv)] ∧
      Same H5 H' ∧ H' lv2 = some (.lst (least2.map V.int)) ∧ TakIn least2 rules) (fun N hN => ?_) ?_
    · refine ⟨_, rfl, _, rfl, _, _, rfl, rfl, .inl ⟨by omega, by omega⟩, _, _, rfl, rfl, _, rfl, ?_⟩
      refine ite2 (fun _ => ?_) (fun _ => ?_)
      · refine ⟨_, rfl, _, rfl, lv, _, rfl, SqL.of hlv, fun q hq => ?_⟩
        have ec : cutV (least.map V.int) none (some 1) = (least.take 1).map V.int := cutV_to (xs := least) (k := 1) ti.l1
        rw [ec]
        refine hN _ _ ⟨q, least.take 1, rfl, fun b u e => by rw [upd_ne (ne_of_none e hq)]; exact e, upd_same, ?_⟩
        have h1 := ti.l1
        have h5 := ti.l5
        exact ⟨by rw [List.length_take]; omega, by rw [List.length_take]; omega, fun x hx => ti.bd x (List.mem_of_mem_take hx), ti.nd, ti.ok⟩
      · exact hN _ _ ⟨lv, least, rfl, Same.refl _, hlv, ti⟩
    rintro σ6 H6 ⟨lv2, least2, rfl, s6, hlv2, ti2⟩
    have hdl6 := (s35.trans s6) _ _ hdl
    refine ⟨_, rfl, _, rfl, _, rfl, dl, _, rfl, SqL.of hdl6, fun q hq => ?_⟩
    have ec : cutV (ds.map V.int) (some 1) (some 7) = ((ds.drop 1).take 6).map V.int := by
      unfold cutV
      rw [show (some (1 : Int)) = some ((1 : Nat) : Int) from rfl, show (some (7 : Int)) = some ((7 : Nat) : Int) from rfl, HT.sIx_nat, HT.sIx_nat, List.length_map, hdn, List.map_take, List.map_drop]
      rfl
    rw [ec]
    have s7 : Same H6 (upd H6 q (.lst (((ds.drop 1).take 6).map V.int))) := fun b u e => by rw [upd_ne (ne_of_none e hq)]; exact e
    have hq' : upd H6 q (.lst (((ds.drop 1).take 6).map V.int)) q = some (.lst (((ds.drop 1).take 6).map V.int)) := upd_same
    generalize upd H6 q (.lst (((ds.drop 1).take 6).map V.int)) = H7 at *
    refine ⟨_, rfl, _, rfl, q, (ds.drop 1).take 6, c, n, rfl, hq', ⟨by rw [List.length_take, List.length_drop, hdn]; rfl, fun x hx => hdb x (List.mem_of_mem_drop (List.mem_of_mem_take hx))⟩, by omega, by omega, by omega, fun H8 qa q0 s8 rq hqc hqp => ?_⟩
    refine ⟨_, rfl, _, rfl, by rw [sz]; show 3 ≤ 16777216; decide, fun pr hpr => ?_⟩
    have s9 : Same H8 (upd H8 pr (.tup [.ref qa, .ref lv2, .ref rv])) := fun b u e => by rw [upd_ne (ne_of_none e hpr)]; exact e
    have s79 := s7.trans (s8.trans s9)
    refine k _ pr qa lv2 rv q0 c n least2 rules (s13.trans (s35.trans (s6.trans s79))) upd_same ⟨rq.keep (Same.tups s9), hv_of hqc hqp, by omega, by omega, by omega, s79 _ _ hlv2, (s6.trans s79) _ _ hrv, ti2⟩
end
end ND
end
section
set_option Elab.async false
set_option linter.all false
set_option maxRecDepth 100000
set_option maxHeartbeats 4000000
namespace ND
open PySem L2
open PyProof.Rows (envOfC)
open PH
/-! ### the law: picks -/
def spLPicks : Sp := fun vs H Q _ => ∃ (lv rv : Addr) (pz : V) (least : List Int) (rules : List Str) (c n : Nat) (p : HPos) (i : Nat), vs = [.ref lv, .ref rv, pz, .int ((i : Nat) : Int)] ∧ H lv = some (.lst (least.map V.int)) ∧ H rv = some (.lst (rules.map V.str)) ∧
  Rp H (posK p) pz ∧ HV c n p ∧ c ≤ 3 ∧ i < c ∧ ∀ (H' : Hp) (l : Addr), Same H H' → H l = none → H' l = some (.lst ((picksOf (tkOf least rules) p i).map V.int)) → Q (.ref l) H'
section
variable {P : Program} {w : World} {K : PySem.W.Frag} {mg : Str → Option Value} {base : Heap}
theorem ok_lpicks (T : Blt mg) {f_l_may : Addr} {fd_l_may : FuncData} (G_l_may : FnOk P w K mg base CX0 1 f_l_may fd_l_may P_l_may spMay) (g_l_may : mg "_law_may" = some (.ref f_l_may)) (k_l_may : PySem.W.keepIn K (.ref f_l_may) = true) (b_l_may : Binds K fd_l_may P_l_may [])
    {f : Addr} {fd : FuncData} (F : Fun K "_law_picks" "_law_picks" s_l_picks f fd) : FnOk P w K mg base CX0 2 f fd P_l_picks spLPicks := by
  refine F.ok sc_l_picks (fun vs H Q E h => ?_) (fun cdv A outer s H vs Q E hr h => ?_)
  · obtain ⟨lv, rv, pz, least, rules, c, n, p, i, rfl, _⟩ := h
    rfl
  · obtain ⟨lv, rv, pz, least, rules, c, n, p, i, rfl, hlv, hrv, rp, hv, hc3, hi, k⟩ := h
    have sz : sizeLine = 16777216 := sizeLine_eq
    obtain ⟨qa, la, qvs, PA⟩ := posAt_of rp
    obtain ⟨pa, rfl, hpa⟩ := PA.top
    have hll : p.2.length = c := hv.ll
    have hql : p.1.length = c := hv.ql
    have hqv : qvs.length = c := by rw [PA.ql, hql]
    obtain ⟨t, ht⟩ : ∃ t, t = tkOf least rules := ⟨_, rfl⟩
    have htl : t.least = least := by rw [ht]; rfl
    have hta : t.any_ = inV (.str "any") (rules.map V.str) := by rw [ht]; rfl
    rw [← ht] at k
    refine ⟨_, (pss_cons (ps_if (pt_cmpR op_ge (pe_ix ix_tup (pe_ix ix_tup (pv 2) pe_int (fun _ _ => rfl)) (pv 3) (fun _ _ => rfl)) pe_int (nomark _))
    (pss_one (ps_ret (pe_lst (pa_cons (pe_un un_neg pe_int) pa_nil))))
    pss_nil)
  (pss_cons (ps_set (i := 4) sc_l_picks.nd rfl (Or.inr rfl) (pe_lc (own := [("_law_queue", 7)]) (g := gName 7) rfl sc_l_picks.nd (pi_tup (pe_ix ix_tup (pv 2) pe_int (fun _ _ => rfl))) (blkOk_by (own := [("_law_queue", 7)]) (N := N_l_picks) (sc := defScope s_l_picks) (by decide +kernel)) (fun _ _ _ _ _ => (pg_name (i := 7) sc_l_picks.nd rfl (Or.inl rfl))) (fun _ _ _ _ _ => pts_nil) (fun _ _ _ _ _ => (pe_callB (call_lenB (K := K)) (by rfl) T.len (by decide +kernel) (pa_cons (pv 7) pa_nil)))))
  (pss_cons (ps_setLc (i := 5) (own := [("_law_other", 8)]) (g := gName 8) rfl sc_l_picks.nd rfl rfl (sw_true rfl rfl rfl (by decide +kernel)) (pi_range1 rfl T.range (pa_cons (pe_callB call_len_seq (by rfl) T.len (by decide +kernel) (pa_cons (pv 4) pa_nil)) pa_nil)) (blkOk_by (own := [("_law_other", 8)]) (N := N_l_picks) (sc := defScope s_l_picks) (by decide +kernel)) (fun _ _ _ _ _ => (pg_name (i := 8) sc_l_picks.nd rfl (Or.inl rfl))) (fun _ _ _ _ _ => (pts_one (PW.pt (pw_and (pt_cmpR op_ne (pv 8) (pv 3) (nomark _)) (pw_and1 (pt_val (pe_call G_l_may (hr.mono (show 1 ≤ 1 by decide)) rfl g_l_may k_l_may b_l_may .nil pass0 (pa_cons (pv 0) (pa_cons (pe_ix (ix_listB (K := K)) (pv 4) (pv 3) (fun _ _ => rfl)) (pa_cons (pe_ix (ix_listB (K := K)) (pv 4) (pv 8) (fun _ _ => rfl)) pa_nil)))))))))) (fun _ _ _ _ _ => (pv 8)))
  (pss_cons (ps_if (pt_cmpR op_eq (pe_callB call_len_seq (by rfl) T.len (by decide +kernel) (pa_cons (pv 5) pa_nil)) pe_int (nomark _))
    (pss_one (ps_ret (pe_lst (pa_cons (pe_un un_neg pe_int) pa_nil))))
    pss_nil)
  (pss_cons (ps_if (pt_cmpR op_in_seq pe_str (pv 1) (by rfl))
    (pss_one (ps_ret (pv 5)))
    pss_nil)
  (pss_cons (ps_set (i := 6) sc_l_picks.nd rfl (Or.inr rfl) (pe_callB (cr_max rfl) (by rfl) T.max (by decide +kernel) (pa_cons (pe_lc (own := [("_law_other", 8)]) (g := gName 8) rfl sc_l_picks.nd (pi_list (pv 5)) (blkOk_by (own := [("_law_other", 8)]) (N := N_l_picks) (sc := defScope s_l_picks) (by decide +kernel)) (fun _ _ _ _ _ => (pg_name (i := 8) sc_l_picks.nd rfl (Or.inl rfl))) (fun _ _ _ _ _ => pts_nil) (fun _ _ _ _ _ => (pe_ix (ix_listB (K := K)) (pv 4) (pv 8) (fun _ _ => rfl)))) pa_nil)))
  (pss_one (ps_ret (pe_slice sl_list (pe_lc (own := [("_law_other", 8)]) (g := gName 8) rfl sc_l_picks.nd (pi_list (pv 5)) (blkOk_by (own := [("_law_other", 8)]) (N := N_l_picks) (sc := defScope s_l_picks) (by decide +kernel)) (fun _ _ _ _ _ => (pg_name (i := 8) sc_l_picks.nd rfl (Or.inl rfl))) (fun _ _ _ _ _ => (pts_one (pt_cmpR op_eq (pe_ix (ix_listB (K := K)) (pv 4) (pv 8) (fun _ _ => rfl)) (pv 6) (nomark _)))) (fun _ _ _ _ _ => (pv 8))) po_none (po_some pe_int)))))))))), ?_⟩
    refine ⟨_, rfl, pa, _, _, _, rfl, rfl, SqT.of hpa, at_of (j := 1) rfl rfl, _, rfl, la, _, _, _, rfl, rfl, SqT.of PA.lk, at_of rfl (look_at (by omega)), _, _, rfl, rfl, _, rfl, ?_⟩
    refine ite2 (fun hge => ?_) (fun hlt => ?_)
    · have h0 : 0 ≤ p.2.getD i (-1) := of_decide_eq_true hge
      refine ⟨_, rfl, by rw [sz]; show 1 ≤ 16777216; decide, fun l hl => ?_⟩
      refine k _ l (fun b u e => by rw [upd_ne (ne_of_none e hl)]; exact e) hl ?_
      rw [upd_same]
      unfold picksOf
      rw [if_pos h0]; rfl
    have h0 : ¬ 0 ≤ p.2.getD i (-1) := fun z => hlt (decide_eq_true z)
    have pk : picksOf t p i = if othersOf t p.1 i = [] then [-1] else if t.any_ = true then (othersOf t p.1 i).map Int.ofNat
        else (((othersOf t p.1 i).filter fun o => decide (qlen p.1 o = most ((othersOf t p.1 i).map (qlen p.1)))).take 1).map Int.ofNat := by
      unfold picksOf
      rw [if_neg h0]
    -- sizes
    refine ⟨_, rfl, pa, _, _, _, rfl, rfl, SqT.of hpa, at_of (j := 0) rfl rfl, qa, rfl, ⟨_, SqT.of PA.qs⟩, fun D0 hD0 => ?_⟩
    refine it_tup (K := K) (a := qa) (xs := qvs) (fun j H' => ∃ B : Hp, Same H B ∧ Own B H' [(D0, .lst ((List.range j).map fun o => natV (qlen p.1 o)))])
      ⟨H, Same.refl H, (Own.start H).new (o := .lst []) hD0 rfl⟩ ?_ ?_ ?_
    · rintro j H' _ ⟨B, sB, O⟩
      exact SqT.of ((sB.trans O.sub) _ _ PA.qs)
    · rintro j x H1 hx ⟨B, sB, O⟩
      have hjl : j < p.1.length := by rw [← PA.ql]; exact (List.getElem?_eq_some_iff.mp hx).1
      obtain ⟨aj, haj, hqj⟩ := PA.row j hjl
      rw [haj] at hx
      cases hx
      refine ⟨rfl, ?_⟩
      refine yes_t ?_
      refine ⟨_, rfl, aj, _, rfl, .inr (SqT.of ((sB.trans O.sub) _ _ hqj)), ?_⟩
      refine ⟨_, O.get 0 rfl, by rw [sz, List.length_map, List.length_range]; omega, B, sB, ?_⟩
      rw [List.range_succ, List.map_append]
      have O2 := O.put 0 (o := .lst ((List.range j).map (fun o => natV (qlen p.1 o)) ++ [.int ((((p.1.getD j []).map V.int).length : Nat) : Int)])) rfl rfl
      have el : ((p.1.getD j []).map V.int).length = qlen p.1 j := by rw [List.length_map]; rfl
      rw [el] at O2 ⊢
      exact O2
    rintro H1 ⟨B0, sB0, O0⟩
    obtain ⟨B1, sB1, hD1, O1⟩ := O0.keep
    have s01 := sB0.trans sB1
    have hD1' : B1 D0 = some (.lst ((List.range c).map fun o => natV (qlen p.1 o))) := by rw [hD1, hqv]
    have at0 : ∀ o, o < c → ((List.range c).map fun o => natV (qlen p.1 o))[o]? = some (natV (qlen p.1 o)) := fun o ho => by
      rw [List.getElem?_map, List.getElem?_range ho]; rfl
    -- found
    have hD1H := O1.sub _ _ hD1'
    refine ⟨_, rfl, D0, _, rfl, .inl (SqL.of hD1H), _, rfl, by omega, by rw [List.length_map, List.length_range]; omega, fun D hD => ?_⟩
    have hn : ((((List.range c).map fun o => natV (qlen p.1 o)).length : Nat) : Int).toNat = c := by rw [Int.toNat_natCast, List.length_map, List.length_range]
    rw [hn]
    refine it_range (lo := 0) (n := c) (fun j H' => ∃ B : Hp, Same B1 B ∧ Own B H' [(D, .lst (((List.range j).filter fun o => decide (o ≠ i) && may t.least (qlen p.1 i) (qlen p.1 o)).map natV))])
      ⟨B1, Same.refl _, O1.new (o := .lst []) hD rfl⟩ ?_ ?_
    · rintro j H2 hj ⟨B, sB, O⟩
      have sH := (s01.trans sB).trans O.sub
      have ej : (0 : Int) + ((j : Nat) : Int) = ((j : Nat) : Int) := by omega
      refine ⟨rfl, ?_⟩
      have ef : ((List.range (j + 1)).filter fun o => decide (o ≠ i) && may t.least (qlen p.1 i) (qlen p.1 o)) =
          (List.range j).filter (fun o => decide (o ≠ i) && may t.least (qlen p.1 i) (qlen p.1 o)) ++ if (decide (j ≠ i) && may t.least (qlen p.1 i) (qlen p.1 j)) = true then [j] else [] := by
        rw [List.range_succ, List.filter_append, List.filter_cons]; rfl
      refine ⟨_, rfl, _, rfl, rfl, _, rfl, ?_⟩
      have e0 : (!decide (V.int ((0 : Int) + ((j : Nat) : Int)) = V.int ((i : Nat) : Int))) = decide (j ≠ i) := by
        rw [ej]
        by_cases q : j = i
        · subst q; simp
        · have : ¬ V.int ((j : Nat) : Int) = V.int ((i : Nat) : Int) := fun z => by injection z with z; omega
          rw [decide_eq_false this, decide_eq_true q]; rfl
      rw [e0]
      by_cases q : j = i
      · rw [decide_eq_false (fun z => z q)]
        refine iteF ?_
        refine iteF ?_
        refine ⟨B, sB, ?_⟩
        rw [ef, decide_eq_false (fun z => z q)]
        simpa using O
      · rw [decide_eq_true q]
        refine iteT ?_
        have hD2 := O.sub _ _ (sB _ _ hD1')
        refine ⟨_, rfl, _, rfl, _, rfl, D0, _, _, _, rfl, rfl, SqL.of hD2, at_of rfl (at0 i hi), _, rfl, _, rfl, D0, _, _, _, rfl, rfl, SqL.of hD2, at_of ej (at0 j hj), ?_⟩
        refine ⟨lv, least, qlen p.1 i, qlen p.1 j, rfl, sH _ _ hlv, _, rfl, ?_⟩
        rw [← htl]
        dsimp only
        by_cases m : may t.least (qlen p.1 i) (qlen p.1 j) = true
        · rw [if_pos m]
          refine ⟨_, rfl, _, O.get 0 rfl, ?_, ?_⟩
          · rw [sz, List.length_map]
            have := List.length_filter_le (fun o => decide (o ≠ i) && may t.least (qlen p.1 i) (qlen p.1 o)) (List.range j)
            rw [List.length_range] at this
            omega
          · refine ⟨B, sB, ?_⟩
            rw [ef, decide_eq_true q, m, List.map_append]
            have O2 := O.put 0 (o := .lst (((List.range j).filter fun o => decide (o ≠ i) && may t.least (qlen p.1 i) (qlen p.1 o)).map natV ++ [.int ((0 : Int) + ((j : Nat) : Int))])) rfl rfl
            rw [ej] at O2 ⊢
            exact O2
        · rw [if_neg m]
          refine ⟨B, sB, ?_⟩
          rw [ef, decide_eq_true q, Bool.true_and, if_neg m]
          simpa using O
    rintro H2 ⟨B2, sB2, O2⟩
    have eo : ((List.range c).filter fun o => decide (o ≠ i) && may t.least (qlen p.1 i) (qlen p.1 o)) = othersOf t p.1 i := by unfold othersOf; rw [hql]
    rw [eo] at O2
    obtain ⟨os, hos⟩ : ∃ os, os = othersOf t p.1 i := ⟨_, rfl⟩
    rw [← hos] at O2 pk
    have osc : ∀ o ∈ os, o < c := fun o ho => by
      rw [hos] at ho
      unfold othersOf at ho
      have := (List.mem_filter.mp ho).1
      rw [List.mem_range, hql] at this; exact this
    have osl : os.length ≤ 3 := by
      rw [hos]
      unfold othersOf
      refine Nat.le_trans (List.length_filter_le _ _) ?_
      rw [List.length_range, hql]; exact hc3
    have sB12 := s01.trans sB2
    have sH2 := sB12.trans O2.sub
    -- if len(found) == 0
    refine ⟨_, rfl, D, _, rfl, .inl (SqL.of (O2.get 0 rfl)), rfl, _, rfl, ?_⟩
    by_cases he : os = []
    · subst he
      refine iteT ?_
      refine ⟨_, rfl, by rw [sz]; show 1 ≤ 16777216; decide, fun l hl => ?_⟩
      refine k _ l (sH2.trans fun b u e => by rw [upd_ne (ne_of_none e hl)]; exact e) (free_of sH2 hl) ?_
      rw [upd_same, pk, if_pos rfl]; rfl
    have hne : decide (V.int (((os.map natV).length : Nat) : Int) = V.int 0) = false := by
      refine decide_eq_false fun z => he ?_
      injection z with z
      rw [List.length_map] at z
      exact List.eq_nil_of_length_eq_zero (by omega)
    dsimp only
    rw [hne]
    refine iteF ?_
    rw [if_neg he] at pk
    -- if "any" in rules
    refine ⟨_, rfl, rv, _, rfl, .inl (SqL.of (sH2 _ _ hrv)), rfl, flat_strs _, t.any_, ?_, ?_⟩
    · rw [hta]; rfl
    by_cases ha : t.any_ = true
    · rw [if_pos ha] at pk
      rw [ha]
      refine iteT ?_
      refine ⟨_, rfl, ?_⟩
      refine k _ D sH2 (sB12.free (O2.fresh 0 rfl)) ?_
      rw [O2.get 0 rfl, pk, List.map_map]; rfl
    rw [if_neg ha] at pk
    have hfa : t.any_ = false := by cases q : t.any_ with
      | true => exact absurd q ha
      | false => rfl
    rw [hfa]
    refine iteF ?_
    -- most
    obtain ⟨B3, sB3, hD3, O3⟩ := O2.keep
    have s3 := sB12.trans sB3
    refine ⟨_, rfl, D, rfl, ⟨_, SqL.of (O3.sub _ _ hD3)⟩, fun D2 hDD2 => ?_⟩
    refine it_list (K := K) (a := D) (xs := os.map natV) (fun j H' => ∃ B : Hp, Same B3 B ∧ Own B H' [(D2, .lst ((os.take j).map fun o => natV (qlen p.1 o)))])
      ⟨B3, Same.refl _, O3.new (o := .lst []) hDD2 rfl⟩ ?_ ?_ ?_
    · rintro j H' _ ⟨B, sB, O⟩
      exact SqL.of (O.sub _ _ (sB _ _ hD3))
    · rintro j x H4 hx ⟨B, sB, O⟩
      rw [List.getElem?_map] at hx
      cases ho : os[j]? with
      | none => rw [ho] at hx; cases hx
      | some o =>
        rw [ho] at hx
        cases hx
        have hoc := osc o (List.mem_of_getElem? ho)
        have hD4 := O.sub _ _ (sB _ _ (sB3 _ _ (sB2 _ _ hD1')))
        have hjl := (List.getElem?_eq_some_iff.mp ho).1
        refine ⟨rfl, ?_⟩
        refine yes_t ?_
        refine ⟨_, rfl, _, rfl, D0, _, _, _, rfl, rfl, SqL.of hD4, at_of rfl (at0 o hoc), _, O.get 0 rfl, by rw [sz, List.length_map, List.length_take]; omega, B, sB, ?_⟩
        rw [take_succ_of ho, List.map_append]
        exact O.put 0 rfl rfl
    rintro H4 ⟨B4, sB4, O4⟩
    rw [List.length_map, List.take_length] at O4
    obtain ⟨ns, hns⟩ : ∃ ns : List Nat, ns = os.map (qlen p.1) := ⟨_, rfl⟩
    have e3 : os.map (fun o => natV (qlen p.1 o)) = (ns.map fun x => ((x : Nat) : Int)).map V.int := by rw [hns, List.map_map, List.map_map]; rfl
    have nsn : ns ≠ [] := fun z => he (by
      rw [hns] at z
      exact List.map_eq_nil_iff.mp z)
    rw [e3] at O4
    refine ⟨D2, ns.map fun x => ((x : Nat) : Int), rfl, SqL.of (O4.get 0 rfl), by rw [List.length_map]; exact List.length_pos_iff.mpr nsn, fun m hm hmax => ?_⟩
    have em : m = ((most ns : Nat) : Int) := by
      obtain ⟨x, hx, rfl⟩ := List.mem_map.mp hm
      have a1 := most_ge hx
      have a2 := hmax _ (List.mem_map.mpr ⟨_, most_mem nsn, rfl⟩)
      have : x = most ns := by omega
      rw [this]
    subst em
    have s4 := s3.trans sB4
    rw [← hns] at pk
    -- return [..][:1]
    refine ⟨_, rfl, D, rfl, ⟨_, SqL.of (O4.sub _ _ (sB4 _ _ hD3))⟩, fun D4 hD4 => ?_⟩
    refine it_list (K := K) (a := D) (xs := os.map natV) (fun j H' => ∃ B : Hp, Same B4 B ∧ Own B H' [(D4, .lst (((os.take j).filter fun o => decide (qlen p.1 o = most ns)).map natV))])
      ⟨B4, Same.refl _, (O4.new (o := .lst []) hD4 rfl).drop (by simp)⟩ ?_ ?_ ?_
    · rintro j H' _ ⟨B, sB, O⟩
      exact SqL.of (O.sub _ _ (sB _ _ (sB4 _ _ hD3)))
    · rintro j x H5 hx ⟨B, sB, O⟩
      rw [List.getElem?_map] at hx
      cases ho : os[j]? with
      | none => rw [ho] at hx; cases hx
      | some o =>
        rw [ho] at hx
        cases hx
        have hoc := osc o (List.mem_of_getElem? ho)
        have hD5 := O.sub _ _ (sB _ _ (sB4 _ _ (sB3 _ _ (sB2 _ _ hD1'))))
        have hjl := (List.getElem?_eq_some_iff.mp ho).1
        have ef : (os.take (j + 1)).filter (fun o => decide (qlen p.1 o = most ns)) = (os.take j).filter (fun o => decide (qlen p.1 o = most ns)) ++ if (decide (qlen p.1 o = most ns)) = true then [o] else [] := by
          rw [take_succ_of ho, List.filter_append, List.filter_cons]; rfl
        refine ⟨rfl, ?_⟩
        refine ⟨_, rfl, _, rfl, D0, _, _, _, rfl, rfl, SqL.of hD5, at_of rfl (at0 o hoc), _, rfl, rfl, _, rfl, ?_⟩
        by_cases q : qlen p.1 o = most ns
        · have e5 : decide (V.int ((qlen p.1 o : Nat) : Int) = V.int ((most ns : Nat) : Int)) = true := decide_eq_true (by rw [q])
          rw [e5]
          refine iteT ?_
          refine ⟨_, rfl, _, O.get 0 rfl, ?_, ?_⟩
          · rw [sz, List.length_map]
            have := List.length_filter_le (fun o => decide (qlen p.1 o = most ns)) (os.take j)
            rw [List.length_take] at this
            omega
          · refine ⟨B, sB, ?_⟩
            rw [ef, if_pos (decide_eq_true q), List.map_append]
            exact O.put 0 (o := .lst (((os.take j).filter (fun o => decide (qlen p.1 o = most ns))).map natV ++ [natV o])) rfl rfl
        · have e5 : decide (V.int ((qlen p.1 o : Nat) : Int) = V.int ((most ns : Nat) : Int)) = false := decide_eq_false fun z => q (by injection z with z; omega)
          rw [e5]
          refine iteF ?_
          refine ⟨B, sB, ?_⟩
          rw [ef, if_neg (by rw [decide_eq_false q]; exact Bool.false_ne_true), List.append_nil]
          exact O
    rintro H5 ⟨B5, sB5, O5⟩
    rw [List.length_map, List.take_length] at O5
    obtain ⟨fl, hfl⟩ : ∃ fl, fl = os.filter fun o => decide (qlen p.1 o = most ns) := ⟨_, rfl⟩
    rw [← hfl] at O5 pk
    have fl1 : 1 ≤ fl.length := by
      have := most_mem nsn
      rw [hns] at this
      obtain ⟨o, ho, e⟩ := List.mem_map.mp this
      have : o ∈ fl := by rw [hfl]; exact List.mem_filter.mpr ⟨ho, decide_eq_true (by rw [e, hns])⟩
      exact List.length_pos_iff.mpr (List.ne_nil_of_mem this)
    dsimp only [tNoPart]
    refine ⟨_, rfl, D4, _, rfl, SqL.of (O5.get 0 rfl), fun l hl => ?_⟩
    have sH5 := (s4.trans sB5).trans O5.sub
    have efl : fl.map natV = (fl.map Int.ofNat).map V.int := by rw [List.map_map]; rfl
    have ec : cutV ((fl.map Int.ofNat).map V.int) none (some 1) = ((fl.map Int.ofNat).take 1).map V.int := cutV_to (k := 1) (by rw [List.length_map]; exact fl1)
    refine k _ l (sH5.trans fun b u e => by rw [upd_ne (ne_of_none e hl)]; exact e) (free_of sH5 hl) ?_
    rw [upd_same, pk, efl, ec]
    simp only [List.map_take]
end
end ND
end
section
set_option Elab.async false
set_option linter.all false
set_option maxRecDepth 100000
set_option maxHeartbeats 4000000
namespace ND
open PySem L2
open PyProof.Rows (envOfC)
open PH
/-! ### the law: acted -/
abbrev qsK (qs : List (List Int)) : List NestedKey := qs.map fun q => .tup (q.map .num)
theorem rps_q {B : Hp} {qs : List (List Int)} {qvs : List V} {i : Nat} (R : Rps B (qsK qs) qvs) (hi : i < qs.length) : ∃ a, qvs[i]? = some (.ref a) ∧ B a = some (.tup ((qs.getD i []).map V.int)) := by
  obtain ⟨v, hv, rv⟩ := R.get (i := i) (k := .tup ((qs.getD i []).map .num)) (by rw [List.getElem?_map, List.getD_eq_getElem?_getD, List.getElem?_eq_getElem hi]; rfl)
  obtain ⟨a, ws, rfl, ha, rws⟩ := rv.tupD
  have := rws.ofNums
  subst this
  exact ⟨a, hv, ha⟩
theorem rps_set {B : Hp} {qs : List (List Int)} {qvs : List V} {i : Nat} {p : Addr} {q : List Int} (R : Rps B (qsK qs) qvs) (hp : B p = some (.tup (q.map V.int))) : Rps B (qsK (qs.set i q)) (qvs.set i (.ref p)) := by
  have := Rps.set (i := i) R (rp_tup hp (Rps.nums q))
  unfold qsK
  rw [List.map_set]; exact this
theorem rps_len {B : Hp} {qs : List (List Int)} {qvs : List V} (R : Rps B (qsK qs) qvs) : qvs.length = qs.length := by rw [R.length, List.length_map]
theorem seq_setC {v : V} {i : Nat} {u : TS} {D : Ends} {σ : L2.St} {H : Hp} (h : u D (σ.set i (some v)) H) : tSeq (tAsg (tC v) (gName i)) u D σ H := h
theorem or_val {a b : TT} {σ : L2.St} {H : Hp} {Q : Bool → Hp → Prop} (x y : Bool) (ha : ∀ R : Bool → Hp → Prop, R x H → a σ H R) (hb : ∀ R : Bool → Hp → Prop, R y H → b σ H R) (h : Q (x || y) H) : tOr a b σ H Q := by
  refine ha _ ?_
  cases x with
  | true => exact h
  | false => exact hb _ h
def spLActed : Sp := fun vs H Q _ => ∃ (lv rv : Addr) (pz : V) (least : List Int) (rules : List Str) (c n : Nat) (p : HPos) (i : Nat) (k : Int), vs = [.ref lv, .ref rv, pz, .int ((i : Nat) : Int), .int k] ∧ H lv = some (.lst (least.map V.int)) ∧ H rv = some (.lst (rules.map V.str)) ∧
  Rp H (posK p) pz ∧ HV c n p ∧ c ≤ 3 ∧ n ≤ 5 ∧ i < c ∧ ∀ (H' : Hp) (v : V), Same H H' → Rp H' (actK (tkOf least rules) p (i, k)) v → Q v H'
section
variable {P : Program} {w : World} {K : PySem.W.Frag} {mg : Str → Option Value} {base : Heap}
theorem ok_lacted (T : Blt mg) {f_l_may : Addr} {fd_l_may : FuncData} (G_l_may : FnOk P w K mg base CX0 1 f_l_may fd_l_may P_l_may spMay) (g_l_may : mg "_law_may" = some (.ref f_l_may)) (k_l_may : PySem.W.keepIn K (.ref f_l_may) = true) (b_l_may : Binds K fd_l_may P_l_may [])
    {f : Addr} {fd : FuncData} (F : Fun K "_law_acted" "_law_acted" s_l_acted f fd) : FnOk P w K mg base CX0 2 f fd P_l_acted spLActed := by
  refine F.ok sc_l_acted (fun vs H Q E h => ?_) (fun cdv A outer s H vs Q E hr h => ?_)
  · obtain ⟨lv, rv, pz, least, rules, c, n, p, i, k, rfl, _⟩ := h
    rfl
  · obtain ⟨lv, rv, pz, least, rules, c, n, p, i, k, rfl, hlv, hrv, rp, hv, hc3, hn5, hi, kk⟩ := h
    have sz : sizeLine = 16777216 := sizeLine_eq
    obtain ⟨pa, vs0, rfl, hpa, r0⟩ := rp.tupD
    obtain ⟨qv, r1, rfl, rq, r0⟩ := r0.consD
    obtain ⟨lkv, r2, rfl, rlk, r0⟩ := r0.consD
    obtain rfl := r0.nilD
    obtain ⟨qa, qvs, rfl, hqa, rqs⟩ := rq.tupD
    obtain ⟨la, lvs, rfl, hla, rls⟩ := rlk.tupD
    have := rls.ofNums
    subst this
    have hll : p.2.length = c := hv.ll
    have hql : p.1.length = c := hv.ql
    obtain ⟨t, ht⟩ : ∃ t, t = tkOf least rules := ⟨_, rfl⟩
    have htl : t.least = least := by rw [ht]; rfl
    have hag : t.again = inV (.str "again") (rules.map V.str) := by rw [ht]; rfl
    have hha : t.half = inV (.str "half") (rules.map V.str) := by rw [ht]; rfl
    rw [← ht] at kk
    refine ⟨_, (pss_cons (ps_par (i := 5) (j := 6) rfl sc_l_acted.nd rfl rfl (by decide) rfl rfl (pa_cons (pe_callTy call_list_of (by rfl) T.list (by decide +kernel) (pa_cons (pe_ix ix_tup (pv 2) pe_int (fun _ _ => rfl)) pa_nil)) (pa_cons (pe_callTy call_list_of (by rfl) T.list (by decide +kernel) (pa_cons (pe_ix ix_tup (pv 2) pe_int (fun _ _ => rfl)) pa_nil)) pa_nil)) (by rfl))
  (pss_cons (ps_set (i := 7) sc_l_acted.nd rfl (Or.inl rfl) (pe_ix ix_list (pv 6) (pv 3) (fun _ _ => rfl)))
  (pss_cons (ps_asg (pv 4) (pg_sub (pv 6) (pv 3) set_list))
  (pss_cons (ps_if (PW.pt (pw_and (pt_cmpR op_ge (pv 7) pe_int (nomark _)) (pw_and1 (pt_cmpR op_gt (pe_callB call_len_seq (by rfl) T.len (by decide +kernel) (pa_cons (pe_ix ix_list (pv 5) (pv 7) (fun _ _ => rfl)) pa_nil)) pe_int (nomark _)))))
    (pss_cons (ps_par (i := 8) (j := 9) rfl sc_l_acted.nd rfl rfl (by decide) rfl rfl (pa_cons (pe_callB call_len_seq (by rfl) T.len (by decide +kernel) (pa_cons (pe_ix ix_list (pv 5) (pv 3) (fun _ _ => rfl)) pa_nil)) (pa_cons (pe_callB call_len_seq (by rfl) T.len (by decide +kernel) (pa_cons (pe_ix ix_list (pv 5) (pv 7) (fun _ _ => rfl)) pa_nil)) pa_nil)) (by rfl))
    (pss_cons (ps_set (i := 10) sc_l_acted.nd rfl (Or.inl rfl) pe_int)
    (pss_cons (ps_if (pt_cmpR op_in_seq pe_str (pv 1) (by rfl))
      (pss_one (ps_set (i := 10) sc_l_acted.nd rfl (Or.inl rfl) (pe_callB (call_max2 rfl) (by rfl) T.max (by decide +kernel) (pa_cons pe_int (pa_cons (pe_op op_fdiv (pe_op op_sub (pv 9) (pv 8)) pe_int) pa_nil)))))
      pss_nil)
    (pss_one (ps_if (PW.pt (pw_or (pt_cmpR op_notIn_seq pe_str (pv 1) (by rfl)) (pw_or1 (pt_val (pe_call G_l_may (hr.mono (show 1 ≤ 1 by decide)) rfl g_l_may k_l_may b_l_may .nil pass0 (pa_cons (pv 0) (pa_cons (pv 8) (pa_cons (pv 9) pa_nil))))))))
      (pss_cons (ps_asg (pe_op op_catA (pe_ix ix_list (pv 5) (pv 3) (fun _ _ => rfl)) (pe_slice sl_tupA (pe_ix ix_list (pv 5) (pv 7) (fun _ _ => rfl)) (po_some (pe_op op_sub (pv 9) (pv 10))) po_none)) (pg_sub (pv 5) (pv 3) set_list))
      (pss_one (ps_asg (pe_slice sl_tupA (pe_ix ix_list (pv 5) (pv 7) (fun _ _ => rfl)) po_none (po_some (pe_op op_sub (pv 9) (pv 10)))) (pg_sub (pv 5) (pv 7) set_list))))
      pss_nil)))))
    pss_nil)
  (pss_cons (ps_asg (pe_tup (pa_cons (pe_un un_neg pe_int) (pa_cons pe_int pa_nil))) (pg_tup rfl (pgs_cons (pg_name (i := 11) sc_l_acted.nd rfl (Or.inl rfl)) (pgs_cons (pg_name (i := 12) sc_l_acted.nd rfl (Or.inl rfl)) pgs_nil))))
  (pss_cons (ps_if (pt_cmpR op_gt (pe_callB call_len_seq (by rfl) T.len (by decide +kernel) (pa_cons (pe_ix ix_list (pv 5) (pv 3) (fun _ _ => rfl)) pa_nil)) pe_int (nomark _))
    (pss_cons (ps_set (i := 11) sc_l_acted.nd rfl (Or.inl rfl) (pe_ix ix_tup (pe_ix ix_list (pv 5) (pv 3) (fun _ _ => rfl)) pe_int (fun _ _ => rfl)))
    (pss_one (ps_asg (pe_op op_catA (pe_slice sl_tupA (pe_ix ix_list (pv 5) (pv 3) (fun _ _ => rfl)) (po_some pe_int) po_none) (pe_tup (pa_cons (pv 11) pa_nil))) (pg_sub (pv 5) (pv 3) set_list))))
    (pss_one (ps_if (pt_cmpR op_gt (pe_callB (cr_max rfl) (by rfl) T.max (by decide +kernel) (pa_cons (pe_lc (own := [("_law_queue", 13)]) (g := gName 13) rfl sc_l_acted.nd (pi_list (pv 5)) (blkOk_by (own := [("_law_queue", 13)]) (N := N_l_acted) (sc := defScope s_l_acted) (by decide +kernel)) (fun _ _ _ _ _ => (pg_name (i := 13) sc_l_acted.nd rfl (Or.inl rfl))) (fun _ _ _ _ _ => pts_nil) (fun _ _ _ _ _ => (pe_callB (call_lenB (K := K)) (by rfl) T.len (by decide +kernel) (pa_cons (pv 13) pa_nil)))) pa_nil)) pe_int (nomark _))
      (pss_one (ps_set (i := 12) sc_l_acted.nd rfl (Or.inl rfl) pe_int))
      pss_nil)))
  (pss_one (ps_ret (pe_tup (pa_cons (pv 3) (pa_cons (pv 4) (pa_cons (pe_tup (pa_cons (pe_callTy call_tuple_of (by rfl) T.tuple (by decide +kernel) (pa_cons (pv 5) pa_nil)) (pa_cons (pe_callTy call_tuple_of (by rfl) T.tuple (by decide +kernel) (pa_cons (pv 6) pa_nil)) pa_nil))) (pa_cons (pv 11) (pa_cons (pv 12) pa_nil)))))))))))))), ?_⟩
    -- queues, looks = list(..), list(..)
    refine ⟨_, rfl, pa, _, _, _, rfl, rfl, SqT.of hpa, at_of (j := 0) rfl rfl, qa, _, rfl, .inr (SqT.of hqa), fun D hD => ?_⟩
    have O1 := (Own.start H).new (o := .lst qvs) hD rfl
    have sD := O1.sub
    refine ⟨_, rfl, pa, _, _, _, rfl, rfl, SqT.of (sD _ _ hpa), at_of (j := 1) rfl rfl, la, _, rfl, .inr (SqT.of (sD _ _ hla)), fun L hL => ?_⟩
    have O2 := O1.new (o := .lst (p.2.map V.int)) hL rfl
    refine ⟨_, _, rfl, ?_⟩
    -- seen; looks[core] = pick
    refine ⟨_, rfl, _, rfl, L, _, _, _, rfl, rfl, SqL.of (O2.get 0 rfl), at_of rfl (look_at (by omega)), ?_⟩
    refine ⟨_, rfl, _, rfl, _, rfl, L, _, _, i, rfl, rfl, O2.get 0 rfl, ixN_at (by rw [List.length_map]; omega), ?_⟩
    have O3 := O2.put 0 (o := .lst ((p.2.map V.int).set i (.int k))) rfl rfl
    have el4 : (p.2.map V.int).set i (.int k) = (p.2.set i k).map V.int := (List.map_set ..).symm
    rw [el4] at O3 ⊢
    generalize upd (upd (upd H D (.lst qvs)) L (.lst (p.2.map V.int))) L (.lst ((p.2.set i k).map V.int)) = H3 at *
    obtain ⟨seen, hseen⟩ : ∃ seen, seen = p.2.getD i (-1) := ⟨_, rfl⟩
    rw [← hseen]
    dsimp only [gName]
    refine seq_mid (fun σ' H' => ∃ (x8 x9 x10 : Option V) (B : Hp) (qvs' : List V), σ' = [some (.ref lv), some (.ref rv), some (.ref pa), some (.int ((i : Nat) : Int)), some (.int k), some (.ref D), some (.ref L), some (.int seen), x8, x9, x10, none, none, none] ∧
      Same H B ∧ Own B H' [(L, .lst ((p.2.set i k).map V.int)), (D, .lst qvs')] ∧ Rps B (qsK (movedQ t p i)) qvs') (fun N hN => ?_) ?_
    · have nomove : movedQ t p i = p.1 → N [some (.ref lv), some (.ref rv), some (.ref pa), some (.int ((i : Nat) : Int)), some (.int k), some (.ref D), some (.ref L), some (.int seen), none, none, none, none, none, none] H3 := fun e =>
        hN _ _ ⟨none, none, none, H, qvs, rfl, Same.refl _, O3, by rw [e]; exact rqs⟩
      refine ⟨_, rfl, _, _, rfl, rfl, _, rfl, ?_⟩
      by_cases hge : 0 ≤ seen
      · rw [decide_eq_true hge]
        refine iteT ?_
        obtain ⟨o, ho⟩ : ∃ o : Nat, seen = ((o : Nat) : Int) := ⟨seen.toNat, by omega⟩
        have hlk := hv.lk i hi
        rw [← hseen, ho] at hlk
        have hoc : o < c := by omega
        have hoi : o ≠ i := by omega
        have hmv : movedQ t p i = takeQ t p.1 i o := by
          unfold movedQ
          rw [← hseen, if_pos hge, ho, Int.toNat_natCast]
        obtain ⟨ao, hao, hqo⟩ := rps_q rqs (i := o) (by omega)
        obtain ⟨ai, hai, hqi⟩ := rps_q rqs (i := i) (by omega)
        have hqo3 := O3.sub _ _ hqo
        have hqi3 := O3.sub _ _ hqi
        have eln : ∀ j, ((p.1.getD j []).map V.int).length = qlen p.1 j := fun j => by rw [List.length_map]; rfl
        subst ho
        refine ⟨_, rfl, _, rfl, D, _, _, _, rfl, rfl, SqL.of (O3.get 1 rfl), at_of rfl hao, ao, _, rfl, .inr (SqT.of hqo3), _, _, rfl, rfl, _, rfl, ?_⟩
        rw [eln]
        have h5i := Nat.le_trans (qlen_le hv i) hn5
        have h5o := Nat.le_trans (qlen_le hv o) hn5
        by_cases h0 : qlen p.1 o = 0
        · rw [decide_eq_false (by omega)]
          refine iteF ?_
          exact nomove (by rw [hmv]; unfold takeQ; rw [if_pos (.inl h0)])
        rw [decide_eq_true (by omega)]
        refine iteT ?_
        -- own, other
        refine ⟨_, rfl, _, rfl, D, _, _, _, rfl, rfl, SqL.of (O3.get 1 rfl), at_of rfl hai, ai, _, rfl, .inr (SqT.of hqi3), _, rfl, _, rfl, D, _, _, _, rfl, rfl, SqL.of (O3.get 1 rfl), at_of rfl hao, ao, _, rfl, .inr (SqT.of hqo3), _, _, rfl, ?_⟩
        rw [eln, eln]
        -- many
        obtain ⟨cnt, hcnt⟩ : ∃ cnt : Nat, cnt = (if t.half = true then max 1 ((qlen p.1 o - qlen p.1 i) / 2) else 1) := ⟨_, rfl⟩
        have hc1 : 1 ≤ cnt := by rw [hcnt]; split <;> omega
        have hco : cnt ≤ qlen p.1 o := by rw [hcnt]; split <;> omega
        have lio : (p.1.getD o []).length = qlen p.1 o := rfl
        have lii : (p.1.getD i []).length = qlen p.1 i := rfl
        have esub : ((qlen p.1 o : Nat) : Int) - ((cnt : Nat) : Int) = ((qlen p.1 o - cnt : Nat) : Int) := by omega
        dsimp only
        refine seq_setC ?_
        refine seq_mid (fun σ' H' => H' = H3 ∧ σ' = [some (.ref lv), some (.ref rv), some (.ref pa), some (.int ((i : Nat) : Int)), some (.int k), some (.ref D), some (.ref L), some (.int ((o : Nat) : Int)), some (.int ((qlen p.1 i : Nat) : Int)), some (.int ((qlen p.1 o : Nat) : Int)), some (.int ((cnt : Nat) : Int)), none, none, none]) (fun N2 hN2 => ?_) ?_
        · refine ⟨_, rfl, rv, _, rfl, .inl (SqL.of (O3.sub _ _ hrv)), rfl, flat_strs _, t.half, ?_, ?_⟩
          · rw [hha]; rfl
          by_cases hH : t.half = true
          · rw [hH]
            refine iteT ?_
            refine ⟨_, rfl, _, rfl, _, _, rfl, rfl, _, _, rfl, rfl, ⟨by omega, by omega⟩, _, _, rfl, ?_⟩
            refine hN2 _ _ ⟨rfl, ?_⟩
            have ev : (if (((qlen p.1 o : Nat) : Int) - ((qlen p.1 i : Nat) : Int)) / 2 > 1 then (((qlen p.1 o : Nat) : Int) - ((qlen p.1 i : Nat) : Int)) / 2 else 1) = ((cnt : Nat) : Int) := by
              rw [hcnt, if_pos hH]
              split <;> omega
            rw [ev]; rfl
          · have hH' : t.half = false := by simpa using hH
            rw [hH']
            refine iteF ?_
            refine hN2 _ _ ⟨rfl, ?_⟩
            rw [hcnt, if_neg hH]; rfl
        rintro σ4 H4 ⟨rfl, rfl⟩
        dsimp only [tIfS]
        refine or_val (!t.again) (may t.least (qlen p.1 i) (qlen p.1 o)) (fun R r => ⟨_, rfl, rv, _, rfl, .inl (SqL.of (O3.sub _ _ hrv)), rfl, flat_strs _, !t.again, by rw [hag]; rfl, r⟩) (fun R r => ⟨_, rfl, _, rfl, _, rfl, lv, least, _, _, rfl, O3.sub _ _ hlv, _, rfl, by rw [← htl]; exact r⟩) ?_
        have tq : ¬ (t.again = true ∧ may t.least (qlen p.1 i) (qlen p.1 o) = false) → takeQ t p.1 i o = (p.1.set i (p.1.getD i [] ++ (p.1.getD o []).drop (qlen p.1 o - cnt))).set o ((p.1.getD o []).take (qlen p.1 o - cnt)) := fun hx => by
          unfold takeQ
          rw [if_neg (by rintro (z | z); exact h0 z; exact hx z), hcnt]
        by_cases hx : t.again = true ∧ may t.least (qlen p.1 i) (qlen p.1 o) = false
        · rw [hx.1, hx.2]
          refine iteF ?_
          exact hN _ _ ⟨_, _, _, H, qvs, rfl, Same.refl _, O3, by rw [hmv]; unfold takeQ; rw [if_pos (.inr hx)]; exact rqs⟩
        have eb : (!t.again || may t.least (qlen p.1 i) (qlen p.1 o)) = true := by
          cases q1 : t.again with
          | false => rfl
          | true =>
            cases q2 : may t.least (qlen p.1 i) (qlen p.1 o) with
            | true => rfl
            | false => exact absurd ⟨q1, q2⟩ hx
        rw [eb]
        refine iteT ?_
        -- queues[core] = queues[core] + queues[seen][other - many:]
        refine ⟨_, rfl, _, rfl, D, _, _, _, rfl, rfl, SqL.of (O3.get 1 rfl), at_of rfl hai, ?_⟩
        refine ⟨_, rfl, _, rfl, D, _, _, _, rfl, rfl, SqL.of (O3.get 1 rfl), at_of rfl hao, ?_⟩
        refine ⟨_, rfl, _, rfl, _, _, rfl, rfl, _, rfl, ?_⟩
        dsimp only [tNoPart]
        rw [esub]
        refine sliceA_of hqo3 fun H5 p1 s5 hp1 => ?_
        rw [cutV_from (by rw [lio]; omega)] at hp1
        refine catA_of (s5 _ _ hqi3) hp1 (by rw [sz, List.length_map, List.length_map, List.length_drop, lio, lii]; omega) fun H6 p2 s6 hp2 => ?_
        rw [← List.map_append] at hp2
        obtain ⟨B6, sB6, O6, t6, _⟩ := O3.call (s5.trans s6)
        refine ⟨_, rfl, _, rfl, D, _, _, i, rfl, rfl, O6.get 1 rfl, ixN_at (by rw [rps_len rqs]; omega), ?_⟩
        have O7 := O6.put 1 (o := .lst (qvs.set i (.ref p2))) rfl rfl
        generalize upd H6 D (.lst (qvs.set i (.ref p2))) = H7 at *
        have R7 := rps_set (i := i) (rqs.keep (Same.tups sB6)) (t6 _ _ hp2)
        -- queues[seen] = queues[seen][:other - many]
        have hao7 : (qvs.set i (.ref p2))[o]? = some (.ref ao) := by rw [List.getElem?_set_ne (fun z => hoi z.symm)]; exact hao
        have hqo7 := O7.sub _ _ (sB6 _ _ hqo)
        refine ⟨_, rfl, _, rfl, D, _, _, _, rfl, rfl, SqL.of (O7.get 1 rfl), at_of rfl hao7, _, rfl, _, rfl, _, _, rfl, rfl, _, rfl, ?_⟩
        rw [esub]
        refine sliceA_of hqo7 fun H8 p3 s8 hp3 => ?_
        rw [cutV_to (by rw [lio]; omega)] at hp3
        obtain ⟨B8, sB8, O8, t8, _⟩ := O7.call s8
        refine ⟨_, rfl, _, rfl, D, _, _, o, rfl, rfl, O8.get 1 rfl, ixN_at (by rw [List.length_set, rps_len rqs]; omega), ?_⟩
        refine hN _ _ ⟨_, _, _, B8, _, rfl, sB6.trans sB8, O8.put 1 rfl rfl, ?_⟩
        rw [hmv, tq hx]
        exact rps_set (R7.keep (Same.tups sB8)) (t8 _ _ hp3)
      · rw [decide_eq_false hge]
        refine iteF ?_
        exact nomove (by unfold movedQ; rw [← hseen, if_neg hge])
    rintro σ4 H4 ⟨x8, x9, x10, B4, qvs4, rfl, sB4, O4, R4⟩
    have hmq : (movedQ t p i).length = c := by rw [movedQ_len, hql]
    have m5 : ∀ j, qlen (movedQ t p i) j ≤ 5 := fun j => by
      have : HV c n (movedQ t p i, p.2) := ⟨hmq, hll, hv.lk, hv.moved t hi⟩
      exact Nat.le_trans (qlen_le this j) hn5
    obtain ⟨mq, emq⟩ : ∃ mq, mq = movedQ t p i := ⟨_, rfl⟩
    rw [← emq] at R4 hmq m5
    -- ran, wasted = -1, 0
    refine ⟨_, rfl, by rw [sz]; show 2 ≤ 16777216; decide, fun l hl => ?_⟩
    obtain ⟨B5, sB5, hl5, O5⟩ := O4.fz (o := .tup [.int (-1), .int 0]) hl
    generalize upd H4 l (.tup [.int (-1), .int 0]) = H5 at *
    refine ⟨l, _, rfl, SqT.of (O5.sub _ _ hl5), rfl, _, _, rfl, _, _, rfl, rfl, ?_⟩
    have R5 := R4.keep (Same.tups sB5)
    have sH5 := sB4.trans sB5
    obtain ⟨ai, hai, hqi⟩ := rps_q R5 (i := i) (by rw [hmq]; exact hi)
    have hqi5 := O5.sub _ _ hqi
    have lii : (mq.getD i []).length ≤ 5 := m5 i
    dsimp only [gName]
    refine seq_mid (fun σ' H' => ∃ qvs' x y B, σ' = [some (.ref lv), some (.ref rv), some (.ref pa), some (.int ((i : Nat) : Int)), some (.int k), some (.ref D), some (.ref L), some (.int seen), x8, x9, x10, some (.int x), some (.int y), none] ∧
      Same H B ∧ Own B H' [(L, .lst ((p.2.set i k).map V.int)), (D, .lst qvs')] ∧ Rps B (qsK (actedP t p i k).1.1) qvs' ∧ x = (actedP t p i k).2.1 ∧ y = (actedP t p i k).2.2 ∧ (actedP t p i k).1.2 = p.2.set i k) (fun N hN => ?_) ?_
    · refine ⟨_, rfl, _, rfl, D, _, _, _, rfl, rfl, SqL.of (O5.get 1 rfl), at_of rfl hai, ai, _, rfl, .inr (SqT.of hqi5), _, _, rfl, rfl, _, rfl, ?_⟩
      cases eq : mq.getD i [] with
      | cons x r =>
        rw [eq] at hqi hqi5 lii
        have d1 : decide ((0 : Int) < ((((x :: r).map V.int).length : Nat) : Int)) = true := decide_eq_true (by rw [List.length_map, List.length_cons]; omega)
        dsimp only
        rw [d1]
        refine iteT ?_
        refine ⟨_, rfl, _, rfl, D, _, _, _, rfl, rfl, SqL.of (O5.get 1 rfl), at_of rfl hai, ai, _, _, _, rfl, rfl, SqT.of hqi5, at_of (j := 0) rfl rfl, ?_⟩
        refine ⟨_, rfl, _, rfl, D, _, _, _, rfl, rfl, SqL.of (O5.get 1 rfl), at_of rfl hai, _, rfl, ?_⟩
        dsimp only [tNoPart]
        have ecut : cutV ((x :: r).map V.int) (some 1) none = r.map V.int := cutV_from (xs := x :: r) (k := 1) (by simp)
        refine sliceA_of hqi5 fun H6 p1 s6 hp1 => ?_
        rw [ecut] at hp1
        refine ⟨_, rfl, by rw [sz]; show 1 ≤ 16777216; decide, fun p2 hp2 => ?_⟩
        have s7 : Same H6 (upd H6 p2 (.tup [.int x])) := fun b u e => by rw [upd_ne (ne_of_none e hp2)]; exact e
        have hp2' : upd H6 p2 (.tup [.int x]) p2 = some (.tup [.int x]) := upd_same
        generalize upd H6 p2 (.tup [.int x]) = H7 at *
        refine catA_of (s7 _ _ hp1) hp2' (by rw [sz, List.length_map]; rw [List.length_cons] at lii; show r.length + 1 ≤ 16777216; omega) fun H8 p3 s8 hp3 => ?_
        have e8 : r.map V.int ++ [.int x] = (r ++ [x]).map V.int := by rw [List.map_append]; rfl
        rw [e8] at hp3
        obtain ⟨B8, sB8, O8, t8, _⟩ := O5.call (s6.trans (s7.trans s8))
        refine ⟨_, rfl, _, rfl, D, _, _, i, rfl, rfl, O8.get 1 rfl, ixN_at (by rw [rps_len R5, hmq]; exact hi), ?_⟩
        have ea : actedP t p i k = ((mq.set i (r ++ [x]), p.2.set i k), x, 0) := by unfold actedP; rw [← emq, eq]
        rw [ea] at hN
        exact hN _ _ ⟨_, x, 0, B8, rfl, sH5.trans sB8, O8.put 1 rfl rfl, rps_set (R5.keep (Same.tups sB8)) (t8 _ _ hp3), rfl, rfl, rfl⟩
      | nil =>
        rw [eq] at hqi5
        dsimp only
        rw [show decide ((0 : Int) < ((((([] : List Int).map V.int)).length : Nat) : Int)) = false from rfl]
        refine iteF ?_
        have ea : actedP t p i k = ((mq, p.2.set i k), -1, if mq.any (fun q => decide (2 ≤ q.length)) = true then 1 else 0) := by unfold actedP; rw [← emq, eq]
        rw [ea] at hN
        -- max([len(queue) for queue in queues]) > 1
        refine ⟨_, rfl, D, rfl, ⟨_, SqL.of (O5.get 1 rfl)⟩, fun D2 hD2 => ?_⟩
        refine it_list (K := K) (a := D) (xs := qvs4) (fun j H' => Own B5 H' [(D2, .lst (((mq.take j).map fun q => ((q.length : Nat) : Int)).map V.int)), (L, .lst ((p.2.set i k).map V.int)), (D, .lst qvs4)])
          (O5.new (o := .lst []) hD2 rfl) ?_ ?_ ?_
        · rintro j H' _ O
          exact SqL.of (O.get 2 rfl)
        · rintro j x H6 hx O
          have hjl : j < mq.length := by rw [← rps_len R5]; exact (List.getElem?_eq_some_iff.mp hx).1
          obtain ⟨aj, haj, hqj⟩ := rps_q R5 hjl
          rw [haj] at hx
          cases hx
          refine ⟨rfl, ?_⟩
          refine yes_t ?_
          have et : mq.take (j + 1) = mq.take j ++ [mq.getD j []] := take_succ_of (by rw [List.getD_eq_getElem?_getD, List.getElem?_eq_getElem hjl]; rfl)
          refine ⟨_, rfl, aj, _, rfl, .inr (SqT.of (O.sub _ _ hqj)), _, O.get 0 rfl, by rw [sz, List.length_map, List.length_map, List.length_take]; omega, ?_⟩
          have O7 := O.put 0 (o := .lst (((mq.take j).map fun q => ((q.length : Nat) : Int)).map V.int ++ [.int ((((mq.getD j []).map V.int).length : Nat) : Int)])) rfl rfl
          have el : ((mq.getD j []).map V.int).length = (mq.getD j []).length := List.length_map ..
          rw [et, List.map_append, List.map_append]
          rw [el] at O7 ⊢
          exact O7
        intro H6 O6
        rw [rps_len R5, List.take_length] at O6
        obtain ⟨nl, hnl⟩ : ∃ nl, nl = mq.map fun q => ((q.length : Nat) : Int) := ⟨_, rfl⟩
        rw [← hnl] at O6
        refine ⟨D2, nl, rfl, SqL.of (O6.get 0 rfl), by rw [hnl, List.length_map]; omega, fun m hm hmax => ?_⟩
        refine ⟨_, _, rfl, rfl, _, rfl, ?_⟩
        have O7 := O6.drop (l' := [(L, .lst ((p.2.set i k).map V.int)), (D, .lst qvs4)]) (by simp)
        have eany : decide ((1 : Int) < m) = mq.any (fun q => decide (2 ≤ q.length)) := by
          rw [Bool.eq_iff_iff, decide_eq_true_eq, List.any_eq_true]
          constructor
          · intro h1
            rw [hnl] at hm
            obtain ⟨q, hq, e⟩ := List.mem_map.mp hm
            exact ⟨q, hq, decide_eq_true (by omega)⟩
          · rintro ⟨q, hq, e⟩
            have e := of_decide_eq_true e
            have := hmax ((q.length : Nat) : Int) (by rw [hnl]; exact List.mem_map.mpr ⟨q, hq, rfl⟩)
            omega
        dsimp only
        rw [eany]
        by_cases ha : mq.any (fun q => decide (2 ≤ q.length)) = true
        · rw [if_pos ha] at hN
          rw [ha]
          refine iteT ?_
          exact hN _ _ ⟨qvs4, -1, 1, B5, rfl, sH5, O7, R5, rfl, rfl, rfl⟩
        · rw [if_neg ha] at hN
          have ha' : mq.any (fun q => decide (2 ≤ q.length)) = false := by simpa using ha
          rw [ha']
          refine iteF ?_
          exact hN _ _ ⟨qvs4, -1, 0, B5, rfl, sH5, O7, R5, rfl, rfl, rfl⟩
    rintro σ6 H6 ⟨qvs6, x, y, B6, rfl, sB6, O6, R6, ex, ey, elk⟩
    -- the result
    refine ⟨_, rfl, _, rfl, _, rfl, D, _, rfl, .inl ⟨SqL.of (O6.get 1 rfl), fun qp hqp => ?_⟩⟩
    obtain ⟨B8, sB8, hqp', O8⟩ := O6.fz (o := .tup qvs6) hqp
    generalize upd H6 qp (.tup qvs6) = H8 at *
    refine ⟨_, rfl, L, _, rfl, .inl ⟨SqL.of (O8.get 0 rfl), fun lp hlp => ?_⟩⟩
    obtain ⟨B9, sB9, hlp', O9⟩ := O8.fz (o := .tup ((p.2.set i k).map V.int)) hlp
    generalize upd H8 lp (.tup ((p.2.set i k).map V.int)) = H9 at *
    refine ⟨by rw [sz]; show 2 ≤ 16777216; decide, fun pp hpp => ?_⟩
    obtain ⟨B10, sB10, hpp', O10⟩ := O9.fz (o := .tup [.ref qp, .ref lp]) hpp
    generalize upd H9 pp (.tup [.ref qp, .ref lp]) = H10 at *
    refine ⟨_, rfl, _, rfl, by rw [sz]; show 5 ≤ 16777216; decide, fun fp hfp => ?_⟩
    obtain ⟨B11, sB11, hfp', O11⟩ := O10.fz (o := .tup [.int ((i : Nat) : Int), .int k, .ref pp, .int x, .int y]) hfp
    generalize upd H10 fp (.tup [.int ((i : Nat) : Int), .int k, .ref pp, .int x, .int y]) = H11 at *
    have s9 := sB9.trans (sB10.trans sB11)
    refine kk _ _ ((sB6.trans (sB8.trans s9)).trans O11.sub) ?_
    refine Rp.keep (O11.tups) (rp_tup hfp' (.cons (rp_num _) (.cons (rp_num _) (.cons ?_ (.cons ?_ (.cons ?_ .nil))))))
    · refine rp_tup (sB11 _ _ hpp') (.cons ?_ (.cons ?_ .nil))
      · exact rp_tup (sB9.trans (sB10.trans sB11) _ _ hqp') (R6.keep (Same.tups (sB8.trans s9)))
      · rw [elk]
        exact rp_tup (sB10.trans sB11 _ _ hlp') (Rps.nums _)
    · rw [← ex]; exact rp_num _
    · rw [← ey]; exact rp_num _
end
end ND
end
section
set_option Elab.async false
set_option linter.all false
set_option maxRecDepth 100000
set_option maxHeartbeats 4000000
namespace ND
open PySem L2
open PyProof.Rows (envOfC)
open PH
/-! ### the law: acts -/
def spLActs : Sp := fun vs H Q _ => ∃ (lv rv : Addr) (pz : V) (least : List Int) (rules : List Str) (c n : Nat) (p : HPos), vs = [.ref lv, .ref rv, pz] ∧ H lv = some (.lst (least.map V.int)) ∧ H rv = some (.lst (rules.map V.str)) ∧
  Rp H (posK p) pz ∧ HV c n p ∧ c ≤ 3 ∧ n ≤ 5 ∧ ∀ (H' : Hp) (l : Addr) (wv : List V), Same H H' → H l = none → H' l = some (.lst wv) → Rps H' ((actsOf (tkOf least rules) p).map (actK (tkOf least rules) p)) wv → Q (.ref l) H'
section
variable {P : Program} {w : World} {K : PySem.W.Frag} {mg : Str → Option Value} {base : Heap}
theorem ok_lacts (T : Blt mg) {f_l_picks : Addr} {fd_l_picks : FuncData} (G_l_picks : FnOk P w K mg base CX0 2 f_l_picks fd_l_picks P_l_picks spLPicks) (g_l_picks : mg "_law_picks" = some (.ref f_l_picks)) (k_l_picks : PySem.W.keepIn K (.ref f_l_picks) = true) (b_l_picks : Binds K fd_l_picks P_l_picks [])
    {f_l_acted : Addr} {fd_l_acted : FuncData} (G_l_acted : FnOk P w K mg base CX0 2 f_l_acted fd_l_acted P_l_acted spLActed) (g_l_acted : mg "_law_acted" = some (.ref f_l_acted)) (k_l_acted : PySem.W.keepIn K (.ref f_l_acted) = true) (b_l_acted : Binds K fd_l_acted P_l_acted [])
    {f : Addr} {fd : FuncData} (F : Fun K "_law_acts" "_law_acts" s_l_acts f fd) : FnOk P w K mg base CX0 3 f fd P_l_acts spLActs := by
  refine F.ok sc_l_acts (fun vs H Q E h => ?_) (fun cdv A outer s H vs Q E hr h => ?_)
  · obtain ⟨lv, rv, pz, least, rules, c, n, p, rfl, _⟩ := h
    rfl
  · obtain ⟨lv, rv, pz, least, rules, c, n, p, rfl, hlv, hrv, rp, hv, hc3, hn5, kk⟩ := h
    have sz : sizeLine = 16777216 := sizeLine_eq
    obtain ⟨qa, la, qvs, PA⟩ := posAt_of rp
    obtain ⟨pa, rfl, hpa⟩ := PA.top
    have hql : p.1.length = c := hv.ql
    have hqv : qvs.length = c := by rw [PA.ql, hql]
    obtain ⟨t, ht⟩ : ∃ t, t = tkOf least rules := ⟨_, rfl⟩
    rw [← ht] at kk
    refine ⟨_, (pss_cons (ps_set (i := 3) sc_l_acts.nd rfl (Or.inl rfl) (pe_lst pa_nil))
  (pss_cons (ps_for PassesOwn.never rfl (pi_range1 rfl T.range (pa_cons (pe_callB call_len_seq (by rfl) T.len (by decide +kernel) (pa_cons (pe_ix ix_tup (pv 2) pe_int (fun _ _ => rfl)) pa_nil)) pa_nil)) (pg_name (i := 4) sc_l_acts.nd rfl (Or.inr rfl))
    (pss_cons (ps_set (i := 5) sc_l_acts.nd rfl (Or.inl rfl) (pe_call G_l_picks (hr.mono (show 2 ≤ 2 by decide)) rfl g_l_picks k_l_picks b_l_picks .nil pass0 (pa_cons (pv 0) (pa_cons (pv 1) (pa_cons (pv 2) (pa_cons (pv 4) pa_nil))))))
    (pss_one (ps_expr (pe_bm PySem.F.plainAttrs_list PySem.F.slot_list_extend PySem.F.type_list_extend mt_extend (pv 3) (pa_cons (pe_lc (own := [("_law_pick", 6)]) (g := gName 6) rfl sc_l_acts.nd (pi_list (pv 5)) (blkOk_by (own := [("_law_pick", 6)]) (N := N_l_acts) (sc := defScope s_l_acts) (by decide +kernel)) (fun _ _ _ _ _ => (pg_name (i := 6) sc_l_acts.nd rfl (Or.inl rfl))) (fun _ _ _ _ _ => pts_nil) (fun _ _ _ _ _ => (pe_call G_l_acted (hr.mono (show 2 ≤ 2 by decide)) rfl g_l_acted k_l_acted b_l_acted .nil pass0 (pa_cons (pv 0) (pa_cons (pv 1) (pa_cons (pv 2) (pa_cons (pv 4) (pa_cons (pv 6) pa_nil)))))))) pa_nil))))))
  (pss_one (ps_ret (pv 3))))), ?_⟩
    refine ⟨by rw [sz]; show 0 ≤ 16777216; decide, fun D hD => ?_⟩
    have O0 := (Own.start H).new (o := .lst []) hD rfl
    have sD := O0.sub
    generalize upd H D (.lst []) = H0 at *
    refine ⟨_, rfl, pa, _, _, _, rfl, rfl, SqT.of (sD _ _ hpa), at_of (j := 0) rfl rfl, qa, _, rfl, .inr (SqT.of (sD _ _ PA.qs)), _, rfl, by omega, by omega, ?_⟩
    have hn : ((qvs.length : Nat) : Int).toNat = c := by rw [Int.toNat_natCast, hqv]
    rw [hn]
    refine for_range (lo := 0) (n := c) (fun j σ H' => ∃ (B : Hp) (wv : List V) (x4 x5 x6 : Option V), σ = [some (.ref lv), some (.ref rv), some (.ref pa), some (.ref D), x4, x5, x6] ∧ Same H B ∧ Own B H' [(D, .lst wv)] ∧
      Rps B (((List.range j).flatMap fun c => (picksOf t p c).map fun k => (c, k)).map (actK t p)) wv ∧ wv.length ≤ 2 * j)
      ⟨H, [], none, none, none, rfl, Same.refl H, O0, .nil, Nat.le_refl _⟩ ?_ ?_
    · rintro j σ H1 hj ⟨B1, lv1, x4, x5, x6, rfl, sB1, O1, R1, l1⟩
      have sH1 := sB1.trans O1.sub
      have ej : (0 : Int) + ((j : Nat) : Int) = ((j : Nat) : Int) := by omega
      refine ⟨_, rfl, _, rfl, _, rfl, _, rfl, ?_⟩
      refine ⟨lv, rv, .ref pa, least, rules, c, n, p, j, by rw [ej]; rfl, sH1 _ _ hlv, sH1 _ _ hrv, rp.keep (Same.tups sH1), hv, hc3, hj, fun H2 l s2 hl hl' => ?_⟩
      rw [← ht] at hl'
      obtain ⟨B2, sB2, O2, _, f2⟩ := O1.call s2
      have hlB : B2 l = some (.lst ((picksOf t p j).map V.int)) := f2 _ _ hl hl'
      have pl := picks_len hv hc3 t j hj
      refine ⟨_, rfl, .inl ⟨rfl, _, SqL.of (O2.get 0 rfl)⟩, _, rfl, l, rfl, ⟨_, SqL.of hl'⟩, fun D2 hD2 => ?_⟩
      refine it_list (K := K) (a := l) (xs := (picksOf t p j).map V.int) (fun m H' => ∃ (B : Hp) (wv : List V), Same B2 B ∧ Own B H' [(D2, .lst wv), (D, .lst lv1)] ∧ Rps B (((picksOf t p j).take m).map fun k => actK t p (j, k)) wv)
        ⟨B2, [], Same.refl _, O2.new (o := .lst []) hD2 rfl, by rw [List.take_zero]; exact .nil⟩ ?_ ?_ ?_
      · rintro m H' _ ⟨B, wv, sB, O, _⟩
        exact SqL.of (O.sub _ _ (sB _ _ hlB))
      · rintro m x H3 hx ⟨B3, wv, sB, O3, R3⟩
        rw [List.getElem?_map] at hx
        cases hk : (picksOf t p j)[m]? with
        | none => rw [hk] at hx; cases hx
        | some k =>
          rw [hk] at hx
          cases hx
          have hml := (List.getElem?_eq_some_iff.mp hk).1
          have sH3 := (sB1.trans (sB2.trans sB)).trans O3.sub
          have hwl : wv.length ≤ m := by rw [R3.length, List.length_map, List.length_take]; omega
          refine ⟨rfl, ?_⟩
          refine yes_t ?_
          refine ⟨_, rfl, _, rfl, _, rfl, _, rfl, _, rfl, ?_⟩
          refine ⟨lv, rv, .ref pa, least, rules, c, n, p, j, k, by rw [ej]; rfl, sH3 _ _ hlv, sH3 _ _ hrv, rp.keep (Same.tups sH3), hv, hc3, hn5, hj, fun H4 v s4 rv4 => ?_⟩
          rw [← ht] at rv4
          obtain ⟨B4, sB4, O4, t4, _⟩ := O3.call s4
          refine ⟨wv, O4.get 0 rfl, by rw [sz]; omega, B4, wv ++ [v], sB.trans sB4, O4.put 0 rfl rfl, ?_⟩
          rw [take_succ_of hk, List.map_append]
          exact (R3.keep (Same.tups sB4)).snoc (rv4.keep t4)
      · rintro H3 ⟨B3, wv, sB, O3, R3⟩
        rw [List.length_map, List.take_length] at R3
        have hwl : wv.length ≤ 2 := by rw [R3.length, List.length_map]; exact pl
        refine ⟨D, D2, lv1, wv, rfl, rfl, O3.get 1 rfl, O3.get 0 rfl, by rw [sz]; omega, ?_⟩
        have O4 := (O3.put 1 (o := .lst (lv1 ++ wv)) rfl rfl).drop (l' := [(D, .lst (lv1 ++ wv))]) (by simp)
        refine ⟨B3, lv1 ++ wv, _, _, _, rfl, sB1.trans (sB2.trans sB), O4, ?_, by rw [List.length_append]; omega⟩
        have : ((List.range (j + 1)).flatMap fun c => (picksOf t p c).map fun k => (c, k)) = ((List.range j).flatMap fun c => (picksOf t p c).map fun k => (c, k)) ++ (picksOf t p j).map fun k => (j, k) := by
          rw [List.range_succ, List.flatMap_append]; simp
        rw [this, List.map_append, List.map_map]
        exact (R1.keep (Same.tups (sB2.trans sB))).app R3
    · rintro σ H3 ⟨B3, wv, x4, x5, x6, rfl, sB3, O3, R3, _⟩
      refine ⟨_, rfl, kk H3 D wv (sB3.trans O3.sub) (sB3.free (O3.fresh 0 rfl)) (O3.get 0 rfl) ?_⟩
      have : actsOf t p = (List.range c).flatMap fun c => (picksOf t p c).map fun k => (c, k) := by unfold actsOf; rw [hql]
      rw [this]
      exact R3.keep O3.tups
end
end ND
end
section
set_option Elab.async false
set_option linter.all false
set_option maxRecDepth 100000
set_option maxHeartbeats 4000000
namespace ND
open PySem L2
open PyProof.Rows (envOfC)
open PH
/-! ### the law: same, row_told -/
theorem kTT : kitB "tuple" "tuple" = some true := by decide +kernel
theorem kLL : kitB "list" "list" = some true := by decide +kernel
def spSame : Sp := fun vs H Q _ => ∃ (x y : V) (t : Tk) (p : HPos) (a : Nat × Int) (c n : Nat), vs = [x, y] ∧ Rp H (actK t p a) x ∧ Rp H (actK t p a) y ∧ (actedP t p a.1 a.2).1.1.flatten.length ≤ 1000 ∧ (actedP t p a.1 a.2).1.2.length ≤ 1000 ∧ ∀ H', Same H H' → Q (.bl true) H'
section
variable {P : Program} {w : World} {K : PySem.W.Frag} {mg : Str → Option Value} {base : Heap}
theorem ok_same (T : Blt mg) {f_l_whole : Addr} {fd_l_whole : FuncData} (G_l_whole : FnOk P w K mg base CX0 1 f_l_whole fd_l_whole P_l_whole spWhole) (g_l_whole : mg "_law_whole" = some (.ref f_l_whole)) (k_l_whole : PySem.W.keepIn K (.ref f_l_whole) = true) (b_l_whole : Binds K fd_l_whole P_l_whole [])
    {f : Addr} {fd : FuncData} (F : Fun K "_law_same" "_law_same" s_l_same f fd) : FnOk P w K mg base CX0 2 f fd P_l_same spSame := by
  refine F.ok sc_l_same (fun vs H Q E h => ?_) (fun cdv A outer s H vs Q E hr h => ?_)
  · obtain ⟨x, y, t, p, a, c, n, rfl, _⟩ := h
    rfl
  · obtain ⟨x, y, t, p, a, c, n, rfl, rx, ry, hfl, hlk, kk⟩ := h
    have sz : sizeLine = 16777216 := sizeLine_eq
    obtain ⟨b, vs0, rfl, hb, rb⟩ := id rx.tupD
    obtain ⟨v1, r1, rfl, e1, rb⟩ := rb.consD
    obtain ⟨v2, r2, rfl, e2, rb⟩ := rb.consD
    obtain ⟨v3, r3, rfl, e3, rb⟩ := rb.consD
    obtain ⟨v4, r4, rfl, e4, rb⟩ := rb.consD
    obtain ⟨v5, r5, rfl, e5, rb⟩ := rb.consD
    obtain rfl := rb.nilD
    obtain rfl := e1.numD
    obtain rfl := e2.numD
    obtain rfl := e4.numD
    obtain rfl := e5.numD
    obtain ⟨pa, vs1, rfl, hpa, r0⟩ := e3.tupD
    obtain ⟨qv, r1, rfl, rq, r0⟩ := r0.consD
    obtain ⟨lkv, r2, rfl, rlk, r0⟩ := r0.consD
    obtain rfl := r0.nilD
    obtain ⟨qa, qvs, rfl, hqa, rqs⟩ := rq.tupD
    obtain ⟨la, lvs, rfl, hla, rls⟩ := rlk.tupD
    have := rls.ofNums
    subst this
    obtain ⟨nx, hnx⟩ : ∃ nx, nx = (actedP t p a.1 a.2).1 := ⟨_, rfl⟩
    rw [← hnx] at hfl hlk hla
    have rqs : Rps H (qsK nx.1) qvs := by rw [hnx]; exact rqs
    refine ⟨_, (pss_cons (ps_if (PW.pt (pw_or (pt_not (pt_val (pe_callB call_isi (by rfl) T.isinstance (by decide +kernel) (pa_cons (pv 0) (pa_cons (pe_bltn (v := .ty "tuple") (by rfl) T.tuple (by decide +kernel) rfl) pa_nil))))) (pw_or (pt_cmpR op_ne (pe_callB call_len_seq (by rfl) T.len (by decide +kernel) (pa_cons (pv 0) pa_nil)) pe_int (nomark _)) (pw_or (pt_not (pt_val (pe_callB call_isi (by rfl) T.isinstance (by decide +kernel) (pa_cons (pe_ix ix_tup (pv 0) pe_int (fun _ _ => rfl)) (pa_cons (pe_bltn (v := .ty "tuple") (by rfl) T.tuple (by decide +kernel) rfl) pa_nil))))) (pw_or1 (pt_cmpR op_ne (pe_callB call_len_seq (by rfl) T.len (by decide +kernel) (pa_cons (pe_ix ix_tup (pv 0) pe_int (fun _ _ => rfl)) pa_nil)) pe_int (nomark _)))))))
    (pss_one (ps_ret pe_bl))
    pss_nil)
  (pss_cons (ps_asg (pe_ix ix_tup (pv 0) pe_int (fun _ _ => rfl)) (pg_tup rfl (pgs_cons (pg_name (i := 2) sc_l_same.nd rfl (Or.inl rfl)) (pgs_cons (pg_name (i := 3) sc_l_same.nd rfl (Or.inl rfl)) pgs_nil))))
  (pss_cons (ps_if (PW.pt (pw_or (pt_not (pt_val (pe_callB call_isi (by rfl) T.isinstance (by decide +kernel) (pa_cons (pv 2) (pa_cons (pe_bltn (v := .ty "tuple") (by rfl) T.tuple (by decide +kernel) rfl) pa_nil))))) (pw_or1 (pt_not (pt_val (pe_callB call_isi (by rfl) T.isinstance (by decide +kernel) (pa_cons (pv 3) (pa_cons (pe_bltn (v := .ty "tuple") (by rfl) T.tuple (by decide +kernel) rfl) pa_nil))))))))
    (pss_one (ps_ret pe_bl))
    pss_nil)
  (pss_cons (ps_set (i := 4) sc_l_same.nd rfl (Or.inl rfl) (pe_op op_cat (pe_lst (pa_cons (pe_ix ix_tup (pv 0) pe_int (fun _ _ => rfl)) (pa_cons (pe_ix ix_tup (pv 0) pe_int (fun _ _ => rfl)) (pa_cons (pe_ix ix_tup (pv 0) pe_int (fun _ _ => rfl)) (pa_cons (pe_ix ix_tup (pv 0) pe_int (fun _ _ => rfl)) pa_nil))))) (pe_callTy call_list_of (by rfl) T.list (by decide +kernel) (pa_cons (pv 3) pa_nil))))
  (pss_cons (ps_for PassesOwn.never rfl (pi_tup (pv 2)) (pg_name (i := 5) sc_l_same.nd rfl (Or.inl rfl))
    (pss_cons (ps_if (pt_not (pt_val (pe_callB call_isi (by rfl) T.isinstance (by decide +kernel) (pa_cons (pv 5) (pa_cons (pe_bltn (v := .ty "tuple") (by rfl) T.tuple (by decide +kernel) rfl) pa_nil)))))
      (pss_one (ps_ret pe_bl))
      pss_nil)
    (pss_one (ps_expr (pe_bm PySem.F.plainAttrs_list PySem.F.slot_list_extend PySem.F.type_list_extend mt_extend (pv 4) (pa_cons (pe_callTy call_list_of (by rfl) T.list (by decide +kernel) (pa_cons (pv 5) pa_nil)) pa_nil))))))
  (pss_one (ps_ret (pe_and (pe_cmpR (op_eqD hr.units) (pv 0) (pv 1) (nomark _)) (pe_one (pe_callB (cr_all rfl) (by rfl) T.all (by decide +kernel) (pa_cons (pe_lc (own := [("_law_number", 6)]) (g := gName 6) rfl sc_l_same.nd (pi_list (pv 4)) (blkOk_by (own := [("_law_number", 6)]) (N := N_l_same) (sc := defScope s_l_same) (by decide +kernel)) (fun _ _ _ _ _ => (pg_name (i := 6) sc_l_same.nd rfl (Or.inl rfl))) (fun _ _ _ _ _ => pts_nil) (fun _ _ _ _ _ => (pe_call G_l_whole (hr.mono (show 1 ≤ 1 by decide)) rfl g_l_whole k_l_whole b_l_whole .nil pass0 (pa_cons (pv 6) pa_nil)))) pa_nil))))))))))), ?_⟩
    refine ⟨_, rfl, .ref b, .ty "tuple", .type "tuple", .type "tuple", true, rfl, .ty _, .base (.tup hb), kit_ty kTT, _, rfl, ?_⟩
    refine iteF ?_
    refine ⟨_, rfl, b, _, rfl, .inr (SqT.of hb), rfl, _, rfl, ?_⟩
    refine iteF ?_
    refine ⟨_, rfl, b, _, _, _, rfl, rfl, SqT.of hb, at_of (j := 2) rfl rfl, .ref pa, .ty "tuple", .type "tuple", .type "tuple", true, rfl, .ty _, .base (.tup hpa), kit_ty kTT, _, rfl, ?_⟩
    refine iteF ?_
    refine ⟨_, rfl, b, _, _, _, rfl, rfl, SqT.of hb, at_of (j := 2) rfl rfl, pa, _, rfl, .inr (SqT.of hpa), rfl, _, rfl, ?_⟩
    refine iteF ?_
    -- queues, looks = told[2]
    refine ⟨_, rfl, b, _, _, _, rfl, rfl, SqT.of hb, at_of (j := 2) rfl rfl, ?_⟩
    refine ⟨pa, [.ref qa, .ref la], rfl, SqT.of hpa, rfl, _, _, rfl, _, _, rfl, rfl, ?_⟩
    refine ⟨_, rfl, .ref qa, .ty "tuple", .type "tuple", .type "tuple", true, rfl, .ty _, .base (.tup hqa), kit_ty kTT, _, rfl, ?_⟩
    refine iteF ?_
    refine ⟨_, rfl, .ref la, .ty "tuple", .type "tuple", .type "tuple", true, rfl, .ty _, .base (.tup hla), kit_ty kTT, _, rfl, ?_⟩
    refine iteF ?_
    -- numbers
    refine ⟨_, rfl, b, _, _, _, rfl, rfl, SqT.of hb, at_of (j := 0) rfl rfl, _, rfl, b, _, _, _, rfl, rfl, SqT.of hb, at_of (j := 1) rfl rfl, _, rfl, b, _, _, _, rfl, rfl, SqT.of hb, at_of (j := 3) rfl rfl, _, rfl, b, _, _, _, rfl, rfl, SqT.of hb, at_of (j := 4) rfl rfl, by rw [sz]; show 4 ≤ 16777216; decide, fun l1 hl1 => ?_⟩
    have O1 := (Own.start H).new (o := .lst [.int (a.1 : Int), .int a.2, .int (actedP t p a.1 a.2).2.1, .int (actedP t p a.1 a.2).2.2]) hl1 rfl
    have hO1 := O1.get 0 rfl
    generalize upd H l1 (.lst [.int (a.1 : Int), .int a.2, .int (actedP t p a.1 a.2).2.1, .int (actedP t p a.1 a.2).2.2]) = H1 at *
    refine ⟨_, rfl, la, _, rfl, .inr (SqT.of (O1.sub _ _ hla)), fun l2 hl2 => ?_⟩
    have O2 := O1.new (o := .lst (nx.2.map V.int)) hl2 rfl
    generalize upd H1 l2 (.lst (nx.2.map V.int)) = H2 at *
    refine ⟨l1, l2, _, _, rfl, rfl, O2.get 1 rfl, O2.get 0 rfl, by rw [sz, List.length_map]; show 4 + _ ≤ 16777216; omega, fun D hD => ?_⟩
    obtain ⟨ns0, hns0, hnl0⟩ : ∃ ns0 : List Int, [V.int (a.1 : Int), V.int a.2, V.int (actedP t p a.1 a.2).2.1, V.int (actedP t p a.1 a.2).2.2] ++ nx.2.map V.int = ns0.map V.int ∧ ns0.length ≤ 1004 := ⟨[(a.1 : Int), a.2, (actedP t p a.1 a.2).2.1, (actedP t p a.1 a.2).2.2] ++ nx.2, by rw [List.map_append]; rfl, by rw [List.length_append]; show 4 + _ ≤ 1004; omega⟩
    rw [hns0]
    have O3 := (O2.new (o := .lst (ns0.map V.int)) hD rfl).drop (l' := [(D, .lst (ns0.map V.int))]) (by simp)
    generalize upd H2 D (.lst (ns0.map V.int)) = H3 at *
    have hqv : qvs.length = nx.1.length := rps_len rqs
    refine ⟨_, rfl, qa, rfl, ⟨_, SqT.of (O3.sub _ _ hqa)⟩, ?_⟩
    refine for_tup (K := K) (a := qa) (xs := qvs) (fun j σ H' => ∃ (x5 : Option V) (ns : List Int), σ = [some (.ref b), some y, some (.ref qa), some (.ref la), some (.ref D), x5, none] ∧ (∃ B, Same H B ∧ Own B H' [(D, .lst (ns.map V.int))]) ∧ ns.length = ns0.length + (nx.1.take j).flatten.length)
      ⟨none, ns0, rfl, ⟨H, Same.refl _, O3⟩, rfl⟩ ?_ ?_ ?_
    · rintro j σ H' _ ⟨x5, ns, rfl, ⟨B, sB, O⟩, _⟩
      exact SqT.of (O.sub _ _ (sB _ _ hqa))
    · rintro j x σ H4 hx ⟨x5, ns, rfl, ⟨B, sB, O⟩, hnl⟩
      have hjl : j < nx.1.length := by rw [← hqv]; exact (List.getElem?_eq_some_iff.mp hx).1
      obtain ⟨aj, haj, hqj⟩ := rps_q rqs hjl
      rw [haj] at hx
      cases hx
      have hqj4 := O.sub _ _ (sB _ _ hqj)
      refine ⟨_, rfl, .ref aj, .ty "tuple", .type "tuple", .type "tuple", true, rfl, .ty _, .base (.tup hqj4), kit_ty kTT, _, rfl, ?_⟩
      refine iteF ?_
      refine ⟨_, rfl, .inl ⟨rfl, _, SqL.of (O.get 0 rfl)⟩, _, rfl, aj, _, rfl, .inr (SqT.of hqj4), fun l3 hl3 => ?_⟩
      have O4 := O.new (o := .lst ((nx.1.getD j []).map V.int)) hl3 rfl
      generalize upd H4 l3 (.lst ((nx.1.getD j []).map V.int)) = H5 at *
      have et : (nx.1.take (j + 1)).flatten.length = (nx.1.take j).flatten.length + (nx.1.getD j []).length := by
        rw [take_succ_of (x := nx.1.getD j []) (by rw [List.getD_eq_getElem?_getD, List.getElem?_eq_getElem hjl]; rfl), List.flatten_append, List.length_append]; simp
      have etl : (nx.1.take (j + 1)).flatten.length ≤ nx.1.flatten.length := by
        have h1 : (nx.1.take (j + 1)).flatten.length + (nx.1.drop (j + 1)).flatten.length = nx.1.flatten.length := by
          rw [← List.length_append, ← List.flatten_append, List.take_append_drop]
        omega
      refine ⟨D, l3, _, _, rfl, rfl, O4.get 1 rfl, O4.get 0 rfl, by rw [sz, List.length_map, List.length_map]; omega, ?_⟩
      have O5 := (O4.put 1 (o := .lst (ns.map V.int ++ (nx.1.getD j []).map V.int)) rfl rfl).drop (l' := [(D, .lst (ns.map V.int ++ (nx.1.getD j []).map V.int))]) (by simp)
      refine ⟨_, ns ++ nx.1.getD j [], rfl, ⟨B, sB, by rw [List.map_append]; exact O5⟩, by rw [List.length_append, hnl, et]; omega⟩
    rintro σ H4 ⟨x5, ns, rfl, ⟨B4, sB4, O4⟩, hnl⟩
    rw [hqv, List.take_length] at hnl
    -- the result
    have tH := (Same.tups sB4).trans O4.tups
    refine ⟨_, rfl, _, rfl, eqD_of (rx.keep tH) (ry.keep tH) (noTxt_actK t p a) (depth_actK t p a) ⟨_, rfl, ?_⟩⟩
    refine iteT ?_
    refine ⟨_, rfl, D, rfl, ⟨_, SqL.of (O4.get 0 rfl)⟩, fun D2 hD2 => ?_⟩
    refine it_list (K := K) (a := D) (xs := ns.map V.int) (fun j H' => Own B4 H' [(D2, .lst (((ns.take j).map fun _ => true).map V.bl)), (D, .lst (ns.map V.int))])
      (O4.new (o := .lst []) hD2 rfl) ?_ ?_ ?_
    · rintro j H' _ O
      exact SqL.of (O.get 1 rfl)
    · rintro j x H5 hx O
      rw [List.getElem?_map] at hx
      cases he : ns[j]? with
      | none => rw [he] at hx; cases hx
      | some e =>
        rw [he] at hx
        cases hx
        have hjl := (List.getElem?_eq_some_iff.mp he).1
        refine ⟨rfl, ?_⟩
        refine yes_t ?_
        refine ⟨_, rfl, e, rfl, _, O.get 0 rfl, by rw [sz, List.length_map, List.length_map, List.length_take]; omega, ?_⟩
        rw [take_succ_of he, List.map_append, List.map_append]
        exact O.put 0 rfl rfl
    intro H5 O5
    rw [List.length_map, List.take_length] at O5
    have hall : ∀ l : List Int, ((l.map fun _ => true).all id) = true := fun l => by rw [List.all_map, List.all_eq_true]; intro x _; rfl
    refine ⟨D2, _, rfl, SqL.of (O5.get 0 rfl), ?_⟩
    rw [hall]
    exact kk _ (sB4.trans O5.sub)
end
end ND
end
section
set_option Elab.async false
set_option linter.all false
set_option maxRecDepth 100000
set_option maxHeartbeats 4000000
namespace ND
open PySem L2
open PyProof.Rows (envOfC)
open PH
/-! ### the law: row_told, went -/
theorem rowsP_get (t : Tk) : ∀ (ls : List (Nat × Int)) (p : HPos) (j : Nat) (a : Nat × Int), ls[j]? = some a → (rowsP t p ls)[j]? = some (actK t (aftP t p (ls.take j)) a)
  | [], p, j, a, h => by simp at h
  | b :: r, p, 0, a, h => by
    simp at h
    subst h; rfl
  | b :: r, p, j + 1, a, h => by
    have := rowsP_get t r (actedP t p b.1 b.2).1 j a (by simpa using h)
    show (rowsP t _ r)[j]? = _
    rw [this]; rfl
theorem can_at {t : Tk} {p : HPos} {ls : List (Nat × Int)} (h : CanP t p ls) {j : Nat} {a : Nat × Int} (hj : ls[j]? = some a) : CanP t p (ls.take j) ∧ a ∈ actsOf t (aftP t p (ls.take j)) ∧ ls.take (j + 1) = ls.take j ++ [a] := by
  have hjl := (List.getElem?_eq_some_iff.mp hj).1
  have hc := (CanP_app t (ls.take j) (ls.drop j) p).mp (by rw [List.take_append_drop]; exact h)
  have edr : ls.drop j = a :: ls.drop (j + 1) := by
    rw [List.drop_eq_getElem_cons hjl]
    have := List.getElem?_eq_getElem hjl
    rw [hj] at this
    injection this with this
    rw [this]
  rw [edr] at hc
  exact ⟨hc.1, hc.2.1, take_succ_of hj⟩
def spRowTold : Sp := fun vs H Q _ => ∃ (l1 l2 : Addr) (v1 v2 : List V) (t : Tk) (p : HPos) (ls : List (Nat × Int)) (c n : Nat), vs = [.ref l1, .ref l2] ∧ H l1 = some (.lst v1) ∧ H l2 = some (.lst v2) ∧ Rps H (rowsP t p ls) v1 ∧ Rps H (rowsP t p ls) v2 ∧
  HV c n p ∧ c ≤ 3 ∧ n ≤ 5 ∧ CanP t p ls ∧ ls.length < 16777216 ∧ ∀ H', Same H H' → Q (.bl true) H'
def spWent : Sp := fun vs H Q _ => ∃ (lv rv L : Addr) (pz : V) (least : List Int) (rules : List Str) (c n : Nat) (p : HPos) (ls : List (Nat × Int)) (xs : List V), vs = [.ref lv, .ref rv, pz, .ref L] ∧ H lv = some (.lst (least.map V.int)) ∧ H rv = some (.lst (rules.map V.str)) ∧
  Rp H (posK p) pz ∧ HV c n p ∧ c ≤ 3 ∧ n ≤ 5 ∧ H L = some (.lst xs) ∧ Rps H (ls.map labK) xs ∧ CanP (tkOf least rules) p ls ∧ ls.length < 16777216 ∧
  ∀ (H' : Hp) (l : Addr) (wv : List V), Same H H' → H l = none → H' l = some (.lst wv) → Rps H' (rowsP (tkOf least rules) p ls) wv → Q (.ref l) H'
section
variable {P : Program} {w : World} {K : PySem.W.Frag} {mg : Str → Option Value} {base : Heap}
theorem ok_row_told (T : Blt mg) {f_l_same : Addr} {fd_l_same : FuncData} (G_l_same : FnOk P w K mg base CX0 2 f_l_same fd_l_same P_l_same spSame) (g_l_same : mg "_law_same" = some (.ref f_l_same)) (k_l_same : PySem.W.keepIn K (.ref f_l_same) = true) (b_l_same : Binds K fd_l_same P_l_same [])
    {f : Addr} {fd : FuncData} (F : Fun K "_law_row_told" "_law_row_told" s_l_row_told f fd) : FnOk P w K mg base CX0 3 f fd P_l_row_told spRowTold := by
  refine F.ok sc_l_row_told (fun vs H Q E h => ?_) (fun cdv A outer s H vs Q E hr h => ?_)
  · obtain ⟨l1, l2, v1, v2, t, p, ls, c, n, rfl, _⟩ := h
    rfl
  · obtain ⟨l1, l2, v1, v2, t, p, ls, c, n, rfl, h1, h2, r1, r2, hv, hc3, hn5, can, hlen, kk⟩ := h
    have sz : sizeLine = 16777216 := sizeLine_eq
    have e1 : v1.length = ls.length := by rw [r1.length, rowsP_len]
    have e2 : v2.length = ls.length := by rw [r2.length, rowsP_len]
    refine ⟨_, (pss_cons (ps_if (PW.pt (pw_or (pt_not (pt_val (pe_callB call_isi (by rfl) T.isinstance (by decide +kernel) (pa_cons (pv 0) (pa_cons (pe_bltn (v := .ty "list") (by rfl) T.list (by decide +kernel) rfl) pa_nil))))) (pw_or1 (pt_cmpR op_ne (pe_callB call_len_seq (by rfl) T.len (by decide +kernel) (pa_cons (pv 0) pa_nil)) (pe_callB call_len_seq (by rfl) T.len (by decide +kernel) (pa_cons (pv 1) pa_nil)) (nomark _)))))
    (pss_one (ps_ret pe_bl))
    pss_nil)
  (pss_one (ps_ret (pe_callB (cr_all rfl) (by rfl) T.all (by decide +kernel) (pa_cons (pe_lc (own := [("_law_k", 2)]) (g := gName 2) rfl sc_l_row_told.nd (pi_range1 rfl T.range (pa_cons (pe_callB call_len_seq (by rfl) T.len (by decide +kernel) (pa_cons (pv 1) pa_nil)) pa_nil)) (blkOk_by (own := [("_law_k", 2)]) (N := N_l_row_told) (sc := defScope s_l_row_told) (by decide +kernel)) (fun _ _ _ _ _ => (pg_name (i := 2) sc_l_row_told.nd rfl (Or.inl rfl))) (fun _ _ _ _ _ => pts_nil) (fun _ _ _ _ _ => (pe_call G_l_same (hr.mono (show 2 ≤ 2 by decide)) rfl g_l_same k_l_same b_l_same .nil pass0 (pa_cons (pe_ix (ix_listB (K := K)) (pv 0) (pv 2) (fun _ _ => rfl)) (pa_cons (pe_ix (ix_listB (K := K)) (pv 1) (pv 2) (fun _ _ => rfl)) pa_nil))))) pa_nil))))), ?_⟩
    refine ⟨_, rfl, .ref l1, .ty "list", .type "list", .type "list", true, rfl, .ty _, .base (.lst h1), kit_ty kLL, _, rfl, ?_⟩
    refine iteF ?_
    refine ⟨_, rfl, l1, _, rfl, .inl (SqL.of h1), _, rfl, l2, _, rfl, .inl (SqL.of h2), rfl, _, rfl, ?_⟩
    have d1 : (!decide (V.int ((v1.length : Nat) : Int) = V.int ((v2.length : Nat) : Int))) = false := by rw [e1, e2, decide_eq_true rfl]; rfl
    dsimp only
    rw [d1]
    refine iteF ?_
    refine ⟨_, rfl, l2, _, rfl, .inl (SqL.of h2), _, rfl, by omega, by omega, fun D hD => ?_⟩
    rw [e2, Int.toNat_natCast]
    refine it_range (lo := 0) (n := ls.length) (fun j H' => ∃ B, Same H B ∧ Own B H' [(D, .lst (((ls.take j).map fun _ => true).map V.bl))])
      ⟨H, Same.refl _, (Own.start H).new (o := .lst []) hD rfl⟩ ?_ ?_
    · rintro j H1 hj ⟨B, sB, O⟩
      have ej : (0 : Int) + ((j : Nat) : Int) = ((j : Nat) : Int) := by omega
      obtain ⟨a, ha⟩ : ∃ a, ls[j]? = some a := ⟨_, List.getElem?_eq_getElem hj⟩
      obtain ⟨cj, ma, etk⟩ := can_at can ha
      obtain ⟨hm1, hm2⟩ := acts_mem.mp ma
      have hvj := HV.aft hv cj
      rw [hvj.ql] at hm1
      have hvn := hvj.acted hm1 hm2
      obtain ⟨x, hx, rx⟩ := r1.get (rowsP_get t ls p j a ha)
      obtain ⟨y, hy, ry⟩ := r2.get (rowsP_get t ls p j a ha)
      have sH := sB.trans O.sub
      refine ⟨rfl, ?_⟩
      refine yes_t ?_
      refine ⟨_, rfl, _, rfl, l1, _, _, _, rfl, rfl, SqL.of (sH _ _ h1), at_of ej hx, _, rfl, _, rfl, l2, _, _, _, rfl, rfl, SqL.of (sH _ _ h2), at_of ej hy, ?_⟩
      refine ⟨x, y, t, aftP t p (ls.take j), a, 0, 0, rfl, rx.keep (Same.tups sH), ry.keep (Same.tups sH), ?_, ?_, fun H2 s2 => ?_⟩
      · rw [hvn.pm.length_eq, List.length_map, List.length_range]; omega
      · rw [hvn.ll]; omega
      obtain ⟨B2, sB2, O2, _, _⟩ := O.call s2
      refine ⟨_, O2.get 0 rfl, by rw [sz, List.length_map, List.length_map, List.length_take]; omega, B2, sB.trans sB2, ?_⟩
      rw [etk, List.map_append, List.map_append]
      exact O2.put 0 rfl rfl
    rintro H1 ⟨B, sB, O⟩
    rw [List.take_length] at O
    have hall : ∀ l : List (Nat × Int), ((l.map fun _ => true).all id) = true := fun l => by rw [List.all_map, List.all_eq_true]; intro x _; rfl
    refine ⟨D, _, rfl, SqL.of (O.get 0 rfl), ?_⟩
    rw [hall]
    exact kk _ (sB.trans O.sub)
theorem ok_went (T : Blt mg) {f_l_whole : Addr} {fd_l_whole : FuncData} (G_l_whole : FnOk P w K mg base CX0 1 f_l_whole fd_l_whole P_l_whole spWhole) (g_l_whole : mg "_law_whole" = some (.ref f_l_whole)) (k_l_whole : PySem.W.keepIn K (.ref f_l_whole) = true) (b_l_whole : Binds K fd_l_whole P_l_whole [])
    {f_l_picks : Addr} {fd_l_picks : FuncData} (G_l_picks : FnOk P w K mg base CX0 2 f_l_picks fd_l_picks P_l_picks spLPicks) (g_l_picks : mg "_law_picks" = some (.ref f_l_picks)) (k_l_picks : PySem.W.keepIn K (.ref f_l_picks) = true) (b_l_picks : Binds K fd_l_picks P_l_picks [])
    {f_l_acted : Addr} {fd_l_acted : FuncData} (G_l_acted : FnOk P w K mg base CX0 2 f_l_acted fd_l_acted P_l_acted spLActed) (g_l_acted : mg "_law_acted" = some (.ref f_l_acted)) (k_l_acted : PySem.W.keepIn K (.ref f_l_acted) = true) (b_l_acted : Binds K fd_l_acted P_l_acted [])
    {f : Addr} {fd : FuncData} (F : Fun K "_law_went" "_law_went" s_l_went f fd) : FnOk P w K mg base CX0 3 f fd P_l_went spWent := by
  refine F.ok sc_l_went (fun vs H Q E h => ?_) (fun cdv A outer s H vs Q E hr h => ?_)
  · obtain ⟨lv, rv, L, pz, least, rules, c, n, p, ls, xs, rfl, _⟩ := h
    rfl
  · obtain ⟨lv, rv, L, pz, least, rules, c, n, p0, ls, xs, rfl, hlv, hrv, rp0, hv0, hc3, hn5, hL, rl, can, hlen, kk⟩ := h
    have sz : sizeLine = 16777216 := sizeLine_eq
    have hxl : xs.length = ls.length := by rw [rl.length, List.length_map]
    obtain ⟨t, ht⟩ : ∃ t, t = tkOf least rules := ⟨_, rfl⟩
    rw [← ht] at kk can
    refine ⟨_, (pss_cons (ps_set (i := 4) sc_l_went.nd rfl (Or.inl rfl) (pe_lst pa_nil))
  (pss_cons (ps_if (pt_not (pt_val (pe_callB call_isi (by rfl) T.isinstance (by decide +kernel) (pa_cons (pv 3) (pa_cons (pe_bltn (v := .ty "list") (by rfl) T.list (by decide +kernel) rfl) pa_nil)))))
    (pss_one (ps_ret pe_non))
    pss_nil)
  (pss_cons (ps_for PassesOwn.never rfl (pi_list (pv 3)) (pg_name (i := 5) sc_l_went.nd rfl (Or.inl rfl))
    (pss_cons (ps_if (PW.pt (pw_or (pt_not (pt_val (pe_callB call_isi (by rfl) T.isinstance (by decide +kernel) (pa_cons (pv 5) (pa_cons (pe_bltn (v := .ty "tuple") (by rfl) T.tuple (by decide +kernel) rfl) pa_nil))))) (pw_or (pt_cmpR op_ne (pe_callB call_len_seq (by rfl) T.len (by decide +kernel) (pa_cons (pv 5) pa_nil)) pe_int (nomark _)) (pw_or1 (pt_not (pt_val (pe_callB (cr_all rfl) (by rfl) T.all (by decide +kernel) (pa_cons (pe_lc (own := [("_law_part", 6)]) (g := gName 6) rfl sc_l_went.nd (pi_tup (pv 5)) (blkOk_by (own := [("_law_part", 6)]) (N := N_l_went) (sc := defScope s_l_went) (by decide +kernel)) (fun _ _ _ _ _ => (pg_name (i := 6) sc_l_went.nd rfl (Or.inl rfl))) (fun _ _ _ _ _ => pts_nil) (fun _ _ _ _ _ => (pe_call G_l_whole (hr.mono (show 1 ≤ 2 by decide)) rfl g_l_whole k_l_whole b_l_whole .nil pass0 (pa_cons (pv 6) pa_nil)))) pa_nil))))))))
      (pss_one (ps_ret pe_non))
      pss_nil)
    (pss_cons (ps_if (PW.pt (pw_or (pt_not (pt_chain op_le op_lt pe_int (pe_ix ix_tup (pv 5) pe_int (fun _ _ => rfl)) (pe_callB call_len_seq (by rfl) T.len (by decide +kernel) (pa_cons (pe_ix ix_tup (pv 2) pe_int (fun _ _ => rfl)) pa_nil)))) (pw_or1 (pt_cmpR op_notIn_seq (pe_ix ix_tup (pv 5) pe_int (fun _ _ => rfl)) (pe_call G_l_picks (hr.mono (show 2 ≤ 2 by decide)) rfl g_l_picks k_l_picks b_l_picks .nil pass0 (pa_cons (pv 0) (pa_cons (pv 1) (pa_cons (pv 2) (pa_cons (pe_ix ix_tup (pv 5) pe_int (fun _ _ => rfl)) pa_nil))))) (by rfl)))))
      (pss_one (ps_ret pe_non))
      pss_nil)
    (pss_cons (ps_expr (pe_bm PySem.F.plainAttrs_list PySem.F.slot_list_append PySem.F.type_list_append mt_append (pv 4) (pa_cons (pe_call G_l_acted (hr.mono (show 2 ≤ 2 by decide)) rfl g_l_acted k_l_acted b_l_acted .nil pass0 (pa_cons (pv 0) (pa_cons (pv 1) (pa_cons (pv 2) (pa_cons (pe_ix ix_tup (pv 5) pe_int (fun _ _ => rfl)) (pa_cons (pe_ix ix_tup (pv 5) pe_int (fun _ _ => rfl)) pa_nil)))))) pa_nil)))
    (pss_one (ps_set (i := 2) sc_l_went.nd rfl (Or.inl rfl) (pe_ix ix_tup (pe_ix ix_list (pv 4) (pe_un un_neg pe_int) (fun _ _ => rfl)) pe_int (fun _ _ => rfl))))))))
  (pss_one (ps_ret (pv 4)))))), ?_⟩
    refine ⟨by rw [sz]; show 0 ≤ 16777216; decide, fun D hD => ?_⟩
    have O0 := (Own.start H).new (o := .lst []) hD rfl
    have sD := O0.sub
    generalize upd H D (.lst []) = H0 at *
    refine ⟨_, rfl, .ref L, .ty "list", .type "list", .type "list", true, rfl, .ty _, .base (.lst (sD _ _ hL)), kit_ty kLL, _, rfl, ?_⟩
    refine iteF ?_
    refine ⟨_, rfl, L, rfl, ⟨_, SqL.of (sD _ _ hL)⟩, ?_⟩
    refine for_list (K := K) (a := L) (xs := xs) (fun j σ H' => ∃ (pz : V) (x5 x6 : Option V) (B : Hp) (wv : List V), σ = [some (.ref lv), some (.ref rv), some pz, some (.ref L), some (.ref D), x5, x6] ∧ Same H B ∧ Own B H' [(D, .lst wv)] ∧
      Rp B (posK (aftP t p0 (ls.take j))) pz ∧ Rps B (rowsP t p0 (ls.take j)) wv)
      ⟨pz, none, none, H, [], rfl, Same.refl _, O0, rp0, .nil⟩ ?_ ?_ ?_
    · rintro j σ H' _ ⟨pz, x5, x6, B, wv, rfl, sB, O, _⟩
      exact SqL.of (O.sub _ _ (sB _ _ hL))
    · rintro j x σ H2 hx ⟨pz, x5, x6, B, wv, rfl, sB, O, rp, rr⟩
      have hjl : j < ls.length := by rw [← hxl]; exact (List.getElem?_eq_some_iff.mp hx).1
      obtain ⟨⟨ci, k⟩, hck⟩ : ∃ ck, ls[j]? = some ck := ⟨_, List.getElem?_eq_getElem hjl⟩
      obtain ⟨v, hv', rv'⟩ := rl.get (i := j) (k := labK (ci, k)) (by rw [List.getElem?_map, hck]; rfl)
      rw [hx] at hv'
      cases hv'
      obtain ⟨b, bs, rfl, hb, rb⟩ := rv'.tupD
      obtain ⟨v1, r1, rfl, e1, rb⟩ := rb.consD
      obtain ⟨v2, r2, rfl, e2, rb⟩ := rb.consD
      obtain rfl := rb.nilD
      obtain rfl := e1.numD
      obtain rfl := e2.numD
      obtain ⟨can1, canh, etk⟩ := can_at can hck
      have hvj := HV.aft hv0 can1
      obtain ⟨pj, hpj⟩ : ∃ pj, pj = aftP t p0 (ls.take j) := ⟨_, rfl⟩
      rw [← hpj] at rp hvj canh
      obtain ⟨hci, hk⟩ := acts_mem.mp canh
      rw [hvj.ql] at hci
      have sH2 := sB.trans O.sub
      have hb2 := sH2 _ _ hb
      dsimp only [gName]
      refine ⟨_, rfl, .ref b, .ty "tuple", .type "tuple", .type "tuple", true, rfl, .ty _, .base (.tup hb2), kit_ty kTT, _, rfl, ?_⟩
      refine iteF ?_
      refine ⟨_, rfl, b, _, rfl, .inr (SqT.of hb2), rfl, _, rfl, ?_⟩
      refine iteF ?_
      -- all([whole(part) for part in pair])
      refine ⟨_, rfl, b, rfl, ⟨_, SqT.of hb2⟩, fun D2 hD2 => ?_⟩
      refine it_tup (K := K) (a := b) (xs := [.int ((ci : Nat) : Int), .int k]) (fun m H' => Own B H' [(D2, .lst ((List.replicate m true).map V.bl)), (D, .lst wv)])
        (O.new (o := .lst []) hD2 rfl) ?_ ?_ ?_
      · rintro m H' _ O
        exact SqT.of (O.sub _ _ (sB _ _ hb))
      · rintro m x H3 hx3 O3
        have hm2 : m < 2 := (List.getElem?_eq_some_iff.mp hx3).1
        obtain ⟨e, rfl⟩ : ∃ e : Int, x = .int e := by
          match m, hm2, hx3 with
          | 0, _, h => exact ⟨_, (Option.some.inj h).symm⟩
          | 1, _, h => exact ⟨_, (Option.some.inj h).symm⟩
        refine ⟨rfl, ?_⟩
        refine yes_t ?_
        refine ⟨_, rfl, e, rfl, _, O3.get 0 rfl, by rw [sz, List.length_map, List.length_replicate]; omega, ?_⟩
        rw [List.replicate_succ', List.map_append]
        exact O3.put 0 rfl rfl
      intro H3 O3
      refine ⟨D2, _, rfl, SqL.of (O3.get 0 rfl), _, rfl, ?_⟩
      refine iteF ?_
      have O3 := O3.drop (l' := [(D, .lst wv)]) (by simp)
      have sH3 := sB.trans O3.sub
      have hb3 := sH3 _ _ hb
      -- 0 <= pair[0] < len(position[0])
      obtain ⟨qa, la, qvs, PA⟩ := posAt_of (rp.keep O3.tups)
      obtain ⟨pa, rfl, hpa⟩ := PA.top
      have hqv : qvs.length = c := by rw [PA.ql, hvj.ql]
      refine ⟨_, rfl, b, _, _, _, rfl, rfl, SqT.of hb3, at_of (j := 0) rfl rfl, _, _, rfl, rfl, _, rfl, ?_⟩
      have e0 : decide ((0 : Int) ≤ ((ci : Nat) : Int)) = true := decide_eq_true (by omega)
      rw [e0]
      refine iteT ?_
      refine ⟨_, rfl, pa, _, _, _, rfl, rfl, SqT.of hpa, at_of (j := 0) rfl rfl, qa, _, rfl, .inr (SqT.of PA.qs), _, _, rfl, rfl, _, rfl, ?_⟩
      have e1 : decide (((ci : Nat) : Int) < ((qvs.length : Nat) : Int)) = true := decide_eq_true (by rw [hqv]; omega)
      dsimp only
      rw [e1]
      refine iteF ?_
      refine ⟨_, rfl, b, _, _, _, rfl, rfl, SqT.of hb3, at_of (j := 1) rfl rfl, _, rfl, _, rfl, _, rfl, _, rfl, b, _, _, _, rfl, rfl, SqT.of hb3, at_of (j := 0) rfl rfl, ?_⟩
      refine ⟨lv, rv, .ref pa, least, rules, c, n, pj, ci, rfl, sH3 _ _ hlv, sH3 _ _ hrv, rp.keep O3.tups, hvj, hc3, hci, fun H4 l s4 hl hl' => ?_⟩
      rw [← ht] at hl'
      obtain ⟨B4, sB4, O4, _, _⟩ := O3.call s4
      refine ⟨l, _, rfl, .inl (SqL.of hl'), rfl, flat_ints _, _, rfl, ?_⟩
      have ein : inV (.int k) ((picksOf t pj ci).map V.int) = true := by rw [inV_ints]; exact decide_eq_true hk
      rw [ein]
      refine iteF ?_
      -- found.append(acted(..))
      have sB4' := sB.trans sB4
      have sH4 := sB4'.trans O4.sub
      have hb4 := sH4 _ _ hb
      refine ⟨_, rfl, .inl ⟨rfl, wv, SqL.of (O4.get 0 rfl)⟩, _, rfl, _, rfl, _, rfl, _, rfl, b, _, _, _, rfl, rfl, SqT.of hb4, at_of (j := 0) rfl rfl, _, rfl, b, _, _, _, rfl, rfl, SqT.of hb4, at_of (j := 1) rfl rfl, ?_⟩
      refine ⟨lv, rv, .ref pa, least, rules, c, n, pj, ci, k, rfl, sH4 _ _ hlv, sH4 _ _ hrv, (rp.keep (Same.tups sB4)).keep O4.tups, hvj, hc3, hn5, hci, fun H5 v s5 rv5 => ?_⟩
      rw [← ht] at rv5
      obtain ⟨B5, sB5, O5, t5, _⟩ := O4.call s5
      have hrl : wv.length = j := by rw [rr.length, rowsP_len, List.length_take]; omega
      refine ⟨D, wv, v, rfl, rfl, O5.get 0 rfl, by rw [sz, hrl]; omega, ?_⟩
      have O6 := O5.put 0 (o := .lst (wv ++ [v])) rfl rfl
      generalize upd H5 D (.lst (wv ++ [v])) = H6 at *
      have rv6 := rv5.keep t5
      obtain ⟨vb, vs6, rfl, hvb, rb6⟩ := id rv6.tupD
      obtain ⟨w1, r1, rfl, _, rb6⟩ := rb6.consD
      obtain ⟨w2, r2, rfl, _, rb6⟩ := rb6.consD
      obtain ⟨w3, r3, rfl, rw3, rb6⟩ := rb6.consD
      refine ⟨_, rfl, _, rfl, D, _, _, _, rfl, rfl, SqL.of (O6.get 0 rfl), atI_last wv (.ref vb), vb, _, _, _, rfl, rfl, SqT.of (O6.sub _ _ hvb), at_of (j := 2) rfl rfl, ?_⟩
      refine ⟨w3, _, _, B5, wv ++ [V.ref vb], rfl, sB4'.trans sB5, O6, ?_, ?_⟩
      · rw [etk, aftP_app, ← hpj]; exact rw3
      · rw [etk, rowsP_app, ← hpj]
        exact (rr.keep (Same.tups (sB4.trans sB5))).snoc rv6
    · rintro σ H2 ⟨pz, x5, x6, B, wv, rfl, sB, O, _, rr⟩
      rw [hxl, List.take_length] at rr
      exact ⟨_, rfl, kk _ D wv (sB.trans O.sub) (sB.free (O.fresh 0 rfl)) (O.get 0 rfl) (rr.keep O.tups)⟩
end
end ND
end
section
set_option Elab.async false
set_option linter.all false
set_option maxRecDepth 100000
set_option maxHeartbeats 4000000
namespace ND
open PySem L2
open PyProof.Rows (envOfC)
open PH
/-! ### the law: drawn, counts -/
theorem picks_ne (t : Tk) (p : HPos) (i : Nat) : picksOf t p i ≠ [] := by
  unfold picksOf
  split
  · simp
  · dsimp only
    split
    · simp
    · rename_i h1 h2
      split
      · intro z
        exact h2 (List.map_eq_nil_iff.mp z)
      · intro z
        have z := List.map_eq_nil_iff.mp z
        have hm := most_mem (l := (othersOf t p.1 i).map (qlen p.1)) (fun z => h2 (List.map_eq_nil_iff.mp z))
        obtain ⟨o, ho, e⟩ := List.mem_map.mp hm
        have hf : o ∈ (othersOf t p.1 i).filter fun o => decide (qlen p.1 o = most ((othersOf t p.1 i).map (qlen p.1))) := List.mem_filter.mpr ⟨ho, decide_eq_true e⟩
        cases q : (othersOf t p.1 i).filter fun o => decide (qlen p.1 o = most ((othersOf t p.1 i).map (qlen p.1))) with
        | nil => rw [q] at hf; cases hf
        | cons x r => rw [q] at z; simp at z
theorem acts_ne {c n : Nat} {p : HPos} (h : HV c n p) (hc : 1 ≤ c) (t : Tk) : actsOf t p ≠ [] := by
  obtain ⟨k, hk⟩ := List.exists_mem_of_ne_nil _ (picks_ne t p 0)
  exact List.ne_nil_of_mem (acts_mem.mpr ⟨by show 0 < p.1.length; rw [h.ql]; omega, hk⟩ : (0, k) ∈ actsOf t p)
def spDrawn : Sp := fun vs H Q _ => ∃ (lv rv dl : Addr) (pz : V) (eager : Bool) (least : List Int) (rules : List Str) (c n : Nat) (p : HPos) (ds : List Int), vs = [.ref lv, .ref rv, pz, .ref dl, .bl eager] ∧ H lv = some (.lst (least.map V.int)) ∧ H rv = some (.lst (rules.map V.str)) ∧
  Rp H (posK p) pz ∧ HV c n p ∧ 1 ≤ c ∧ c ≤ 3 ∧ n ≤ 5 ∧ H dl = some (.lst (ds.map V.int)) ∧ ds.length ≤ 1000 ∧
  ∀ (H' : Hp) (l : Addr) (wv : List V) (ls : List (Nat × Int)), Same H H' → H l = none → H' l = some (.lst wv) → CanP (tkOf least rules) p ls → ls.length = ds.length → Rps H' (rowsP (tkOf least rules) p ls) wv → Q (.ref l) H'
def spCounts : Sp := fun vs H Q _ => ∃ (x : V) (task : Int) (t : Tk) (c n : Nat) (p : HPos) (a : Nat × Int), vs = [x, .int task] ∧ Rp H (actK t p a) x ∧ HV c n p ∧ a ∈ actsOf t p ∧ Q (.int (cntP t task p a)) H
section
variable {P : Program} {w : World} {K : PySem.W.Frag} {mg : Str → Option Value} {base : Heap}
theorem ok_counts (T : Blt mg) {f : Addr} {fd : FuncData} (F : Fun K "_law_counts" "_law_counts" s_l_counts f fd) : FnOk P w K mg base CX0 1 f fd P_l_counts spCounts := by
  refine F.ok sc_l_counts (fun vs H Q E h => ?_) (fun cdv A outer s H vs Q E hr h => ?_)
  · obtain ⟨x, task, t, c, n, p, a, rfl, _⟩ := h
    rfl
  · obtain ⟨x, task, t, c, n, p, a, rfl, rx, hv, ha, k⟩ := h
    obtain ⟨b, vs0, rfl, hb, rb⟩ := rx.tupD
    obtain ⟨v1, r1, rfl, e1, rb⟩ := rb.consD
    obtain ⟨v2, r2, rfl, e2, rb⟩ := rb.consD
    obtain ⟨v3, r3, rfl, e3, rb⟩ := rb.consD
    obtain ⟨v4, r4, rfl, e4, rb⟩ := rb.consD
    obtain ⟨v5, r5, rfl, e5, rb⟩ := rb.consD
    obtain rfl := rb.nilD
    obtain rfl := e1.numD
    obtain rfl := e4.numD
    obtain rfl := e5.numD
    obtain ⟨hm1, hm2⟩ := acts_mem.mp ha
    rw [hv.ql] at hm1
    have hvn := hv.acted hm1 hm2
    unfold cntP at k
    refine ⟨_, (pss_cons (ps_if (pt_cmpR op_lt (pv 1) pe_int (nomark _))
    (pss_one (ps_ret (pe_ix ix_tup (pv 0) pe_int (fun _ _ => rfl))))
    pss_nil)
  (pss_one (ps_ret (pe_callTy call_int1 (by rfl) T.int (by decide +kernel) (pa_cons (pe_and (pe_cmpR op_ne (pe_ix ix_tup (pv 0) pe_int (fun _ _ => rfl)) (pv 1) (nomark _)) (pe_one (pe_cmpR op_in_seq (pv 1) (pe_ix ix_tup (pe_ix ix_tup (pe_ix ix_tup (pv 0) pe_int (fun _ _ => rfl)) pe_int (fun _ _ => rfl)) (pe_ix ix_tup (pv 0) pe_int (fun _ _ => rfl)) (fun _ _ => rfl)) (by rfl)))) pa_nil))))), ?_⟩
    refine ⟨_, rfl, _, _, rfl, rfl, _, rfl, ?_⟩
    refine ite2 (fun hn => ?_) (fun hn => ?_)
    · have hn := of_decide_eq_true hn
      rw [if_pos hn] at k
      exact ⟨_, rfl, b, _, _, _, rfl, rfl, SqT.of hb, at_of (j := 4) rfl rfl, k⟩
    · have hn : ¬ task < 0 := fun z => hn (decide_eq_true z)
      rw [if_neg hn] at k
      refine ⟨_, rfl, b, _, _, _, rfl, rfl, SqT.of hb, at_of (j := 3) rfl rfl, _, rfl, rfl, _, rfl, ?_⟩
      have er : (!decide (V.int (actedP t p a.1 a.2).2.1 = V.int task)) = decide ((actedP t p a.1 a.2).2.1 ≠ task) := by
        by_cases q : (actedP t p a.1 a.2).2.1 = task
        · rw [decide_eq_true (by rw [q]), decide_eq_false (fun z => z q)]; rfl
        · rw [decide_eq_false (fun z => q (by injection z)), decide_eq_true q]; rfl
      rw [er]
      by_cases q : (actedP t p a.1 a.2).2.1 ≠ task
      · rw [if_pos q] at k
        rw [decide_eq_true q]
        refine iteT ?_
        obtain ⟨qa, la, qvs, PA⟩ := posAt_of e3
        obtain ⟨pa, ev3, hpa⟩ := PA.top
        subst ev3
        obtain ⟨ai, hai, hqi⟩ := PA.row a.1 (by rw [hvn.ql]; exact hm1)
        refine ⟨_, rfl, _, rfl, b, _, _, _, rfl, rfl, SqT.of hb, at_of (j := 2) rfl rfl, pa, _, _, _, rfl, rfl, SqT.of hpa, at_of (j := 0) rfl rfl, _, rfl, b, _, _, _, rfl, rfl, SqT.of hb, at_of (j := 0) rfl rfl, qa, _, _, _, rfl, rfl, SqT.of PA.qs, at_of rfl hai, ai, _, rfl, .inr (SqT.of hqi), rfl, flat_ints _, ?_⟩
        refine .inr ⟨_, rfl, ?_⟩
        rw [inV_ints, if_neg Bool.false_ne_true]
        unfold passW at k
        by_cases g : task ∈ (actedP t p a.1 a.2).1.1.getD a.1 []
        · rw [if_pos g] at k
          rw [if_pos (decide_eq_true g)]; exact k
        · rw [if_neg g] at k
          rw [if_neg (by rw [decide_eq_false g]; exact Bool.false_ne_true)]; exact k
      · rw [if_neg q] at k
        rw [decide_eq_false q]
        refine iteF ?_
        exact .inr ⟨_, rfl, k⟩
theorem ok_drawn (T : Blt mg) {f_l_acts : Addr} {fd_l_acts : FuncData} (G_l_acts : FnOk P w K mg base CX0 3 f_l_acts fd_l_acts P_l_acts spLActs) (g_l_acts : mg "_law_acts" = some (.ref f_l_acts)) (k_l_acts : PySem.W.keepIn K (.ref f_l_acts) = true) (b_l_acts : Binds K fd_l_acts P_l_acts [])
    {f : Addr} {fd : FuncData} (F : Fun K "_law_drawn" "_law_drawn" s_l_drawn f fd) : FnOk P w K mg base CX0 4 f fd P_l_drawn spDrawn := by
  refine F.ok sc_l_drawn (fun vs H Q E h => ?_) (fun cdv A outer s H vs Q E hr h => ?_)
  · obtain ⟨lv, rv, dl, pz, eager, least, rules, c, n, p, ds, rfl, _⟩ := h
    rfl
  · obtain ⟨lv, rv, dl, pz0, eager, least, rules, c, n, p0, ds, rfl, hlv, hrv, rp0, hv0, hc1, hc3, hn5, hdl, hdn, kk⟩ := h
    have sz : sizeLine = 16777216 := sizeLine_eq
    obtain ⟨t, ht⟩ : ∃ t, t = tkOf least rules := ⟨_, rfl⟩
    rw [← ht] at kk
    refine ⟨_, (pss_cons (ps_set (i := 5) sc_l_drawn.nd rfl (Or.inl rfl) (pv 2))
  (pss_cons (ps_set (i := 6) sc_l_drawn.nd rfl (Or.inl rfl) (pe_lst pa_nil))
  (pss_cons (ps_for PassesOwn.never rfl (pi_list (pv 3)) (pg_name (i := 7) sc_l_drawn.nd rfl (Or.inl rfl))
    (pss_cons (ps_set (i := 8) sc_l_drawn.nd rfl (Or.inl rfl) (pe_call G_l_acts (hr.mono (show 3 ≤ 3 by decide)) rfl g_l_acts k_l_acts b_l_acts .nil pass0 (pa_cons (pv 0) (pa_cons (pv 1) (pa_cons (pv 5) pa_nil)))))
    (pss_cons (ps_setLc (i := 9) (own := [("_law_act", 10)]) (g := gName 10) rfl sc_l_drawn.nd rfl rfl (sw_true rfl rfl rfl (by decide +kernel)) (pi_list (pv 8)) (blkOk_by (own := [("_law_act", 10)]) (N := N_l_drawn) (sc := defScope s_l_drawn) (by decide +kernel)) (fun _ _ _ _ _ => (pg_name (i := 10) sc_l_drawn.nd rfl (Or.inl rfl))) (fun _ _ _ _ _ => (pts_one (pt_cmpR op_eq (pe_ix (ix_tupB (K := K)) (pv 10) pe_int (fun _ _ => rfl)) pe_int (nomark _)))) (fun _ _ _ _ _ => (pv 10)))
    (pss_cons (ps_if (PW.pt (pw_and (pt_val (pv 4)) (pw_and1 (pt_cmpR op_gt (pe_callB call_len_seq (by rfl) T.len (by decide +kernel) (pa_cons (pv 9) pa_nil)) pe_int (nomark _)))))
      (pss_one (ps_set (i := 8) sc_l_drawn.nd rfl (Or.inl rfl) (pv 9)))
      pss_nil)
    (pss_cons (ps_expr (pe_bm PySem.F.plainAttrs_list PySem.F.slot_list_append PySem.F.type_list_append mt_append (pv 6) (pa_cons (pe_ix ix_list (pv 8) (pe_op op_modN (pe_callTy call_int1 (by rfl) T.int (by decide +kernel) (pa_cons (pv 7) pa_nil)) (pe_callB call_len_seq (by rfl) T.len (by decide +kernel) (pa_cons (pv 8) pa_nil))) (fun _ _ => rfl)) pa_nil)))
    (pss_one (ps_set (i := 5) sc_l_drawn.nd rfl (Or.inl rfl) (pe_ix ix_tup (pe_ix ix_list (pv 6) (pe_un un_neg pe_int) (fun _ _ => rfl)) pe_int (fun _ _ => rfl)))))))))
  (pss_one (ps_ret (pv 6)))))), ?_⟩
    refine ⟨_, rfl, ?_⟩
    refine ⟨by rw [sz]; show 0 ≤ 16777216; decide, fun D hD => ?_⟩
    have O0 := (Own.start H).new (o := .lst []) hD rfl
    have sD := O0.sub
    generalize upd H D (.lst []) = H0 at *
    refine ⟨_, rfl, dl, rfl, ⟨_, SqL.of (sD _ _ hdl)⟩, ?_⟩
    refine for_list (K := K) (a := dl) (xs := ds.map V.int) (fun j σ H' => ∃ (pz : V) (x7 x8 x9 : Option V) (B : Hp) (wv : List V) (ls : List (Nat × Int)), σ = [some (.ref lv), some (.ref rv), some pz0, some (.ref dl), some (.bl eager), some pz, some (.ref D), x7, x8, x9, none] ∧ Same H B ∧ Own B H' [(D, .lst wv)] ∧
      CanP t p0 ls ∧ ls.length = j ∧ Rp B (posK (aftP t p0 ls)) pz ∧ Rps B (rowsP t p0 ls) wv)
      ⟨pz0, none, none, none, H, [], [], rfl, Same.refl _, O0, True.intro, rfl, rp0, .nil⟩ ?_ ?_ ?_
    · rintro j σ H' _ ⟨pz, x7, x8, x9, B, wv, ls, rfl, sB, O, _⟩
      exact SqL.of (O.sub _ _ (sB _ _ hdl))
    · rintro j x σ H1 hx ⟨pz, x7, x8, x9, B, wv, ls, rfl, sB, O, can, hll, rp, rr⟩
      rw [List.getElem?_map] at hx
      cases hd : ds[j]? with
      | none => rw [hd] at hx; cases hx
      | some d =>
        rw [hd] at hx
        cases hx
        have hjl := (List.getElem?_eq_some_iff.mp hd).1
        have hvj := HV.aft hv0 can
        obtain ⟨pj, hpj⟩ : ∃ pj, pj = aftP t p0 ls := ⟨_, rfl⟩
        rw [← hpj] at rp hvj
        have sH1 := sB.trans O.sub
        refine ⟨_, rfl, _, rfl, _, rfl, ?_⟩
        refine ⟨lv, rv, pz, least, rules, c, n, pj, rfl, sH1 _ _ hlv, sH1 _ _ hrv, rp.keep O.tups, hvj, hc3, hn5, fun H2 l av s2 hl hl' rl => ?_⟩
        rw [← ht] at rl
        obtain ⟨B2, sB2, O2, t2, f2⟩ := O.call s2
        have hlB := f2 _ _ hl hl'
        have rlB := rl.keep t2
        have anl := acts_len hvj hc3 t
        have hal : av.length = (actsOf t pj).length := by rw [rlB.length, List.length_map]
        -- wasted
        refine ⟨_, rfl, l, rfl, ⟨_, SqL.of hl'⟩, fun D2 hD2 => ?_⟩
        refine it_list (K := K) (a := l) (xs := av) (fun m H' => ∃ (B : Hp) (wv2 : List V) (as : List (Nat × Int)), Same B2 B ∧ Own B H' [(D2, .lst wv2), (D, .lst wv)] ∧ Rps B (as.map (actK t pj)) wv2 ∧ (∀ a ∈ as, a ∈ actsOf t pj) ∧ as.length ≤ m)
          ⟨B2, [], [], Same.refl _, O2.new (o := .lst []) hD2 rfl, .nil, (fun a h => nomatch h), Nat.le_refl _⟩ ?_ ?_ ?_
        · rintro m H' _ ⟨B, wv2, as, sB3, O3, _⟩
          exact SqL.of (O3.sub _ _ (sB3 _ _ hlB))
        · rintro m x H3 hx3 ⟨B3, wv2, as, sB3, O3, R3, hin, hm⟩
          have hml := (List.getElem?_eq_some_iff.mp hx3).1
          obtain ⟨a, ha⟩ : ∃ a, (actsOf t pj)[m]? = some a := ⟨_, List.getElem?_eq_getElem (by rw [← hal]; exact hml)⟩
          obtain ⟨v, hv', rv'⟩ := rlB.get (i := m) (k := actK t pj a) (by rw [List.getElem?_map, ha]; rfl)
          rw [hx3] at hv'
          cases hv'
          have rvB := rv'.keep (Same.tups sB3)
          obtain ⟨b, vs0, rfl, hb, rb⟩ := id rvB.tupD
          obtain ⟨v1, r1, rfl, e1, rb⟩ := rb.consD
          obtain ⟨v2, r2, rfl, e2, rb⟩ := rb.consD
          obtain ⟨v3, r3, rfl, e3, rb⟩ := rb.consD
          obtain ⟨v4, r4, rfl, e4, rb⟩ := rb.consD
          obtain ⟨v5, r5, rfl, e5, rb⟩ := rb.consD
          obtain rfl := rb.nilD
          obtain rfl := e5.numD
          have hwl : wv2.length ≤ m := by rw [R3.length, List.length_map]; exact hm
          refine ⟨rfl, ?_⟩
          refine ⟨_, rfl, b, _, _, _, rfl, rfl, SqT.of (O3.sub _ _ hb), at_of (j := 4) rfl rfl, rfl, _, rfl, ?_⟩
          refine ite2 (fun _ => ?_) (fun _ => ?_)
          · refine ⟨_, rfl, wv2, O3.get 0 rfl, by rw [sz]; omega, B3, wv2 ++ [V.ref b], as ++ [a], sB3, O3.put 0 rfl rfl, ?_, fun a' ha' => ?_, by rw [List.length_append]; exact Nat.succ_le_succ hm⟩
            · rw [List.map_append]; exact R3.snoc rvB
            · rcases List.mem_append.mp ha' with q | q
              · exact hin a' q
              · have : a' = a := by simpa using q
                rw [this]; exact List.mem_of_getElem? ha
          · exact ⟨B3, wv2, as, sB3, O3, R3, hin, by omega⟩
        rintro H3 ⟨B3, wv2, as, sB3, O3, R3, hin, hm⟩
        obtain ⟨B4, sB4, hD4, O4⟩ := O3.keep
        have sB24 := sB3.trans sB4
        have hasl : as.length ≤ 6 := by omega
        dsimp only [gName]
        -- which list is drawn from
        refine seq_mid (fun σ' H' => H' = H3 ∧ ∃ (l2 : Addr) (cv : List V) (cs : List (Nat × Int)), σ' = [some (.ref lv), some (.ref rv), some pz0, some (.ref dl), some (.bl eager), some pz, some (.ref D), some (.int d), some (.ref l2), some (.ref D2), none] ∧
          B4 l2 = some (.lst cv) ∧ Rps B4 (cs.map (actK t pj)) cv ∧ cs ≠ [] ∧ ∀ a ∈ cs, a ∈ actsOf t pj) (fun N hN => ?_) ?_
        · have plain := hN _ _ ⟨rfl, l, av, actsOf t pj, rfl, sB24 _ _ hlB, rlB.keep (Same.tups sB24), acts_ne hvj hc1 t, fun a h => h⟩
          refine ⟨_, rfl, _, rfl, ?_⟩
          cases eager with
          | false => exact iteF (iteF plain)
          | true =>
            refine iteT ?_
            refine ⟨_, rfl, D2, _, rfl, .inl (SqL.of (O4.sub _ _ hD4)), _, _, rfl, rfl, _, rfl, ?_⟩
            refine ite2 (fun hgt => ?_) (fun _ => plain)
            have hgt := of_decide_eq_true hgt
            refine ⟨_, rfl, hN _ _ ⟨rfl, D2, wv2, as, rfl, hD4, R3.keep (Same.tups sB4), fun z => ?_, hin⟩⟩
            rw [R3.length, z] at hgt
            exact absurd hgt (by show ¬ ((0 : Int) < ((0 : Nat) : Int)); decide)
        rintro σ4 H4 ⟨rfl, l2, cv, cs, rfl, hl2, R4, hne, hcs⟩
        have hcl : cv.length = cs.length := by rw [R4.length, List.length_map]
        have hcpos : 0 < cs.length := List.length_pos_iff.mpr hne
        obtain ⟨i, ei, hi⟩ := fmod_nat (x := d) (m := cs.length) hcpos
        obtain ⟨a, ha⟩ : ∃ a, cs[i]? = some a := ⟨_, List.getElem?_eq_getElem hi⟩
        have ma := hcs a (List.mem_of_getElem? ha)
        obtain ⟨v, hv', rv'⟩ := R4.get (i := i) (k := actK t pj a) (by rw [List.getElem?_map, ha]; rfl)
        have hl4 := O4.sub _ _ hl2
        have hrl : wv.length = j := by rw [rr.length, rowsP_len, hll]
        refine ⟨_, rfl, .inl ⟨rfl, wv, SqL.of (O4.get 0 rfl)⟩, _, rfl, _, rfl, .inl ⟨_, rfl, _, rfl, l2, _, rfl, .inl (SqL.of hl4), _, _, rfl, rfl, ?_, l2, _, _, v, rfl, rfl, SqL.of hl4, at_of (j := i) ?_ hv', ?_⟩⟩
        · show ((cv.length : Nat) : Int) ≠ 0
          omega
        · rw [hcl]; exact ei
        refine ⟨D, wv, v, rfl, rfl, O4.get 0 rfl, by rw [sz, hrl]; omega, ?_⟩
        have O6 := O4.put 0 (o := .lst (wv ++ [v])) rfl rfl
        generalize upd H4 D (.lst (wv ++ [v])) = H6 at *
        obtain ⟨vb, vs6, rfl, hvb, rb6⟩ := id rv'.tupD
        obtain ⟨w1, r1, rfl, _, rb6⟩ := rb6.consD
        obtain ⟨w2, r2, rfl, _, rb6⟩ := rb6.consD
        obtain ⟨w3, r3, rfl, rw3, rb6⟩ := rb6.consD
        refine ⟨_, rfl, _, rfl, D, _, _, _, rfl, rfl, SqL.of (O6.get 0 rfl), atI_last wv (.ref vb), vb, _, _, _, rfl, rfl, SqT.of (O6.sub _ _ hvb), at_of (j := 2) rfl rfl, ?_⟩
        have sBB := sB.trans (sB2.trans sB24)
        refine ⟨w3, _, _, _, B4, wv ++ [V.ref vb], ls ++ [a], rfl, sBB, O6, (CanP_app t ls [a] p0).mpr ⟨can, by rw [← hpj]; exact ma, True.intro⟩, by rw [List.length_append, hll]; rfl, ?_, ?_⟩
        · rw [aftP_app, ← hpj]; exact rw3
        · rw [rowsP_app, ← hpj]
          exact (rr.keep (Same.tups (sB2.trans sB24))).snoc rv'
    · rintro σ H2 ⟨pz, x7, x8, x9, B, wv, ls, rfl, sB, O, can, hll, _, rr⟩
      rw [List.length_map] at hll
      exact ⟨_, rfl, kk _ D wv ls (sB.trans O.sub) (sB.free (O.fresh 0 rfl)) (O.get 0 rfl) can hll (rr.keep O.tups)⟩
end
end ND
end
section
set_option Elab.async false
set_option linter.all false
set_option maxRecDepth 100000
set_option maxHeartbeats 4000000
namespace ND
open PySem L2
open PyProof.Rows (envOfC)
open PH
/-! ### the law: bounded -/
theorem isK_pos {H : Hp} {p : HPos} {v : V} (h : Rp H (posK p) v) : IsK H (posK p) v := by
  refine ⟨h, Nat.le_trans (depth_posK p) (by decide), ?_⟩
  obtain ⟨a, _, e, _⟩ := h.tupD
  exact ⟨a, e⟩
def spBounded (w : World) : Sp := fun vs H Q _ => ∃ (d rl : Addr) (zv : V) (task : Int) (nx : List (NestedKey × Addr × V)) (f : HPos → Int) (t : Tk) (c n : Nat) (p0 : HPos) (wv : List V) (ls : List (Nat × Int)), vs = [.ref d, zv, .ref rl, .int task] ∧ H d = some (dN w d nx) ∧ KeysOk H nx ∧
  (∀ as, CanP t p0 as → valN nx (posK (aftP t p0 as)) = some (.int (f (aftP t p0 as)))) ∧ BndOk t p0 task f ∧ Rp H (posK p0) zv ∧ HV c n p0 ∧ H rl = some (.lst wv) ∧ Rps H (rowsP t p0 ls) wv ∧ CanP t p0 ls ∧ Q (.bl true) H
section
variable {P : Program} {w : World} {K : PySem.W.Frag} {mg : Str → Option Value} {base : Heap}
theorem ok_bounded (T : Blt mg) {f_l_whole : Addr} {fd_l_whole : FuncData} (G_l_whole : FnOk P w K mg base CX0 1 f_l_whole fd_l_whole P_l_whole spWhole) (g_l_whole : mg "_law_whole" = some (.ref f_l_whole)) (k_l_whole : PySem.W.keepIn K (.ref f_l_whole) = true) (b_l_whole : Binds K fd_l_whole P_l_whole [])
    {f_l_counts : Addr} {fd_l_counts : FuncData} (G_l_counts : FnOk P w K mg base CX0 1 f_l_counts fd_l_counts P_l_counts spCounts) (g_l_counts : mg "_law_counts" = some (.ref f_l_counts)) (k_l_counts : PySem.W.keepIn K (.ref f_l_counts) = true) (b_l_counts : Binds K fd_l_counts P_l_counts [])
    {f : Addr} {fd : FuncData} (F : Fun K "_law_bounded" "_law_bounded" s_l_bounded f fd) : FnOk P w K mg base CX0 2 f fd P_l_bounded (spBounded w) := by
  refine F.ok sc_l_bounded (fun vs H Q E h => ?_) (fun cdv A outer s H vs Q E hr h => ?_)
  · obtain ⟨d, rl, zv, task, nx, f, t, c, n, p0, wv, ls, rfl, _⟩ := h
    rfl
  · obtain ⟨d, rl, zv, task, nx, f, t, c, n, p0, wv, ls, rfl, hd, ko, vals, bo, rz, hv0, hrl, rr, can, kk⟩ := h
    have iz := isK_pos rz
    have v0 : valN nx (posK p0) = some (.int (f p0)) := vals [] True.intro
    refine ⟨_, (pss_cons (ps_if (PW.pt (pw_or (pt_not (pt_val (pe_callB call_isiD (by rfl) T.isinstance (by decide +kernel) (pa_cons (pv 0) (pa_cons (pe_bltn (v := .ty "dict") (by rfl) T.dict (by decide +kernel) rfl) pa_nil))))) (pw_or (pt_cmp (pc_nnotin hr (pv 1) (pv 0))) (pw_or1 (pt_not (pt_val (pe_call G_l_whole (hr.mono (show 1 ≤ 1 by decide)) rfl g_l_whole k_l_whole b_l_whole .nil pass0 (pa_cons (pe_nget hr (pv 0) (pv 1) (fun _ _ => rfl)) pa_nil))))))))
    (pss_one (ps_ret pe_bl))
    pss_nil)
  (pss_cons (ps_par (i := 4) (j := 5) rfl sc_l_bounded.nd rfl rfl (by decide) rfl rfl (pa_cons (pe_nget hr (pv 0) (pv 1) (fun _ _ => rfl)) (pa_cons pe_int pa_nil)) (by rfl))
  (pss_cons (ps_for PassesOwn.never rfl (pi_list (pv 2)) (pg_name (i := 6) sc_l_bounded.nd rfl (Or.inl rfl))
    (pss_cons (ps_set (i := 5) sc_l_bounded.nd rfl (Or.inl rfl) (pe_op op_add (pv 5) (pe_call G_l_counts (hr.mono (show 1 ≤ 1 by decide)) rfl g_l_counts k_l_counts b_l_counts .nil pass0 (pa_cons (pv 6) (pa_cons (pv 3) pa_nil)))))
    (pss_cons (ps_if (PW.pt (pw_or (pt_cmp (pc_nnotin hr (pe_ix ix_tup (pv 6) pe_int (fun _ _ => rfl)) (pv 0))) (pw_or (pt_not (pt_val (pe_call G_l_whole (hr.mono (show 1 ≤ 1 by decide)) rfl g_l_whole k_l_whole b_l_whole .nil pass0 (pa_cons (pe_nget hr (pv 0) (pe_ix ix_tup (pv 6) pe_int (fun _ _ => rfl)) (fun _ _ => rfl)) pa_nil)))) (pw_or1 (pt_cmpR op_lt (pe_nget hr (pv 0) (pe_ix ix_tup (pv 6) pe_int (fun _ _ => rfl)) (fun _ _ => rfl)) pe_int (nomark _))))))
      (pss_one (ps_ret pe_bl))
      pss_nil)
    (pss_cons (ps_if (PW.pt (pw_and (pt_cmpR op_ge (pv 3) pe_int (nomark _)) (pw_and1 (pt_cmpR op_eq (pe_ix ix_tup (pv 6) pe_int (fun _ _ => rfl)) (pv 3) (nomark _)))))
      (pss_one (ps_par (i := 4) (j := 5) rfl sc_l_bounded.nd rfl rfl (by decide) rfl rfl (pa_cons (pe_nget hr (pv 0) (pe_ix ix_tup (pv 6) pe_int (fun _ _ => rfl)) (fun _ _ => rfl)) (pa_cons pe_int pa_nil)) (by rfl)))
      pss_nil)
    (pss_one (ps_if (pt_cmpR op_gt (pe_op op_add (pv 5) (pe_nget hr (pv 0) (pe_ix ix_tup (pv 6) pe_int (fun _ _ => rfl)) (fun _ _ => rfl))) (pv 4) (nomark _))
      (pss_one (ps_ret pe_bl))
      pss_nil))))))
  (pss_one (ps_ret pe_bl))))), ?_⟩
    refine ⟨_, rfl, d, nx, rfl, hd, _, rfl, ?_⟩
    refine iteF ?_
    refine ⟨_, rfl, _, rfl, d, nx, posK p0, rfl, .inl hd, ko, iz, _, rfl, ?_⟩
    rw [v0]
    refine iteF ?_
    refine ⟨_, rfl, _, rfl, d, nx, posK p0, _, rfl, .inl hd, ko, iz, v0, f p0, rfl, _, rfl, ?_⟩
    refine iteF ?_
    refine ⟨_, rfl, _, rfl, d, nx, posK p0, _, rfl, .inl hd, ko, iz, v0, _, _, rfl, ?_⟩
    refine ⟨_, rfl, rl, rfl, ⟨_, SqL.of hrl⟩, ?_⟩
    have hwl : wv.length = ls.length := by rw [rr.length, rowsP_len]
    refine for_list (K := K) (a := rl) (xs := wv) (fun j σ H' => H' = H ∧ ∃ (bound spent : Int) (x6 : Option V), σ = [some (.ref d), some zv, some (.ref rl), some (.int task), some (.int bound), some (.int spent), x6] ∧ spent + f (aftP t p0 (ls.take j)) ≤ bound)
      ⟨rfl, f p0, 0, none, rfl, by show 0 + f p0 ≤ f p0; omega⟩ ?_ ?_ ?_
    · rintro j σ H' _ ⟨rfl, _⟩
      exact SqL.of hrl
    · rintro j x σ H1 hx ⟨rfl, bound, spent, x6, rfl, hle⟩
      have hjl : j < ls.length := by rw [← hwl]; exact (List.getElem?_eq_some_iff.mp hx).1
      obtain ⟨a, ha⟩ : ∃ a, ls[j]? = some a := ⟨_, List.getElem?_eq_getElem hjl⟩
      obtain ⟨cj, ma, etk⟩ := can_at can ha
      have hvj := HV.aft hv0 cj
      obtain ⟨v, hv', rx⟩ := rr.get (rowsP_get t ls p0 j a ha)
      rw [hx] at hv'
      cases hv'
      have cj1 : CanP t p0 (ls.take j ++ [a]) := (CanP_app t _ [a] p0).mpr ⟨cj, ma, True.intro⟩
      have vj := vals _ cj1
      have nj := bo.nn _ cj1
      have stj := bo.st _ a cj ma
      have eaft : aftP t p0 (ls.take j ++ [a]) = (actedP t (aftP t p0 (ls.take j)) a.1 a.2).1 := by rw [aftP_app]; rfl
      rw [eaft] at vj nj
      obtain ⟨pj, hpj⟩ : ∃ pj, pj = aftP t p0 (ls.take j) := ⟨_, rfl⟩
      rw [etk, eaft]
      rw [← hpj] at hle ma hvj rx vj nj stj ⊢
      obtain ⟨b, vs0, rfl, hb, rb⟩ := id rx.tupD
      obtain ⟨v1, r1, rfl, e1, rb⟩ := rb.consD
      obtain ⟨v2, r2, rfl, e2, rb⟩ := rb.consD
      obtain ⟨v3, r3, rfl, e3, rb⟩ := rb.consD
      obtain ⟨v4, r4, rfl, e4, rb⟩ := rb.consD
      obtain ⟨v5, r5, rfl, e5, rb⟩ := rb.consD
      obtain rfl := rb.nilD
      obtain rfl := e4.numD
      have i3 := isK_pos e3
      obtain ⟨nxt, hnxt⟩ : ∃ nxt, nxt = (actedP t pj a.1 a.2).1 := ⟨_, rfl⟩
      obtain ⟨ran, hran⟩ : ∃ ran, ran = (actedP t pj a.1 a.2).2.1 := ⟨_, rfl⟩
      rw [← hnxt] at vj nj stj i3 ⊢
      rw [← hran] at stj hb
      -- spent = spent + counts(row, task)
      refine ⟨_, rfl, _, rfl, _, rfl, .ref b, task, t, c, n, pj, a, rfl, rx, hvj, ma, _, _, rfl, rfl, ?_⟩
      obtain ⟨ct, hct⟩ : ∃ ct, ct = cntP t task pj a := ⟨_, rfl⟩
      rw [← hct] at stj ⊢
      dsimp only [gName]
      refine ⟨_, rfl, b, _, _, _, rfl, rfl, SqT.of hb, at_of (j := 2) rfl rfl, _, rfl, d, nx, posK nxt, rfl, .inl hd, ko, i3, _, rfl, ?_⟩
      rw [vj]
      refine iteF ?_
      refine ⟨_, rfl, _, rfl, b, _, _, _, rfl, rfl, SqT.of hb, at_of (j := 2) rfl rfl, d, nx, posK nxt, _, rfl, .inl hd, ko, i3, vj, f nxt, rfl, _, rfl, ?_⟩
      refine iteF ?_
      refine ⟨_, rfl, _, rfl, b, _, _, _, rfl, rfl, SqT.of hb, at_of (j := 2) rfl rfl, d, nx, posK nxt, _, rfl, .inl hd, ko, i3, vj, _, _, rfl, rfl, _, rfl, ?_⟩
      have d1 : decide (f nxt < 0) = false := decide_eq_false (by omega)
      dsimp only
      rw [d1]
      refine iteF ?_
      -- the bound anew, where the task ran
      dsimp only [tNext]
      refine seq_mid (fun σ' H' => H' = H1 ∧ ∃ (bound' spent' : Int), σ' = [some (.ref d), some zv, some (.ref rl), some (.int task), some (.int bound'), some (.int spent'), some (.ref b)] ∧ spent' + f nxt ≤ bound') (fun N hN => ?_) ?_
      · have plain : (0 ≤ task → ran ≠ task) → N [some (.ref d), some zv, some (.ref rl), some (.int task), some (.int bound), some (.int (spent + ct)), some (.ref b)] H1 := fun h => hN _ _ ⟨rfl, bound, spent + ct, rfl, by have := stj h; omega⟩
        refine ⟨_, rfl, _, _, rfl, rfl, _, rfl, ?_⟩
        refine ite2 (fun h1 => ?_) (fun h1 => iteF (plain fun z => absurd (decide_eq_true z) h1))
        refine ⟨_, rfl, b, _, _, _, rfl, rfl, SqT.of hb, at_of (j := 3) rfl rfl, _, rfl, rfl, _, rfl, ?_⟩
        refine ite2 (fun h2 => ?_) (fun h2 => plain fun _ z => h2 (decide_eq_true (by rw [z])))
        refine ⟨_, rfl, _, rfl, b, _, _, _, rfl, rfl, SqT.of hb, at_of (j := 2) rfl rfl, d, nx, posK nxt, _, rfl, .inl hd, ko, i3, vj, _, _, rfl, ?_⟩
        exact hN _ _ ⟨rfl, f nxt, 0, rfl, by omega⟩
      rintro σ2 H2 ⟨rfl, bound', spent', rfl, hle'⟩
      refine ⟨_, rfl, _, rfl, _, rfl, b, _, _, _, rfl, rfl, SqT.of hb, at_of (j := 2) rfl rfl, d, nx, posK nxt, _, rfl, .inl hd, ko, i3, vj, _, _, rfl, rfl, _, rfl, _, _, rfl, rfl, _, rfl, ?_⟩
      have d2 : decide (bound' < spent' + f nxt) = false := decide_eq_false (by omega)
      dsimp only
      rw [d2]
      refine iteF ?_
      exact ⟨rfl, bound', spent', _, rfl, hle'⟩
    · rintro σ H1 ⟨rfl, _⟩
      exact kk
end
end ND
end
section
set_option Elab.async false
set_option linter.all false
set_option maxRecDepth 100000
set_option maxHeartbeats 4000000
namespace ND
open PySem L2
open PyProof.Rows (envOfC)
open PH
/-! ### the law: stricter -/
abbrev spBoolS (CS : Addr) : Sp := fun vs H Q _ => ∃ a dx x y z, vs = [.ref a] ∧ H a = some (.ins CS dx [(("numbers" : Str), x), (("lead" : Str), y), (("loop" : Str), z)]) ∧ Q (.bl (!decide (x = .non))) H
def spStricter (w : World) (CS : Addr) : Sp := fun vs H Q _ => ∃ (a0 a1 : Addr) (t : Tk) (p0 : HPos), vs = [.ref a0, .ref a1] ∧ SettleOut w CS H a0 (setAny t false) p0 ∧ SettleOut w CS H a1 (setAny t true) p0 ∧ ∀ H', Same H H' → Q (.bl true) H'
section
variable {P : Program} {w : World} {K : PySem.W.Frag} {mg : Str → Option Value} {base : Heap}
theorem ok_stricter {CW CP CS : Addr} (cg : CG K CW CP CS) (T : Blt mg) {sb_f : Addr} {sb_fd : FuncData} (sb_G : FnOk P w K mg base CX0 1 sb_f sb_fd P_Settled_bool (spBoolS CS)) (sb_hs : PySem.W.findIn K (.ref CS) "__bool__" = some (some (.ref sb_f))) (sb_hf : PySem.W.isFn K (.ref sb_f) = true) (sb_b : Binds K sb_fd P_Settled_bool [])
    {f : Addr} {fd : FuncData} (F : Fun K "_law_stricter" "_law_stricter" s_l_stricter f fd) : FnOk P w K mg base CX0 4 f fd P_l_stricter (spStricter w CS) := by
  refine F.ok sc_l_stricter (fun vs H Q E h => ?_) (fun cdv A outer s H vs Q E hr h => ?_)
  · obtain ⟨a0, a1, t, p0, rfl, _⟩ := h
    rfl
  · obtain ⟨a0, a1, t, p0, rfl, h0, h1, kk⟩ := h
    refine ⟨_, (pss_cons (ps_if (pt_not (pt_val (pe_callTy (BB.call_boolOwn (C := CS) sb_hs sb_hf (sb_G.raw sb_b .nil) (hr.mono (show 3 ≤ 3 by decide)) pass0) (by rfl) T.bool (by decide +kernel) (pa_cons (pv 1) pa_nil))))
    (pss_one (ps_ret pe_bl))
    pss_nil)
  (pss_cons (ps_if (PW.pt (pw_or (pt_not (pt_val (pe_callTy (BB.call_boolOwn (C := CS) sb_hs sb_hf (sb_G.raw sb_b .nil) (hr.mono (show 3 ≤ 3 by decide)) pass0) (by rfl) T.bool (by decide +kernel) (pa_cons (pv 0) pa_nil)))) (pw_or1 (pt_cmpR op_eq (pe_callB call_len_n (by rfl) T.len (by decide +kernel) (pa_cons (pe_fld (pv 0) rfl) pa_nil)) pe_int (nomark _)))))
    (pss_one (ps_ret pe_bl))
    pss_nil)
  (pss_cons (ps_for PassesOwn.never rfl (pi_list (pe_callTy (call_list_n rfl) (by rfl) T.list (by decide +kernel) (pa_cons (pe_fld (pv 0) rfl) pa_nil))) (pg_name (i := 2) sc_l_stricter.nd rfl (Or.inl rfl))
    (pss_one (ps_if (PW.pt (pw_or (pt_cmp (pc_nnotin hr (pv 2) (pe_fld (pv 1) rfl))) (pw_or1 (pt_cmpR op_gt (pe_nget hr (pe_fld (pv 0) rfl) (pv 2) (fun _ _ => rfl)) (pe_nget hr (pe_fld (pv 1) rfl) (pv 2) (fun _ _ => rfl)) (nomark _)))))
      (pss_one (ps_ret pe_bl))
      pss_nil)))
  (pss_one (ps_ret pe_bl))))), ?_⟩
    rcases h1 with ⟨kf, ff, A1, mem1, hn1⟩ | ⟨lead, loop, A1, _⟩
    · obtain ⟨dx1, d1, nx1, e1, hd1, ko1, ek1, nd1, vals1⟩ := A1.ex
      refine ⟨_, rfl, a1, dx1, _, rfl, e1, a1, dx1, _, _, _, rfl, e1, _, rfl, _, rfl, ?_⟩
      refine iteF ?_
      rcases h0 with ⟨ks, g, A0, mem0, hn0⟩ | ⟨lead, loop, A0, hg⟩
      · obtain ⟨dx0, d0, nx0, e0, hd0, ko0, ek0, nd0, vals0⟩ := A0.ex
        have hlen := A0.len
        have hx0 : nx0.length = ks.length := by rw [← ek0, List.length_map]
        have les := less_any mem0 hn0 mem1 hn1
        have hst : posK p0 ∈ ks := (mem0 _).mpr (Gr.Rch.refl _ _)
        have hpos : 0 < ks.length := List.length_pos_iff.mpr (List.ne_nil_of_mem hst)
        refine ⟨_, rfl, a0, dx0, _, rfl, e0, a0, dx0, _, _, _, rfl, e0, _, rfl, _, rfl, ?_⟩
        refine iteF ?_
        refine ⟨_, rfl, a0, CS, dx0, _, _, rfl, e0, cg.clS, cg.nSn, lk_1st, d0, nx0, rfl, .inl hd0, ko0, rfl, _, rfl, ?_⟩
        have dl : decide (V.int ((nx0.length : Nat) : Int) = V.int 0) = false := decide_eq_false fun z => by injection z with z; omega
        dsimp only
        rw [dl]
        refine iteF ?_
        -- for position in list(told.numbers)
        refine ⟨_, rfl, a0, CS, dx0, _, _, rfl, e0, cg.clS, cg.nSn, lk_1st, d0, nx0, rfl, .inl hd0, fun l hl => ?_⟩
        have s1 : Same H (upd H l (.lst (nx0.map fun x => V.ref x.2.1))) := fun b u e => by rw [upd_ne (ne_of_none e hl)]; exact e
        have hl' : upd H l (.lst (nx0.map fun x => V.ref x.2.1)) l = some (.lst (nx0.map fun x => V.ref x.2.1)) := upd_same
        generalize upd H l (.lst (nx0.map fun x => V.ref x.2.1)) = H1 at *
        refine ⟨l, rfl, ⟨_, SqL.of hl'⟩, ?_⟩
        refine for_list (K := K) (a := l) (xs := nx0.map fun x => V.ref x.2.1) (fun j σ H' => H' = H1 ∧ ∃ x2 : Option V, σ = [some (.ref a0), some (.ref a1), x2]) ⟨rfl, none, rfl⟩ ?_ ?_ ?_
        · rintro j σ H' _ ⟨rfl, _⟩
          exact SqL.of hl'
        · rintro j x σ H' hx ⟨rfl, x2, rfl⟩
          rw [List.getElem?_map] at hx
          cases hq : nx0[j]? with
          | none => rw [hq] at hx; cases hx
          | some q =>
            obtain ⟨key, ka, kv⟩ := q
            rw [hq] at hx
            cases hx
            have hmem : key ∈ ks := by rw [← ek0]; exact List.mem_map.mpr ⟨_, List.mem_of_getElem? hq, rfl⟩
            obtain ⟨hkf, hle⟩ := les key hmem
            have hkr := ko0 _ (List.mem_of_getElem? hq)
            have ik : IsK H' key (.ref ka) := ⟨hkr.1.keep (Same.tups s1), hkr.2, ka, rfl⟩
            refine ⟨_, rfl, _, rfl, a1, CS, dx1, _, _, rfl, s1 _ _ e1, cg.clS, cg.nSn, lk_1st, d1, nx1, key, rfl, .inl (s1 _ _ hd1), ko1.same s1, ik, _, rfl, ?_⟩
            rw [vals1 key hkf]
            refine iteF ?_
            refine ⟨_, rfl, a0, CS, dx0, _, _, rfl, s1 _ _ e0, cg.clS, cg.nSn, lk_1st, _, rfl, d0, nx0, key, _, rfl, .inl (s1 _ _ hd0), ko0.same s1, ik, vals0 key hmem, _, rfl, a1, CS, dx1, _, _, rfl, s1 _ _ e1, cg.clS, cg.nSn, lk_1st, _, rfl, d1, nx1, key, _, rfl, .inl (s1 _ _ hd1), ko1.same s1, ik, vals1 key hkf, _, _, rfl, rfl, _, rfl, ?_⟩
            have d3 : decide (ff key < g key) = false := decide_eq_false (by omega)
            dsimp only
            rw [d3]
            refine iteF ?_
            exact ⟨rfl, _, rfl⟩
        · rintro σ H' ⟨rfl, _⟩
          exact kk _ s1
      · exact absurd hg (fun z => no_ring mem1 hn1 z)
    · obtain ⟨dx1, l1, l2, v1, v2, e1, _⟩ := A1.ex
      refine ⟨_, rfl, a1, dx1, _, rfl, e1, a1, dx1, _, _, _, rfl, e1, _, rfl, _, rfl, ?_⟩
      refine iteT ?_
      exact kk _ (Same.refl _)
end
end ND
end
section
set_option Elab.async false
set_option linter.all false
set_option maxRecDepth 100000
set_option maxHeartbeats 4000000
namespace ND
open PySem L2
open PyProof.Rows (envOfC)
open PH
/-! ### the law: round -/
def repL {α : Type} (m : Nat) (l : List α) : List α := (List.replicate m l).flatten
theorem repL_succ {α : Type} (m : Nat) (l : List α) : repL (m + 1) l = l ++ repL m l := by
  unfold repL; rw [List.replicate_succ, List.flatten_cons]
theorem repL_map {α β : Type} (f : α → β) (m : Nat) (l : List α) : (repL m l).map f = repL m (l.map f) := by
  unfold repL; rw [List.map_flatten, List.map_replicate]
theorem repL_len {α : Type} (m : Nat) (l : List α) : (repL m l).length = m * l.length := by unfold repL; simp
theorem aft_rep {t : Tk} {u : HPos} {l : List (Nat × Int)} (h : aftP t u l = u) : ∀ m, aftP t u (repL m l) = u
  | 0 => rfl
  | m + 1 => by rw [repL_succ, aftP_app, h]; exact aft_rep h m
theorem can_rep {t : Tk} {u : HPos} {l : List (Nat × Int)} (h : aftP t u l = u) (c : CanP t u l) : ∀ m, CanP t u (repL m l)
  | 0 => True.intro
  | m + 1 => by rw [repL_succ, CanP_app, h]; exact ⟨c, can_rep h c m⟩
theorem rows_rep {t : Tk} {u : HPos} {l : List (Nat × Int)} (h : aftP t u l = u) : ∀ m, rowsP t u (repL m l) = repL m (rowsP t u l)
  | 0 => rfl
  | m + 1 => by rw [repL_succ, repL_succ, rowsP_app, h, rows_rep h m]
def cntsL (t : Tk) (task : Int) (p : HPos) : List (Nat × Int) → List Int
  | [] => []
  | a :: r => cntP t task p a :: cntsL t task (actedP t p a.1 a.2).1 r
theorem cntsL_app (t : Tk) (task : Int) : ∀ (l m : List (Nat × Int)) (p : HPos), cntsL t task p (l ++ m) = cntsL t task p l ++ cntsL t task (aftP t p l) m
  | [], _, _ => rfl
  | a :: r, m, p => by
    show cntP t task p a :: cntsL t task _ (r ++ m) = cntP t task p a :: (cntsL t task _ r ++ _)
    rw [cntsL_app t task r m]; rfl
theorem cntsL_sum (t : Tk) (task : Int) : ∀ (l : List (Nat × Int)) (p : HPos), (cntsL t task p l).sum = sumP t task p l
  | [], _ => rfl
  | a :: r, p => by
    show (cntP t task p a :: cntsL t task _ r).sum = cntP t task p a + sumP t task _ r
    rw [List.sum_cons, cntsL_sum t task r]
theorem cntsL_len (t : Tk) (task : Int) : ∀ (l : List (Nat × Int)) (p : HPos), (cntsL t task p l).length = l.length
  | [], _ => rfl
  | a :: r, p => by
    show (cntsL t task _ r).length + 1 = r.length + 1
    rw [cntsL_len t task r]
theorem noRun_at {t : Tk} {task : Int} {p : HPos} {ls : List (Nat × Int)} (h : NoRun t task p ls) {j : Nat} {a : Nat × Int} (hj : ls[j]? = some a) : 0 ≤ task → (actedP t (aftP t p (ls.take j)) a.1 a.2).2.1 ≠ task := by
  have hjl := (List.getElem?_eq_some_iff.mp hj).1
  have hc := (NoRun_app t task (ls.take j) (ls.drop j) p).mp (by rw [List.take_append_drop]; exact h)
  have edr : ls.drop j = a :: ls.drop (j + 1) := by
    rw [List.drop_eq_getElem_cons hjl]
    have := List.getElem?_eq_getElem hjl
    rw [hj] at this
    injection this with this
    rw [this]
  rw [edr] at hc
  exact hc.2.1
def thirdK (k : NestedKey) : NestedKey := (listOf k).getD 2 .none
theorem third_act (t : Tk) (p : HPos) (a : Nat × Int) : thirdK (actK t p a) = posK (actedP t p a.1 a.2).1 := rfl
/-- the places along the acts -/
theorem place_at {t : Tk} {p : HPos} {ls : List (Nat × Int)} {j : Nat} (hj : j ≤ ls.length) : (posK p :: (rowsP t p ls).map thirdK)[j]? = some (posK (aftP t p (ls.take j))) := by
  cases j with
  | zero => rfl
  | succ i =>
    obtain ⟨a, ha⟩ : ∃ a, ls[i]? = some a := ⟨_, List.getElem?_eq_getElem (by omega)⟩
    rw [List.getElem?_cons_succ, List.getElem?_map, rowsP_get t ls p i a ha, take_succ_of ha, aftP_app]
    rfl
def spRound (CT CH CS : Addr) : Sp := fun vs H Q _ => ∃ (h lv rv a : Addr) (zv : V) (task : Int) (m : Nat) (least : List Int) (rules : List Str) (q0 : List (List Int)) (c n : Nat) (l1 l2 : List (Nat × Int)), vs = [.ref h, .ref lv, .ref rv, zv, .ref a, .int task, .int ((m : Nat) : Int)] ∧
  HallAt CT CH H h (tkOf least rules) q0 c n ∧ H lv = some (.lst (least.map V.int)) ∧ H rv = some (.lst (rules.map V.str)) ∧ Rp H (posK (q0, List.replicate c (-1))) zv ∧ AnsRing CS H a (l1.map labK) (l2.map labK) ∧
  RingOk (tkOf least rules) (q0, List.replicate c (-1)) task l1 l2 ∧ m ≤ 4 ∧ ∀ H', Same H H' → Q (.bl true) H'
section
variable {P : Program} {w : World} {K : PySem.W.Frag} {mg : Str → Option Value} {base : Heap}
theorem ok_round {CT CH CW CP CS : Addr} (cf : CF K CT CH) (cg : CG K CW CP CS) (T : Blt mg)
    {f_l_went : Addr} {fd_l_went : FuncData} (G_l_went : FnOk P w K mg base CX0 3 f_l_went fd_l_went P_l_went spWent) (g_l_went : mg "_law_went" = some (.ref f_l_went)) (k_l_went : PySem.W.keepIn K (.ref f_l_went) = true) (b_l_went : Binds K fd_l_went P_l_went [])
    {f_l_row_told : Addr} {fd_l_row_told : FuncData} (G_l_row_told : FnOk P w K mg base CX0 3 f_l_row_told fd_l_row_told P_l_row_told spRowTold) (g_l_row_told : mg "_law_row_told" = some (.ref f_l_row_told)) (k_l_row_told : PySem.W.keepIn K (.ref f_l_row_told) = true) (b_l_row_told : Binds K fd_l_row_told P_l_row_told [])
    {f_l_counts : Addr} {fd_l_counts : FuncData} (G_l_counts : FnOk P w K mg base CX0 1 f_l_counts fd_l_counts P_l_counts spCounts) (g_l_counts : mg "_law_counts" = some (.ref f_l_counts)) (k_l_counts : PySem.W.keepIn K (.ref f_l_counts) = true) (b_l_counts : Binds K fd_l_counts P_l_counts [])
    {f_Hall_play : Addr} {fd_Hall_play : FuncData} (G_Hall_play : FnOk P w K mg base CX0 4 f_Hall_play fd_Hall_play P_Hall_play (spPlay CT CH)) (m_Hall_play : Meth K CH "play" f_Hall_play) (b_Hall_play : Binds K fd_Hall_play P_Hall_play [])
    {f : Addr} {fd : FuncData} (F : Fun K "_law_round" "_law_round" s_l_round f fd) : FnOk P w K mg base CX0 5 f fd P_l_round (spRound CT CH CS) := by
  have c_Hall_play := cf.clH
  refine F.ok sc_l_round (fun vs H Q E h => ?_) (fun cdv A outer s H vs Q E hr h => ?_)
  · obtain ⟨h, lv, rv, a, zv, task, m, least, rules, q0, c, n, l1, l2, rfl, _⟩ := h
    rfl
  · obtain ⟨hh, lv, rv, a, zv, task, m, least, rules, q0, c, n, l1, l2, rfl, hH, hlv, hrv, rz, AR, ring, hm4, kk⟩ := h
    have sz : sizeLine = 16777216 := sizeLine_eq
    obtain ⟨dx, a1, a2, v1, v2, ha, h1, r1, h2, r2⟩ := AR.ex
    have ln1 := AR.len1
    have ln2 := AR.len2
    rw [List.length_map] at ln1 ln2
    have hv1 : v1.length = l1.length := by rw [r1.length, List.length_map]
    have hv2 : v2.length = l2.length := by rw [r2.length, List.length_map]
    have nll : ¬ (("lead" : Str) = "numbers") := by decide +kernel
    have nol : ¬ (("loop" : Str) = "lead") := by decide +kernel
    have non : ¬ (("loop" : Str) = "numbers") := by decide +kernel
    have lkL : ([(("numbers" : Str), V.non), (("lead" : Str), .ref a1), (("loop" : Str), .ref a2)] : List (Str × V)).lookup ("lead" : Str) = some (V.ref a1) := by
      have e1 : (("lead" : Str) == "numbers") = false := by simpa using nll
      simp [List.lookup, e1]
    have lkO : ([(("numbers" : Str), V.non), (("lead" : Str), .ref a1), (("loop" : Str), .ref a2)] : List (Str × V)).lookup ("loop" : Str) = some (V.ref a2) := by
      have e1 : (("loop" : Str) == "numbers") = false := by simpa using non
      have e2 : (("loop" : Str) == "lead") = false := by simpa using nol
      simp [List.lookup, e1, e2]
    refine ⟨_, (pss_cons (ps_if (PW.pt (pw_or (pt_not (pt_val (pe_callB call_isi (by rfl) T.isinstance (by decide +kernel) (pa_cons (pe_fld (pv 4) rfl) (pa_cons (pe_bltn (v := .ty "list") (by rfl) T.list (by decide +kernel) rfl) pa_nil))))) (pw_or1 (pt_not (pt_val (pe_callB call_isi (by rfl) T.isinstance (by decide +kernel) (pa_cons (pe_fld (pv 4) rfl) (pa_cons (pe_bltn (v := .ty "list") (by rfl) T.list (by decide +kernel) rfl) pa_nil))))))))
    (pss_one (ps_ret pe_bl))
    pss_nil)
  (pss_cons (ps_par (i := 7) (j := 8) rfl sc_l_round.nd rfl rfl (by decide) rfl rfl (pa_cons (pe_callB call_len_seq (by rfl) T.len (by decide +kernel) (pa_cons (pe_fld (pv 4) rfl) pa_nil)) (pa_cons (pe_callB call_len_seq (by rfl) T.len (by decide +kernel) (pa_cons (pe_fld (pv 4) rfl) pa_nil)) pa_nil)) (by rfl))
  (pss_cons (ps_set (i := 9) sc_l_round.nd rfl (Or.inl rfl) (pe_op op_cat (pe_fld (pv 4) rfl) (pe_op op_rep (pe_fld (pv 4) rfl) (pv 6))))
  (pss_cons (ps_set (i := 10) sc_l_round.nd rfl (Or.inl rfl) (pe_call G_l_went (hr.mono (show 3 ≤ 4 by decide)) rfl g_l_went k_l_went b_l_went .nil pass0 (pa_cons (pv 1) (pa_cons (pv 2) (pa_cons (pv 3) (pa_cons (pv 9) pa_nil))))))
  (pss_cons (ps_if (PW.pt (pw_or (pt_cmp (pc_isN (pv 10))) (pw_or1 (pt_not (pt_val (pe_call G_l_row_told (hr.mono (show 3 ≤ 4 by decide)) rfl g_l_row_told k_l_row_told b_l_row_told .nil pass0 (pa_cons (pe_meth (pv 0) c_Hall_play m_Hall_play G_Hall_play (hr.mono (show 4 ≤ 4 by decide)) b_Hall_play .nil pass0 (pa_cons (pe_callTy call_list_of (by rfl) T.list (by decide +kernel) (pa_cons (pv 9) pa_nil)) pa_nil)) (pa_cons (pv 10) pa_nil))))))))
    (pss_one (ps_ret pe_bl))
    pss_nil)
  (pss_cons (ps_set (i := 11) sc_l_round.nd rfl (Or.inl rfl) (pe_op op_cat (pe_lst (pa_cons (pv 3) pa_nil)) (pe_lc (own := [("_law_act", 14)]) (g := gName 14) rfl sc_l_round.nd (pi_list (pv 10)) (blkOk_by (own := [("_law_act", 14)]) (N := N_l_round) (sc := defScope s_l_round) (by decide +kernel)) (fun _ _ _ _ _ => (pg_name (i := 14) sc_l_round.nd rfl (Or.inl rfl))) (fun _ _ _ _ _ => pts_nil) (fun _ _ _ _ _ => (pe_ix (ix_tupB (K := K)) (pv 14) pe_int (fun _ _ => rfl))))))
  (pss_cons (ps_for PassesOwn.never rfl (pi_range1 rfl T.range (pa_cons (pv 6) pa_nil)) (pg_name (i := 12) sc_l_round.nd rfl (Or.inl rfl))
    (pss_cons (ps_set (i := 13) sc_l_round.nd rfl (Or.inl rfl) (pe_slice sl_list (pv 10) (po_some (pe_op op_add (pv 7) (pe_op op_mul (pv 12) (pv 8)))) (po_some (pe_op op_add (pe_op op_add (pv 7) (pe_op op_mul (pv 12) (pv 8))) (pv 8)))))
    (pss_cons (ps_if (PW.pt (pw_or (pt_cmpR op_lt (pe_callB (cr_sum rfl) (by rfl) T.sum (by decide +kernel) (pa_cons (pe_lc (own := [("_law_act", 14)]) (g := gName 14) rfl sc_l_round.nd (pi_list (pv 13)) (blkOk_by (own := [("_law_act", 14)]) (N := N_l_round) (sc := defScope s_l_round) (by decide +kernel)) (fun _ _ _ _ _ => (pg_name (i := 14) sc_l_round.nd rfl (Or.inl rfl))) (fun _ _ _ _ _ => pts_nil) (fun _ _ _ _ _ => (pe_call G_l_counts (hr.mono (show 1 ≤ 4 by decide)) rfl g_l_counts k_l_counts b_l_counts .nil pass0 (pa_cons (pv 14) (pa_cons (pv 5) pa_nil))))) pa_nil)) pe_int (nomark _)) (pw_or1 (pt_cmpR (op_neD hr.units) (pe_ix ix_list (pv 11) (pe_op op_add (pe_op op_add (pv 7) (pe_op op_mul (pv 12) (pv 8))) (pv 8)) (fun _ _ => rfl)) (pe_ix ix_list (pv 11) (pv 7) (fun _ _ => rfl)) (nomark _)))))
      (pss_one (ps_ret pe_bl))
      pss_nil)
    (pss_one (ps_if (PW.pt (pw_and (pt_cmpR op_ge (pv 5) pe_int (nomark _)) (pw_and1 (pt_cmpR op_gt (pe_callB call_len_seq (by rfl) T.len (by decide +kernel) (pa_cons (pe_lc (own := [("_law_act", 14)]) (g := gName 14) rfl sc_l_round.nd (pi_list (pv 13)) (blkOk_by (own := [("_law_act", 14)]) (N := N_l_round) (sc := defScope s_l_round) (by decide +kernel)) (fun _ _ _ _ _ => (pg_name (i := 14) sc_l_round.nd rfl (Or.inl rfl))) (fun _ _ _ _ _ => (pts_one (pt_cmpR op_eq (pe_ix (ix_tupB (K := K)) (pv 14) pe_int (fun _ _ => rfl)) (pv 5) (nomark _)))) (fun _ _ _ _ _ => (pv 14))) pa_nil)) pe_int (nomark _)))))
      (pss_one (ps_ret pe_bl))
      pss_nil)))))
  (pss_one (ps_ret pe_bl))))))))), ?_⟩
    refine ⟨_, rfl, a, CS, dx, _, _, rfl, ha, cg.clS, cg.nSl, lkL, .ref a1, .ty "list", .type "list", .type "list", true, rfl, .ty _, .base (.lst h1), kit_ty kLL, _, rfl, ?_⟩
    refine iteF ?_
    refine ⟨_, rfl, a, CS, dx, _, _, rfl, ha, cg.clS, cg.nSo, lkO, .ref a2, .ty "list", .type "list", .type "list", true, rfl, .ty _, .base (.lst h2), kit_ty kLL, _, rfl, ?_⟩
    refine iteF ?_
    refine ⟨_, rfl, a, CS, dx, _, _, rfl, ha, cg.clS, cg.nSl, lkL, a1, _, rfl, .inl (SqL.of h1), _, rfl, a, CS, dx, _, _, rfl, ha, cg.clS, cg.nSo, lkO, a2, _, rfl, .inl (SqL.of h2), _, _, rfl, ?_⟩
    rw [hv1, hv2]
    -- pairs
    refine ⟨_, rfl, a, CS, dx, _, _, rfl, ha, cg.clS, cg.nSl, lkL, _, rfl, a, CS, dx, _, _, rfl, ha, cg.clS, cg.nSo, lkO, _, rfl, a2, _, v2, rfl, rfl, h2, by omega, by omega, by rw [sz, hv2, Int.toNat_natCast]; exact Nat.le_trans (Nat.mul_le_mul_left _ hm4) (by omega), fun p1 hp1 => ?_⟩
    rw [Int.toNat_natCast]
    obtain ⟨t, ht⟩ : ∃ t, t = tkOf least rules := ⟨_, rfl⟩
    obtain ⟨p0, hp0⟩ : ∃ p0, p0 = ((q0, List.replicate c (-1)) : HPos) := ⟨_, rfl⟩
    rw [← ht, ← hp0] at ring
    rw [← hp0] at rz
    have hv0 : HV c n p0 := by rw [hp0]; exact hH.hv
    obtain ⟨u, hu⟩ : ∃ u, u = aftP t p0 l1 := ⟨_, rfl⟩
    obtain ⟨c1, c2⟩ := (CanP_app t l1 l2 p0).mp ring.can
    have hback := ring.back
    have hcnt := ring.cnt
    have hno := ring.no
    rw [← hu] at c2 hback hcnt hno
    have hvu : HV c n u := by rw [hu]; exact HV.aft hv0 c1
    obtain ⟨ls, hls⟩ : ∃ ls, ls = l1 ++ repL m l2 := ⟨_, rfl⟩
    have canls : CanP t p0 ls := by rw [hls, CanP_app, ← hu]; exact ⟨c1, can_rep hback c2 m⟩
    have hmul : m * l2.length ≤ 4000004 := Nat.le_trans (Nat.mul_le_mul hm4 ln2) (by decide)
    have lsl : ls.length = l1.length + m * l2.length := by rw [hls, List.length_append, repL_len]
    have rows : rowsP t p0 ls = rowsP t p0 l1 ++ repL m (rowsP t u l2) := by rw [hls, rowsP_app, ← hu, rows_rep hback]
    have s1 : Same H (upd H p1 (.lst (List.replicate m v2).flatten)) := fun b u e => by rw [upd_ne (ne_of_none e hp1)]; exact e
    have hp1' : upd H p1 (.lst (List.replicate m v2).flatten) p1 = some (.lst (repL m v2)) := upd_same
    generalize upd H p1 (.lst (List.replicate m v2).flatten) = H1 at *
    have rrep : ∀ k, Rps H1 (repL k (l2.map labK)) (repL k v2) := fun k => by
      induction k with
      | zero => exact .nil
      | succ k ih => rw [repL_succ, repL_succ]; exact (r2.keep (Same.tups s1)).app ih
    have hpl : (repL m v2).length = m * l2.length := by rw [repL_len, hv2]
    refine ⟨a1, p1, _, _, rfl, rfl, s1 _ _ h1, hp1', by rw [sz, hv1, hpl]; omega, fun p2 hp2 => ?_⟩
    have s2 : Same H1 (upd H1 p2 (.lst (v1 ++ repL m v2))) := fun b u e => by rw [upd_ne (ne_of_none e hp2)]; exact e
    have hp2' : upd H1 p2 (.lst (v1 ++ repL m v2)) p2 = some (.lst (v1 ++ repL m v2)) := upd_same
    generalize upd H1 p2 (.lst (v1 ++ repL m v2)) = H2 at *
    have s12 := s1.trans s2
    have rls : Rps H2 (ls.map labK) (v1 ++ repL m v2) := by
      rw [hls, List.map_append, repL_map]
      exact (r1.keep (Same.tups s12)).app ((rrep m).keep (Same.tups s2))
    -- due
    refine ⟨_, rfl, _, rfl, _, rfl, _, rfl, lv, rv, p2, zv, least, rules, c, n, p0, ls, _, rfl, s12 _ _ hlv, s12 _ _ hrv, rz.keep (Same.tups s12), hv0, hH.c3, hH.n5, hp2', rls, by rw [← ht]; exact canls, by omega, fun H3 dl dv s3 hdn hdl rd => ?_⟩
    rw [← ht] at rd
    have s13 := s12.trans s3
    have hdv : dv.length = ls.length := by rw [rd.length, rowsP_len]
    dsimp only [gName]
    refine ⟨_, rfl, _, rfl, ?_⟩
    refine iteF ?_
    have hH3 := hH.same s13
    obtain ⟨dxh, qv0, tv, e1h, _, _⟩ := hH3.ex
    have npl : ¬ (("play" : Str) = "queues") := by decide +kernel
    have npl' : ¬ (("play" : Str) = "taking") := by decide +kernel
    refine ⟨_, rfl, hh, dxh, _, rfl, e1h, lk_n npl npl', _, rfl, p2, _, rfl, .inl (SqL.of (s3 _ _ hp2')), fun p3 hp3 => ?_⟩
    have s4 : Same H3 (upd H3 p3 (.lst (v1 ++ repL m v2))) := fun b u e => by rw [upd_ne (ne_of_none e hp3)]; exact e
    have hp3' : upd H3 p3 (.lst (v1 ++ repL m v2)) p3 = some (.lst (v1 ++ repL m v2)) := upd_same
    generalize upd H3 p3 (.lst (v1 ++ repL m v2)) = H4 at *
    have s34 := s3.trans s4
    refine ⟨hh, p3, _, tkOf least rules, q0, c, n, ls, rfl, hH3.same s4, hp3', rls.keep (Same.tups s34), by rw [← ht, ← hp0]; exact canls, by omega, fun H5 pl pv s5 _ hpl' rp => ?_⟩
    rw [← ht, ← hp0] at rp
    have s45 := s4.trans s5
    refine ⟨_, rfl, pl, dl, pv, dv, t, p0, ls, c, n, rfl, hpl', s45 _ _ hdl, rp, rd.keep (Same.tups s45), hv0, hH.c3, hH.n5, canls, by omega, fun H6 s6 => ?_⟩
    refine ⟨_, rfl, ?_⟩
    refine iteF ?_
    have s36 := s45.trans s6
    have hdl6 := s36 _ _ hdl
    have rd6 := rd.keep (Same.tups s36)
    have s06 := s13.trans s36
    -- places
    obtain ⟨ks, hks⟩ : ∃ ks, ks = rowsP t p0 ls := ⟨_, rfl⟩
    have ksl : ks.length = ls.length := by rw [hks, rowsP_len]
    rw [← hks] at rd6
    have row_at : ∀ (j : Nat) x, dv[j]? = some x → ∃ a, ls[j]? = some a ∧ a ∈ actsOf t (aftP t p0 (ls.take j)) ∧ CanP t p0 (ls.take j) ∧ Rp H6 (actK t (aftP t p0 (ls.take j)) a) x := fun j x hx => by
      have hjl : j < ls.length := by rw [← hdv]; exact (List.getElem?_eq_some_iff.mp hx).1
      obtain ⟨a, ha⟩ : ∃ a, ls[j]? = some a := ⟨_, List.getElem?_eq_getElem hjl⟩
      obtain ⟨cj, ma, _⟩ := can_at canls ha
      obtain ⟨v, hv', rx⟩ := rd6.get (by rw [hks]; exact rowsP_get t ls p0 j a ha)
      rw [hx] at hv'
      cases hv'
      exact ⟨a, ha, ma, cj, rx⟩
    refine ⟨_, rfl, by rw [sz]; show 1 ≤ 16777216; decide, fun p4 hp4 => ?_⟩
    have s7 : Same H6 (upd H6 p4 (.lst [zv])) := fun b u e => by rw [upd_ne (ne_of_none e hp4)]; exact e
    have hp4' : upd H6 p4 (.lst [zv]) p4 = some (.lst [zv]) := upd_same
    generalize upd H6 p4 (.lst [zv]) = H7 at *
    have hdl7 := s7 _ _ hdl6
    refine ⟨_, rfl, dl, rfl, ⟨_, SqL.of hdl7⟩, fun D hD => ?_⟩
    refine it_list (K := K) (a := dl) (xs := dv) (fun j H' => ∃ tv, Own H7 H' [(D, .lst tv)] ∧ Rps H7 ((ks.take j).map thirdK) tv)
      ⟨[], (Own.start H7).new (o := .lst []) hD rfl, by rw [List.take_zero]; exact .nil⟩ ?_ ?_ ?_
    · rintro j H' _ ⟨tv, O, _⟩
      exact SqL.of (O.sub _ _ hdl7)
    · rintro j x H8 hx ⟨tv, O, R⟩
      obtain ⟨a', ha', ma', cj', rx⟩ := row_at j x hx
      have rx7 := rx.keep (Same.tups s7)
      obtain ⟨b, vs0, rfl, hb, rb⟩ := rx7.tupD
      obtain ⟨w1, r1', rfl, e1', rb⟩ := rb.consD
      obtain ⟨w2, r2', rfl, e2', rb⟩ := rb.consD
      obtain ⟨w3, r3', rfl, e3', rb⟩ := rb.consD
      have hjl := (List.getElem?_eq_some_iff.mp ha').1
      have htl : tv.length ≤ j := by rw [R.length, List.length_map, List.length_take]; omega
      refine ⟨rfl, ?_⟩
      refine yes_t ?_
      refine ⟨_, rfl, b, _, _, _, rfl, rfl, SqT.of (O.sub _ _ hb), at_of (j := 2) rfl rfl, tv, O.get 0 rfl, by rw [sz]; omega, tv ++ [w3], O.put 0 rfl rfl, ?_⟩
      have hkj : ks[j]? = some (actK t (aftP t p0 (ls.take j)) a') := by rw [hks]; exact rowsP_get t ls p0 j a' ha'
      rw [take_succ_of hkj, List.map_append]
      exact R.snoc e3'
    rintro H8 ⟨tv, O8, R8⟩
    rw [hdv, ← ksl, List.take_length] at R8
    have htv : tv.length = ls.length := by rw [R8.length, List.length_map, ksl]
    refine ⟨p4, D, _, tv, rfl, rfl, O8.sub _ _ hp4', O8.get 0 rfl, by rw [sz, htv]; show 1 + _ ≤ 16777216; omega, fun pp hpp => ?_⟩
    have s9 : Same H8 (upd H8 pp (.lst ([zv] ++ tv))) := fun b u e => by rw [upd_ne (ne_of_none e hpp)]; exact e
    have hpp' : upd H8 pp (.lst ([zv] ++ tv)) pp = some (.lst (zv :: tv)) := upd_same
    generalize upd H8 pp (.lst ([zv] ++ tv)) = H9 at *
    have s69 := s7.trans (Same.trans O8.sub s9)
    have hdl9 := s69 _ _ hdl6
    have rpl : Rps H9 (posK p0 :: ks.map thirdK) (zv :: tv) := .cons (rz.keep (Same.tups (s06.trans s69))) (R8.keep (O8.tups.trans (Same.tups s9)))
    have s09 := s06.trans s69
    -- the turns
    refine ⟨_, rfl, _, rfl, by omega, by omega, ?_⟩
    rw [Int.toNat_natCast]
    refine for_range (lo := 0) (n := m) (fun j σ H' => Same H9 H' ∧ ∃ (x12 x13 : Option V), σ = [some (.ref hh), some (.ref lv), some (.ref rv), some zv, some (.ref a), some (.int task), some (.int ((m : Nat) : Int)), some (.int ((l1.length : Nat) : Int)), some (.int ((l2.length : Nat) : Int)), some (.ref p2), some (.ref dl), some (.ref pp), x12, x13, none])
      ⟨Same.refl _, none, none, rfl⟩ ?_ ?_
    · rintro j σ H10 hj ⟨s10, x12, x13, rfl⟩
      dsimp only [gName]
      obtain ⟨la, hla⟩ : ∃ la, la = l1.length := ⟨_, rfl⟩
      obtain ⟨lb, hlb⟩ : ∃ lb, lb = l2.length := ⟨_, rfl⟩
      rw [← hla, ← hlb]
      rw [← hlb] at hmul lsl ln2
      rw [← hla] at lsl ln1
      have elo : ((la : Nat) : Int) + (0 + ((j : Nat) : Int)) * ((lb : Nat) : Int) = ((la + j * lb : Nat) : Int) := by rw [Int.zero_add, Int.natCast_add, Int.natCast_mul]
      have ehi : ((la : Nat) : Int) + (0 + ((j : Nat) : Int)) * ((lb : Nat) : Int) + ((lb : Nat) : Int) = ((la + (j + 1) * lb : Nat) : Int) := by rw [elo, ← Int.natCast_add, Nat.succ_mul, Nat.add_assoc]
      have hjm : (j + 1) * lb ≤ m * lb := Nat.mul_le_mul_right _ hj
      have hsj : (j + 1) * lb = j * lb + lb := Nat.succ_mul j lb
      have cm : CMul (0 + ((j : Nat) : Int)) ((lb : Nat) : Int) := .inl ⟨by omega, by omega⟩
      have hdl10 := s10 _ _ hdl9
      have hpp10 := s10 _ _ hpp'
      -- part
      refine ⟨_, rfl, _, rfl, _, rfl, _, rfl, _, _, rfl, rfl, cm, _, _, rfl, rfl, _, rfl, _, rfl, _, rfl, _, rfl, _, _, rfl, rfl, cm, _, _, rfl, rfl, _, rfl, _, _, rfl, rfl, _, rfl, ?_⟩
      rw [ehi, elo]
      refine ⟨dl, _, rfl, SqL.of hdl10, fun pt hpt => ?_⟩
      have ecut : cutV dv (some ((la + j * lb : Nat) : Int)) (some ((la + (j + 1) * lb : Nat) : Int)) = (dv.drop (la + j * lb)).take lb := by
        unfold cutV
        rw [HT.sIx_nat, HT.sIx_nat, Nat.min_eq_left (by omega), Nat.min_eq_left (by omega)]
        congr 1
        omega
      rw [ecut]
      have s11 : Same H10 (upd H10 pt (.lst ((dv.drop (la + j * lb)).take lb))) := fun b u e => by rw [upd_ne (ne_of_none e hpt)]; exact e
      have hpt' : upd H10 pt (.lst ((dv.drop (la + j * lb)).take lb)) pt = some (.lst ((dv.drop (la + j * lb)).take lb)) := upd_same
      generalize upd H10 pt (.lst ((dv.drop (la + j * lb)).take lb)) = H11 at *
      obtain ⟨part, hpart⟩ : ∃ part, part = (dv.drop (la + j * lb)).take lb := ⟨_, rfl⟩
      rw [← hpart] at hpt'
      have s6b := s69.trans (s10.trans s11)
      have rpart : Rps H11 (rowsP t u l2) part := by
        have h1 := Rps.take lb (Rps.drop (la + j * lb) (rd6.keep (Same.tups s6b)))
        rw [← hpart, hks, rows] at h1
        have h2 := rep_part (R1 := rowsP t p0 l1) (R := rowsP t u l2) hj
        rw [rowsP_len, rowsP_len, ← hla, ← hlb] at h2
        unfold repL at h1
        rw [h2] at h1
        exact h1
      have hpl2 : part.length = lb := by rw [rpart.length, rowsP_len, hlb]
      have prow : ∀ (i : Nat) x, part[i]? = some x → ∃ a, l2[i]? = some a ∧ a ∈ actsOf t (aftP t u (l2.take i)) ∧ CanP t u (l2.take i) ∧ Rp H11 (actK t (aftP t u (l2.take i)) a) x := fun i x hx => by
        have hil : i < l2.length := by rw [← hlb, ← hpl2]; exact (List.getElem?_eq_some_iff.mp hx).1
        obtain ⟨a, ha⟩ : ∃ a, l2[i]? = some a := ⟨_, List.getElem?_eq_getElem hil⟩
        obtain ⟨ci, ma, _⟩ := can_at c2 ha
        obtain ⟨v, hv', rx⟩ := rpart.get (rowsP_get t l2 u i a ha)
        rw [hx] at hv'
        cases hv'
        exact ⟨a, ha, ma, ci, rx⟩
      -- the counts
      dsimp only [gName]
      refine ⟨_, rfl, pt, rfl, ⟨_, SqL.of hpt'⟩, fun D2 hD2 => ?_⟩
      refine it_list (K := K) (a := pt) (xs := part) (fun i H' => Own H11 H' [(D2, .lst ((cntsL t task u (l2.take i)).map V.int))])
        (by rw [List.take_zero]; exact (Own.start H11).new (o := .lst []) hD2 rfl) ?_ ?_ ?_
      · rintro i H' _ O
        exact SqL.of (O.sub _ _ hpt')
      · rintro i x H12 hx O
        obtain ⟨a', ha', ma', ci', rx⟩ := prow i x hx
        have hil := (List.getElem?_eq_some_iff.mp ha').1
        refine ⟨rfl, ?_⟩
        refine yes_t ?_
        refine ⟨_, rfl, _, rfl, x, task, t, c, n, aftP t u (l2.take i), a', rfl, rx.keep O.tups, HV.aft hvu ci', ma', _, O.get 0 rfl, by rw [sz, List.length_map, cntsL_len, List.length_take]; omega, ?_⟩
        rw [take_succ_of ha', cntsL_app, List.map_append]
        exact O.put 0 rfl rfl
      intro H12 O12
      rw [hpl2, hlb, List.take_length] at O12
      refine ⟨D2, _, rfl, SqL.of (O12.get 0 rfl), _, _, rfl, rfl, _, rfl, ?_⟩
      rw [cntsL_sum]
      have dc : decide (sumP t task u l2 < 1) = false := decide_eq_false (by omega)
      dsimp only
      rw [dc]
      refine iteF ?_
      -- the places
      have s12b := s11.trans O12.sub
      have hpp12 := s12b _ _ hpp10
      have rp12 := rpl.keep (Same.tups (s10.trans s12b))
      have pa1 : (ls.take (la + (j + 1) * lb)) = l1 ++ repL (j + 1) l2 := by
        rw [hls, hla, hlb]
        exact rep_take (R1 := l1) (R := l2) hj
      have pa0 : (ls.take la) = l1 := by rw [hls, hla, List.take_left]
      have pl1 := place_at (t := t) (p := p0) (ls := ls) (j := la + (j + 1) * lb) (by omega)
      have pl0 := place_at (t := t) (p := p0) (ls := ls) (j := la) (by omega)
      rw [pa1, aftP_app, ← hu, aft_rep hback, ← hks] at pl1
      rw [pa0, ← hu, ← hks] at pl0
      obtain ⟨x1, hx1, rx1⟩ := rp12.get pl1
      obtain ⟨x0, hx0, rx0⟩ := rp12.get pl0
      refine ⟨_, rfl, _, rfl, _, rfl, _, rfl, _, _, rfl, rfl, cm, _, _, rfl, rfl, _, rfl, _, _, rfl, rfl, pp, _, _, x1, rfl, rfl, SqL.of hpp12, at_of ehi hx1, _, rfl, _, rfl, pp, _, _, x0, rfl, rfl, SqL.of hpp12, at_of rfl hx0, ?_⟩
      refine neD_of rx1 rx0 (noTxt_posK u) (Nat.le_trans (depth_posK u) (by decide)) ⟨_, rfl, ?_⟩
      refine iteF ?_
      -- no act runs the task
      refine ⟨_, rfl, _, _, rfl, rfl, _, rfl, ?_⟩
      have fin : ∀ H', Same H12 H' → Same H9 H' := fun H' s' => s10.trans (s12b.trans s')
      refine ite2 (fun h0 => ?_) (fun h0 => iteF ⟨fin _ (Same.refl _), _, _, rfl⟩)
      have h0 := of_decide_eq_true h0
      have hpt12 := O12.sub _ _ hpt'
      refine ⟨_, rfl, pt, rfl, ⟨_, SqL.of hpt12⟩, fun D3 hD3 => ?_⟩
      refine it_list (K := K) (a := pt) (xs := part) (fun i H' => Own H12 H' [(D3, .lst [])])
        ((Own.start H12).new (o := .lst []) hD3 rfl) ?_ ?_ ?_
      · rintro i H' _ O
        exact SqL.of (O.sub _ _ hpt12)
      · rintro i x H13 hx O
        obtain ⟨a', ha', ma', ci', rx⟩ := prow i x hx
        have nr := noRun_at hno ha' h0
        have rx13 := rx.keep (O12.tups.trans O.tups)
        obtain ⟨b, vs0, rfl, hb, rb⟩ := rx13.tupD
        obtain ⟨w1, r1', rfl, e1', rb⟩ := rb.consD
        obtain ⟨w2, r2', rfl, e2', rb⟩ := rb.consD
        obtain ⟨w3, r3', rfl, e3', rb⟩ := rb.consD
        obtain ⟨w4, r4', rfl, e4', rb⟩ := rb.consD
        obtain rfl := e4'.numD
        refine ⟨rfl, ?_⟩
        refine ⟨_, rfl, b, _, _, _, rfl, rfl, SqT.of hb, at_of (j := 3) rfl rfl, _, rfl, rfl, _, rfl, ?_⟩
        have dr : decide (V.int (actedP t (aftP t u (l2.take i)) a'.1 a'.2).2.1 = V.int task) = false := decide_eq_false fun z => nr (by injection z)
        rw [dr]
        refine iteF ?_
        exact O
      intro H13 O13
      refine ⟨D3, _, rfl, .inl (SqL.of (O13.get 0 rfl)), _, _, rfl, rfl, _, rfl, ?_⟩
      refine iteF ?_
      exact ⟨fin _ O13.sub, _, _, rfl⟩
    · rintro σ H10 ⟨s10, x12, x13, rfl⟩
      exact kk _ (s09.trans s10)
end
end ND
end
section
set_option Elab.async false
set_option linter.all false
set_option maxRecDepth 100000
set_option maxHeartbeats 4000000
namespace ND
open PySem L2
open PyProof.Rows (envOfC)
open PH
/-! ### what the law keeps -/
def isLst : HO → Bool
  | .lst _ => true
  | _ => false
theorem isl1 {a : Addr} {xs : List V} : ∀ p ∈ [(a, HO.lst xs)], isLst p.2 = true := fun p hp => by
  rcases List.mem_cons.mp hp with q | q
  · subst q; rfl
  · cases q
theorem isl2 {a b : Addr} {xs ys : List V} : ∀ p ∈ [(a, HO.lst xs), (b, HO.lst ys)], isLst p.2 = true := fun p hp => by
  rcases List.mem_cons.mp hp with q | q
  · subst q; rfl
  · exact isl1 p q
theorem Own.callL {B H H' : Hp} {l : List (Addr × HO)} (O : Own B H l) (hl : ∀ p ∈ l, isLst p.2 = true) (s : Same H H') :
    ∃ B', Same B B' ∧ Own B' H' l ∧ ∀ b u, H' b = some u → (H b = none ∨ isLst u = false) → B' b = some u := by
  have nin : ∀ b u, H' b = some u → (H b = none ∨ isLst u = false) → b ∉ l.map (·.1) := fun b u e h q => by
    obtain ⟨x, hx, z⟩ := List.mem_map.mp q
    subst z
    have h1 := (O.at_ x hx).2
    rcases h with h | h
    · rw [h1] at h; cases h
    · have := s _ _ h1
      rw [e] at this
      injection this with this
      rw [this, hl x hx] at h
      cases h
  refine ⟨fun b => if b ∈ l.map (·.1) then none else H' b, fun b u e => ?_, ⟨fun b u e => ?_, fun b xs e => ?_, fun x hx => ?_, O.nd⟩, fun b u e h => ?_⟩
  · have : b ∉ l.map (·.1) := fun q => by
      obtain ⟨x, hx, z⟩ := List.mem_map.mp q
      subst z
      rw [(O.at_ x hx).1] at e; cases e
    show (if b ∈ l.map (·.1) then none else H' b) = some u
    rw [if_neg this]; exact s b u (O.sub b u e)
  · by_cases q : b ∈ l.map (·.1)
    · have e : (if b ∈ l.map (·.1) then none else H' b) = some u := e
      rw [if_pos q] at e; cases e
    · have e : (if b ∈ l.map (·.1) then none else H' b) = some u := e
      rw [if_neg q] at e; exact e
  · show (if b ∈ l.map (·.1) then none else H' b) = some (.tup xs)
    rw [if_neg (nin b _ e (.inr rfl))]; exact e
  · have : x.1 ∈ l.map (·.1) := List.mem_map_of_mem hx
    exact ⟨by show (if x.1 ∈ l.map (·.1) then none else H' x.1) = none; rw [if_pos this], s _ _ (O.at_ x hx).2⟩
  · show (if b ∈ l.map (·.1) then none else H' b) = some u
    rw [if_neg (nin b u e h)]; exact e
section
variable {w : World} {CT CH CS : Addr} {H0 H B H' : Hp} {a : Addr} {t : Tk} {p0 : HPos} {task : Int}
theorem TakingAt.own (f : ∀ b u, H b = some u → isLst u = false → B b = some u) (h : TakingAt CT H a t) : TakingAt CT B a t :=
  ⟨let ⟨dx, lp, rp, rules, h1, h2, h3, r⟩ := h.ex; ⟨dx, lp, rp, rules, f _ _ h1 rfl, f _ _ h2 rfl, f _ _ h3 rfl, r⟩, h.ok⟩
theorem HallAt.own {q0 : List (List Int)} {c n : Nat} (f : ∀ b u, H b = some u → isLst u = false → B b = some u) (h : HallAt CT CH H a t q0 c n) : HallAt CT CH B a t q0 c n :=
  ⟨let ⟨dx, qv, tv, h1, h2, h3⟩ := h.ex; ⟨dx, qv, tv, f _ _ h1 rfl, h2.keep (fun b xs e => f _ _ e rfl), h3.own f⟩, h.hv, h.c1, h.c3, h.n5⟩
theorem AnsNums.own {ks : List K1} {g : K1 → Int} (f : ∀ b u, H b = some u → isLst u = false → B b = some u) (h : AnsNums w CS H a ks g) : AnsNums w CS B a ks g :=
  ⟨let ⟨dx, d, nx, h1, h2, h3, r⟩ := h.ex; ⟨dx, d, nx, f _ _ h1 rfl, f _ _ h2 rfl, h3.keep (fun b xs e => f _ _ e rfl), r⟩, h.len⟩
theorem AnsRing.own {lead loop : List K1} (f : ∀ b u, H b = some u → (H0 b = none ∨ isLst u = false) → B b = some u) (fr : FreshAns CS H0 H a) (h : AnsRing CS H a lead loop) : AnsRing CS B a lead loop := by
  obtain ⟨dx, l1, l2, v1, v2, h1, h2, h3, h4, h5⟩ := h.ex
  obtain ⟨n1, n2⟩ := fr _ _ _ _ h1
  have ft : Tups H B := fun b xs e => f _ _ e (.inr rfl)
  exact ⟨⟨dx, l1, l2, v1, v2, f _ _ h1 (.inr rfl), f _ _ h2 (.inl n1), h3.keep ft, f _ _ h4 (.inl n2), h5.keep ft⟩, h.len1, h.len2⟩
theorem SettleOut.own (f : ∀ b u, H b = some u → (H0 b = none ∨ isLst u = false) → B b = some u) (fr : FreshAns CS H0 H a) (h : SettleOut w CS H a t p0) : SettleOut w CS B a t p0 := by
  rcases h with ⟨ks, g, A, r⟩ | ⟨lead, loop, A, r⟩
  · exact .inl ⟨ks, g, A.own (fun b u e h => f b u e (.inr h)), r⟩
  · exact .inr ⟨lead, loop, A.own f fr, r⟩
theorem ServeOut.own (f : ∀ b u, H b = some u → (H0 b = none ∨ isLst u = false) → B b = some u) (fr : FreshAns CS H0 H a) (h : ServeOut w CS H a t task p0) : ServeOut w CS B a t task p0 := by
  rcases h with ⟨ks, g, nodes, num, A, r⟩ | ⟨lead, loop, A, r⟩
  · exact .inl ⟨ks, g, nodes, num, A.own (fun b u e h => f b u e (.inr h)), r⟩
  · exact .inr ⟨lead, loop, A.own f fr, r⟩
theorem SettleOut.same (s : Same H H') (h : SettleOut w CS H a t p0) : SettleOut w CS H' a t p0 := by
  rcases h with ⟨ks, g, A, r⟩ | ⟨lead, loop, A, r⟩
  · exact .inl ⟨ks, g, A.same s, r⟩
  · exact .inr ⟨lead, loop, A.same s, r⟩
theorem ServeOut.same (s : Same H H') (h : ServeOut w CS H a t task p0) : ServeOut w CS H' a t task p0 := by
  rcases h with ⟨ks, g, nodes, num, A, r⟩ | ⟨lead, loop, A, r⟩
  · exact .inl ⟨ks, g, nodes, num, A.same s, r⟩
  · exact .inr ⟨lead, loop, A.same s, r⟩
end
theorem hasR_mem (s : Str) (l : List Str) : hasR s l = decide (s ∈ l) := inV_strs s l
theorem tk_strict (least : List Int) (rules : List Str) : tkOf least (rules.filter fun r : Str => decide (r ≠ "any")) = setAny (tkOf least rules) false := by
  have h : ∀ s : Str, s ≠ "any" → hasR s (rules.filter fun r : Str => decide (r ≠ "any")) = hasR s rules := fun s hs => by
    rw [hasR_mem, hasR_mem]
    refine decide_eq_decide.mpr ⟨fun q => (List.mem_filter.mp q).1, fun q => List.mem_filter.mpr ⟨q, decide_eq_true hs⟩⟩
  have h0 : hasR "any" (rules.filter fun r : Str => decide (r ≠ "any")) = false := by
    rw [hasR_mem]
    exact decide_eq_false fun q => of_decide_eq_true (List.mem_filter.mp q).2 rfl
  unfold tkOf setAny
  rw [h "again" (by decide +kernel), h "half" (by decide +kernel), h0]
theorem tk_any (least : List Int) (rules : List Str) : tkOf least ((rules.filter fun r : Str => decide (r ≠ "any")) ++ [("any" : Str)]) = setAny (tkOf least rules) true := by
  have h : ∀ s : Str, s ≠ "any" → hasR s ((rules.filter fun r : Str => decide (r ≠ "any")) ++ [("any" : Str)]) = hasR s rules := fun s hs => by
    rw [hasR_mem, hasR_mem]
    refine decide_eq_decide.mpr ⟨fun q => ?_, fun q => List.mem_append_left _ (List.mem_filter.mpr ⟨q, decide_eq_true hs⟩)⟩
    rcases List.mem_append.mp q with q | q
    · exact (List.mem_filter.mp q).1
    · exact absurd (by simpa using q) hs
  have h0 : hasR "any" ((rules.filter fun r : Str => decide (r ≠ "any")) ++ [("any" : Str)]) = true := by
    rw [hasR_mem]
    exact decide_eq_true (List.mem_append_right _ (by simp))
  unfold tkOf setAny
  rw [h "again" (by decide +kernel), h "half" (by decide +kernel), h0]
theorem cut_behind {xs : List Int} {k : Nat} : cutV (xs.map V.int) (some ((k : Nat) : Int)) none = (xs.drop k).map V.int := by
  unfold cutV
  rw [HT.sIx_none, HT.sIx_nat, List.length_map, List.take_of_length_le (by rw [List.length_drop, List.length_map]; exact Nat.le_refl _), ← List.map_drop]
  by_cases h : k ≤ xs.length
  · rw [Nat.min_eq_left h]
  · rw [Nat.min_eq_right (by omega), List.drop_eq_nil_of_le (Nat.le_refl _), List.drop_eq_nil_of_le (by omega)]
/-- the number of tasks -/
theorem sum_lens {c n : Nat} {p : HPos} (h : HV c n p) : (p.1.map fun q => ((q.length : Nat) : Int)).sum = ((n : Nat) : Int) := by
  have e : ∀ l : List (List Int), (l.map fun q => ((q.length : Nat) : Int)).sum = ((l.flatten.length : Nat) : Int) := fun l => by
    induction l with
    | nil => rfl
    | cons x r ih => rw [List.map_cons, List.sum_cons, ih, List.flatten_cons, List.length_append, Int.natCast_add]
  rw [e, h.pm.length_eq, List.length_map, List.length_range]
/-- a pair of an answer and its task -/
def AskOk (w : World) (CS : Addr) (B : Hp) (t : Tk) (p0 : HPos) (v : V) : Prop := ∃ b an task, v = .ref b ∧ B b = some (.tup [.ref an, .int task]) ∧ ((task = -1 ∧ SettleOut w CS B an t p0) ∨ (0 ≤ task ∧ ServeOut w CS B an t task p0))
theorem AskOk.same {w : World} {CS : Addr} {B B' : Hp} {t : Tk} {p0 : HPos} {v : V} (s : Same B B') (h : AskOk w CS B t p0 v) : AskOk w CS B' t p0 v := by
  obtain ⟨b, an, task, e, hb, h⟩ := h
  refine ⟨b, an, task, e, s _ _ hb, ?_⟩
  rcases h with ⟨h1, h2⟩ | ⟨h1, h2⟩
  · exact .inl ⟨h1, h2.same s⟩
  · exact .inr ⟨h1, h2.same s⟩
theorem ask_cases {w : World} {CS : Addr} {H : Hp} {t : Tk} {p0 : HPos} {an : Addr} {task : Int} {c n : Nat} (hv : HV c n p0) (h : (task = -1 ∧ SettleOut w CS H an t p0) ∨ (0 ≤ task ∧ ServeOut w CS H an t task p0)) :
    (∃ dx d nx g, H an = some (.ins CS dx [(("numbers" : Str), .ref d), (("lead" : Str), .non), (("loop" : Str), .non)]) ∧ H d = some (dN w d nx) ∧ KeysOk H nx ∧ (∀ as, CanP t p0 as → valN nx (posK (aftP t p0 as)) = some (.int (g (aftP t p0 as)))) ∧ BndOk t p0 task g) ∨
    (∃ l1 l2, AnsRing CS H an (l1.map labK) (l2.map labK) ∧ RingOk t p0 task l1 l2) := by
  rcases h with ⟨rfl, h⟩ | ⟨ht, h⟩
  · rcases h with ⟨ks, f, A, mem, hn⟩ | ⟨lead, loop, A, hg⟩
    · obtain ⟨dx, d, nx, e, hd, ko, ek, nd, vals⟩ := A.ex
      exact .inl ⟨dx, d, nx, fun p => f (posK p), e, hd, ko, fun as ha => vals _ ((mem _).mpr (way_of ha)), bndW mem hn⟩
    · obtain ⟨l1, l2, rfl, rfl, ring⟩ := ringW hv hg
      exact .inr ⟨l1, l2, A, ring⟩
  · rcases h with ⟨ks, f, nodes, num, A, mem, hn, hp⟩ | ⟨lead, loop, A, hg⟩
    · obtain ⟨dx, d, nx, e, hd, ko, ek, nd, vals⟩ := A.ex
      refine .inl ⟨dx, d, nx, fun p => num (nodeP p 1), e, hd, ko, fun as ha => ?_, bndP ht mem hn⟩
      obtain ⟨h1, h2⟩ := hp _ ((mem _).mpr (way_ofP1 ha))
      rw [vals _ h1, h2]
    · obtain ⟨l1, l2, e1, rfl, ring⟩ := ringP ht hv hg
      rw [e1] at A
      exact .inr ⟨l1, l2, A, ring⟩
end ND
end
section
set_option Elab.async false
set_option linter.all false
set_option maxRecDepth 100000
set_option maxHeartbeats 4000000
namespace ND
open PySem L2
open PyProof.Rows (envOfC)
open PH
/-! ### the law -/
def lawCompSc : Scope := { kind := ScopeKind.function, names := [((".0" : Str), NameKind.local), (("_law_names" : Str), NameKind.local), (("Hall" : Str), NameKind.globalImplicit), (("_law_taking" : Str), NameKind.globalImplicit), (("_law_least" : Str), NameKind.cell), (("_law_queues" : Str), NameKind.cell)], isGenerator := false, isCoroutine := false }
theorem Rows.snoc {B B' : Hp} {qvs : List V} {qs : List (List Int)} {q : List Int} {l : Addr} (R : Rows B qvs qs) (s : Same B B') (hl : B' l = some (.lst (q.map V.int))) : Rows B' (qvs ++ [.ref l]) (qs ++ [q]) := by
  refine ⟨by rw [List.length_append, List.length_append, R.len]; rfl, fun m hm => ?_⟩
  rw [List.length_append] at hm
  by_cases c : m < qs.length
  · obtain ⟨am, h1, h2⟩ := R.row m c
    refine ⟨am, by rw [List.getElem?_append_left (by rw [R.len]; exact c)]; exact h1, ?_⟩
    rw [List.getD_eq_getElem?_getD, List.getElem?_append_left c, ← List.getD_eq_getElem?_getD]
    exact s _ _ h2
  · have e : m = qs.length := by
      have : ([q] : List (List Int)).length = 1 := rfl
      omega
    subst e
    refine ⟨l, by rw [List.getElem?_append_right (by rw [R.len]; exact Nat.le_refl _), R.len, Nat.sub_self]; rfl, ?_⟩
    rw [List.getD_eq_getElem?_getD, List.getElem?_append_right (Nat.le_refl _), Nat.sub_self]
    exact hl
def spLaw (K : PySem.W.Frag) : Sp := fun vs H Q _ => ∃ (sa : Addr) (ns : List Int), vs = [.ref sa] ∧ SqL K H sa (ns.map V.int) ∧ ns.length ≤ 63 ∧ ∀ H', Q (.bl true) H'
section
variable {P : Program} {w : World} {K : PySem.W.Frag} {mg : Str → Option Value} {base : Heap}
theorem ok_law {CT CH CW CP CS : Addr} (cf : CF K CT CH) (cg : CG K CW CP CS) (T : Blt mg)
    {f_l_hall : Addr} {fd_l_hall : FuncData} (G_l_hall : FnOk P w K mg base CX0 3 f_l_hall fd_l_hall P_l_hall (spHall K)) (g_l_hall : mg "_law_hall" = some (.ref f_l_hall)) (k_l_hall : PySem.W.keepIn K (.ref f_l_hall) = true) (b_l_hall : Binds K fd_l_hall P_l_hall [])
    {f_l_draws : Addr} {fd_l_draws : FuncData} (G_l_draws : FnOk P w K mg base CX0 2 f_l_draws fd_l_draws P_l_draws (spDraws K)) (g_l_draws : mg "_law_draws" = some (.ref f_l_draws)) (k_l_draws : PySem.W.keepIn K (.ref f_l_draws) = true) (b_l_draws : Binds K fd_l_draws P_l_draws [])
    {f_Hall : Addr} {fd_Hall : FuncData} (G_Hall : FnOk P w K mg base CX0 1 f_Hall fd_Hall P_Hall_init (spIniH CT CH)) (Mk_Hall : Mk K CH f_Hall) (g_Hall : mg "Hall" = some (.ref CH)) (b_Hall : Binds K fd_Hall P_Hall_init [])
    {f_l_taking : Addr} {fd_l_taking : FuncData} (G_l_taking : FnOk P w K mg base CX0 3 f_l_taking fd_l_taking P_l_taking (spTaking CT)) (g_l_taking : mg "_law_taking" = some (.ref f_l_taking)) (k_l_taking : PySem.W.keepIn K (.ref f_l_taking) = true) (b_l_taking : Binds K fd_l_taking P_l_taking [])
    {f_settle : Addr} {fd_settle : FuncData} (G_settle : FnOk P w K mg base CX0 8 f_settle fd_settle P_settle (spSettle w CT CH CS)) (g_settle : mg "settle" = some (.ref f_settle)) (k_settle : PySem.W.keepIn K (.ref f_settle) = true) (b_settle : Binds K fd_settle P_settle [])
    {f_l_stricter : Addr} {fd_l_stricter : FuncData} (G_l_stricter : FnOk P w K mg base CX0 4 f_l_stricter fd_l_stricter P_l_stricter (spStricter w CS)) (g_l_stricter : mg "_law_stricter" = some (.ref f_l_stricter)) (k_l_stricter : PySem.W.keepIn K (.ref f_l_stricter) = true) (b_l_stricter : Binds K fd_l_stricter P_l_stricter [])
    {f_l_drawn : Addr} {fd_l_drawn : FuncData} (G_l_drawn : FnOk P w K mg base CX0 4 f_l_drawn fd_l_drawn P_l_drawn spDrawn) (g_l_drawn : mg "_law_drawn" = some (.ref f_l_drawn)) (k_l_drawn : PySem.W.keepIn K (.ref f_l_drawn) = true) (b_l_drawn : Binds K fd_l_drawn P_l_drawn [])
    {f_l_row_told : Addr} {fd_l_row_told : FuncData} (G_l_row_told : FnOk P w K mg base CX0 3 f_l_row_told fd_l_row_told P_l_row_told spRowTold) (g_l_row_told : mg "_law_row_told" = some (.ref f_l_row_told)) (k_l_row_told : PySem.W.keepIn K (.ref f_l_row_told) = true) (b_l_row_told : Binds K fd_l_row_told P_l_row_told [])
    {f_Hall_play : Addr} {fd_Hall_play : FuncData} (G_Hall_play : FnOk P w K mg base CX0 4 f_Hall_play fd_Hall_play P_Hall_play (spPlay CT CH)) (m_Hall_play : Meth K CH "play" f_Hall_play) (b_Hall_play : Binds K fd_Hall_play P_Hall_play [])
    {f_serve : Addr} {fd_serve : FuncData} (G_serve : FnOk P w K mg base CX0 8 f_serve fd_serve P_serve (spServe w CT CH CS)) (g_serve : mg "serve" = some (.ref f_serve)) (k_serve : PySem.W.keepIn K (.ref f_serve) = true) (b_serve : Binds K fd_serve P_serve [])
    {sb_f : Addr} {sb_fd : FuncData} (sb_G : FnOk P w K mg base CX0 1 sb_f sb_fd P_Settled_bool (spBoolS CS)) (sb_hs : PySem.W.findIn K (.ref CS) "__bool__" = some (some (.ref sb_f))) (sb_hf : PySem.W.isFn K (.ref sb_f) = true) (sb_b : Binds K sb_fd P_Settled_bool [])
    {f_l_bounded : Addr} {fd_l_bounded : FuncData} (G_l_bounded : FnOk P w K mg base CX0 2 f_l_bounded fd_l_bounded P_l_bounded (spBounded w)) (g_l_bounded : mg "_law_bounded" = some (.ref f_l_bounded)) (k_l_bounded : PySem.W.keepIn K (.ref f_l_bounded) = true) (b_l_bounded : Binds K fd_l_bounded P_l_bounded [])
    {f_l_round : Addr} {fd_l_round : FuncData} (G_l_round : FnOk P w K mg base CX0 5 f_l_round fd_l_round P_l_round (spRound CT CH CS)) (g_l_round : mg "_law_round" = some (.ref f_l_round)) (k_l_round : PySem.W.keepIn K (.ref f_l_round) = true) (b_l_round : Binds K fd_l_round P_l_round [])
    {f : Addr} {fd : FuncData} (F : Fun K "law" "law" s_law f fd) : FnOk P w K mg base CX0 9 f fd P_law (spLaw K) := by
  have c_Hall_play := cf.clH
  refine F.ok sc_law (fun vs H Q E h => ?_) (fun cdv A outer s H vs Q E hr h => ?_)
  · obtain ⟨sa, ns, rfl, _⟩ := h
    rfl
  · obtain ⟨sa, ns, rfl, hs, hns, kk⟩ := h
    have sz : sizeLine = 16777216 := sizeLine_eq
    refine ⟨_, (pss_cons (ps_asg (pe_call G_l_hall (hr.mono (show 3 ≤ 8 by decide)) rfl g_l_hall k_l_hall b_l_hall .nil pass0 (pa_cons (pv 0) pa_nil)) (pg_tup rfl (pgs_cons (pg_name (i := 1) sc_law.nd rfl (Or.inr rfl)) (pgs_cons (pg_name (i := 2) sc_law.nd rfl (Or.inr rfl)) (pgs_cons (pg_name (i := 3) sc_law.nd rfl (Or.inl rfl)) pgs_nil)))))
  (pss_cons (ps_set (i := 4) sc_law.nd rfl (Or.inl rfl) (pe_call G_l_draws (hr.mono (show 2 ≤ 8 by decide)) rfl g_l_draws k_l_draws b_l_draws .nil pass0 (pa_cons (pv 0) (pa_cons pe_int (pa_cons pe_int pa_nil)))))
  (pss_cons (ps_set (i := 5) sc_law.nd rfl (Or.inl rfl) (pe_tup (pa_cons (pv 1) (pa_cons (pe_callTy call_tuple_of (by rfl) T.tuple (by decide +kernel) (pa_cons (pe_lc (own := [("_law_queue", 15)]) (g := gName 15) rfl sc_law.nd (pi_tup (pv 1)) (blkOk_by (own := [("_law_queue", 15)]) (N := N_law) (sc := defScope s_law) (by decide +kernel)) (fun _ _ _ _ _ => (pg_name (i := 15) sc_law.nd rfl (Or.inl rfl))) (fun _ _ _ _ _ => pts_nil) (fun _ _ _ _ _ => (pe_un un_neg pe_int))) pa_nil)) pa_nil))))
  (pss_cons (ps_setLc (i := 6) (own := [("_law_rule", 16)]) (g := gName 16) rfl sc_law.nd rfl rfl (sw_true rfl rfl rfl (by decide +kernel)) (pi_list (pv 3)) (blkOk_by (own := [("_law_rule", 16)]) (N := N_law) (sc := defScope s_law) (by decide +kernel)) (fun _ _ _ _ _ => (pg_name (i := 16) sc_law.nd rfl (Or.inl rfl))) (fun _ _ _ _ _ => (pts_one (pt_cmpR op_ne (pv 16) pe_str (nomark _)))) (fun _ _ _ _ _ => (pv 16)))
  (pss_cons (ps_setLc (i := 7) (own := [("_law_names", 17)]) (g := gName 17) rfl sc_law.nd rfl rfl (sw_true rfl rfl rfl (by decide +kernel)) (pi_list (pe_lst (pa_cons (pv 6) (pa_cons (pe_op op_cat (pv 6) (pe_lst (pa_cons pe_str pa_nil))) pa_nil)))) (blkOk_by (own := [("_law_names", 17)]) (N := N_law) (sc := defScope s_law) (by decide +kernel)) (fun _ _ _ _ _ => (pg_name (i := 17) sc_law.nd rfl (Or.inl rfl))) (fun _ _ _ _ _ => pts_nil) (fun _ _ _ _ _ => (pe_make Mk_Hall G_Hall (hr.mono (by decide)) rfl g_Hall b_Hall .nil pass0 (pa_cons (pe_lc (own := [("_law_queue", 15)]) (g := gName 15) rfl sc_law.nd (pi_tupB (K := K) (pv 1)) (blkOk_by (own := [("_law_queue", 15)]) (N := N_law) (sc := lawCompSc) (by decide +kernel)) (fun _ _ _ _ _ => (pg_name (i := 15) sc_law.nd rfl (Or.inl rfl))) (fun _ _ _ _ _ => pts_nil) (fun _ _ _ _ _ => (pe_callTy (call_listB (K := K)) (by rfl) T.list (by decide +kernel) (pa_cons (pv 15) pa_nil)))) (pa_cons (pe_call G_l_taking (hr.mono (show 3 ≤ 8 by decide)) rfl g_l_taking k_l_taking b_l_taking .nil pass0 (pa_cons (pv 2) (pa_cons (pv 17) pa_nil))) pa_nil)))))
  (pss_cons (ps_setLc (i := 8) (own := [("_law_hall_here", 18)]) (g := gName 18) rfl sc_law.nd rfl rfl (sw_true rfl rfl rfl (by decide +kernel)) (pi_list (pv 7)) (blkOk_by (own := [("_law_hall_here", 18)]) (N := N_law) (sc := defScope s_law) (by decide +kernel)) (fun _ _ _ _ _ => (pg_name (i := 18) sc_law.nd rfl (Or.inl rfl))) (fun _ _ _ _ _ => pts_nil) (fun _ _ _ _ _ => (pe_call G_settle (hr.mono (show 8 ≤ 8 by decide)) rfl g_settle k_settle b_settle .nil pass0 (pa_cons (pv 18) pa_nil))))
  (pss_cons (ps_if (pt_not (pt_val (pe_call G_l_stricter (hr.mono (show 4 ≤ 8 by decide)) rfl g_l_stricter k_l_stricter b_l_stricter .nil pass0 (pa_cons (pe_ix ix_list (pv 8) pe_int (fun _ _ => rfl)) (pa_cons (pe_ix ix_list (pv 8) pe_int (fun _ _ => rfl)) pa_nil)))))
    (pss_one (ps_ret pe_bl))
    pss_nil)
  (pss_cons (ps_set (i := 9) sc_law.nd rfl (Or.inl rfl) (pe_callTy call_int1 (by rfl) T.int (by decide +kernel) (pa_cons (pe_cmpR op_in_seq pe_str (pv 3) (by rfl)) pa_nil)))
  (pss_cons (ps_set (i := 10) sc_law.nd rfl (Or.inl rfl) (pe_call G_l_drawn (hr.mono (show 4 ≤ 8 by decide)) rfl g_l_drawn k_l_drawn b_l_drawn .nil pass0 (pa_cons (pv 2) (pa_cons (pv 3) (pa_cons (pv 5) (pa_cons (pe_op op_cat (pe_call G_l_draws (hr.mono (show 2 ≤ 8 by decide)) rfl g_l_draws k_l_draws b_l_draws .nil pass0 (pa_cons (pv 0) (pa_cons pe_int (pa_cons pe_int pa_nil)))) (pe_slice sl_list (pv 0) (po_some pe_int) po_none)) (pa_cons (pe_cmpR op_eq (pe_op op_modN (pe_callTy call_int1 (by rfl) T.int (by decide +kernel) (pa_cons (pe_ix ix_list (pv 4) pe_int (fun _ _ => rfl)) pa_nil)) pe_int) pe_int (nomark _)) pa_nil)))))))
  (pss_cons (ps_if (pt_not (pt_val (pe_call G_l_row_told (hr.mono (show 3 ≤ 8 by decide)) rfl g_l_row_told k_l_row_told b_l_row_told .nil pass0 (pa_cons (pe_meth (pe_ix ix_list (pv 7) (pv 9) (fun _ _ => rfl)) c_Hall_play m_Hall_play G_Hall_play (hr.mono (show 4 ≤ 8 by decide)) b_Hall_play .nil pass0 (pa_cons (pe_lc (own := [("_law_row", 19)]) (g := gName 19) rfl sc_law.nd (pi_list (pv 10)) (blkOk_by (own := [("_law_row", 19)]) (N := N_law) (sc := defScope s_law) (by decide +kernel)) (fun _ _ _ _ _ => (pg_name (i := 19) sc_law.nd rfl (Or.inl rfl))) (fun _ _ _ _ _ => pts_nil) (fun _ _ _ _ _ => (pe_tup (pa_cons (pe_ix (ix_tupB (K := K)) (pv 19) pe_int (fun _ _ => rfl)) (pa_cons (pe_ix (ix_tupB (K := K)) (pv 19) pe_int (fun _ _ => rfl)) pa_nil))))) pa_nil)) (pa_cons (pv 10) pa_nil)))))
    (pss_one (ps_ret pe_bl))
    pss_nil)
  (pss_cons (ps_set (i := 11) sc_law.nd rfl (Or.inl rfl) (pe_lst (pa_cons (pe_tup (pa_cons (pe_ix ix_list (pv 8) (pv 9) (fun _ _ => rfl)) (pa_cons (pe_un un_neg pe_int) pa_nil))) pa_nil)))
  (pss_cons (ps_set (i := 12) sc_law.nd rfl (Or.inl rfl) (pe_callB (cr_sum rfl) (by rfl) T.sum (by decide +kernel) (pa_cons (pe_lc (own := [("_law_queue", 15)]) (g := gName 15) rfl sc_law.nd (pi_tup (pv 1)) (blkOk_by (own := [("_law_queue", 15)]) (N := N_law) (sc := defScope s_law) (by decide +kernel)) (fun _ _ _ _ _ => (pg_name (i := 15) sc_law.nd rfl (Or.inl rfl))) (fun _ _ _ _ _ => pts_nil) (fun _ _ _ _ _ => (pe_callB (call_lenB (K := K)) (by rfl) T.len (by decide +kernel) (pa_cons (pv 15) pa_nil)))) pa_nil)))
  (pss_cons (ps_if (pt_cmpR op_gt (pv 12) pe_int (nomark _))
    (pss_one (ps_expr (pe_bm PySem.F.plainAttrs_list PySem.F.slot_list_append PySem.F.type_list_append mt_append (pv 11) (pa_cons (pe_tup (pa_cons (pe_call G_serve (hr.mono (show 8 ≤ 8 by decide)) rfl g_serve k_serve b_serve .nil pass0 (pa_cons (pe_ix ix_list (pv 7) (pv 9) (fun _ _ => rfl)) (pa_cons (pe_op op_modN (pe_callTy call_int1 (by rfl) T.int (by decide +kernel) (pa_cons (pe_ix ix_list (pv 4) pe_int (fun _ _ => rfl)) pa_nil)) (pv 12)) pa_nil))) (pa_cons (pe_op op_modN (pe_callTy call_int1 (by rfl) T.int (by decide +kernel) (pa_cons (pe_ix ix_list (pv 4) pe_int (fun _ _ => rfl)) pa_nil)) (pv 12)) pa_nil))) pa_nil))))
    pss_nil)
  (pss_cons (ps_for PassesOwn.never rfl (pi_list (pv 11)) (pg_tup rfl (pgs_cons (pg_name (i := 13) sc_law.nd rfl (Or.inl rfl)) (pgs_cons (pg_name (i := 14) sc_law.nd rfl (Or.inl rfl)) pgs_nil)))
    (pss_one (ps_if (pt_val (pe_callTy (BB.call_boolOwn (C := CS) sb_hs sb_hf (sb_G.raw sb_b .nil) (hr.mono (show 3 ≤ 8 by decide)) pass0) (by rfl) T.bool (by decide +kernel) (pa_cons (pv 13) pa_nil)))
      (pss_one (ps_if (pt_not (pt_val (pe_call G_l_bounded (hr.mono (show 2 ≤ 8 by decide)) rfl g_l_bounded k_l_bounded b_l_bounded .nil pass0 (pa_cons (pe_fld (pv 13) rfl) (pa_cons (pv 5) (pa_cons (pv 10) (pa_cons (pv 14) pa_nil)))))))
        (pss_one (ps_ret pe_bl))
        pss_nil))
      (pss_one (ps_if (pt_not (pt_val (pe_call G_l_round (hr.mono (show 5 ≤ 8 by decide)) rfl g_l_round k_l_round b_l_round .nil pass0 (pa_cons (pe_ix ix_list (pv 7) (pv 9) (fun _ _ => rfl)) (pa_cons (pv 2) (pa_cons (pv 3) (pa_cons (pv 5) (pa_cons (pv 13) (pa_cons (pv 14) (pa_cons (pe_op op_add pe_int (pe_op op_modN (pe_callTy call_int1 (by rfl) T.int (by decide +kernel) (pa_cons (pe_ix ix_list (pv 4) pe_int (fun _ _ => rfl)) pa_nil)) pe_int)) pa_nil))))))))))
        (pss_one (ps_ret pe_bl))
        pss_nil)))))
  (pss_one (ps_ret (pe_cmpR (op_eqD hr.units) (pe_fld (pe_ix ix_list (pv 7) (pv 9) (fun _ _ => rfl)) rfl) (pv 1) (nomark _)))))))))))))))))), ?_⟩
    refine ⟨_, rfl, sa, ns, rfl, hs, fun H1 ph qa lv rv q0 c n least rules s1 hph HI => ?_⟩
    refine ⟨ph, [.ref qa, .ref lv, .ref rv], rfl, SqT.of hph, rfl, _, _, rfl, _, _, rfl, _, _, rfl, rfl, ?_⟩
    have hc1 := HI.c1
    have hc3 := HI.c3
    have hn5 := HI.n5
    have ti := HI.ti
    -- d
    refine ⟨_, rfl, sa, ns, 2, 3, rfl, s1.seq hs, by decide, by decide, fun H2 dl ds s2 _ hdl hdn hdb => ?_⟩
    have hds : DrawsOk ds 3 := ⟨hdn, hdb⟩
    have s12 := s1.trans s2
    obtain ⟨qa', qvs, eqa, hqa, rqs⟩ := (HI.q.keep (Same.tups s2)).tupD
    cases eqa
    have hq0 : q0.length = c := HI.hv.ql
    have hqv : qvs.length = c := by rw [rqs.length, List.length_map]; exact hq0
    have hlv := s2 _ _ HI.hl
    have hrv := s2 _ _ HI.hr
    -- start
    refine ⟨_, rfl, _, rfl, qa, rfl, ⟨_, SqT.of hqa⟩, fun D hD => ?_⟩
    refine it_tup (K := K) (a := qa) (xs := qvs) (fun j H' => Own H2 H' [(D, .lst ((List.replicate j (-1 : Int)).map V.int))])
      ((Own.start H2).new (o := .lst []) hD rfl) ?_ ?_ ?_
    · rintro j H' _ O
      exact SqT.of (O.sub _ _ hqa)
    · rintro j x H3 hx O
      have hjl : j < c := by rw [← hqv]; exact (List.getElem?_eq_some_iff.mp hx).1
      refine ⟨rfl, ?_⟩
      refine yes_t ?_
      refine ⟨_, rfl, _, O.get 0 rfl, by rw [sz, List.length_map, List.length_replicate]; omega, ?_⟩
      rw [List.replicate_succ', List.map_append]
      exact O.put 0 rfl rfl
    intro H3 O3
    rw [hqv] at O3
    refine ⟨D, _, rfl, .inl ⟨SqL.of (O3.get 0 rfl), fun tp htp => ?_⟩⟩
    have s4 : Same H3 (upd H3 tp (.tup ((List.replicate c (-1 : Int)).map V.int))) := fun b u e => by rw [upd_ne (ne_of_none e htp)]; exact e
    have htp' : upd H3 tp (.tup ((List.replicate c (-1 : Int)).map V.int)) tp = some (.tup ((List.replicate c (-1 : Int)).map V.int)) := upd_same
    generalize upd H3 tp (.tup ((List.replicate c (-1 : Int)).map V.int)) = H4 at *
    refine ⟨by rw [sz]; show 2 ≤ 16777216; decide, fun st hst => ?_⟩
    have s5 : Same H4 (upd H4 st (.tup [.ref qa, .ref tp])) := fun b u e => by rw [upd_ne (ne_of_none e hst)]; exact e
    have hst' : upd H4 st (.tup [.ref qa, .ref tp]) st = some (.tup [.ref qa, .ref tp]) := upd_same
    generalize upd H4 st (.tup [.ref qa, .ref tp]) = H5 at *
    have s25 := O3.sub.trans (s4.trans s5)
    obtain ⟨p0, hp0⟩ : ∃ p0, p0 = ((q0, List.replicate c (-1)) : HPos) := ⟨_, rfl⟩
    have rst : Rp H5 (posK p0) (.ref st) := by
      rw [hp0]
      exact rp_tup hst' (.cons ((rp_tup hqa rqs).keep (Same.tups s25)) (.cons (rp_tup (s5 _ _ htp') (Rps.nums _)) .nil))
    have hv0 : HV c n p0 := by rw [hp0]; exact HI.hv
    -- strict
    have hrv5 := s25 _ _ hrv
    refine ⟨_, rfl, rv, rfl, ⟨_, SqL.of hrv5⟩, fun D6 hD6 => ?_⟩
    refine it_list (K := K) (a := rv) (xs := rules.map V.str) (fun j H' => Own H5 H' [(D6, .lst (((rules.take j).filter fun r : Str => decide (r ≠ "any")).map V.str))])
      ((Own.start H5).new (o := .lst []) hD6 rfl) ?_ ?_ ?_
    · rintro j H' _ O
      exact SqL.of (O.sub _ _ hrv5)
    · rintro j x H6 hx O
      rw [List.getElem?_map] at hx
      cases he : rules[j]? with
      | none => rw [he] at hx; cases hx
      | some e =>
        rw [he] at hx
        cases hx
        have hjl := (List.getElem?_eq_some_iff.mp he).1
        have rl3 : rules.length ≤ 3 := Gr.len_le_of_sub ti.nd (m := [("again" : Str), "any", "half"]) ti.ok
        have ef : (rules.take (j + 1)).filter (fun r : Str => decide (r ≠ "any")) = (rules.take j).filter (fun r : Str => decide (r ≠ "any")) ++ if decide (e ≠ "any") = true then [e] else [] := by
          rw [take_succ_of he, List.filter_append, List.filter_cons]; rfl
        refine ⟨rfl, ?_⟩
        refine ⟨_, rfl, rfl, _, rfl, ?_⟩
        have er : (!decide (V.str e = V.str "any")) = decide (e ≠ "any") := by
          by_cases q : e = "any"
          · rw [decide_eq_true (by rw [q]), decide_eq_false (fun z => z q)]; rfl
          · rw [decide_eq_false (fun z => q (by injection z)), decide_eq_true q]; rfl
        dsimp only
        rw [er]
        by_cases q : e ≠ "any"
        · rw [decide_eq_true q]
          refine iteT ?_
          refine ⟨_, rfl, _, O.get 0 rfl, ?_, ?_⟩
          · have := List.length_filter_le (fun r : Str => decide (r ≠ "any")) (rules.take j)
            rw [List.length_take] at this
            rw [sz, List.length_map]; omega
          · rw [ef, if_pos (decide_eq_true q), List.map_append]
            exact O.put 0 rfl rfl
        · rw [decide_eq_false q]
          refine iteF ?_
          rw [ef, if_neg (by rw [decide_eq_false q]; exact Bool.false_ne_true), List.append_nil]
          exact O
    intro H6 O6
    rw [List.length_map, List.take_length] at O6
    obtain ⟨strict, hstrict⟩ : ∃ strict, strict = rules.filter fun r : Str => decide (r ≠ "any") := ⟨_, rfl⟩
    rw [← hstrict] at O6
    have s56 := O6.sub
    obtain ⟨B6, sB6, hD6', O6k⟩ := O6.keep
    -- the two halls
    refine ⟨_, rfl, _, rfl, by rw [sz]; show 1 ≤ 16777216; decide, fun p7 hp7 => ?_⟩
    obtain ⟨B7, sB7, hp7', O7⟩ := O6k.fz (o := .lst [.str "any"]) hp7
    generalize upd H6 p7 (.lst [.str "any"]) = H7 at *
    have stl : strict.length ≤ 3 := by
      rw [hstrict]
      exact Nat.le_trans (List.length_filter_le _ _) (Gr.len_le_of_sub ti.nd (m := [("again" : Str), "any", "half"]) ti.ok)
    refine ⟨D6, p7, _, _, rfl, rfl, O7.sub _ _ (sB7 _ _ hD6'), O7.sub _ _ hp7', by rw [sz, List.length_map]; show _ + 1 ≤ 16777216; omega, fun p8 hp8 => ?_⟩
    have ea : strict.map V.str ++ [V.str "any"] = (strict ++ [("any" : Str)]).map V.str := by rw [List.map_append]; rfl
    rw [ea]
    obtain ⟨B8, sB8, hp8', O8⟩ := O7.fz (o := .lst ((strict ++ [("any" : Str)]).map V.str)) hp8
    generalize upd H7 p8 (.lst ((strict ++ [("any" : Str)]).map V.str)) = H8 at *
    refine ⟨by rw [sz]; show 2 ≤ 16777216; decide, fun p9 hp9 => ?_⟩
    obtain ⟨B9, sB9, hp9', O9⟩ := O8.fz (o := .lst [.ref D6, .ref p8]) hp9
    generalize upd H8 p9 (.lst [.ref D6, .ref p8]) = H9 at *
    have sB69 := sB7.trans (sB8.trans sB9)
    have s59 : Same H5 B9 := sB6.trans sB69
    have tiS : TakIn least strict := ⟨ti.l1, ti.l5, ti.bd, by rw [hstrict]; exact List.Pairwise.filter _ ti.nd, fun x hx => ti.ok x (by rw [hstrict] at hx; exact (List.mem_filter.mp hx).1)⟩
    have nin : ("any" : Str) ∉ strict := fun z => by
      rw [hstrict] at z
      exact of_decide_eq_true (List.mem_filter.mp z).2 rfl
    have tiA : TakIn least (strict ++ [("any" : Str)]) := ⟨ti.l1, ti.l5, ti.bd, Gr.nodup_snoc tiS.nd nin, fun x hx => by
      rcases List.mem_append.mp hx with q | q
      · exact tiS.ok x q
      · have : x = "any" := by simpa using q
        rw [this]
        show ("any" : Str) ∈ [("again" : Str), "any", "half"]
        simp⟩
    obtain ⟨nmF, hnm⟩ : ∃ nmF : Nat → List Str, nmF = fun i => if i = 0 then strict else strict ++ [("any" : Str)] := ⟨_, rfl⟩
    refine ⟨p9, rfl, ⟨_, SqL.of (O9.sub _ _ hp9')⟩, fun D7 hD7 => ?_⟩
    have hq9 : Rps B9 (queuesK q0 :: []) [V.ref qa] := .cons (((rp_tup hqa rqs).keep (Same.tups s25)).keep (Same.tups s59)) .nil
    refine it_list (K := K) (a := p9) (xs := [.ref D6, .ref p8]) (fun j H' => ∃ (B : Hp) (hs : List V), Same B9 B ∧ Own B H' [(D7, .lst hs)] ∧ hs.length = j ∧ ∀ i, i < j → ∃ a, hs[i]? = some (.ref a) ∧ HallAt CT CH B a (tkOf least (nmF i)) q0 c n)
      ⟨B9, [], Same.refl _, O9.new (o := .lst []) hD7 rfl, rfl, fun i hi => absurd hi (Nat.not_lt_zero _)⟩ ?_ ?_ ?_
    · rintro j H' _ ⟨B, hs, sB, O, _⟩
      exact SqL.of (O.sub _ _ (sB _ _ hp9'))
    · rintro j x H10 hx ⟨B, hhs, sB, O, hhl, hall⟩
      have hj2 : j < 2 := (List.getElem?_eq_some_iff.mp hx).1
      have sB5 := s59.trans sB
      obtain ⟨nv, rfl, hnv, tin⟩ : ∃ nv, x = .ref nv ∧ B nv = some (.lst ((nmF j).map V.str)) ∧ TakIn least (nmF j) := by
        match j, hj2, hx with
        | 0, _, h =>
          refine ⟨D6, (Option.some.inj h).symm, ?_, ?_⟩
          · rw [hnm]; exact sB _ _ (sB69 _ _ hD6')
          · rw [hnm]; exact tiS
        | 1, _, h =>
          refine ⟨p8, (Option.some.inj h).symm, ?_, ?_⟩
          · rw [hnm]; exact sB _ _ (sB9 _ _ hp8')
          · rw [hnm]; exact tiA
      refine ⟨rfl, ?_⟩
      refine yes_t ?_
      -- the lists of the queues
      have hqaB := sB5 _ _ (s25 _ _ hqa)
      have rqB := rqs.keep (Same.tups (s25.trans sB5))
      refine ⟨_, rfl, qa, rfl, ⟨_, SqT.of (O.sub _ _ hqaB)⟩, fun D10 hD10 => ?_⟩
      refine it_tup (K := K) (a := qa) (xs := qvs) (fun m H' => ∃ (B2 : Hp) (rs : List V), Same B B2 ∧ Own B2 H' [(D10, .lst rs), (D7, .lst hhs)] ∧ Rows B2 rs (q0.take m))
        ⟨B, [], Same.refl _, O.new (o := .lst []) hD10 rfl, ⟨rfl, fun j hj => by rw [List.take_zero] at hj; exact absurd hj (Nat.not_lt_zero _)⟩⟩ ?_ ?_ ?_
      · rintro m H' _ ⟨B2, rs, sB2, O2, _⟩
        exact SqT.of (O2.sub _ _ (sB2 _ _ hqaB))
      · rintro m x H11 hx11 ⟨B2, rs, sB2, O2, R2⟩
        have hml : m < q0.length := by rw [hq0, ← hqv]; exact (List.getElem?_eq_some_iff.mp hx11).1
        obtain ⟨am, ham, hqm⟩ := rps_q (rqB.keep (Same.tups sB2)) hml
        rw [ham] at hx11
        cases hx11
        refine ⟨rfl, ?_⟩
        refine yes_t ?_
        refine ⟨_, rfl, am, _, rfl, .inr (SqT.of (O2.sub _ _ hqm)), fun l hl => ?_⟩
        obtain ⟨B3, sB3, hl', O3'⟩ := O2.fz (o := .lst ((q0.getD m []).map V.int)) hl
        have hrl : rs.length = m := by rw [R2.len, List.length_take]; omega
        refine ⟨_, O3'.get 0 rfl, by rw [sz]; omega, B3, rs ++ [.ref l], sB2.trans sB3, O3'.put 0 rfl rfl, ?_⟩
        rw [show q0.take (m + 1) = q0.take m ++ [q0.getD m []] from take_succ_of (by rw [List.getD_eq_getElem?_getD, List.getElem?_eq_getElem hml]; rfl)]
        exact R2.snoc sB3 hl'
      rintro H11 ⟨B2, rs, sB2, O2, R2⟩
      rw [hqv, ← hq0, List.take_length] at R2
      -- the taking
      have sB52 := sB5.trans sB2
      have hlvB := sB52 _ _ (s25 _ _ hlv)
      refine ⟨_, rfl, _, rfl, lv, nv, least, nmF j, rfl, O2.sub _ _ hlvB, O2.sub _ _ (sB2 _ _ hnv), tin, fun H12 ta s12' hta => ?_⟩
      obtain ⟨B3, sB3, O3', _, _⟩ := O2.call s12'
      refine fun x dx hx' hdx hne => ?_
      have n1 : D10 ≠ x := ne_of_none (O3'.get 0 rfl) hx'
      have n2 : D10 ≠ dx := ne_of_none (O3'.get 0 rfl) hdx
      have up : ∀ b u, H12 b = some u → upd (upd H12 dx (.own x)) x (.ins CH dx []) b = some u := fun b u e => by
        rw [upd_ne (ne_of_none e hx'), upd_ne (ne_of_none e hdx)]; exact e
      have R3' := (R2.same (sB3.trans O3'.sub))
      refine ⟨x, D10, ta, dx, rs, tkOf least (nmF j), q0, c, n, rfl, upd_same, up _ _ (O3'.get 0 rfl), R3'.same up, hta.same up, HI.hv, hc1, hc3, hn5, fun H13 k13 hall13 => ⟨rfl, ?_⟩⟩
      have s13 : Same H12 H13 := fun b u e => k13 b u (ne_of_none e hx') (up b u e)
      obtain ⟨B4, sB4, O4', f4⟩ := O3'.callL isl2 s13
      have hall4 := hall13.own (B := B4) fun b u e h => f4 b u e (.inr h)
      refine ⟨hhs, O4'.get 1 rfl, by rw [sz]; omega, B4, hhs ++ [.ref x], sB.trans (sB2.trans (sB3.trans sB4)), (O4'.put 1 rfl rfl).drop (List.sublist_cons_self _ _), by rw [List.length_append, hhl]; rfl, fun i hi => ?_⟩
      by_cases qi : i < j
      · obtain ⟨a', e1, e2⟩ := hall i qi
        exact ⟨a', by rw [List.getElem?_append_left (by omega)]; exact e1, e2.same (sB2.trans (sB3.trans sB4))⟩
      · have : i = j := by omega
        subst this
        exact ⟨x, by rw [List.getElem?_append_right (by omega), hhl, Nat.sub_self]; rfl, hall4⟩
    rintro H10 ⟨B10, hhs, sB10, O10, hhl, hall⟩
    have hhl2 : hhs.length = 2 := hhl
    -- told
    obtain ⟨B11, sB11, hD7', O11⟩ := O10.keep
    refine ⟨_, rfl, D7, rfl, ⟨_, SqL.of (O11.sub _ _ hD7')⟩, fun D8 hD8 => ?_⟩
    refine it_list (K := K) (a := D7) (xs := hhs) (fun j H' => ∃ (B : Hp) (ts : List V), Same B11 B ∧ Own B H' [(D8, .lst ts)] ∧ ts.length = j ∧ ∀ i, i < j → ∃ a, ts[i]? = some (.ref a) ∧ SettleOut w CS B a (tkOf least (nmF i)) p0)
      ⟨B11, [], Same.refl _, O11.new (o := .lst []) hD8 rfl, rfl, fun i hi => absurd hi (Nat.not_lt_zero _)⟩ ?_ ?_ ?_
    · rintro j H' _ ⟨B, ts, sB, O, _⟩
      exact SqL.of (O.sub _ _ (sB _ _ hD7'))
    · rintro j x H11 hx ⟨B, ts, sB, O, tl, tsv⟩
      have hj2 : j < 2 := by have := (List.getElem?_eq_some_iff.mp hx).1; omega
      obtain ⟨hj, ehj, hallj⟩ := hall j hj2
      rw [ehj] at hx
      cases hx
      refine ⟨rfl, ?_⟩
      refine yes_t ?_
      refine ⟨_, rfl, hj, tkOf least (nmF j), q0, c, n, rfl, (hallj.same (sB11.trans sB)).same O.sub, fun H12 a s12' fr so => ?_⟩
      rw [← hp0] at so
      obtain ⟨B', sB', O', f'⟩ := O.callL isl1 s12'
      refine ⟨ts, O'.get 0 rfl, by rw [sz]; omega, B', ts ++ [.ref a], sB.trans sB', O'.put 0 rfl rfl, by rw [List.length_append, tl]; rfl, fun i hi => ?_⟩
      by_cases qi : i < j
      · obtain ⟨a', e1, e2⟩ := tsv i qi
        exact ⟨a', by rw [List.getElem?_append_left (by omega)]; exact e1, e2.same sB'⟩
      · have : i = j := by omega
        subst this
        exact ⟨a, by rw [List.getElem?_append_right (by omega), tl, Nat.sub_self]; rfl, so.own f' fr⟩
    rintro H11 ⟨B12, ts, sB12, O12, tl, told⟩
    have tl2 : ts.length = 2 := tl.trans hhl2
    obtain ⟨B13, sB13, hD8', O13⟩ := O12.keep
    have s5e : Same H5 H11 := s59.trans (sB10.trans (sB11.trans (sB12.trans (sB13.trans O13.sub))))
    have s2e : Same H2 H11 := s25.trans s5e
    have sBe : Same B10 H11 := sB11.trans (sB12.trans (sB13.trans O13.sub))
    have hD7e : H11 D7 = some (.lst hhs) := (sB12.trans (sB13.trans O13.sub)) _ _ hD7'
    have hD8e : H11 D8 = some (.lst ts) := O13.sub _ _ hD8'
    have halle : ∀ i, i < 2 → ∃ a, hhs[i]? = some (.ref a) ∧ HallAt CT CH H11 a (tkOf least (nmF i)) q0 c n := fun i hi => by
      obtain ⟨a, e1, e2⟩ := hall i hi
      exact ⟨a, e1, e2.same sBe⟩
    have tolde : ∀ i, i < 2 → ∃ a, ts[i]? = some (.ref a) ∧ SettleOut w CS H11 a (tkOf least (nmF i)) p0 := fun i hi => by
      obtain ⟨a, e1, e2⟩ := told i (by omega)
      exact ⟨a, e1, e2.same (sB13.trans O13.sub)⟩
    have hqae := s2e _ _ hqa
    have rqse := rqs.keep (Same.tups s2e)
    have hlve := s2e _ _ hlv
    have hrve := s2e _ _ hrv
    have hdle := s2e _ _ hdl
    have rste := rst.keep (Same.tups s5e)
    have sce : Same H H11 := s1.trans (s2.trans s2e)
    clear hall told O13 O12 O11 O10
    -- if not stricter
    obtain ⟨a0, ea0, so0⟩ := tolde 0 (by decide)
    obtain ⟨a1, ea1, so1⟩ := tolde 1 (by decide)
    have n0 : tkOf least (nmF 0) = setAny (tkOf least rules) false := by rw [hnm]; show tkOf least strict = _; rw [hstrict]; exact tk_strict least rules
    have n1 : tkOf least (nmF 1) = setAny (tkOf least rules) true := by rw [hnm]; show tkOf least (strict ++ [("any" : Str)]) = _; rw [hstrict]; exact tk_any least rules
    rw [n0] at so0
    rw [n1] at so1
    refine ⟨_, rfl, D8, ts, _, _, rfl, rfl, SqL.of hD8e, at_of (j := 0) rfl ea0, _, rfl, D8, ts, _, _, rfl, rfl, SqL.of hD8e, at_of (j := 1) rfl ea1, a0, a1, tkOf least rules, p0, rfl, so0, so1, fun H12 s12e => ?_⟩
    refine ⟨_, rfl, ?_⟩
    refine iteF ?_
    -- at
    obtain ⟨ak, hak, hak2, hatk⟩ : ∃ ak : Nat, ak < 2 ∧ (if (if false = true then !inV (.str "any") (rules.map V.str) else inV (.str "any") (rules.map V.str)) = true then (1 : Int) else 0) = ((ak : Nat) : Int) ∧ tkOf least (nmF ak) = tkOf least rules := by
      cases q : inV (.str "any") (rules.map V.str) with
      | true => exact ⟨1, by decide, rfl, by rw [n1, ← q]; rfl⟩
      | false => exact ⟨0, by decide, rfl, by rw [n0, ← q]; rfl⟩
    refine ⟨_, rfl, rv, rules.map V.str, rfl, .inl (SqL.of (s12e _ _ hrve)), rfl, flat_strs _, .inr ⟨_, rfl, ?_⟩⟩
    dsimp only [gName]
    rw [hak2]
    -- rows
    have sE2 : Same H H12 := sce.trans s12e
    refine ⟨_, rfl, _, rfl, _, rfl, _, rfl, sa, ns, 3, 16, rfl, sE2.seq hs, by decide, by decide, fun H13 el es s13 _ hel hen heb => ?_⟩
    refine ⟨_, rfl, _, rfl, sa, _, rfl, (sE2.trans s13).seq hs, fun q1 hq1 => ?_⟩
    rw [show (some (4 : Int)) = some ((4 : Nat) : Int) from rfl, cut_behind]
    have s14 : Same H13 (upd H13 q1 (.lst ((ns.drop 4).map V.int))) := fun b u e => by rw [upd_ne (ne_of_none e hq1)]; exact e
    have hq1' : upd H13 q1 (.lst ((ns.drop 4).map V.int)) q1 = some (.lst ((ns.drop 4).map V.int)) := upd_same
    generalize upd H13 q1 (.lst ((ns.drop 4).map V.int)) = H14 at *
    refine ⟨el, q1, _, _, rfl, rfl, s14 _ _ hel, hq1', by rw [sz, List.length_map, List.length_map, List.length_drop]; omega, fun q2 hq2 => ?_⟩
    rw [← List.map_append]
    have s15 : Same H14 (upd H14 q2 (.lst ((es ++ ns.drop 4).map V.int))) := fun b u e => by rw [upd_ne (ne_of_none e hq2)]; exact e
    have hq2' : upd H14 q2 (.lst ((es ++ ns.drop 4).map V.int)) q2 = some (.lst ((es ++ ns.drop 4).map V.int)) := upd_same
    generalize upd H14 q2 (.lst ((es ++ ns.drop 4).map V.int)) = H15 at *
    have se15 : Same H11 H15 := s12e.trans (s13.trans (s14.trans s15))
    obtain ⟨d0, hd0, _⟩ := draws_at hds (i := 0) (by decide)
    obtain ⟨d1, hd1, hd1a, hd1b⟩ := draws_at hds (i := 1) (by decide)
    obtain ⟨d2, hd2, hd2a, hd2b⟩ := draws_at hds (i := 2) (by decide)
    have eln : (es ++ ns.drop 4).length ≤ 1000 := by rw [List.length_append, List.length_drop]; omega
    refine ⟨_, rfl, dl, _, _, _, rfl, rfl, SqL.of (se15 _ _ hdle), at_of (j := 0) rfl (ints_at hd0), .inl ⟨_, rfl, _, _, rfl, rfl, (by show (2 : Int) ≠ 0; decide), rfl, ?_⟩⟩
    refine ⟨lv, rv, q2, .ref st, _, least, rules, c, n, p0, es ++ ns.drop 4, rfl, se15 _ _ hlve, se15 _ _ hrve, rste.keep (Same.tups se15), hv0, hc1, hc3, hn5, hq2', eln, fun H16 rl wv ls s16 _ hrl can lsl rr => ?_⟩
    have lsn : ls.length ≤ 1000 := by rw [lsl]; exact eln
    have se16 := se15.trans s16
    obtain ⟨hx, ehx, hallx⟩ := halle ak hak
    obtain ⟨ax, eax, sox⟩ := tolde ak hak
    rw [hatk] at hallx sox
    have hwv : wv.length = ls.length := by rw [rr.length, rowsP_len]
    -- play
    obtain ⟨dxh, qvh, tvh, e1h, rqh, _⟩ := (hallx.same se16).ex
    have npl : ¬ (("play" : Str) = "queues") := by decide +kernel
    have npl' : ¬ (("play" : Str) = "taking") := by decide +kernel
    refine ⟨_, rfl, _, rfl, D7, hhs, _, _, rfl, rfl, SqL.of (se16 _ _ hD7e), at_of rfl ehx, hx, dxh, _, rfl, e1h, lk_n npl npl', _, rfl, rl, rfl, ⟨_, SqL.of hrl⟩, fun D9 hD9 => ?_⟩
    refine it_list (K := K) (a := rl) (xs := wv) (fun j H' => ∃ (B : Hp) (pvs : List V), Same H16 B ∧ Own B H' [(D9, .lst pvs)] ∧ Rps B ((ls.take j).map labK) pvs)
      ⟨H16, [], Same.refl _, (Own.start H16).new (o := .lst []) hD9 rfl, by rw [List.take_zero]; exact .nil⟩ ?_ ?_ ?_
    · rintro j H' _ ⟨B, pvs, sB, O, _⟩
      exact SqL.of (O.sub _ _ (sB _ _ hrl))
    · rintro j x H17 hxj ⟨B, pvs, sB, O, R⟩
      have hjl : j < ls.length := by rw [← hwv]; exact (List.getElem?_eq_some_iff.mp hxj).1
      obtain ⟨a', ha'⟩ : ∃ a', ls[j]? = some a' := ⟨_, List.getElem?_eq_getElem hjl⟩
      obtain ⟨v, hv', rx⟩ := rr.get (rowsP_get _ ls p0 j a' ha')
      rw [hxj] at hv'
      cases hv'
      obtain ⟨b, vs0, rfl, hb, rb⟩ := (rx.keep (Same.tups sB)).tupD
      obtain ⟨w1, r1', rfl, e1', rb⟩ := rb.consD
      obtain ⟨w2, r2', rfl, e2', rb⟩ := rb.consD
      obtain rfl := e1'.numD
      obtain rfl := e2'.numD
      have pvl : pvs.length ≤ j := by rw [R.length, List.length_map, List.length_take]; omega
      refine ⟨rfl, ?_⟩
      refine yes_t ?_
      refine ⟨_, rfl, b, _, _, _, rfl, rfl, SqT.of (O.sub _ _ hb), at_of (j := 0) rfl rfl, _, rfl, b, _, _, _, rfl, rfl, SqT.of (O.sub _ _ hb), at_of (j := 1) rfl rfl, by rw [sz]; show 2 ≤ 16777216; decide, fun p1 hp1 => ?_⟩
      obtain ⟨B1, sB1, hp1', O1⟩ := O.fz (o := .tup [.int (a'.1 : Int), .int a'.2]) hp1
      refine ⟨pvs, O1.get 0 rfl, by rw [sz]; omega, B1, pvs ++ [.ref p1], sB.trans sB1, O1.put 0 rfl rfl, ?_⟩
      rw [take_succ_of ha', List.map_append]
      exact (R.keep (Same.tups sB1)).snoc (rp_tup hp1' (.cons (rp_num _) (.cons (rp_num _) .nil)))
    rintro H17 ⟨B17, pvs, sB17, O17, R17⟩
    rw [hwv, List.take_length] at R17
    have s1617 := sB17.trans O17.sub
    refine ⟨hx, D9, pvs, tkOf least rules, q0, c, n, ls, rfl, (hallx.same se16).same s1617, O17.get 0 rfl, R17.keep O17.tups, by rw [← hp0]; exact can, by omega, fun H18 pl pv s18 _ hpl rp => ?_⟩
    rw [← hp0] at rp
    have s1618 := s1617.trans s18
    refine ⟨_, rfl, pl, rl, pv, wv, tkOf least rules, p0, ls, c, n, rfl, hpl, s1618 _ _ hrl, rp, rr.keep (Same.tups s1618), hv0, hc3, hn5, can, by omega, fun H19 s19 => ?_⟩
    refine ⟨_, rfl, ?_⟩
    refine iteF ?_
    have s1619 := s1618.trans s19
    have se19 := se16.trans s1619
    have hrl19 := s1619 _ _ hrl
    have rr19 := rr.keep (Same.tups s1619)
    clear O17
    -- asked
    refine ⟨_, rfl, _, rfl, D8, ts, _, _, rfl, rfl, SqL.of (se19 _ _ hD8e), at_of rfl eax, _, rfl, by rw [sz]; show 2 ≤ 16777216; decide, fun t1 ht1 => ?_⟩
    have s20 : Same H19 (upd H19 t1 (.tup [.ref ax, .int (-1)])) := fun b u e => by rw [upd_ne (ne_of_none e ht1)]; exact e
    have ht1' : upd H19 t1 (.tup [.ref ax, .int (-1)]) t1 = some (.tup [.ref ax, .int (-1)]) := upd_same
    refine ⟨by rw [sz]; show 1 ≤ 16777216; decide, fun al hal => ?_⟩
    have O21 : Own _ (upd (upd H19 t1 (.tup [.ref ax, .int (-1)])) al (.lst [.ref t1])) [(al, .lst [.ref t1])] := (Own.start _).new (o := .lst [.ref t1]) hal rfl
    generalize upd H19 t1 (.tup [.ref ax, .int (-1)]) = H20 at *
    have se20 := se19.trans s20
    have hqa20 := se20 _ _ hqae
    have rqs20 := rqse.keep (Same.tups se20)
    -- count
    refine ⟨_, rfl, qa, rfl, ⟨_, SqT.of (O21.sub _ _ hqa20)⟩, fun D11 hD11 => ?_⟩
    refine it_tup (K := K) (a := qa) (xs := qvs) (fun j H' => Own H20 H' [(D11, .lst (((q0.take j).map fun q => ((q.length : Nat) : Int)).map V.int)), (al, .lst [.ref t1])])
      (O21.new (o := .lst []) hD11 rfl) ?_ ?_ ?_
    · rintro j H' _ O
      exact SqT.of (O.sub _ _ hqa20)
    · rintro j x H22 hxj O
      have hml : j < q0.length := by rw [hq0, ← hqv]; exact (List.getElem?_eq_some_iff.mp hxj).1
      obtain ⟨am, ham, hqm⟩ := rps_q rqs20 hml
      rw [ham] at hxj
      cases hxj
      refine ⟨rfl, ?_⟩
      refine yes_t ?_
      refine ⟨_, rfl, am, _, rfl, .inr (SqT.of (O.sub _ _ hqm)), _, O.get 0 rfl, by rw [sz, List.length_map, List.length_map, List.length_take]; omega, ?_⟩
      rw [show q0.take (j + 1) = q0.take j ++ [q0.getD j []] from take_succ_of (by rw [List.getD_eq_getElem?_getD, List.getElem?_eq_getElem hml]; rfl), List.map_append, List.map_append, List.length_map]
      exact O.put 0 rfl rfl
    intro H22 O22
    rw [hqv, ← hq0, List.take_length] at O22
    have esum : (q0.map fun q => ((q.length : Nat) : Int)).sum = ((n : Nat) : Int) := by
      have := sum_lens hv0
      rw [hp0] at this
      exact this
    refine ⟨D11, _, rfl, SqL.of (O22.get 0 rfl), ?_⟩
    dsimp only [gName]
    rw [esum]
    have O23 := O22.drop (l' := [(al, .lst [.ref t1])]) (List.sublist_cons_self _ _)
    have ask0 : AskOk w CS H20 (tkOf least rules) p0 (.ref t1) := ⟨t1, ax, -1, rfl, ht1', .inl ⟨rfl, sox.same se20⟩⟩
    -- if count > 0
    refine seq_mid (fun σ' H' => ∃ (B : Hp) (av : List V), Same H20 B ∧ Own B H' [(al, .lst av)] ∧ (∀ v ∈ av, AskOk w CS B (tkOf least rules) p0 v) ∧ av.length ≤ 2 ∧
      σ' = [some (.ref sa), some (.ref qa), some (.ref lv), some (.ref rv), some (.ref dl), some (.ref st), some (.ref D6), some (.ref D7), some (.ref D8), some (.int ((ak : Nat) : Int)), some (.ref rl), some (.ref al), some (.int ((n : Nat) : Int)), none, none, none, none, none, none, none]) (fun N hN => ?_) ?_
    · refine ⟨_, rfl, _, _, rfl, rfl, _, rfl, ?_⟩
      refine ite2 (fun hpos => ?_) (fun _ => ?_)
      · have hn0 : (0 : Int) < ((n : Nat) : Int) := of_decide_eq_true hpos
        have sub23 : Same H20 H22 := O23.sub
        refine ⟨_, rfl, .inl ⟨rfl, _, SqL.of (O23.get 0 rfl)⟩, _, rfl, _, rfl, D7, hhs, _, _, rfl, rfl, SqL.of (sub23 _ _ (se20 _ _ hD7e)), at_of rfl ehx, _, rfl, dl, _, _, _, rfl, rfl, SqL.of (sub23 _ _ (se20 _ _ hdle)), at_of (j := 1) rfl (ints_at hd1), .inl ⟨_, rfl, _, rfl, _, _, rfl, rfl, (by omega), ?_⟩⟩
        refine ⟨hx, tkOf least rules, q0, c, n, d1.fmod ((n : Nat) : Int), rfl, (hallx.same se20).same sub23, fun H24 an s24 fr so => ?_⟩
        rw [← hp0] at so
        obtain ⟨B24, sB24, O24, f24⟩ := O23.callL isl1 s24
        refine ⟨_, rfl, dl, _, _, _, rfl, rfl, SqL.of (s24 _ _ (sub23 _ _ (se20 _ _ hdle))), at_of (j := 1) rfl (ints_at hd1), .inl ⟨_, rfl, _, rfl, _, _, rfl, rfl, (by omega), by rw [sz]; show 2 ≤ 16777216; decide, fun b hb => ?_⟩⟩
        obtain ⟨B25, sB25, hb', O25⟩ := O24.fz (o := .tup [.ref an, .int (d1.fmod ((n : Nat) : Int))]) hb
        refine ⟨al, _, _, rfl, rfl, O25.get 0 rfl, by rw [sz]; show 1 < 16777216; decide, ?_⟩
        refine hN _ _ ⟨B25, [.ref t1, .ref b], sB24.trans sB25, O25.put 0 rfl rfl, fun v hv => ?_, Nat.le_refl _, rfl⟩
        rcases List.mem_cons.mp hv with q | q
        · subst q; exact ask0.same (sB24.trans sB25)
        · have : v = .ref b := by simpa using q
          subst this
          exact ⟨b, an, _, rfl, hb', .inr ⟨Int.fmod_nonneg_of_pos _ hn0, (so.own f24 fr).same sB25⟩⟩
      · refine hN _ _ ⟨H20, [.ref t1], Same.refl _, O23, fun v hv => ?_, Nat.le_succ 1, rfl⟩
        have : v = .ref t1 := by simpa using hv
        subst this
        exact ask0
    rintro σ25 H25 ⟨B25, av, sB25, O25, hav, havl, rfl⟩
    obtain ⟨B26, sB26, hal', O26⟩ := O25.keep
    have s2026 : Same H20 H25 := sB25.trans (sB26.trans O26.sub)
    have se25 : Same H11 H25 := se20.trans s2026
    have hav' : ∀ v ∈ av, AskOk w CS H25 (tkOf least rules) p0 v := fun v hv => (hav v hv).same (sB26.trans O26.sub)
    have hale := O26.sub _ _ hal'
    have s1925 := s20.trans s2026
    -- the answers
    refine ⟨_, rfl, al, rfl, ⟨_, SqL.of hale⟩, ?_⟩
    refine for_list (K := K) (a := al) (xs := av) (fun j σ H' => Same H25 H' ∧ ∃ (x13 x14 : Option V), σ = [some (.ref sa), some (.ref qa), some (.ref lv), some (.ref rv), some (.ref dl), some (.ref st), some (.ref D6), some (.ref D7), some (.ref D8), some (.int ((ak : Nat) : Int)), some (.ref rl), some (.ref al), some (.int ((n : Nat) : Int)), x13, x14, none, none, none, none, none])
      ⟨Same.refl _, none, none, rfl⟩ ?_ ?_ ?_
    · rintro j σ H' _ ⟨s', _⟩
      exact SqL.of (s' _ _ hale)
    · rintro j x σ H26 hxj ⟨s26, x13, x14, rfl⟩
      obtain ⟨b, an, task, rfl, hb, ask⟩ := (hav' x (List.mem_of_getElem? hxj)).same s26
      have se26 := se25.trans s26
      have rst26 := rste.keep (Same.tups se26)
      refine ⟨b, [.ref an, .int task], rfl, SqT.of hb, rfl, _, _, rfl, _, _, rfl, rfl, ?_⟩
      rcases ask_cases hv0 ask with ⟨dx, d, nx, g, e, hd, ko, vals, bnd⟩ | ⟨l1, l2, A, ring⟩
      · refine ⟨_, rfl, an, dx, _, rfl, e, an, dx, _, _, _, rfl, e, _, rfl, _, rfl, ?_⟩
        refine iteT ?_
        refine ⟨_, rfl, an, CS, dx, _, _, rfl, e, cg.clS, cg.nSn, lk_1st, _, rfl, _, rfl, _, rfl, ?_⟩
        refine ⟨d, rl, .ref st, task, nx, g, tkOf least rules, c, n, p0, wv, ls, rfl, hd, ko, vals, bnd, rst26, hv0, (s1925.trans s26) _ _ hrl19, rr19.keep (Same.tups (s1925.trans s26)), can, ?_⟩
        refine ⟨_, rfl, ?_⟩
        refine iteF ?_
        exact ⟨s26, _, _, rfl⟩
      · obtain ⟨dx, b1, b2, v1, v2, e, _⟩ := id A.ex
        refine ⟨_, rfl, an, dx, _, rfl, e, an, dx, _, _, _, rfl, e, _, rfl, _, rfl, ?_⟩
        refine iteF ?_
        obtain ⟨m, hm, hm4⟩ : ∃ m : Nat, 2 + d2.fmod 3 = ((m : Nat) : Int) ∧ m ≤ 4 := by
          obtain ⟨j2, e2, h2⟩ := fmod_nat (x := d2) (m := 3) (by decide)
          exact ⟨2 + j2, by rw [show (3 : Int) = ((3 : Nat) : Int) from rfl, e2, Int.natCast_add]; rfl, by omega⟩
        refine ⟨_, rfl, _, rfl, D7, hhs, _, _, rfl, rfl, SqL.of (se26 _ _ hD7e), at_of rfl ehx, _, rfl, _, rfl, _, rfl, _, rfl, _, rfl, _, rfl, dl, _, _, _, rfl, rfl, SqL.of (se26 _ _ hdle), at_of (j := 2) rfl (ints_at hd2), .inl ⟨_, rfl, _, _, rfl, rfl, (by show (3 : Int) ≠ 0; decide), _, _, rfl, rfl, ?_⟩⟩
        refine ⟨hx, lv, rv, an, .ref st, task, m, least, rules, q0, c, n, l1, l2, congrArg (fun z => [V.ref hx, .ref lv, .ref rv, .ref st, .ref an, .int task, .int z]) hm, hallx.same se26, se26 _ _ hlve, se26 _ _ hrve, by rw [← hp0]; exact rst26, A, by rw [← hp0]; exact ring, hm4, fun H27 s27 => ?_⟩
        refine ⟨_, rfl, ?_⟩
        refine iteF ?_
        exact ⟨s26.trans s27, _, _, rfl⟩
    · rintro σ H26 ⟨s26, x13, x14, rfl⟩
      have se26 := se25.trans s26
      obtain ⟨dxq, qvq, tvq, e1q, rqq, _⟩ := (hallx.same se26).ex
      refine ⟨_, rfl, _, rfl, D7, hhs, _, _, rfl, rfl, SqL.of (se26 _ _ hD7e), at_of rfl ehx, hx, CH, dxq, _, _, rfl, e1q, cf.clH, cf.nHq, lk_1st, _, rfl, ?_⟩
      exact eqD_of rqq (rp_tup (se26 _ _ hqae) (rqse.keep (Same.tups se26))) (noTxt_queuesK q0) (depth_queuesK q0) (kk _)
end
end ND
end
section
set_option Elab.async false
set_option linter.all false
set_option maxRecDepth 100000
set_option maxHeartbeats 4000000
namespace ND
open PySem L2
open PyProof.Rows (envOfC)
open PH
/-! ### what the top has left, all defs joined -/
theorem all_mk {l : PySem.W.OpenLaw} {w : World} {K : PySem.W.Frag} {h : Heap} {mg : Str → Option Value} {fa CT CH CW CP CS : Addr} (X : K.In h) (G : h.Ns mainGlobals mg) (hfa : mg "law" = some (.ref fa))
    {od_way_to an_way_to : Option Addr} {sl_way_to : Array (Option Value)} {oc_way_to kV_way_to dc_way_to pm_way_to cd_way_to ct_way_to : Value} {f_way_to : Addr}
    {od_reach an_reach : Option Addr} {sl_reach : Array (Option Value)} {oc_reach kV_reach dc_reach pm_reach cd_reach ct_reach : Value} {f_reach : Addr}
    {od_leaving_order an_leaving_order : Option Addr} {sl_leaving_order : Array (Option Value)} {oc_leaving_order kV_leaving_order dc_leaving_order pm_leaving_order cd_leaving_order ct_leaving_order : Value} {f_leaving_order : Addr}
    {od_components an_components : Option Addr} {sl_components : Array (Option Value)} {oc_components kV_components dc_components pm_components cd_components ct_components : Value} {f_components : Addr}
    {od_way_within an_way_within : Option Addr} {sl_way_within : Array (Option Value)} {oc_way_within kV_way_within dc_way_within pm_way_within cd_way_within ct_way_within : Value} {f_way_within : Addr}
    {od_heaviest an_heaviest : Option Addr} {sl_heaviest : Array (Option Value)} {oc_heaviest kV_heaviest dc_heaviest pm_heaviest cd_heaviest ct_heaviest : Value} {f_heaviest : Addr}
    {od_Taking_lets an_Taking_lets : Option Addr} {sl_Taking_lets : Array (Option Value)} {oc_Taking_lets kV_Taking_lets dc_Taking_lets pm_Taking_lets cd_Taking_lets ct_Taking_lets : Value} {f_Taking_lets : Addr}
    {od_Hall_start an_Hall_start : Option Addr} {sl_Hall_start : Array (Option Value)} {oc_Hall_start kV_Hall_start dc_Hall_start pm_Hall_start cd_Hall_start ct_Hall_start : Value} {f_Hall_start : Addr}
    {od_Hall_picks an_Hall_picks : Option Addr} {sl_Hall_picks : Array (Option Value)} {oc_Hall_picks kV_Hall_picks dc_Hall_picks pm_Hall_picks cd_Hall_picks ct_Hall_picks : Value} {f_Hall_picks : Addr}
    {od_Hall_take an_Hall_take : Option Addr} {sl_Hall_take : Array (Option Value)} {oc_Hall_take kV_Hall_take dc_Hall_take pm_Hall_take cd_Hall_take ct_Hall_take : Value} {f_Hall_take : Addr}
    {od_Hall_acted an_Hall_acted : Option Addr} {sl_Hall_acted : Array (Option Value)} {oc_Hall_acted kV_Hall_acted dc_Hall_acted pm_Hall_acted cd_Hall_acted ct_Hall_acted : Value} {f_Hall_acted : Addr}
    {od_Hall_acts an_Hall_acts : Option Addr} {sl_Hall_acts : Array (Option Value)} {oc_Hall_acts kV_Hall_acts dc_Hall_acts pm_Hall_acts cd_Hall_acts ct_Hall_acts : Value} {f_Hall_acts : Addr}
    {od_Hall_play an_Hall_play : Option Addr} {sl_Hall_play : Array (Option Value)} {oc_Hall_play kV_Hall_play dc_Hall_play pm_Hall_play cd_Hall_play ct_Hall_play : Value} {f_Hall_play : Addr}
    {od_Settled_init an_Settled_init : Option Addr} {sl_Settled_init : Array (Option Value)} {oc_Settled_init kV_Settled_init dc_Settled_init pm_Settled_init cd_Settled_init ct_Settled_init : Value} {f_Settled_init : Addr}
    {od_WastedActs_init an_WastedActs_init : Option Addr} {sl_WastedActs_init : Array (Option Value)} {oc_WastedActs_init kV_WastedActs_init dc_WastedActs_init pm_WastedActs_init cd_WastedActs_init ct_WastedActs_init : Value} {f_WastedActs_init : Addr}
    {od_PassingActs_init an_PassingActs_init : Option Addr} {sl_PassingActs_init : Array (Option Value)} {oc_PassingActs_init kV_PassingActs_init dc_PassingActs_init pm_PassingActs_init cd_PassingActs_init ct_PassingActs_init : Value} {f_PassingActs_init : Addr}
    {od_WastedActs_first_nodes an_WastedActs_first_nodes : Option Addr} {sl_WastedActs_first_nodes : Array (Option Value)} {oc_WastedActs_first_nodes kV_WastedActs_first_nodes dc_WastedActs_first_nodes pm_WastedActs_first_nodes cd_WastedActs_first_nodes ct_WastedActs_first_nodes : Value} {f_WastedActs_first_nodes : Addr}
    {od_PassingActs_first_nodes an_PassingActs_first_nodes : Option Addr} {sl_PassingActs_first_nodes : Array (Option Value)} {oc_PassingActs_first_nodes kV_PassingActs_first_nodes dc_PassingActs_first_nodes pm_PassingActs_first_nodes cd_PassingActs_first_nodes ct_PassingActs_first_nodes : Value} {f_PassingActs_first_nodes : Addr}
    {od_WastedActs_ways_on an_WastedActs_ways_on : Option Addr} {sl_WastedActs_ways_on : Array (Option Value)} {oc_WastedActs_ways_on kV_WastedActs_ways_on dc_WastedActs_ways_on pm_WastedActs_ways_on cd_WastedActs_ways_on ct_WastedActs_ways_on : Value} {f_WastedActs_ways_on : Addr}
    {od_PassingActs_ways_on an_PassingActs_ways_on : Option Addr} {sl_PassingActs_ways_on : Array (Option Value)} {oc_PassingActs_ways_on kV_PassingActs_ways_on dc_PassingActs_ways_on pm_PassingActs_ways_on cd_PassingActs_ways_on ct_PassingActs_ways_on : Value} {f_PassingActs_ways_on : Addr}
    {od_settle an_settle : Option Addr} {sl_settle : Array (Option Value)} {oc_settle kV_settle dc_settle pm_settle cd_settle ct_settle : Value} {f_settle : Addr}
    {od_serve an_serve : Option Addr} {sl_serve : Array (Option Value)} {oc_serve kV_serve dc_serve pm_serve cd_serve ct_serve : Value} {f_serve : Addr}
    {od_Taking_init an_Taking_init : Option Addr} {sl_Taking_init : Array (Option Value)} {oc_Taking_init kV_Taking_init dc_Taking_init pm_Taking_init cd_Taking_init ct_Taking_init : Value} {f_Taking_init : Addr}
    {od_Hall_init an_Hall_init : Option Addr} {sl_Hall_init : Array (Option Value)} {oc_Hall_init kV_Hall_init dc_Hall_init pm_Hall_init cd_Hall_init ct_Hall_init : Value} {f_Hall_init : Addr}
    {od_Settled_bool an_Settled_bool : Option Addr} {sl_Settled_bool : Array (Option Value)} {oc_Settled_bool kV_Settled_bool dc_Settled_bool pm_Settled_bool cd_Settled_bool ct_Settled_bool : Value} {f_Settled_bool : Addr}
    {od_l_cell an_l_cell : Option Addr} {sl_l_cell : Array (Option Value)} {oc_l_cell kV_l_cell dc_l_cell pm_l_cell cd_l_cell ct_l_cell : Value} {f_l_cell : Addr}
    {od_l_whole an_l_whole : Option Addr} {sl_l_whole : Array (Option Value)} {oc_l_whole kV_l_whole dc_l_whole pm_l_whole cd_l_whole ct_l_whole : Value} {f_l_whole : Addr}
    {od_l_may an_l_may : Option Addr} {sl_l_may : Array (Option Value)} {oc_l_may kV_l_may dc_l_may pm_l_may cd_l_may ct_l_may : Value} {f_l_may : Addr}
    {od_l_draws an_l_draws : Option Addr} {sl_l_draws : Array (Option Value)} {oc_l_draws kV_l_draws dc_l_draws pm_l_draws cd_l_draws ct_l_draws : Value} {f_l_draws : Addr}
    {od_l_taking an_l_taking : Option Addr} {sl_l_taking : Array (Option Value)} {oc_l_taking kV_l_taking dc_l_taking pm_l_taking cd_l_taking ct_l_taking : Value} {f_l_taking : Addr}
    {od_l_book an_l_book : Option Addr} {sl_l_book : Array (Option Value)} {oc_l_book kV_l_book dc_l_book pm_l_book cd_l_book ct_l_book : Value} {f_l_book : Addr}
    {od_l_spread an_l_spread : Option Addr} {sl_l_spread : Array (Option Value)} {oc_l_spread kV_l_spread dc_l_spread pm_l_spread cd_l_spread ct_l_spread : Value} {f_l_spread : Addr}
    {od_l_hall an_l_hall : Option Addr} {sl_l_hall : Array (Option Value)} {oc_l_hall kV_l_hall dc_l_hall pm_l_hall cd_l_hall ct_l_hall : Value} {f_l_hall : Addr}
    {od_l_picks an_l_picks : Option Addr} {sl_l_picks : Array (Option Value)} {oc_l_picks kV_l_picks dc_l_picks pm_l_picks cd_l_picks ct_l_picks : Value} {f_l_picks : Addr}
    {od_l_acted an_l_acted : Option Addr} {sl_l_acted : Array (Option Value)} {oc_l_acted kV_l_acted dc_l_acted pm_l_acted cd_l_acted ct_l_acted : Value} {f_l_acted : Addr}
    {od_l_acts an_l_acts : Option Addr} {sl_l_acts : Array (Option Value)} {oc_l_acts kV_l_acts dc_l_acts pm_l_acts cd_l_acts ct_l_acts : Value} {f_l_acts : Addr}
    {od_l_same an_l_same : Option Addr} {sl_l_same : Array (Option Value)} {oc_l_same kV_l_same dc_l_same pm_l_same cd_l_same ct_l_same : Value} {f_l_same : Addr}
    {od_l_row_told an_l_row_told : Option Addr} {sl_l_row_told : Array (Option Value)} {oc_l_row_told kV_l_row_told dc_l_row_told pm_l_row_told cd_l_row_told ct_l_row_told : Value} {f_l_row_told : Addr}
    {od_l_went an_l_went : Option Addr} {sl_l_went : Array (Option Value)} {oc_l_went kV_l_went dc_l_went pm_l_went cd_l_went ct_l_went : Value} {f_l_went : Addr}
    {od_l_counts an_l_counts : Option Addr} {sl_l_counts : Array (Option Value)} {oc_l_counts kV_l_counts dc_l_counts pm_l_counts cd_l_counts ct_l_counts : Value} {f_l_counts : Addr}
    {od_l_drawn an_l_drawn : Option Addr} {sl_l_drawn : Array (Option Value)} {oc_l_drawn kV_l_drawn dc_l_drawn pm_l_drawn cd_l_drawn ct_l_drawn : Value} {f_l_drawn : Addr}
    {od_l_bounded an_l_bounded : Option Addr} {sl_l_bounded : Array (Option Value)} {oc_l_bounded kV_l_bounded dc_l_bounded pm_l_bounded cd_l_bounded ct_l_bounded : Value} {f_l_bounded : Addr}
    {od_l_stricter an_l_stricter : Option Addr} {sl_l_stricter : Array (Option Value)} {oc_l_stricter kV_l_stricter dc_l_stricter pm_l_stricter cd_l_stricter ct_l_stricter : Value} {f_l_stricter : Addr}
    {od_l_round an_l_round : Option Addr} {sl_l_round : Array (Option Value)} {oc_l_round kV_l_round dc_l_round pm_l_round cd_l_round ct_l_round : Value} {f_l_round : Addr}
    {od_law an_law : Option Addr} {sl_law : Array (Option Value)} {oc_law kV_law dc_law pm_law cd_law ct_law : Value} {f_law : Addr}
    {tmq tmt tr1 tr2 tr3 : Nat} {rla : Addr} {odr : Option Addr} {its : Array Value} {nr : Nat} {slr : Array (Option Value)}
    (x_Taking : PySem.W.nsIn K mainGlobals "Taking" = some (some (.ref CT)))
    (pg_Taking : PySem.W.plainGet K CT Str.empty = true)
    (hd_Taking : PySem.W.hasDictIn K CT = true)
    (po_Taking : PySem.W.plainOver K CT = true)
    (sa_Taking : PySem.W.findIn K (.ref CT) "__setattr__" = some (some (.builtin "object.__setattr__")))
    (mk_Taking : PySem.W.makesIn K CT = true)
    (kc_Taking : PySem.W.keepIn K (.ref CT) = true)
    (x_Hall : PySem.W.nsIn K mainGlobals "Hall" = some (some (.ref CH)))
    (pg_Hall : PySem.W.plainGet K CH Str.empty = true)
    (hd_Hall : PySem.W.hasDictIn K CH = true)
    (po_Hall : PySem.W.plainOver K CH = true)
    (sa_Hall : PySem.W.findIn K (.ref CH) "__setattr__" = some (some (.builtin "object.__setattr__")))
    (mk_Hall : PySem.W.makesIn K CH = true)
    (kc_Hall : PySem.W.keepIn K (.ref CH) = true)
    (x_WastedActs : PySem.W.nsIn K mainGlobals "WastedActs" = some (some (.ref CW)))
    (pg_WastedActs : PySem.W.plainGet K CW Str.empty = true)
    (hd_WastedActs : PySem.W.hasDictIn K CW = true)
    (po_WastedActs : PySem.W.plainOver K CW = true)
    (sa_WastedActs : PySem.W.findIn K (.ref CW) "__setattr__" = some (some (.builtin "object.__setattr__")))
    (mk_WastedActs : PySem.W.makesIn K CW = true)
    (kc_WastedActs : PySem.W.keepIn K (.ref CW) = true)
    (x_PassingActs : PySem.W.nsIn K mainGlobals "PassingActs" = some (some (.ref CP)))
    (pg_PassingActs : PySem.W.plainGet K CP Str.empty = true)
    (hd_PassingActs : PySem.W.hasDictIn K CP = true)
    (po_PassingActs : PySem.W.plainOver K CP = true)
    (sa_PassingActs : PySem.W.findIn K (.ref CP) "__setattr__" = some (some (.builtin "object.__setattr__")))
    (mk_PassingActs : PySem.W.makesIn K CP = true)
    (kc_PassingActs : PySem.W.keepIn K (.ref CP) = true)
    (x_Settled : PySem.W.nsIn K mainGlobals "Settled" = some (some (.ref CS)))
    (pg_Settled : PySem.W.plainGet K CS Str.empty = true)
    (hd_Settled : PySem.W.hasDictIn K CS = true)
    (po_Settled : PySem.W.plainOver K CS = true)
    (sa_Settled : PySem.W.findIn K (.ref CS) "__setattr__" = some (some (.builtin "object.__setattr__")))
    (mk_Settled : PySem.W.makesIn K CS = true)
    (kc_Settled : PySem.W.keepIn K (.ref CS) = true)
    (n_Taking_least : PySem.W.findIn K (.ref CT) "least" = some none)
    (n_Taking_rules : PySem.W.findIn K (.ref CT) "rules" = some none)
    (n_Hall_queues : PySem.W.findIn K (.ref CH) "queues" = some none)
    (n_Hall_taking : PySem.W.findIn K (.ref CH) "taking" = some none)
    (n_WastedActs_hall : PySem.W.findIn K (.ref CW) "hall" = some none)
    (n_PassingActs_hall : PySem.W.findIn K (.ref CP) "hall" = some none)
    (n_PassingActs_task : PySem.W.findIn K (.ref CP) "task" = some none)
    (n_Settled_numbers : PySem.W.findIn K (.ref CS) "numbers" = some none)
    (n_Settled_lead : PySem.W.findIn K (.ref CS) "lead" = some none)
    (n_Settled_loop : PySem.W.findIn K (.ref CS) "loop" = some none)
    (a_way_to : PySem.W.nsIn K mainGlobals "way_to" = some (some (.ref f_way_to)))
    (l_way_to : K.lookup f_way_to = some ⟨oc_way_to, od_way_to, .func (PySem.W.fnOf "way_to" "way_to" (defArgs s_way_to) (defBody s_way_to) (defScope s_way_to) .none kV_way_to dc_way_to pm_way_to an_way_to cd_way_to ct_way_to), sl_way_to⟩)
    (c_way_to : PySem.W.codeIn K cd_way_to "way_to" = true)
    (k_way_to : PySem.W.keepIn K (.ref f_way_to) = true)
    (a_reach : PySem.W.nsIn K mainGlobals "reach" = some (some (.ref f_reach)))
    (l_reach : K.lookup f_reach = some ⟨oc_reach, od_reach, .func (PySem.W.fnOf "reach" "reach" (defArgs s_reach) (defBody s_reach) (defScope s_reach) .none kV_reach dc_reach pm_reach an_reach cd_reach ct_reach), sl_reach⟩)
    (c_reach : PySem.W.codeIn K cd_reach "reach" = true)
    (k_reach : PySem.W.keepIn K (.ref f_reach) = true)
    (a_leaving_order : PySem.W.nsIn K mainGlobals "leaving_order" = some (some (.ref f_leaving_order)))
    (l_leaving_order : K.lookup f_leaving_order = some ⟨oc_leaving_order, od_leaving_order, .func (PySem.W.fnOf "leaving_order" "leaving_order" (defArgs s_leaving_order) (defBody s_leaving_order) (defScope s_leaving_order) .none kV_leaving_order dc_leaving_order pm_leaving_order an_leaving_order cd_leaving_order ct_leaving_order), sl_leaving_order⟩)
    (c_leaving_order : PySem.W.codeIn K cd_leaving_order "leaving_order" = true)
    (k_leaving_order : PySem.W.keepIn K (.ref f_leaving_order) = true)
    (a_components : PySem.W.nsIn K mainGlobals "components" = some (some (.ref f_components)))
    (l_components : K.lookup f_components = some ⟨oc_components, od_components, .func (PySem.W.fnOf "components" "components" (defArgs s_components) (defBody s_components) (defScope s_components) .none kV_components dc_components pm_components an_components cd_components ct_components), sl_components⟩)
    (c_components : PySem.W.codeIn K cd_components "components" = true)
    (k_components : PySem.W.keepIn K (.ref f_components) = true)
    (a_way_within : PySem.W.nsIn K mainGlobals "way_within" = some (some (.ref f_way_within)))
    (l_way_within : K.lookup f_way_within = some ⟨oc_way_within, od_way_within, .func (PySem.W.fnOf "way_within" "way_within" (defArgs s_way_within) (defBody s_way_within) (defScope s_way_within) .none kV_way_within dc_way_within pm_way_within an_way_within cd_way_within ct_way_within), sl_way_within⟩)
    (c_way_within : PySem.W.codeIn K cd_way_within "way_within" = true)
    (k_way_within : PySem.W.keepIn K (.ref f_way_within) = true)
    (a_heaviest : PySem.W.nsIn K mainGlobals "heaviest" = some (some (.ref f_heaviest)))
    (l_heaviest : K.lookup f_heaviest = some ⟨oc_heaviest, od_heaviest, .func (PySem.W.fnOf "heaviest" "heaviest" (defArgs s_heaviest) (defBody s_heaviest) (defScope s_heaviest) .none kV_heaviest dc_heaviest pm_heaviest an_heaviest cd_heaviest ct_heaviest), sl_heaviest⟩)
    (c_heaviest : PySem.W.codeIn K cd_heaviest "heaviest" = true)
    (k_heaviest : PySem.W.keepIn K (.ref f_heaviest) = true)
    (a_Taking_lets : PySem.W.findIn K (.ref CT) "lets" = some (some (.ref f_Taking_lets)))
    (i_Taking_lets : PySem.W.isFn K (.ref f_Taking_lets) = true)
    (l_Taking_lets : K.lookup f_Taking_lets = some ⟨oc_Taking_lets, od_Taking_lets, .func (PySem.W.fnOf "lets" "Taking.lets" (defArgs s_Taking_lets) (defBody s_Taking_lets) (defScope s_Taking_lets) .none kV_Taking_lets dc_Taking_lets pm_Taking_lets an_Taking_lets cd_Taking_lets ct_Taking_lets), sl_Taking_lets⟩)
    (c_Taking_lets : PySem.W.codeIn K cd_Taking_lets "Taking.lets" = true)
    (k_Taking_lets : PySem.W.keepIn K (.ref f_Taking_lets) = true)
    (a_Hall_start : PySem.W.findIn K (.ref CH) "start" = some (some (.ref f_Hall_start)))
    (i_Hall_start : PySem.W.isFn K (.ref f_Hall_start) = true)
    (l_Hall_start : K.lookup f_Hall_start = some ⟨oc_Hall_start, od_Hall_start, .func (PySem.W.fnOf "start" "Hall.start" (defArgs s_Hall_start) (defBody s_Hall_start) (defScope s_Hall_start) .none kV_Hall_start dc_Hall_start pm_Hall_start an_Hall_start cd_Hall_start ct_Hall_start), sl_Hall_start⟩)
    (c_Hall_start : PySem.W.codeIn K cd_Hall_start "Hall.start" = true)
    (k_Hall_start : PySem.W.keepIn K (.ref f_Hall_start) = true)
    (a_Hall_picks : PySem.W.findIn K (.ref CH) "picks" = some (some (.ref f_Hall_picks)))
    (i_Hall_picks : PySem.W.isFn K (.ref f_Hall_picks) = true)
    (l_Hall_picks : K.lookup f_Hall_picks = some ⟨oc_Hall_picks, od_Hall_picks, .func (PySem.W.fnOf "picks" "Hall.picks" (defArgs s_Hall_picks) (defBody s_Hall_picks) (defScope s_Hall_picks) .none kV_Hall_picks dc_Hall_picks pm_Hall_picks an_Hall_picks cd_Hall_picks ct_Hall_picks), sl_Hall_picks⟩)
    (c_Hall_picks : PySem.W.codeIn K cd_Hall_picks "Hall.picks" = true)
    (k_Hall_picks : PySem.W.keepIn K (.ref f_Hall_picks) = true)
    (a_Hall_take : PySem.W.findIn K (.ref CH) "take" = some (some (.ref f_Hall_take)))
    (i_Hall_take : PySem.W.isFn K (.ref f_Hall_take) = true)
    (l_Hall_take : K.lookup f_Hall_take = some ⟨oc_Hall_take, od_Hall_take, .func (PySem.W.fnOf "take" "Hall.take" (defArgs s_Hall_take) (defBody s_Hall_take) (defScope s_Hall_take) .none kV_Hall_take dc_Hall_take pm_Hall_take an_Hall_take cd_Hall_take ct_Hall_take), sl_Hall_take⟩)
    (c_Hall_take : PySem.W.codeIn K cd_Hall_take "Hall.take" = true)
    (k_Hall_take : PySem.W.keepIn K (.ref f_Hall_take) = true)
    (a_Hall_acted : PySem.W.findIn K (.ref CH) "acted" = some (some (.ref f_Hall_acted)))
    (i_Hall_acted : PySem.W.isFn K (.ref f_Hall_acted) = true)
    (l_Hall_acted : K.lookup f_Hall_acted = some ⟨oc_Hall_acted, od_Hall_acted, .func (PySem.W.fnOf "acted" "Hall.acted" (defArgs s_Hall_acted) (defBody s_Hall_acted) (defScope s_Hall_acted) .none kV_Hall_acted dc_Hall_acted pm_Hall_acted an_Hall_acted cd_Hall_acted ct_Hall_acted), sl_Hall_acted⟩)
    (c_Hall_acted : PySem.W.codeIn K cd_Hall_acted "Hall.acted" = true)
    (k_Hall_acted : PySem.W.keepIn K (.ref f_Hall_acted) = true)
    (a_Hall_acts : PySem.W.findIn K (.ref CH) "acts" = some (some (.ref f_Hall_acts)))
    (i_Hall_acts : PySem.W.isFn K (.ref f_Hall_acts) = true)
    (l_Hall_acts : K.lookup f_Hall_acts = some ⟨oc_Hall_acts, od_Hall_acts, .func (PySem.W.fnOf "acts" "Hall.acts" (defArgs s_Hall_acts) (defBody s_Hall_acts) (defScope s_Hall_acts) .none kV_Hall_acts dc_Hall_acts pm_Hall_acts an_Hall_acts cd_Hall_acts ct_Hall_acts), sl_Hall_acts⟩)
    (c_Hall_acts : PySem.W.codeIn K cd_Hall_acts "Hall.acts" = true)
    (k_Hall_acts : PySem.W.keepIn K (.ref f_Hall_acts) = true)
    (a_Hall_play : PySem.W.findIn K (.ref CH) "play" = some (some (.ref f_Hall_play)))
    (i_Hall_play : PySem.W.isFn K (.ref f_Hall_play) = true)
    (l_Hall_play : K.lookup f_Hall_play = some ⟨oc_Hall_play, od_Hall_play, .func (PySem.W.fnOf "play" "Hall.play" (defArgs s_Hall_play) (defBody s_Hall_play) (defScope s_Hall_play) .none kV_Hall_play dc_Hall_play pm_Hall_play an_Hall_play cd_Hall_play ct_Hall_play), sl_Hall_play⟩)
    (c_Hall_play : PySem.W.codeIn K cd_Hall_play "Hall.play" = true)
    (k_Hall_play : PySem.W.keepIn K (.ref f_Hall_play) = true)
    (a_Settled_init : PySem.W.findIn K (.ref CS) "__init__" = some (some (.ref f_Settled_init)))
    (i_Settled_init : PySem.W.isFn K (.ref f_Settled_init) = true)
    (l_Settled_init : K.lookup f_Settled_init = some ⟨oc_Settled_init, od_Settled_init, .func (PySem.W.fnOf "__init__" "Settled.__init__" (defArgs s_Settled_init) (defBody s_Settled_init) (defScope s_Settled_init) .none kV_Settled_init dc_Settled_init pm_Settled_init an_Settled_init cd_Settled_init ct_Settled_init), sl_Settled_init⟩)
    (c_Settled_init : PySem.W.codeIn K cd_Settled_init "Settled.__init__" = true)
    (k_Settled_init : PySem.W.keepIn K (.ref f_Settled_init) = true)
    (a_WastedActs_init : PySem.W.findIn K (.ref CW) "__init__" = some (some (.ref f_WastedActs_init)))
    (i_WastedActs_init : PySem.W.isFn K (.ref f_WastedActs_init) = true)
    (l_WastedActs_init : K.lookup f_WastedActs_init = some ⟨oc_WastedActs_init, od_WastedActs_init, .func (PySem.W.fnOf "__init__" "WastedActs.__init__" (defArgs s_WastedActs_init) (defBody s_WastedActs_init) (defScope s_WastedActs_init) .none kV_WastedActs_init dc_WastedActs_init pm_WastedActs_init an_WastedActs_init cd_WastedActs_init ct_WastedActs_init), sl_WastedActs_init⟩)
    (c_WastedActs_init : PySem.W.codeIn K cd_WastedActs_init "WastedActs.__init__" = true)
    (k_WastedActs_init : PySem.W.keepIn K (.ref f_WastedActs_init) = true)
    (a_PassingActs_init : PySem.W.findIn K (.ref CP) "__init__" = some (some (.ref f_PassingActs_init)))
    (i_PassingActs_init : PySem.W.isFn K (.ref f_PassingActs_init) = true)
    (l_PassingActs_init : K.lookup f_PassingActs_init = some ⟨oc_PassingActs_init, od_PassingActs_init, .func (PySem.W.fnOf "__init__" "PassingActs.__init__" (defArgs s_PassingActs_init) (defBody s_PassingActs_init) (defScope s_PassingActs_init) .none kV_PassingActs_init dc_PassingActs_init pm_PassingActs_init an_PassingActs_init cd_PassingActs_init ct_PassingActs_init), sl_PassingActs_init⟩)
    (c_PassingActs_init : PySem.W.codeIn K cd_PassingActs_init "PassingActs.__init__" = true)
    (k_PassingActs_init : PySem.W.keepIn K (.ref f_PassingActs_init) = true)
    (a_WastedActs_first_nodes : PySem.W.findIn K (.ref CW) "first_nodes" = some (some (.ref f_WastedActs_first_nodes)))
    (i_WastedActs_first_nodes : PySem.W.isFn K (.ref f_WastedActs_first_nodes) = true)
    (l_WastedActs_first_nodes : K.lookup f_WastedActs_first_nodes = some ⟨oc_WastedActs_first_nodes, od_WastedActs_first_nodes, .func (PySem.W.fnOf "first_nodes" "WastedActs.first_nodes" (defArgs s_WastedActs_first_nodes) (defBody s_WastedActs_first_nodes) (defScope s_WastedActs_first_nodes) .none kV_WastedActs_first_nodes dc_WastedActs_first_nodes pm_WastedActs_first_nodes an_WastedActs_first_nodes cd_WastedActs_first_nodes ct_WastedActs_first_nodes), sl_WastedActs_first_nodes⟩)
    (c_WastedActs_first_nodes : PySem.W.codeIn K cd_WastedActs_first_nodes "WastedActs.first_nodes" = true)
    (k_WastedActs_first_nodes : PySem.W.keepIn K (.ref f_WastedActs_first_nodes) = true)
    (a_PassingActs_first_nodes : PySem.W.findIn K (.ref CP) "first_nodes" = some (some (.ref f_PassingActs_first_nodes)))
    (i_PassingActs_first_nodes : PySem.W.isFn K (.ref f_PassingActs_first_nodes) = true)
    (l_PassingActs_first_nodes : K.lookup f_PassingActs_first_nodes = some ⟨oc_PassingActs_first_nodes, od_PassingActs_first_nodes, .func (PySem.W.fnOf "first_nodes" "PassingActs.first_nodes" (defArgs s_PassingActs_first_nodes) (defBody s_PassingActs_first_nodes) (defScope s_PassingActs_first_nodes) .none kV_PassingActs_first_nodes dc_PassingActs_first_nodes pm_PassingActs_first_nodes an_PassingActs_first_nodes cd_PassingActs_first_nodes ct_PassingActs_first_nodes), sl_PassingActs_first_nodes⟩)
    (c_PassingActs_first_nodes : PySem.W.codeIn K cd_PassingActs_first_nodes "PassingActs.first_nodes" = true)
    (k_PassingActs_first_nodes : PySem.W.keepIn K (.ref f_PassingActs_first_nodes) = true)
    (a_WastedActs_ways_on : PySem.W.findIn K (.ref CW) "ways_on" = some (some (.ref f_WastedActs_ways_on)))
    (i_WastedActs_ways_on : PySem.W.isFn K (.ref f_WastedActs_ways_on) = true)
    (l_WastedActs_ways_on : K.lookup f_WastedActs_ways_on = some ⟨oc_WastedActs_ways_on, od_WastedActs_ways_on, .func (PySem.W.fnOf "ways_on" "WastedActs.ways_on" (defArgs s_WastedActs_ways_on) (defBody s_WastedActs_ways_on) (defScope s_WastedActs_ways_on) .none kV_WastedActs_ways_on dc_WastedActs_ways_on pm_WastedActs_ways_on an_WastedActs_ways_on cd_WastedActs_ways_on ct_WastedActs_ways_on), sl_WastedActs_ways_on⟩)
    (c_WastedActs_ways_on : PySem.W.codeIn K cd_WastedActs_ways_on "WastedActs.ways_on" = true)
    (k_WastedActs_ways_on : PySem.W.keepIn K (.ref f_WastedActs_ways_on) = true)
    (a_PassingActs_ways_on : PySem.W.findIn K (.ref CP) "ways_on" = some (some (.ref f_PassingActs_ways_on)))
    (i_PassingActs_ways_on : PySem.W.isFn K (.ref f_PassingActs_ways_on) = true)
    (l_PassingActs_ways_on : K.lookup f_PassingActs_ways_on = some ⟨oc_PassingActs_ways_on, od_PassingActs_ways_on, .func (PySem.W.fnOf "ways_on" "PassingActs.ways_on" (defArgs s_PassingActs_ways_on) (defBody s_PassingActs_ways_on) (defScope s_PassingActs_ways_on) .none kV_PassingActs_ways_on dc_PassingActs_ways_on pm_PassingActs_ways_on an_PassingActs_ways_on cd_PassingActs_ways_on ct_PassingActs_ways_on), sl_PassingActs_ways_on⟩)
    (c_PassingActs_ways_on : PySem.W.codeIn K cd_PassingActs_ways_on "PassingActs.ways_on" = true)
    (k_PassingActs_ways_on : PySem.W.keepIn K (.ref f_PassingActs_ways_on) = true)
    (a_settle : PySem.W.nsIn K mainGlobals "settle" = some (some (.ref f_settle)))
    (l_settle : K.lookup f_settle = some ⟨oc_settle, od_settle, .func (PySem.W.fnOf "settle" "settle" (defArgs s_settle) (defBody s_settle) (defScope s_settle) .none kV_settle dc_settle pm_settle an_settle cd_settle ct_settle), sl_settle⟩)
    (c_settle : PySem.W.codeIn K cd_settle "settle" = true)
    (k_settle : PySem.W.keepIn K (.ref f_settle) = true)
    (a_serve : PySem.W.nsIn K mainGlobals "serve" = some (some (.ref f_serve)))
    (l_serve : K.lookup f_serve = some ⟨oc_serve, od_serve, .func (PySem.W.fnOf "serve" "serve" (defArgs s_serve) (defBody s_serve) (defScope s_serve) .none kV_serve dc_serve pm_serve an_serve cd_serve ct_serve), sl_serve⟩)
    (c_serve : PySem.W.codeIn K cd_serve "serve" = true)
    (k_serve : PySem.W.keepIn K (.ref f_serve) = true)
    (a_Taking_init : PySem.W.findIn K (.ref CT) "__init__" = some (some (.ref f_Taking_init)))
    (i_Taking_init : PySem.W.isFn K (.ref f_Taking_init) = true)
    (l_Taking_init : K.lookup f_Taking_init = some ⟨oc_Taking_init, od_Taking_init, .func (PySem.W.fnOf "__init__" "Taking.__init__" (defArgs s_Taking_init) (defBody s_Taking_init) (defScope s_Taking_init) .none kV_Taking_init dc_Taking_init pm_Taking_init an_Taking_init cd_Taking_init ct_Taking_init), sl_Taking_init⟩)
    (c_Taking_init : PySem.W.codeIn K cd_Taking_init "Taking.__init__" = true)
    (k_Taking_init : PySem.W.keepIn K (.ref f_Taking_init) = true)
    (a_Hall_init : PySem.W.findIn K (.ref CH) "__init__" = some (some (.ref f_Hall_init)))
    (i_Hall_init : PySem.W.isFn K (.ref f_Hall_init) = true)
    (l_Hall_init : K.lookup f_Hall_init = some ⟨oc_Hall_init, od_Hall_init, .func (PySem.W.fnOf "__init__" "Hall.__init__" (defArgs s_Hall_init) (defBody s_Hall_init) (defScope s_Hall_init) .none kV_Hall_init dc_Hall_init pm_Hall_init an_Hall_init cd_Hall_init ct_Hall_init), sl_Hall_init⟩)
    (c_Hall_init : PySem.W.codeIn K cd_Hall_init "Hall.__init__" = true)
    (k_Hall_init : PySem.W.keepIn K (.ref f_Hall_init) = true)
    (a_Settled_bool : PySem.W.findIn K (.ref CS) "__bool__" = some (some (.ref f_Settled_bool)))
    (i_Settled_bool : PySem.W.isFn K (.ref f_Settled_bool) = true)
    (l_Settled_bool : K.lookup f_Settled_bool = some ⟨oc_Settled_bool, od_Settled_bool, .func (PySem.W.fnOf "__bool__" "Settled.__bool__" (defArgs s_Settled_bool) (defBody s_Settled_bool) (defScope s_Settled_bool) .none kV_Settled_bool dc_Settled_bool pm_Settled_bool an_Settled_bool cd_Settled_bool ct_Settled_bool), sl_Settled_bool⟩)
    (c_Settled_bool : PySem.W.codeIn K cd_Settled_bool "Settled.__bool__" = true)
    (k_Settled_bool : PySem.W.keepIn K (.ref f_Settled_bool) = true)
    (a_l_cell : PySem.W.nsIn K mainGlobals "_law_cell" = some (some (.ref f_l_cell)))
    (l_l_cell : K.lookup f_l_cell = some ⟨oc_l_cell, od_l_cell, .func (PySem.W.fnOf "_law_cell" "_law_cell" (defArgs s_l_cell) (defBody s_l_cell) (defScope s_l_cell) .none kV_l_cell dc_l_cell pm_l_cell an_l_cell cd_l_cell ct_l_cell), sl_l_cell⟩)
    (c_l_cell : PySem.W.codeIn K cd_l_cell "_law_cell" = true)
    (k_l_cell : PySem.W.keepIn K (.ref f_l_cell) = true)
    (a_l_whole : PySem.W.nsIn K mainGlobals "_law_whole" = some (some (.ref f_l_whole)))
    (l_l_whole : K.lookup f_l_whole = some ⟨oc_l_whole, od_l_whole, .func (PySem.W.fnOf "_law_whole" "_law_whole" (defArgs s_l_whole) (defBody s_l_whole) (defScope s_l_whole) .none kV_l_whole dc_l_whole pm_l_whole an_l_whole cd_l_whole ct_l_whole), sl_l_whole⟩)
    (c_l_whole : PySem.W.codeIn K cd_l_whole "_law_whole" = true)
    (k_l_whole : PySem.W.keepIn K (.ref f_l_whole) = true)
    (a_l_may : PySem.W.nsIn K mainGlobals "_law_may" = some (some (.ref f_l_may)))
    (l_l_may : K.lookup f_l_may = some ⟨oc_l_may, od_l_may, .func (PySem.W.fnOf "_law_may" "_law_may" (defArgs s_l_may) (defBody s_l_may) (defScope s_l_may) .none kV_l_may dc_l_may pm_l_may an_l_may cd_l_may ct_l_may), sl_l_may⟩)
    (c_l_may : PySem.W.codeIn K cd_l_may "_law_may" = true)
    (k_l_may : PySem.W.keepIn K (.ref f_l_may) = true)
    (a_l_draws : PySem.W.nsIn K mainGlobals "_law_draws" = some (some (.ref f_l_draws)))
    (l_l_draws : K.lookup f_l_draws = some ⟨oc_l_draws, od_l_draws, .func (PySem.W.fnOf "_law_draws" "_law_draws" (defArgs s_l_draws) (defBody s_l_draws) (defScope s_l_draws) .none kV_l_draws dc_l_draws pm_l_draws an_l_draws cd_l_draws ct_l_draws), sl_l_draws⟩)
    (c_l_draws : PySem.W.codeIn K cd_l_draws "_law_draws" = true)
    (k_l_draws : PySem.W.keepIn K (.ref f_l_draws) = true)
    (a_l_taking : PySem.W.nsIn K mainGlobals "_law_taking" = some (some (.ref f_l_taking)))
    (l_l_taking : K.lookup f_l_taking = some ⟨oc_l_taking, od_l_taking, .func (PySem.W.fnOf "_law_taking" "_law_taking" (defArgs s_l_taking) (defBody s_l_taking) (defScope s_l_taking) .none kV_l_taking dc_l_taking pm_l_taking an_l_taking cd_l_taking ct_l_taking), sl_l_taking⟩)
    (c_l_taking : PySem.W.codeIn K cd_l_taking "_law_taking" = true)
    (k_l_taking : PySem.W.keepIn K (.ref f_l_taking) = true)
    (a_l_book : PySem.W.nsIn K mainGlobals "_law_book" = some (some (.ref f_l_book)))
    (l_l_book : K.lookup f_l_book = some ⟨oc_l_book, od_l_book, .func (PySem.W.fnOf "_law_book" "_law_book" (defArgs s_l_book) (defBody s_l_book) (defScope s_l_book) .none kV_l_book dc_l_book pm_l_book an_l_book cd_l_book ct_l_book), sl_l_book⟩)
    (c_l_book : PySem.W.codeIn K cd_l_book "_law_book" = true)
    (k_l_book : PySem.W.keepIn K (.ref f_l_book) = true)
    (a_l_spread : PySem.W.nsIn K mainGlobals "_law_spread" = some (some (.ref f_l_spread)))
    (l_l_spread : K.lookup f_l_spread = some ⟨oc_l_spread, od_l_spread, .func (PySem.W.fnOf "_law_spread" "_law_spread" (defArgs s_l_spread) (defBody s_l_spread) (defScope s_l_spread) .none kV_l_spread dc_l_spread pm_l_spread an_l_spread cd_l_spread ct_l_spread), sl_l_spread⟩)
    (c_l_spread : PySem.W.codeIn K cd_l_spread "_law_spread" = true)
    (k_l_spread : PySem.W.keepIn K (.ref f_l_spread) = true)
    (a_l_hall : PySem.W.nsIn K mainGlobals "_law_hall" = some (some (.ref f_l_hall)))
    (l_l_hall : K.lookup f_l_hall = some ⟨oc_l_hall, od_l_hall, .func (PySem.W.fnOf "_law_hall" "_law_hall" (defArgs s_l_hall) (defBody s_l_hall) (defScope s_l_hall) .none kV_l_hall dc_l_hall pm_l_hall an_l_hall cd_l_hall ct_l_hall), sl_l_hall⟩)
    (c_l_hall : PySem.W.codeIn K cd_l_hall "_law_hall" = true)
    (k_l_hall : PySem.W.keepIn K (.ref f_l_hall) = true)
    (a_l_picks : PySem.W.nsIn K mainGlobals "_law_picks" = some (some (.ref f_l_picks)))
    (l_l_picks : K.lookup f_l_picks = some ⟨oc_l_picks, od_l_picks, .func (PySem.W.fnOf "_law_picks" "_law_picks" (defArgs s_l_picks) (defBody s_l_picks) (defScope s_l_picks) .none kV_l_picks dc_l_picks pm_l_picks an_l_picks cd_l_picks ct_l_picks), sl_l_picks⟩)
    (c_l_picks : PySem.W.codeIn K cd_l_picks "_law_picks" = true)
    (k_l_picks : PySem.W.keepIn K (.ref f_l_picks) = true)
    (a_l_acted : PySem.W.nsIn K mainGlobals "_law_acted" = some (some (.ref f_l_acted)))
    (l_l_acted : K.lookup f_l_acted = some ⟨oc_l_acted, od_l_acted, .func (PySem.W.fnOf "_law_acted" "_law_acted" (defArgs s_l_acted) (defBody s_l_acted) (defScope s_l_acted) .none kV_l_acted dc_l_acted pm_l_acted an_l_acted cd_l_acted ct_l_acted), sl_l_acted⟩)
    (c_l_acted : PySem.W.codeIn K cd_l_acted "_law_acted" = true)
    (k_l_acted : PySem.W.keepIn K (.ref f_l_acted) = true)
    (a_l_acts : PySem.W.nsIn K mainGlobals "_law_acts" = some (some (.ref f_l_acts)))
    (l_l_acts : K.lookup f_l_acts = some ⟨oc_l_acts, od_l_acts, .func (PySem.W.fnOf "_law_acts" "_law_acts" (defArgs s_l_acts) (defBody s_l_acts) (defScope s_l_acts) .none kV_l_acts dc_l_acts pm_l_acts an_l_acts cd_l_acts ct_l_acts), sl_l_acts⟩)
    (c_l_acts : PySem.W.codeIn K cd_l_acts "_law_acts" = true)
    (k_l_acts : PySem.W.keepIn K (.ref f_l_acts) = true)
    (a_l_same : PySem.W.nsIn K mainGlobals "_law_same" = some (some (.ref f_l_same)))
    (l_l_same : K.lookup f_l_same = some ⟨oc_l_same, od_l_same, .func (PySem.W.fnOf "_law_same" "_law_same" (defArgs s_l_same) (defBody s_l_same) (defScope s_l_same) .none kV_l_same dc_l_same pm_l_same an_l_same cd_l_same ct_l_same), sl_l_same⟩)
    (c_l_same : PySem.W.codeIn K cd_l_same "_law_same" = true)
    (k_l_same : PySem.W.keepIn K (.ref f_l_same) = true)
    (a_l_row_told : PySem.W.nsIn K mainGlobals "_law_row_told" = some (some (.ref f_l_row_told)))
    (l_l_row_told : K.lookup f_l_row_told = some ⟨oc_l_row_told, od_l_row_told, .func (PySem.W.fnOf "_law_row_told" "_law_row_told" (defArgs s_l_row_told) (defBody s_l_row_told) (defScope s_l_row_told) .none kV_l_row_told dc_l_row_told pm_l_row_told an_l_row_told cd_l_row_told ct_l_row_told), sl_l_row_told⟩)
    (c_l_row_told : PySem.W.codeIn K cd_l_row_told "_law_row_told" = true)
    (k_l_row_told : PySem.W.keepIn K (.ref f_l_row_told) = true)
    (a_l_went : PySem.W.nsIn K mainGlobals "_law_went" = some (some (.ref f_l_went)))
    (l_l_went : K.lookup f_l_went = some ⟨oc_l_went, od_l_went, .func (PySem.W.fnOf "_law_went" "_law_went" (defArgs s_l_went) (defBody s_l_went) (defScope s_l_went) .none kV_l_went dc_l_went pm_l_went an_l_went cd_l_went ct_l_went), sl_l_went⟩)
    (c_l_went : PySem.W.codeIn K cd_l_went "_law_went" = true)
    (k_l_went : PySem.W.keepIn K (.ref f_l_went) = true)
    (a_l_counts : PySem.W.nsIn K mainGlobals "_law_counts" = some (some (.ref f_l_counts)))
    (l_l_counts : K.lookup f_l_counts = some ⟨oc_l_counts, od_l_counts, .func (PySem.W.fnOf "_law_counts" "_law_counts" (defArgs s_l_counts) (defBody s_l_counts) (defScope s_l_counts) .none kV_l_counts dc_l_counts pm_l_counts an_l_counts cd_l_counts ct_l_counts), sl_l_counts⟩)
    (c_l_counts : PySem.W.codeIn K cd_l_counts "_law_counts" = true)
    (k_l_counts : PySem.W.keepIn K (.ref f_l_counts) = true)
    (a_l_drawn : PySem.W.nsIn K mainGlobals "_law_drawn" = some (some (.ref f_l_drawn)))
    (l_l_drawn : K.lookup f_l_drawn = some ⟨oc_l_drawn, od_l_drawn, .func (PySem.W.fnOf "_law_drawn" "_law_drawn" (defArgs s_l_drawn) (defBody s_l_drawn) (defScope s_l_drawn) .none kV_l_drawn dc_l_drawn pm_l_drawn an_l_drawn cd_l_drawn ct_l_drawn), sl_l_drawn⟩)
    (c_l_drawn : PySem.W.codeIn K cd_l_drawn "_law_drawn" = true)
    (k_l_drawn : PySem.W.keepIn K (.ref f_l_drawn) = true)
    (a_l_bounded : PySem.W.nsIn K mainGlobals "_law_bounded" = some (some (.ref f_l_bounded)))
    (l_l_bounded : K.lookup f_l_bounded = some ⟨oc_l_bounded, od_l_bounded, .func (PySem.W.fnOf "_law_bounded" "_law_bounded" (defArgs s_l_bounded) (defBody s_l_bounded) (defScope s_l_bounded) .none kV_l_bounded dc_l_bounded pm_l_bounded an_l_bounded cd_l_bounded ct_l_bounded), sl_l_bounded⟩)
    (c_l_bounded : PySem.W.codeIn K cd_l_bounded "_law_bounded" = true)
    (k_l_bounded : PySem.W.keepIn K (.ref f_l_bounded) = true)
    (a_l_stricter : PySem.W.nsIn K mainGlobals "_law_stricter" = some (some (.ref f_l_stricter)))
    (l_l_stricter : K.lookup f_l_stricter = some ⟨oc_l_stricter, od_l_stricter, .func (PySem.W.fnOf "_law_stricter" "_law_stricter" (defArgs s_l_stricter) (defBody s_l_stricter) (defScope s_l_stricter) .none kV_l_stricter dc_l_stricter pm_l_stricter an_l_stricter cd_l_stricter ct_l_stricter), sl_l_stricter⟩)
    (c_l_stricter : PySem.W.codeIn K cd_l_stricter "_law_stricter" = true)
    (k_l_stricter : PySem.W.keepIn K (.ref f_l_stricter) = true)
    (a_l_round : PySem.W.nsIn K mainGlobals "_law_round" = some (some (.ref f_l_round)))
    (l_l_round : K.lookup f_l_round = some ⟨oc_l_round, od_l_round, .func (PySem.W.fnOf "_law_round" "_law_round" (defArgs s_l_round) (defBody s_l_round) (defScope s_l_round) .none kV_l_round dc_l_round pm_l_round an_l_round cd_l_round ct_l_round), sl_l_round⟩)
    (c_l_round : PySem.W.codeIn K cd_l_round "_law_round" = true)
    (k_l_round : PySem.W.keepIn K (.ref f_l_round) = true)
    (a_law : PySem.W.nsIn K mainGlobals "law" = some (some (.ref f_law)))
    (l_law : K.lookup f_law = some ⟨oc_law, od_law, .func (PySem.W.fnOf "law" "law" (defArgs s_law) (defBody s_law) (defScope s_law) .none kV_law dc_law pm_law an_law cd_law ct_law), sl_law⟩)
    (c_law : PySem.W.codeIn K cd_law "law" = true)
    (k_law : PySem.W.keepIn K (.ref f_law) = true)
    (z_len : PySem.W.nsIn K mainGlobals "len" = some none)
    (z_range : PySem.W.nsIn K mainGlobals "range" = some none)
    (z_enumerate : PySem.W.nsIn K mainGlobals "enumerate" = some none)
    (z_max : PySem.W.nsIn K mainGlobals "max" = some none)
    (z_sum : PySem.W.nsIn K mainGlobals "sum" = some none)
    (z_any : PySem.W.nsIn K mainGlobals "any" = some none)
    (z_all : PySem.W.nsIn K mainGlobals "all" = some none)
    (z_abs : PySem.W.nsIn K mainGlobals "abs" = some none)
    (z_int : PySem.W.nsIn K mainGlobals "int" = some none)
    (z_bool : PySem.W.nsIn K mainGlobals "bool" = some none)
    (z_list : PySem.W.nsIn K mainGlobals "list" = some none)
    (z_tuple : PySem.W.nsIn K mainGlobals "tuple" = some none)
    (z_sorted : PySem.W.nsIn K mainGlobals "sorted" = some none)
    (z_set : PySem.W.nsIn K mainGlobals "set" = some none)
    (z_isinstance : PySem.W.nsIn K mainGlobals "isinstance" = some none)
    (z_dict : PySem.W.nsIn K mainGlobals "dict" = some none)
    (q_mq : PySem.W.nsIn K mainGlobals "MOST_QUEUES" = some (some (.int 3 tmq)))
    (q_mt : PySem.W.nsIn K mainGlobals "MOST_TASKS" = some (some (.int 5 tmt)))
    (q_rl : PySem.W.nsIn K mainGlobals "RULES" = some (some (.ref rla)))
    (q_lr : K.lookup rla = some ⟨.type "tuple", odr, .seq its nr, slr⟩)
    (q_vr : its = #[.str "again" tr1, .str "any" tr2, .str "half" tr3]) :
    ∃ fd : FuncData, (∀ (s : Shared) (v : Value), BindsTo s fd ⟨[v], []⟩ [("_law_script", v)]) ∧ ∀ base : Heap, K.In base → base.Ns mainGlobals mg → FnOk l.prog w K mg base CX0 9 fa fd P_law (spLaw K) := by
  have e := hfa.symm.trans (PySem.W.mg_of X G a_law)
  cases e
  have T : Blt mg := ⟨PySem.W.mg_none_of X G z_len, PySem.W.mg_none_of X G z_range, PySem.W.mg_none_of X G z_enumerate, PySem.W.mg_none_of X G z_max, PySem.W.mg_none_of X G z_sum, PySem.W.mg_none_of X G z_any, PySem.W.mg_none_of X G z_all, PySem.W.mg_none_of X G z_abs, PySem.W.mg_none_of X G z_int, PySem.W.mg_none_of X G z_bool, PySem.W.mg_none_of X G z_list, PySem.W.mg_none_of X G z_tuple, PySem.W.mg_none_of X G z_sorted, PySem.W.mg_none_of X G z_set, PySem.W.mg_none_of X G z_isinstance, PySem.W.mg_none_of X G z_dict⟩
  have c_Taking : Cls K CT := ⟨pg_Taking, hd_Taking, po_Taking, sa_Taking⟩
  have c_Hall : Cls K CH := ⟨pg_Hall, hd_Hall, po_Hall, sa_Hall⟩
  have c_WastedActs : Cls K CW := ⟨pg_WastedActs, hd_WastedActs, po_WastedActs, sa_WastedActs⟩
  have c_PassingActs : Cls K CP := ⟨pg_PassingActs, hd_PassingActs, po_PassingActs, sa_PassingActs⟩
  have c_Settled : Cls K CS := ⟨pg_Settled, hd_Settled, po_Settled, sa_Settled⟩
  have cf : CF K CT CH := ⟨c_Taking, n_Taking_least, n_Taking_rules, c_Hall, n_Hall_queues, n_Hall_taking⟩
  have cg : CG K CW CP CS := ⟨c_WastedActs, n_WastedActs_hall, c_PassingActs, n_PassingActs_hall, n_PassingActs_task, c_Settled, n_Settled_numbers, n_Settled_lead, n_Settled_loop⟩
  have C : Con K mg := ⟨⟨tmq, PySem.W.mg_of X G q_mq⟩, ⟨tmt, PySem.W.mg_of X G q_mt⟩, rla, PySem.W.mg_of X G q_rl, fun H => .inr ⟨_, its, nr, q_lr, rfl, rfl, by rw [q_vr, sizeLine_eq]; show 3 ≤ 16777216; decide, by rw [q_vr]; exact .cons ⟨tr1, rfl⟩ (.cons ⟨tr2, rfl⟩ (.cons ⟨tr3, rfl⟩ .nil))⟩⟩
  have g_Taking := PySem.W.mg_of X G x_Taking
  have Mk_Taking : Mk K CT f_Taking_init := ⟨mk_Taking, a_Taking_init, i_Taking_init, kc_Taking⟩
  have g_Hall := PySem.W.mg_of X G x_Hall
  have Mk_Hall : Mk K CH f_Hall_init := ⟨mk_Hall, a_Hall_init, i_Hall_init, kc_Hall⟩
  have g_WastedActs := PySem.W.mg_of X G x_WastedActs
  have Mk_WastedActs : Mk K CW f_WastedActs_init := ⟨mk_WastedActs, a_WastedActs_init, i_WastedActs_init, kc_WastedActs⟩
  have g_PassingActs := PySem.W.mg_of X G x_PassingActs
  have Mk_PassingActs : Mk K CP f_PassingActs_init := ⟨mk_PassingActs, a_PassingActs_init, i_PassingActs_init, kc_PassingActs⟩
  have g_Settled := PySem.W.mg_of X G x_Settled
  have Mk_Settled : Mk K CS f_Settled_init := ⟨mk_Settled, a_Settled_init, i_Settled_init, kc_Settled⟩
  have F_way_to := fun_mk (st := s_way_to) l_way_to c_way_to k_way_to
  have b_way_to : Binds K _ P_way_to [] := F_way_to.binds (ps := P_way_to) fun _ _ _ _ _ _ us hl => match us, hl with | [_, _], _ => rfl
  have g_way_to := PySem.W.mg_of X G a_way_to
  have F_reach := fun_mk (st := s_reach) l_reach c_reach k_reach
  have b_reach : Binds K _ P_reach [] := F_reach.binds (ps := P_reach) fun _ _ _ _ _ _ us hl => match us, hl with | [_], _ => rfl
  have g_reach := PySem.W.mg_of X G a_reach
  have F_leaving_order := fun_mk (st := s_leaving_order) l_leaving_order c_leaving_order k_leaving_order
  have b_leaving_order : Binds K _ P_leaving_order [] := F_leaving_order.binds (ps := P_leaving_order) fun _ _ _ _ _ _ us hl => match us, hl with | [_, _], _ => rfl
  have g_leaving_order := PySem.W.mg_of X G a_leaving_order
  have F_components := fun_mk (st := s_components) l_components c_components k_components
  have b_components : Binds K _ P_components [] := F_components.binds (ps := P_components) fun _ _ _ _ _ _ us hl => match us, hl with | [_, _], _ => rfl
  have g_components := PySem.W.mg_of X G a_components
  have F_way_within := fun_mk (st := s_way_within) l_way_within c_way_within k_way_within
  have b_way_within : Binds K _ P_way_within [] := F_way_within.binds (ps := P_way_within) fun _ _ _ _ _ _ us hl => match us, hl with | [_, _, _, _], _ => rfl
  have g_way_within := PySem.W.mg_of X G a_way_within
  have F_heaviest := fun_mk (st := s_heaviest) l_heaviest c_heaviest k_heaviest
  have b_heaviest : Binds K _ P_heaviest [] := F_heaviest.binds (ps := P_heaviest) fun _ _ _ _ _ _ us hl => match us, hl with | [_], _ => rfl
  have g_heaviest := PySem.W.mg_of X G a_heaviest
  have F_Taking_lets := fun_mk (st := s_Taking_lets) l_Taking_lets c_Taking_lets k_Taking_lets
  have b_Taking_lets : Binds K _ P_Taking_lets [] := F_Taking_lets.binds (ps := P_Taking_lets) fun _ _ _ _ _ _ us hl => match us, hl with | [_, _, _], _ => rfl
  have m_Taking_lets : Meth K CT "lets" f_Taking_lets := ⟨a_Taking_lets, i_Taking_lets, k_Taking_lets⟩
  have F_Hall_start := fun_mk (st := s_Hall_start) l_Hall_start c_Hall_start k_Hall_start
  have b_Hall_start : Binds K _ P_Hall_start [] := F_Hall_start.binds (ps := P_Hall_start) fun _ _ _ _ _ _ us hl => match us, hl with | [_], _ => rfl
  have m_Hall_start : Meth K CH "start" f_Hall_start := ⟨a_Hall_start, i_Hall_start, k_Hall_start⟩
  have F_Hall_picks := fun_mk (st := s_Hall_picks) l_Hall_picks c_Hall_picks k_Hall_picks
  have b_Hall_picks : Binds K _ P_Hall_picks [] := F_Hall_picks.binds (ps := P_Hall_picks) fun _ _ _ _ _ _ us hl => match us, hl with | [_, _, _], _ => rfl
  have m_Hall_picks : Meth K CH "picks" f_Hall_picks := ⟨a_Hall_picks, i_Hall_picks, k_Hall_picks⟩
  have F_Hall_take := fun_mk (st := s_Hall_take) l_Hall_take c_Hall_take k_Hall_take
  have b_Hall_take : Binds K _ P_Hall_take [] := F_Hall_take.binds (ps := P_Hall_take) fun _ _ _ _ _ _ us hl => match us, hl with | [_, _, _, _], _ => rfl
  have m_Hall_take : Meth K CH "take" f_Hall_take := ⟨a_Hall_take, i_Hall_take, k_Hall_take⟩
  have F_Hall_acted := fun_mk (st := s_Hall_acted) l_Hall_acted c_Hall_acted k_Hall_acted
  have b_Hall_acted : Binds K _ P_Hall_acted [] := F_Hall_acted.binds (ps := P_Hall_acted) fun _ _ _ _ _ _ us hl => match us, hl with | [_, _, _, _], _ => rfl
  have m_Hall_acted : Meth K CH "acted" f_Hall_acted := ⟨a_Hall_acted, i_Hall_acted, k_Hall_acted⟩
  have F_Hall_acts := fun_mk (st := s_Hall_acts) l_Hall_acts c_Hall_acts k_Hall_acts
  have b_Hall_acts : Binds K _ P_Hall_acts [] := F_Hall_acts.binds (ps := P_Hall_acts) fun _ _ _ _ _ _ us hl => match us, hl with | [_, _], _ => rfl
  have m_Hall_acts : Meth K CH "acts" f_Hall_acts := ⟨a_Hall_acts, i_Hall_acts, k_Hall_acts⟩
  have F_Hall_play := fun_mk (st := s_Hall_play) l_Hall_play c_Hall_play k_Hall_play
  have b_Hall_play : Binds K _ P_Hall_play [] := F_Hall_play.binds (ps := P_Hall_play) fun _ _ _ _ _ _ us hl => match us, hl with | [_, _], _ => rfl
  have m_Hall_play : Meth K CH "play" f_Hall_play := ⟨a_Hall_play, i_Hall_play, k_Hall_play⟩
  have F_Settled_init := fun_mk (st := s_Settled_init) l_Settled_init c_Settled_init k_Settled_init
  have b_Settled_init : Binds K _ P_Settled_init [] := F_Settled_init.binds (ps := P_Settled_init) fun _ _ _ _ _ _ us hl => match us, hl with | [_, _, _, _], _ => rfl
  have m_Settled_init : Meth K CS "__init__" f_Settled_init := ⟨a_Settled_init, i_Settled_init, k_Settled_init⟩
  have F_WastedActs_init := fun_mk (st := s_WastedActs_init) l_WastedActs_init c_WastedActs_init k_WastedActs_init
  have b_WastedActs_init : Binds K _ P_WastedActs_init [] := F_WastedActs_init.binds (ps := P_WastedActs_init) fun _ _ _ _ _ _ us hl => match us, hl with | [_, _], _ => rfl
  have m_WastedActs_init : Meth K CW "__init__" f_WastedActs_init := ⟨a_WastedActs_init, i_WastedActs_init, k_WastedActs_init⟩
  have F_PassingActs_init := fun_mk (st := s_PassingActs_init) l_PassingActs_init c_PassingActs_init k_PassingActs_init
  have b_PassingActs_init : Binds K _ P_PassingActs_init [] := F_PassingActs_init.binds (ps := P_PassingActs_init) fun _ _ _ _ _ _ us hl => match us, hl with | [_, _, _], _ => rfl
  have m_PassingActs_init : Meth K CP "__init__" f_PassingActs_init := ⟨a_PassingActs_init, i_PassingActs_init, k_PassingActs_init⟩
  have F_WastedActs_first_nodes := fun_mk (st := s_WastedActs_first_nodes) l_WastedActs_first_nodes c_WastedActs_first_nodes k_WastedActs_first_nodes
  have b_WastedActs_first_nodes : Binds K _ P_WastedActs_first_nodes [] := F_WastedActs_first_nodes.binds (ps := P_WastedActs_first_nodes) fun _ _ _ _ _ _ us hl => match us, hl with | [_], _ => rfl
  have m_WastedActs_first_nodes : Meth K CW "first_nodes" f_WastedActs_first_nodes := ⟨a_WastedActs_first_nodes, i_WastedActs_first_nodes, k_WastedActs_first_nodes⟩
  have F_PassingActs_first_nodes := fun_mk (st := s_PassingActs_first_nodes) l_PassingActs_first_nodes c_PassingActs_first_nodes k_PassingActs_first_nodes
  have b_PassingActs_first_nodes : Binds K _ P_PassingActs_first_nodes [] := F_PassingActs_first_nodes.binds (ps := P_PassingActs_first_nodes) fun _ _ _ _ _ _ us hl => match us, hl with | [_], _ => rfl
  have m_PassingActs_first_nodes : Meth K CP "first_nodes" f_PassingActs_first_nodes := ⟨a_PassingActs_first_nodes, i_PassingActs_first_nodes, k_PassingActs_first_nodes⟩
  have F_WastedActs_ways_on := fun_mk (st := s_WastedActs_ways_on) l_WastedActs_ways_on c_WastedActs_ways_on k_WastedActs_ways_on
  have b_WastedActs_ways_on : Binds K _ P_WastedActs_ways_on [] := F_WastedActs_ways_on.binds (ps := P_WastedActs_ways_on) fun _ _ _ _ _ _ us hl => match us, hl with | [_, _], _ => rfl
  have m_WastedActs_ways_on : Meth K CW "ways_on" f_WastedActs_ways_on := ⟨a_WastedActs_ways_on, i_WastedActs_ways_on, k_WastedActs_ways_on⟩
  have F_PassingActs_ways_on := fun_mk (st := s_PassingActs_ways_on) l_PassingActs_ways_on c_PassingActs_ways_on k_PassingActs_ways_on
  have b_PassingActs_ways_on : Binds K _ P_PassingActs_ways_on [] := F_PassingActs_ways_on.binds (ps := P_PassingActs_ways_on) fun _ _ _ _ _ _ us hl => match us, hl with | [_, _], _ => rfl
  have m_PassingActs_ways_on : Meth K CP "ways_on" f_PassingActs_ways_on := ⟨a_PassingActs_ways_on, i_PassingActs_ways_on, k_PassingActs_ways_on⟩
  have F_settle := fun_mk (st := s_settle) l_settle c_settle k_settle
  have b_settle : Binds K _ P_settle [] := F_settle.binds (ps := P_settle) fun _ _ _ _ _ _ us hl => match us, hl with | [_], _ => rfl
  have g_settle := PySem.W.mg_of X G a_settle
  have F_serve := fun_mk (st := s_serve) l_serve c_serve k_serve
  have b_serve : Binds K _ P_serve [] := F_serve.binds (ps := P_serve) fun _ _ _ _ _ _ us hl => match us, hl with | [_, _], _ => rfl
  have g_serve := PySem.W.mg_of X G a_serve
  have F_Taking_init := fun_mk (st := s_Taking_init) l_Taking_init c_Taking_init k_Taking_init
  have m_Taking_init : Meth K CT "__init__" f_Taking_init := ⟨a_Taking_init, i_Taking_init, k_Taking_init⟩
  have F_Hall_init := fun_mk (st := s_Hall_init) l_Hall_init c_Hall_init k_Hall_init
  have b_Hall_init : Binds K _ P_Hall_init [] := F_Hall_init.binds (ps := P_Hall_init) fun _ _ _ _ _ _ us hl => match us, hl with | [_, _, _], _ => rfl
  have m_Hall_init : Meth K CH "__init__" f_Hall_init := ⟨a_Hall_init, i_Hall_init, k_Hall_init⟩
  have F_Settled_bool := fun_mk (st := s_Settled_bool) l_Settled_bool c_Settled_bool k_Settled_bool
  have b_Settled_bool : Binds K _ P_Settled_bool [] := F_Settled_bool.binds (ps := P_Settled_bool) fun _ _ _ _ _ _ us hl => match us, hl with | [_], _ => rfl
  have m_Settled_bool : Meth K CS "__bool__" f_Settled_bool := ⟨a_Settled_bool, i_Settled_bool, k_Settled_bool⟩
  have F_l_cell := fun_mk (st := s_l_cell) l_l_cell c_l_cell k_l_cell
  have b_l_cell : Binds K _ P_l_cell [] := F_l_cell.binds (ps := P_l_cell) fun _ _ _ _ _ _ us hl => match us, hl with | [_, _], _ => rfl
  have g_l_cell := PySem.W.mg_of X G a_l_cell
  have F_l_whole := fun_mk (st := s_l_whole) l_l_whole c_l_whole k_l_whole
  have b_l_whole : Binds K _ P_l_whole [] := F_l_whole.binds (ps := P_l_whole) fun _ _ _ _ _ _ us hl => match us, hl with | [_], _ => rfl
  have g_l_whole := PySem.W.mg_of X G a_l_whole
  have F_l_may := fun_mk (st := s_l_may) l_l_may c_l_may k_l_may
  have b_l_may : Binds K _ P_l_may [] := F_l_may.binds (ps := P_l_may) fun _ _ _ _ _ _ us hl => match us, hl with | [_, _, _], _ => rfl
  have g_l_may := PySem.W.mg_of X G a_l_may
  have F_l_draws := fun_mk (st := s_l_draws) l_l_draws c_l_draws k_l_draws
  have b_l_draws : Binds K _ P_l_draws [] := F_l_draws.binds (ps := P_l_draws) fun _ _ _ _ _ _ us hl => match us, hl with | [_, _, _], _ => rfl
  have g_l_draws := PySem.W.mg_of X G a_l_draws
  have F_l_taking := fun_mk (st := s_l_taking) l_l_taking c_l_taking k_l_taking
  have b_l_taking : Binds K _ P_l_taking [] := F_l_taking.binds (ps := P_l_taking) fun _ _ _ _ _ _ us hl => match us, hl with | [_, _], _ => rfl
  have g_l_taking := PySem.W.mg_of X G a_l_taking
  have F_l_book := fun_mk (st := s_l_book) l_l_book c_l_book k_l_book
  have b_l_book : Binds K _ P_l_book [] := F_l_book.binds (ps := P_l_book) fun _ _ _ _ _ _ us hl => match us, hl with | [_], _ => rfl
  have g_l_book := PySem.W.mg_of X G a_l_book
  have F_l_spread := fun_mk (st := s_l_spread) l_l_spread c_l_spread k_l_spread
  have b_l_spread : Binds K _ P_l_spread [] := F_l_spread.binds (ps := P_l_spread) fun _ _ _ _ _ _ us hl => match us, hl with | [_, _, _], _ => rfl
  have g_l_spread := PySem.W.mg_of X G a_l_spread
  have F_l_hall := fun_mk (st := s_l_hall) l_l_hall c_l_hall k_l_hall
  have b_l_hall : Binds K _ P_l_hall [] := F_l_hall.binds (ps := P_l_hall) fun _ _ _ _ _ _ us hl => match us, hl with | [_], _ => rfl
  have g_l_hall := PySem.W.mg_of X G a_l_hall
  have F_l_picks := fun_mk (st := s_l_picks) l_l_picks c_l_picks k_l_picks
  have b_l_picks : Binds K _ P_l_picks [] := F_l_picks.binds (ps := P_l_picks) fun _ _ _ _ _ _ us hl => match us, hl with | [_, _, _, _], _ => rfl
  have g_l_picks := PySem.W.mg_of X G a_l_picks
  have F_l_acted := fun_mk (st := s_l_acted) l_l_acted c_l_acted k_l_acted
  have b_l_acted : Binds K _ P_l_acted [] := F_l_acted.binds (ps := P_l_acted) fun _ _ _ _ _ _ us hl => match us, hl with | [_, _, _, _, _], _ => rfl
  have g_l_acted := PySem.W.mg_of X G a_l_acted
  have F_l_acts := fun_mk (st := s_l_acts) l_l_acts c_l_acts k_l_acts
  have b_l_acts : Binds K _ P_l_acts [] := F_l_acts.binds (ps := P_l_acts) fun _ _ _ _ _ _ us hl => match us, hl with | [_, _, _], _ => rfl
  have g_l_acts := PySem.W.mg_of X G a_l_acts
  have F_l_same := fun_mk (st := s_l_same) l_l_same c_l_same k_l_same
  have b_l_same : Binds K _ P_l_same [] := F_l_same.binds (ps := P_l_same) fun _ _ _ _ _ _ us hl => match us, hl with | [_, _], _ => rfl
  have g_l_same := PySem.W.mg_of X G a_l_same
  have F_l_row_told := fun_mk (st := s_l_row_told) l_l_row_told c_l_row_told k_l_row_told
  have b_l_row_told : Binds K _ P_l_row_told [] := F_l_row_told.binds (ps := P_l_row_told) fun _ _ _ _ _ _ us hl => match us, hl with | [_, _], _ => rfl
  have g_l_row_told := PySem.W.mg_of X G a_l_row_told
  have F_l_went := fun_mk (st := s_l_went) l_l_went c_l_went k_l_went
  have b_l_went : Binds K _ P_l_went [] := F_l_went.binds (ps := P_l_went) fun _ _ _ _ _ _ us hl => match us, hl with | [_, _, _, _], _ => rfl
  have g_l_went := PySem.W.mg_of X G a_l_went
  have F_l_counts := fun_mk (st := s_l_counts) l_l_counts c_l_counts k_l_counts
  have b_l_counts : Binds K _ P_l_counts [] := F_l_counts.binds (ps := P_l_counts) fun _ _ _ _ _ _ us hl => match us, hl with | [_, _], _ => rfl
  have g_l_counts := PySem.W.mg_of X G a_l_counts
  have F_l_drawn := fun_mk (st := s_l_drawn) l_l_drawn c_l_drawn k_l_drawn
  have b_l_drawn : Binds K _ P_l_drawn [] := F_l_drawn.binds (ps := P_l_drawn) fun _ _ _ _ _ _ us hl => match us, hl with | [_, _, _, _, _], _ => rfl
  have g_l_drawn := PySem.W.mg_of X G a_l_drawn
  have F_l_bounded := fun_mk (st := s_l_bounded) l_l_bounded c_l_bounded k_l_bounded
  have b_l_bounded : Binds K _ P_l_bounded [] := F_l_bounded.binds (ps := P_l_bounded) fun _ _ _ _ _ _ us hl => match us, hl with | [_, _, _, _], _ => rfl
  have g_l_bounded := PySem.W.mg_of X G a_l_bounded
  have F_l_stricter := fun_mk (st := s_l_stricter) l_l_stricter c_l_stricter k_l_stricter
  have b_l_stricter : Binds K _ P_l_stricter [] := F_l_stricter.binds (ps := P_l_stricter) fun _ _ _ _ _ _ us hl => match us, hl with | [_, _], _ => rfl
  have g_l_stricter := PySem.W.mg_of X G a_l_stricter
  have F_l_round := fun_mk (st := s_l_round) l_l_round c_l_round k_l_round
  have b_l_round : Binds K _ P_l_round [] := F_l_round.binds (ps := P_l_round) fun _ _ _ _ _ _ us hl => match us, hl with | [_, _, _, _, _, _, _], _ => rfl
  have g_l_round := PySem.W.mg_of X G a_l_round
  have F_law := fun_mk (st := s_law) l_law c_law k_law
  have b_law : Binds K _ P_law [] := F_law.binds (ps := P_law) fun _ _ _ _ _ _ us hl => match us, hl with | [_], _ => rfl
  have g_law := PySem.W.mg_of X G a_law
  refine ⟨PySem.W.fnOf "law" "law" (defArgs s_law) (defBody s_law) (defScope s_law) .none kV_law dc_law pm_law an_law cd_law ct_law, fun s v => .of_eq rfl, fun base _ _ => ?_⟩
  have G_way_to := ok_way_to (P := l.prog) (w := w) (mg := mg) (base := base) (F := F_way_to)
  have G_leaving_order := ok_leaving_order (P := l.prog) (w := w) (mg := mg) (base := base) (T := T) (F := F_leaving_order)
  have G_components := ok_components (P := l.prog) (w := w) (mg := mg) (base := base) (T := T) (G_leaving_order := G_leaving_order) (g_leaving_order := g_leaving_order) (k_leaving_order := k_leaving_order) (b_leaving_order := b_leaving_order) (F := F_components)
  have G_way_within := ok_way_within (P := l.prog) (w := w) (mg := mg) (base := base) (G_way_to := G_way_to) (g_way_to := g_way_to) (k_way_to := k_way_to) (b_way_to := b_way_to) (F := F_way_within)
  have G_Taking_lets := ok_lets (P := l.prog) (w := w) (mg := mg) (base := base) (cf := cf) (T := T) (F := F_Taking_lets)
  have G_Hall_start := ok_start (P := l.prog) (w := w) (mg := mg) (base := base) (cf := cf) (T := T) (F := F_Hall_start)
  have G_Hall_picks := ok_picks (P := l.prog) (w := w) (mg := mg) (base := base) (cf := cf) (T := T) (G_Taking_lets := G_Taking_lets) (m_Taking_lets := m_Taking_lets) (b_Taking_lets := b_Taking_lets) (F := F_Hall_picks)
  have G_Hall_take := ok_take (P := l.prog) (w := w) (mg := mg) (base := base) (cf := cf) (T := T) (G_Taking_lets := G_Taking_lets) (m_Taking_lets := m_Taking_lets) (b_Taking_lets := b_Taking_lets) (F := F_Hall_take)
  have G_Hall_acted := ok_acted (P := l.prog) (w := w) (mg := mg) (base := base) (cf := cf) (T := T) (G_Hall_take := G_Hall_take) (m_Hall_take := m_Hall_take) (b_Hall_take := b_Hall_take) (F := F_Hall_acted)
  have G_Hall_acts := ok_acts (P := l.prog) (w := w) (mg := mg) (base := base) (cf := cf) (T := T) (G_Hall_picks := G_Hall_picks) (m_Hall_picks := m_Hall_picks) (b_Hall_picks := b_Hall_picks) (G_Hall_acted := G_Hall_acted) (m_Hall_acted := m_Hall_acted) (b_Hall_acted := b_Hall_acted) (F := F_Hall_acts)
  have G_Hall_play := ok_play (P := l.prog) (w := w) (mg := mg) (base := base) (cf := cf) (T := T) (G_Hall_start := G_Hall_start) (m_Hall_start := m_Hall_start) (b_Hall_start := b_Hall_start) (G_Hall_picks := G_Hall_picks) (m_Hall_picks := m_Hall_picks) (b_Hall_picks := b_Hall_picks) (G_Hall_acted := G_Hall_acted) (m_Hall_acted := m_Hall_acted) (b_Hall_acted := b_Hall_acted) (F := F_Hall_play)
  have G_Settled_init := ok_iniS (P := l.prog) (w := w) (mg := mg) (base := base) (cg := cg) (T := T) (F := F_Settled_init)
  have G_WastedActs_init := ok_iniW (P := l.prog) (w := w) (mg := mg) (base := base) (cg := cg) (T := T) (F := F_WastedActs_init)
  have G_PassingActs_init := ok_iniP (P := l.prog) (w := w) (mg := mg) (base := base) (cg := cg) (T := T) (F := F_PassingActs_init)
  have G_WastedActs_first_nodes := ok_firstW (P := l.prog) (w := w) (mg := mg) (base := base) (cf := cf) (cg := cg) (T := T) (G_Hall_start := G_Hall_start) (m_Hall_start := m_Hall_start) (b_Hall_start := b_Hall_start) (F := F_WastedActs_first_nodes)
  have G_PassingActs_first_nodes := ok_firstP (P := l.prog) (w := w) (mg := mg) (base := base) (cf := cf) (cg := cg) (T := T) (G_Hall_start := G_Hall_start) (m_Hall_start := m_Hall_start) (b_Hall_start := b_Hall_start) (F := F_PassingActs_first_nodes)
  have G_WastedActs_ways_on := ok_waysW (P := l.prog) (w := w) (mg := mg) (base := base) (cf := cf) (cg := cg) (T := T) (G_Hall_acts := G_Hall_acts) (m_Hall_acts := m_Hall_acts) (b_Hall_acts := b_Hall_acts) (F := F_WastedActs_ways_on)
  have G_reach_W := ok_reach (P := l.prog) (w := w) (mg := mg) (base := base) (GG := GGW CT CH CW) (go := gobjW) (eC := rfl) (G_GRAPH_first_nodes := G_WastedActs_first_nodes) (m_GRAPH_first_nodes := m_WastedActs_first_nodes) (c_GRAPH_first_nodes := c_WastedActs) (b_GRAPH_first_nodes := b_WastedActs_first_nodes) (G_GRAPH_ways_on := G_WastedActs_ways_on) (m_GRAPH_ways_on := m_WastedActs_ways_on) (c_GRAPH_ways_on := c_WastedActs) (b_GRAPH_ways_on := b_WastedActs_ways_on) (T := T) (F := F_reach)
  have G_heaviest_W := ok_heaviest (P := l.prog) (w := w) (mg := mg) (base := base) (GG := GGW CT CH CW) (T := T) (G_reach := G_reach_W) (g_reach := g_reach) (k_reach := k_reach) (b_reach := b_reach) (G_components := G_components) (g_components := g_components) (k_components := k_components) (b_components := b_components) (G_way_within := G_way_within) (g_way_within := g_way_within) (k_way_within := k_way_within) (b_way_within := b_way_within) (G_way_to := G_way_to) (g_way_to := g_way_to) (k_way_to := k_way_to) (b_way_to := b_way_to) (F := F_heaviest)
  have G_PassingActs_ways_on := ok_waysP (P := l.prog) (w := w) (mg := mg) (base := base) (cf := cf) (cg := cg) (T := T) (G_Hall_acts := G_Hall_acts) (m_Hall_acts := m_Hall_acts) (b_Hall_acts := b_Hall_acts) (F := F_PassingActs_ways_on)
  have G_reach_P := ok_reach (P := l.prog) (w := w) (mg := mg) (base := base) (GG := GGP CT CH CP) (go := gobjP) (eC := rfl) (G_GRAPH_first_nodes := G_PassingActs_first_nodes) (m_GRAPH_first_nodes := m_PassingActs_first_nodes) (c_GRAPH_first_nodes := c_PassingActs) (b_GRAPH_first_nodes := b_PassingActs_first_nodes) (G_GRAPH_ways_on := G_PassingActs_ways_on) (m_GRAPH_ways_on := m_PassingActs_ways_on) (c_GRAPH_ways_on := c_PassingActs) (b_GRAPH_ways_on := b_PassingActs_ways_on) (T := T) (F := F_reach)
  have G_heaviest_P := ok_heaviest (P := l.prog) (w := w) (mg := mg) (base := base) (GG := GGP CT CH CP) (T := T) (G_reach := G_reach_P) (g_reach := g_reach) (k_reach := k_reach) (b_reach := b_reach) (G_components := G_components) (g_components := g_components) (k_components := k_components) (b_components := b_components) (G_way_within := G_way_within) (g_way_within := g_way_within) (k_way_within := k_way_within) (b_way_within := b_way_within) (G_way_to := G_way_to) (g_way_to := g_way_to) (k_way_to := k_way_to) (b_way_to := b_way_to) (F := F_heaviest)
  have G_settle := ok_settle (P := l.prog) (w := w) (mg := mg) (base := base) (cg := cg) (T := T) (G_heaviest := G_heaviest_W) (g_heaviest := g_heaviest) (k_heaviest := k_heaviest) (b_heaviest := b_heaviest) (G_WastedActs := G_WastedActs_init) (Mk_WastedActs := Mk_WastedActs) (g_WastedActs := g_WastedActs) (b_WastedActs := b_WastedActs_init) (G_Settled := G_Settled_init) (Mk_Settled := Mk_Settled) (g_Settled := g_Settled) (b_Settled := b_Settled_init) (F := F_settle)
  have G_serve := ok_serve (P := l.prog) (w := w) (mg := mg) (base := base) (cg := cg) (T := T) (G_heaviest := G_heaviest_P) (g_heaviest := g_heaviest) (k_heaviest := k_heaviest) (b_heaviest := b_heaviest) (G_PassingActs := G_PassingActs_init) (Mk_PassingActs := Mk_PassingActs) (g_PassingActs := g_PassingActs) (b_PassingActs := b_PassingActs_init) (G_Settled := G_Settled_init) (Mk_Settled := Mk_Settled) (g_Settled := g_Settled) (b_Settled := b_Settled_init) (F := F_serve)
  have G_Taking_init := ok_iniT (P := l.prog) (w := w) (mg := mg) (base := base) (cf := cf) (C := C) (T := T) (F := F_Taking_init)
  have G_Hall_init := ok_iniH (P := l.prog) (w := w) (mg := mg) (base := base) (cf := cf) (C := C) (T := T) (F := F_Hall_init)
  have G_Settled_bool := ok_boolS (P := l.prog) (w := w) (mg := mg) (base := base) (cg := cg) (T := T) (F := F_Settled_bool)
  have G_l_cell := ok_cell (P := l.prog) (w := w) (mg := mg) (base := base) (T := T) (F := F_l_cell)
  have G_l_whole := ok_whole (P := l.prog) (w := w) (mg := mg) (base := base) (T := T) (F := F_l_whole)
  have G_l_may := ok_lmay (P := l.prog) (w := w) (mg := mg) (base := base) (T := T) (F := F_l_may)
  have G_l_draws := ok_draws (P := l.prog) (w := w) (mg := mg) (base := base) (T := T) (G_l_cell := G_l_cell) (g_l_cell := g_l_cell) (k_l_cell := k_l_cell) (b_l_cell := b_l_cell) (F := F_l_draws)
  have G_l_taking := ok_ltaking (P := l.prog) (w := w) (mg := mg) (base := base) (T := T) (G_Taking := G_Taking_init) (Mk_Taking := Mk_Taking) (g_Taking := g_Taking) (F := F_l_taking)
  have G_l_book := ok_book (P := l.prog) (w := w) (mg := mg) (base := base) (T := T) (F := F_l_book)
  have G_l_spread := ok_spread (P := l.prog) (w := w) (mg := mg) (base := base) (T := T) (F := F_l_spread)
  have G_l_hall := ok_hall (P := l.prog) (w := w) (mg := mg) (base := base) (T := T) (G_l_draws := G_l_draws) (g_l_draws := g_l_draws) (k_l_draws := k_l_draws) (b_l_draws := b_l_draws) (G_l_book := G_l_book) (g_l_book := g_l_book) (k_l_book := k_l_book) (b_l_book := b_l_book) (G_l_spread := G_l_spread) (g_l_spread := g_l_spread) (k_l_spread := k_l_spread) (b_l_spread := b_l_spread) (F := F_l_hall)
  have G_l_picks := ok_lpicks (P := l.prog) (w := w) (mg := mg) (base := base) (T := T) (G_l_may := G_l_may) (g_l_may := g_l_may) (k_l_may := k_l_may) (b_l_may := b_l_may) (F := F_l_picks)
  have G_l_acted := ok_lacted (P := l.prog) (w := w) (mg := mg) (base := base) (T := T) (G_l_may := G_l_may) (g_l_may := g_l_may) (k_l_may := k_l_may) (b_l_may := b_l_may) (F := F_l_acted)
  have G_l_acts := ok_lacts (P := l.prog) (w := w) (mg := mg) (base := base) (T := T) (G_l_picks := G_l_picks) (g_l_picks := g_l_picks) (k_l_picks := k_l_picks) (b_l_picks := b_l_picks) (G_l_acted := G_l_acted) (g_l_acted := g_l_acted) (k_l_acted := k_l_acted) (b_l_acted := b_l_acted) (F := F_l_acts)
  have G_l_same := ok_same (P := l.prog) (w := w) (mg := mg) (base := base) (T := T) (G_l_whole := G_l_whole) (g_l_whole := g_l_whole) (k_l_whole := k_l_whole) (b_l_whole := b_l_whole) (F := F_l_same)
  have G_l_row_told := ok_row_told (P := l.prog) (w := w) (mg := mg) (base := base) (T := T) (G_l_same := G_l_same) (g_l_same := g_l_same) (k_l_same := k_l_same) (b_l_same := b_l_same) (F := F_l_row_told)
  have G_l_went := ok_went (P := l.prog) (w := w) (mg := mg) (base := base) (T := T) (G_l_whole := G_l_whole) (g_l_whole := g_l_whole) (k_l_whole := k_l_whole) (b_l_whole := b_l_whole) (G_l_picks := G_l_picks) (g_l_picks := g_l_picks) (k_l_picks := k_l_picks) (b_l_picks := b_l_picks) (G_l_acted := G_l_acted) (g_l_acted := g_l_acted) (k_l_acted := k_l_acted) (b_l_acted := b_l_acted) (F := F_l_went)
  have G_l_counts := ok_counts (P := l.prog) (w := w) (mg := mg) (base := base) (T := T) (F := F_l_counts)
  have G_l_drawn := ok_drawn (P := l.prog) (w := w) (mg := mg) (base := base) (T := T) (G_l_acts := G_l_acts) (g_l_acts := g_l_acts) (k_l_acts := k_l_acts) (b_l_acts := b_l_acts) (F := F_l_drawn)
  have G_l_bounded := ok_bounded (P := l.prog) (w := w) (mg := mg) (base := base) (T := T) (G_l_whole := G_l_whole) (g_l_whole := g_l_whole) (k_l_whole := k_l_whole) (b_l_whole := b_l_whole) (G_l_counts := G_l_counts) (g_l_counts := g_l_counts) (k_l_counts := k_l_counts) (b_l_counts := b_l_counts) (F := F_l_bounded)
  have G_l_stricter := ok_stricter (P := l.prog) (w := w) (mg := mg) (base := base) (cg := cg) (T := T) (sb_G := G_Settled_bool) (sb_hs := a_Settled_bool) (sb_hf := i_Settled_bool) (sb_b := b_Settled_bool) (F := F_l_stricter)
  have G_l_round := ok_round (P := l.prog) (w := w) (mg := mg) (base := base) (cf := cf) (cg := cg) (T := T) (G_l_went := G_l_went) (g_l_went := g_l_went) (k_l_went := k_l_went) (b_l_went := b_l_went) (G_l_row_told := G_l_row_told) (g_l_row_told := g_l_row_told) (k_l_row_told := k_l_row_told) (b_l_row_told := b_l_row_told) (G_l_counts := G_l_counts) (g_l_counts := g_l_counts) (k_l_counts := k_l_counts) (b_l_counts := b_l_counts) (G_Hall_play := G_Hall_play) (m_Hall_play := m_Hall_play) (b_Hall_play := b_Hall_play) (F := F_l_round)
  exact ok_law (P := l.prog) (w := w) (mg := mg) (base := base) (cf := cf) (cg := cg) (T := T) (G_l_hall := G_l_hall) (g_l_hall := g_l_hall) (k_l_hall := k_l_hall) (b_l_hall := b_l_hall) (G_l_draws := G_l_draws) (g_l_draws := g_l_draws) (k_l_draws := k_l_draws) (b_l_draws := b_l_draws) (G_Hall := G_Hall_init) (Mk_Hall := Mk_Hall) (g_Hall := g_Hall) (b_Hall := b_Hall_init) (G_l_taking := G_l_taking) (g_l_taking := g_l_taking) (k_l_taking := k_l_taking) (b_l_taking := b_l_taking) (G_settle := G_settle) (g_settle := g_settle) (k_settle := k_settle) (b_settle := b_settle) (G_l_stricter := G_l_stricter) (g_l_stricter := g_l_stricter) (k_l_stricter := k_l_stricter) (b_l_stricter := b_l_stricter) (G_l_drawn := G_l_drawn) (g_l_drawn := g_l_drawn) (k_l_drawn := k_l_drawn) (b_l_drawn := b_l_drawn) (G_l_row_told := G_l_row_told) (g_l_row_told := g_l_row_told) (k_l_row_told := k_l_row_told) (b_l_row_told := b_l_row_told) (G_Hall_play := G_Hall_play) (m_Hall_play := m_Hall_play) (b_Hall_play := b_Hall_play) (G_serve := G_serve) (g_serve := g_serve) (k_serve := k_serve) (b_serve := b_serve) (sb_G := G_Settled_bool) (sb_hs := a_Settled_bool) (sb_hf := i_Settled_bool) (sb_b := b_Settled_bool) (G_l_bounded := G_l_bounded) (g_l_bounded := g_l_bounded) (k_l_bounded := k_l_bounded) (b_l_bounded := b_l_bounded) (G_l_round := G_l_round) (g_l_round := g_l_round) (k_l_round := k_l_round) (b_l_round := b_l_round) (F := F_law)
theorem walk {l : PySem.W.OpenLaw} {q : Program} {loose : List Str} {XP : (Str → Option Value) → Heap → Prop} {YP : World → Heap → Prop} {d : DefRec} {K : Params → PySem.W.Frag} (hn : l.most = some 63) (hdf : d.params.defaults = [])
    (hY : ∀ (w : World) (h : Heap), YP w h → (K w.params).In h)
    (F : ∀ (w : World) (mg : Str → Option Value) (fa : Addr) (h : Heap), (K w.params).In h → h.Ns mainGlobals mg → mg d.name = some (.ref fa) →
      ∃ fd : FuncData, (∀ (s : Shared) (u : Value), BindsTo s fd ⟨[u], []⟩ [("_law_script", u)]) ∧ ∀ base : Heap, (K w.params).In base → base.Ns mainGlobals mg → FnOk l.prog w (K w.params) mg base CX0 9 fa fd P_law (spLaw (K w.params))) :
    PySem.W.WalkO q loose XP YP l.row.toRowW d [] (fun f vs => PySem.call f vs) :=
  L2.walk_of (n := 63) (k := 9) (x := "_law_script") (CX := fun _ => CX0) (sp := fun w => spLaw (K w.params)) hn (by decide) hdf ⟨rfl, by decide, by decide⟩ hY F (fun _ _ a ns hl _ hS => ⟨a, ns, rfl, hS, hl, fun _ => rfl⟩) fun _ _ _ _ _ z => z
end ND
end
open PySem PySem.W PyProof.Rows in
set_option Elab.async false in
set_option maxRecDepth 100000 in
set_option maxHeartbeats 0 in
theorem PySem.Challenge.cw_firstbreach_k63_whole_sequences_of_acts_holds : PySem.Challenge.rw_firstbreach_k63_whole_sequences_of_acts.Holds := by
  w_on; o_law; k_head; (case hw => w_witness2)
  k_fill
  refine ND.walk (l := PySem.Challenge.rw_firstbreach_k63_whole_sequences_of_acts) rfl rfl (fun w h Y => PySem.W.kIn_of Y) ?F
  case F =>
    intro w mg fa h KX G hmg
    refine' ND.all_mk KX G hmg ?x_Taking ?pg_Taking ?hd_Taking ?po_Taking ?sa_Taking ?mk_Taking ?kc_Taking ?x_Hall ?pg_Hall ?hd_Hall ?po_Hall ?sa_Hall ?mk_Hall ?kc_Hall ?x_WastedActs ?pg_WastedActs ?hd_WastedActs ?po_WastedActs ?sa_WastedActs ?mk_WastedActs ?kc_WastedActs ?x_PassingActs ?pg_PassingActs ?hd_PassingActs ?po_PassingActs ?sa_PassingActs ?mk_PassingActs ?kc_PassingActs ?x_Settled ?pg_Settled ?hd_Settled ?po_Settled ?sa_Settled ?mk_Settled ?kc_Settled ?n_Taking_least ?n_Taking_rules ?n_Hall_queues ?n_Hall_taking ?n_WastedActs_hall ?n_PassingActs_hall ?n_PassingActs_task ?n_Settled_numbers ?n_Settled_lead ?n_Settled_loop ?a_way_to ?l_way_to ?c_way_to ?k_way_to ?a_reach ?l_reach ?c_reach ?k_reach ?a_leaving_order ?l_leaving_order ?c_leaving_order ?k_leaving_order ?a_components ?l_components ?c_components ?k_components ?a_way_within ?l_way_within ?c_way_within ?k_way_within ?a_heaviest ?l_heaviest ?c_heaviest ?k_heaviest ?a_Taking_lets ?i_Taking_lets ?l_Taking_lets ?c_Taking_lets ?k_Taking_lets ?a_Hall_start ?i_Hall_start ?l_Hall_start ?c_Hall_start ?k_Hall_start ?a_Hall_picks ?i_Hall_picks ?l_Hall_picks ?c_Hall_picks ?k_Hall_picks ?a_Hall_take ?i_Hall_take ?l_Hall_take ?c_Hall_take ?k_Hall_take ?a_Hall_acted ?i_Hall_acted ?l_Hall_acted ?c_Hall_acted ?k_Hall_acted ?a_Hall_acts ?i_Hall_acts ?l_Hall_acts ?c_Hall_acts ?k_Hall_acts ?a_Hall_play ?i_Hall_play ?l_Hall_play ?c_Hall_play ?k_Hall_play ?a_Settled_init ?i_Settled_init ?l_Settled_init ?c_Settled_init ?k_Settled_init ?a_WastedActs_init ?i_WastedActs_init ?l_WastedActs_init ?c_WastedActs_init ?k_WastedActs_init ?a_PassingActs_init ?i_PassingActs_init ?l_PassingActs_init ?c_PassingActs_init ?k_PassingActs_init ?a_WastedActs_first_nodes ?i_WastedActs_first_nodes ?l_WastedActs_first_nodes ?c_WastedActs_first_nodes ?k_WastedActs_first_nodes ?a_PassingActs_first_nodes ?i_PassingActs_first_nodes ?l_PassingActs_first_nodes ?c_PassingActs_first_nodes ?k_PassingActs_first_nodes ?a_WastedActs_ways_on ?i_WastedActs_ways_on ?l_WastedActs_ways_on ?c_WastedActs_ways_on ?k_WastedActs_ways_on ?a_PassingActs_ways_on ?i_PassingActs_ways_on ?l_PassingActs_ways_on ?c_PassingActs_ways_on ?k_PassingActs_ways_on ?a_settle ?l_settle ?c_settle ?k_settle ?a_serve ?l_serve ?c_serve ?k_serve ?a_Taking_init ?i_Taking_init ?l_Taking_init ?c_Taking_init ?k_Taking_init ?a_Hall_init ?i_Hall_init ?l_Hall_init ?c_Hall_init ?k_Hall_init ?a_Settled_bool ?i_Settled_bool ?l_Settled_bool ?c_Settled_bool ?k_Settled_bool ?a_l_cell ?l_l_cell ?c_l_cell ?k_l_cell ?a_l_whole ?l_l_whole ?c_l_whole ?k_l_whole ?a_l_may ?l_l_may ?c_l_may ?k_l_may ?a_l_draws ?l_l_draws ?c_l_draws ?k_l_draws ?a_l_taking ?l_l_taking ?c_l_taking ?k_l_taking ?a_l_book ?l_l_book ?c_l_book ?k_l_book ?a_l_spread ?l_l_spread ?c_l_spread ?k_l_spread ?a_l_hall ?l_l_hall ?c_l_hall ?k_l_hall ?a_l_picks ?l_l_picks ?c_l_picks ?k_l_picks ?a_l_acted ?l_l_acted ?c_l_acted ?k_l_acted ?a_l_acts ?l_l_acts ?c_l_acts ?k_l_acts ?a_l_same ?l_l_same ?c_l_same ?k_l_same ?a_l_row_told ?l_l_row_told ?c_l_row_told ?k_l_row_told ?a_l_went ?l_l_went ?c_l_went ?k_l_went ?a_l_counts ?l_l_counts ?c_l_counts ?k_l_counts ?a_l_drawn ?l_l_drawn ?c_l_drawn ?k_l_drawn ?a_l_bounded ?l_l_bounded ?c_l_bounded ?k_l_bounded ?a_l_stricter ?l_l_stricter ?c_l_stricter ?k_l_stricter ?a_l_round ?l_l_round ?c_l_round ?k_l_round ?a_law ?l_law ?c_law ?k_law ?z_len ?z_range ?z_enumerate ?z_max ?z_sum ?z_any ?z_all ?z_abs ?z_int ?z_bool ?z_list ?z_tuple ?z_sorted ?z_set ?z_isinstance ?z_dict ?q_mq ?q_mt ?q_rl ?q_lr ?q_vr
    (case x_Taking => k_is)
    (case pg_Taking => k_is)
    (case hd_Taking => k_is)
    (case po_Taking => k_is)
    (case sa_Taking => k_is)
    (case mk_Taking => k_is)
    (case kc_Taking => k_is)
    (case x_Hall => k_is)
    (case pg_Hall => k_is)
    (case hd_Hall => k_is)
    (case po_Hall => k_is)
    (case sa_Hall => k_is)
    (case mk_Hall => k_is)
    (case kc_Hall => k_is)
    (case x_WastedActs => k_is)
    (case pg_WastedActs => k_is)
    (case hd_WastedActs => k_is)
    (case po_WastedActs => k_is)
    (case sa_WastedActs => k_is)
    (case mk_WastedActs => k_is)
    (case kc_WastedActs => k_is)
    (case x_PassingActs => k_is)
    (case pg_PassingActs => k_is)
    (case hd_PassingActs => k_is)
    (case po_PassingActs => k_is)
    (case sa_PassingActs => k_is)
    (case mk_PassingActs => k_is)
    (case kc_PassingActs => k_is)
    (case x_Settled => k_is)
    (case pg_Settled => k_is)
    (case hd_Settled => k_is)
    (case po_Settled => k_is)
    (case sa_Settled => k_is)
    (case mk_Settled => k_is)
    (case kc_Settled => k_is)
    (case n_Taking_least => k_is)
    (case n_Taking_rules => k_is)
    (case n_Hall_queues => k_is)
    (case n_Hall_taking => k_is)
    (case n_WastedActs_hall => k_is)
    (case n_PassingActs_hall => k_is)
    (case n_PassingActs_task => k_is)
    (case n_Settled_numbers => k_is)
    (case n_Settled_lead => k_is)
    (case n_Settled_loop => k_is)
    (case a_way_to => k_is)
    (case l_way_to => k_is)
    (case c_way_to => k_is)
    (case k_way_to => k_is)
    (case a_reach => k_is)
    (case l_reach => k_is)
    (case c_reach => k_is)
    (case k_reach => k_is)
    (case a_leaving_order => k_is)
    (case l_leaving_order => k_is)
    (case c_leaving_order => k_is)
    (case k_leaving_order => k_is)
    (case a_components => k_is)
    (case l_components => k_is)
    (case c_components => k_is)
    (case k_components => k_is)
    (case a_way_within => k_is)
    (case l_way_within => k_is)
    (case c_way_within => k_is)
    (case k_way_within => k_is)
    (case a_heaviest => k_is)
    (case l_heaviest => k_is)
    (case c_heaviest => k_is)
    (case k_heaviest => k_is)
    (case a_Taking_lets => k_is)
    (case i_Taking_lets => k_is)
    (case l_Taking_lets => k_is)
    (case c_Taking_lets => k_is)
    (case k_Taking_lets => k_is)
    (case a_Hall_start => k_is)
    (case i_Hall_start => k_is)
    (case l_Hall_start => k_is)
    (case c_Hall_start => k_is)
    (case k_Hall_start => k_is)
    (case a_Hall_picks => k_is)
    (case i_Hall_picks => k_is)
    (case l_Hall_picks => k_is)
    (case c_Hall_picks => k_is)
    (case k_Hall_picks => k_is)
    (case a_Hall_take => k_is)
    (case i_Hall_take => k_is)
    (case l_Hall_take => k_is)
    (case c_Hall_take => k_is)
    (case k_Hall_take => k_is)
    (case a_Hall_acted => k_is)
    (case i_Hall_acted => k_is)
    (case l_Hall_acted => k_is)
    (case c_Hall_acted => k_is)
    (case k_Hall_acted => k_is)
    (case a_Hall_acts => k_is)
    (case i_Hall_acts => k_is)
    (case l_Hall_acts => k_is)
    (case c_Hall_acts => k_is)
    (case k_Hall_acts => k_is)
    (case a_Hall_play => k_is)
    (case i_Hall_play => k_is)
    (case l_Hall_play => k_is)
    (case c_Hall_play => k_is)
    (case k_Hall_play => k_is)
    (case a_Settled_init => k_is)
    (case i_Settled_init => k_is)
    (case l_Settled_init => k_is)
    (case c_Settled_init => k_is)
    (case k_Settled_init => k_is)
    (case a_WastedActs_init => k_is)
    (case i_WastedActs_init => k_is)
    (case l_WastedActs_init => k_is)
    (case c_WastedActs_init => k_is)
    (case k_WastedActs_init => k_is)
    (case a_PassingActs_init => k_is)
    (case i_PassingActs_init => k_is)
    (case l_PassingActs_init => k_is)
    (case c_PassingActs_init => k_is)
    (case k_PassingActs_init => k_is)
    (case a_WastedActs_first_nodes => k_is)
    (case i_WastedActs_first_nodes => k_is)
    (case l_WastedActs_first_nodes => k_is)
    (case c_WastedActs_first_nodes => k_is)
    (case k_WastedActs_first_nodes => k_is)
    (case a_PassingActs_first_nodes => k_is)
    (case i_PassingActs_first_nodes => k_is)
    (case l_PassingActs_first_nodes => k_is)
    (case c_PassingActs_first_nodes => k_is)
    (case k_PassingActs_first_nodes => k_is)
    (case a_WastedActs_ways_on => k_is)
    (case i_WastedActs_ways_on => k_is)
    (case l_WastedActs_ways_on => k_is)
    (case c_WastedActs_ways_on => k_is)
    (case k_WastedActs_ways_on => k_is)
    (case a_PassingActs_ways_on => k_is)
    (case i_PassingActs_ways_on => k_is)
    (case l_PassingActs_ways_on => k_is)
    (case c_PassingActs_ways_on => k_is)
    (case k_PassingActs_ways_on => k_is)
    (case a_settle => k_is)
    (case l_settle => k_is)
    (case c_settle => k_is)
    (case k_settle => k_is)
    (case a_serve => k_is)
    (case l_serve => k_is)
    (case c_serve => k_is)
    (case k_serve => k_is)
    (case a_Taking_init => k_is)
    (case i_Taking_init => k_is)
    (case l_Taking_init => k_is)
    (case c_Taking_init => k_is)
    (case k_Taking_init => k_is)
    (case a_Hall_init => k_is)
    (case i_Hall_init => k_is)
    (case l_Hall_init => k_is)
    (case c_Hall_init => k_is)
    (case k_Hall_init => k_is)
    (case a_Settled_bool => k_is)
    (case i_Settled_bool => k_is)
    (case l_Settled_bool => k_is)
    (case c_Settled_bool => k_is)
    (case k_Settled_bool => k_is)
    (case a_l_cell => k_is)
    (case l_l_cell => k_is)
    (case c_l_cell => k_is)
    (case k_l_cell => k_is)
    (case a_l_whole => k_is)
    (case l_l_whole => k_is)
    (case c_l_whole => k_is)
    (case k_l_whole => k_is)
    (case a_l_may => k_is)
    (case l_l_may => k_is)
    (case c_l_may => k_is)
    (case k_l_may => k_is)
    (case a_l_draws => k_is)
    (case l_l_draws => k_is)
    (case c_l_draws => k_is)
    (case k_l_draws => k_is)
    (case a_l_taking => k_is)
    (case l_l_taking => k_is)
    (case c_l_taking => k_is)
    (case k_l_taking => k_is)
    (case a_l_book => k_is)
    (case l_l_book => k_is)
    (case c_l_book => k_is)
    (case k_l_book => k_is)
    (case a_l_spread => k_is)
    (case l_l_spread => k_is)
    (case c_l_spread => k_is)
    (case k_l_spread => k_is)
    (case a_l_hall => k_is)
    (case l_l_hall => k_is)
    (case c_l_hall => k_is)
    (case k_l_hall => k_is)
    (case a_l_picks => k_is)
    (case l_l_picks => k_is)
    (case c_l_picks => k_is)
    (case k_l_picks => k_is)
    (case a_l_acted => k_is)
    (case l_l_acted => k_is)
    (case c_l_acted => k_is)
    (case k_l_acted => k_is)
    (case a_l_acts => k_is)
    (case l_l_acts => k_is)
    (case c_l_acts => k_is)
    (case k_l_acts => k_is)
    (case a_l_same => k_is)
    (case l_l_same => k_is)
    (case c_l_same => k_is)
    (case k_l_same => k_is)
    (case a_l_row_told => k_is)
    (case l_l_row_told => k_is)
    (case c_l_row_told => k_is)
    (case k_l_row_told => k_is)
    (case a_l_went => k_is)
    (case l_l_went => k_is)
    (case c_l_went => k_is)
    (case k_l_went => k_is)
    (case a_l_counts => k_is)
    (case l_l_counts => k_is)
    (case c_l_counts => k_is)
    (case k_l_counts => k_is)
    (case a_l_drawn => k_is)
    (case l_l_drawn => k_is)
    (case c_l_drawn => k_is)
    (case k_l_drawn => k_is)
    (case a_l_bounded => k_is)
    (case l_l_bounded => k_is)
    (case c_l_bounded => k_is)
    (case k_l_bounded => k_is)
    (case a_l_stricter => k_is)
    (case l_l_stricter => k_is)
    (case c_l_stricter => k_is)
    (case k_l_stricter => k_is)
    (case a_l_round => k_is)
    (case l_l_round => k_is)
    (case c_l_round => k_is)
    (case k_l_round => k_is)
    (case a_law => k_is)
    (case l_law => k_is)
    (case c_law => k_is)
    (case k_law => k_is)
    (case z_len => k_is)
    (case z_range => k_is)
    (case z_enumerate => k_is)
    (case z_max => k_is)
    (case z_sum => k_is)
    (case z_any => k_is)
    (case z_all => k_is)
    (case z_abs => k_is)
    (case z_int => k_is)
    (case z_bool => k_is)
    (case z_list => k_is)
    (case z_tuple => k_is)
    (case z_sorted => k_is)
    (case z_set => k_is)
    (case z_isinstance => k_is)
    (case z_dict => k_is)
    (case q_mq => k_is)
    (case q_mt => k_is)
    (case q_rl => k_is)
    (case q_lr => k_is)
    (case q_vr => exact rfl)
