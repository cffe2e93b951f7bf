import PyProof.Rows.All
import Wide.All
import OpenK.AllK
import Wide.FinOn
import HandS.ForMost
import KE.DatumOrd
import KE.GoesEnum
import KE.KTupSum
import HandS.IsInst
import HandS.TupAny
import PySem.Challenge.RW_joinshelf_k59_whole_rests_of_great_tasks
set_option Elab.async false
set_option linter.all false
set_option maxRecDepth 100000
set_option maxHeartbeats 4000000
/-! JsMath: the plain mathematics of stacks of begins, the least going on, the Solver's and the Rest's recursions. No program here. -/
namespace Js

/-! ### lists of whole numbers in Python's order -/
def ll : List Int → List Int → Bool
  | [], [] => false
  | [], _ :: _ => true
  | _ :: _, [] => false
  | x :: xs, y :: ys => if x = y then ll xs ys else decide (x < y)
def le (p q : List Int) : Prop := ll q p = false

theorem ll_irrefl : ∀ p, ll p p = false
  | [] => rfl
  | x :: p => by
    unfold ll
    rw [if_pos rfl]
    exact ll_irrefl p
theorem le_refl (p : List Int) : le p p := ll_irrefl p
theorem le_nil (r : List Int) : le [] r := by cases r <;> rfl
theorem not_le_nil {x : Int} {p : List Int} : ¬ le (x :: p) [] := fun h => Bool.noConfusion h
theorem le_cons {x y : Int} {p q : List Int} : le (x :: p) (y :: q) ↔ x < y ∨ (x = y ∧ le p q) := by
  unfold le
  rw [ll]
  by_cases h : y = x
  · rw [if_pos h]
    exact ⟨fun z => .inr ⟨h.symm, z⟩, fun z => z.elim (fun z => by omega) fun z => z.2⟩
  · rw [if_neg h]
    simp only [decide_eq_false_iff_not]
    exact ⟨fun z => .inl (by omega), fun z => z.elim (fun z => by omega) fun z => absurd z.1.symm h⟩
theorem le_trans : ∀ {p q r : List Int}, le p q → le q r → le p r
  | [], _, r, _, _ => le_nil r
  | _ :: _, [], _, h, _ => absurd h not_le_nil
  | _ :: _, _ :: _, [], _, h => absurd h not_le_nil
  | x :: p, y :: q, z :: r, h, k => by
    rw [le_cons] at h k ⊢
    rcases h with h | ⟨h, h'⟩ <;> rcases k with k | ⟨k, k'⟩
    · exact .inl (by omega)
    · exact .inl (by omega)
    · exact .inl (by omega)
    · exact .inr ⟨by omega, le_trans h' k'⟩
theorem le_antisymm : ∀ {p q : List Int}, le p q → le q p → p = q
  | [], [], _, _ => rfl
  | [], _ :: _, _, h => absurd h not_le_nil
  | _ :: _, [], h, _ => absurd h not_le_nil
  | x :: p, y :: q, h, k => by
    rw [le_cons] at h k
    rcases h with h | ⟨h, h'⟩ <;> rcases k with k | ⟨k, k'⟩
    · omega
    · omega
    · omega
    · rw [h, le_antisymm h' k']
theorem le_total : ∀ p q : List Int, le p q ∨ le q p
  | [], q => .inl (le_nil q)
  | _ :: _, [] => .inr (le_nil _)
  | x :: p, y :: q => by
    rw [le_cons, le_cons]
    rcases Int.lt_trichotomy x y with h | h | h
    · exact .inl (.inl h)
    · rcases le_total p q with k | k
      · exact .inl (.inr ⟨h, k⟩)
      · exact .inr (.inr ⟨h.symm, k⟩)
    · exact .inr (.inl h)
theorem le_append : ∀ {p p' q q' : List Int}, p.length = p'.length → le p p' → le q q' → le (p ++ q) (p' ++ q')
  | [], [], _, _, _, _, k => k
  | [], _ :: _, _, _, e, _, _ => by simp at e
  | _ :: _, [], _, _, e, _, _ => by simp at e
  | x :: p, y :: p', q, q', e, h, k => by
    rw [List.cons_append, List.cons_append, le_cons]
    rw [le_cons] at h
    rcases h with h | ⟨h, h'⟩
    · exact .inl h
    · exact .inr ⟨h, le_append (by simpa using e) h' k⟩
theorem le_add {c c' d d' : Int} {p p' q q' : List Int} (hl : p.length = p'.length) (h : le (c :: p) (c' :: p')) (k : le (d :: q) (d' :: q')) :
    le ((c + d) :: (p ++ q)) ((c' + d') :: (p' ++ q')) := by
  rw [le_cons] at h k ⊢
  rcases h with h | ⟨h, h'⟩ <;> rcases k with k | ⟨k, k'⟩
  · exact .inl (by omega)
  · exact .inl (by omega)
  · exact .inl (by omega)
  · exact .inr ⟨by omega, le_append hl h' k'⟩
theorem le_append_inv : ∀ {p p' q q' : List Int}, p = p' → le (p ++ q) (p' ++ q') → le q q'
  | [], [], _, _, _, k => k
  | [], _ :: _, _, _, e, _ => by simp at e
  | _ :: _, [], _, _, e, _ => by simp at e
  | x :: p, y :: p', q, q', e, h => by
    injection e with e1 e2
    rw [List.cons_append, List.cons_append, le_cons] at h
    rcases h with h | ⟨_, h⟩
    · omega
    · exact le_append_inv e2 h
theorem exists_min : ∀ l : List (List Int), l ≠ [] → ∃ m, m ∈ l ∧ ∀ y ∈ l, le m y
  | [], h => absurd rfl h
  | [a], _ => ⟨a, List.mem_singleton.mpr rfl, fun y hy => by rw [List.mem_singleton.mp hy]; exact le_refl a⟩
  | a :: b :: r, _ => by
    obtain ⟨m, hm, h⟩ := exists_min (b :: r) (by simp)
    rcases le_total a m with k | k
    · refine ⟨a, List.mem_cons_self, fun y hy => ?_⟩
      rcases List.mem_cons.mp hy with e | hy
      · rw [e]; exact le_refl a
      · exact le_trans k (h y hy)
    · refine ⟨m, List.mem_cons_of_mem _ hm, fun y hy => ?_⟩
      rcases List.mem_cons.mp hy with e | hy
      · rw [e]; exact k
      · exact h y hy

/-- the pair's code -/
abbrev en (a : Int × List Int) : List Int := a.1 :: a.2
theorem en_inj {a b : Int × List Int} (h : en a = en b) : a = b := by
  obtain ⟨c, p⟩ := a
  obtain ⟨d, q⟩ := b
  injection h with h1 h2
  have h1' : c = d := h1
  have h2' : p = q := h2
  rw [h1', h2']

/-! ### stacks of begins -/
/-- the begins that stand when a run that begins with x was written -/
def nxt (S : List Int) (x : Int) : List Int := S.filter (fun y => decide (y < x)) ++ [x]
def runs (S : List Int) (p : List Int) : List Int := p.foldl nxt S
/-- ascending, all ahead of the hour -/
structure Good (S : List Int) (h : Int) : Prop where
  asc : S.Pairwise (· < ·)
  lt : ∀ y ∈ S, y < h
/-- each choice can be made, and at most K runs stand -/
def ok (K : Int) : List Int → Int → List Int → Prop
  | _, _, [] => True
  | S, h, x :: p => (x ∈ S ∨ x = h) ∧ ((nxt S x).length : Int) ≤ K ∧ ok K (nxt S x) (h + 1) p
section
variable (W L : Int → Int → Int)
/-- what the hour h costs -/
def hc (S : List Int) (x h : Int) : Int := W x h + ((nxt S x).map (fun b => L b h)).sum
def cst : List Int → Int → List Int → Int
  | _, _, [] => 0
  | S, h, x :: p => hc W L S x h + cst (nxt S x) (h + 1) p
/-- looks of one run over n hours -/
def lk (b h : Int) : Nat → Int
  | 0 => 0
  | n + 1 => L b h + lk b (h + 1) n
def eld (T : List Int) (h : Int) (n : Nat) : Int := (T.map (fun b => lk L b h n)).sum
end

theorem runs_nil (S : List Int) : runs S [] = S := rfl
theorem runs_cons (S : List Int) (x : Int) (p : List Int) : runs S (x :: p) = runs (nxt S x) p := rfl
theorem runs_append (S p q : List Int) : runs S (p ++ q) = runs (runs S p) q := by
  unfold runs
  rw [List.foldl_append]
theorem runs_snoc (S p : List Int) (x : Int) : runs S (p ++ [x]) = nxt (runs S p) x := by
  rw [runs_append]
  rfl
theorem mem_nxt {S : List Int} {x y : Int} : y ∈ nxt S x ↔ (y ∈ S ∧ y < x) ∨ y = x := by
  unfold nxt
  rw [List.mem_append, List.mem_filter, List.mem_singleton, decide_eq_true_iff]
theorem nxt_length_le (S : List Int) (x : Int) : (nxt S x).length ≤ S.length + 1 := by
  unfold nxt
  rw [List.length_append, List.length_singleton]
  have := List.length_filter_le (fun y => decide (y < x)) S
  omega
theorem nxt_ne (S : List Int) (x : Int) : nxt S x ≠ [] := by
  unfold nxt
  simp
theorem nxt_last (S : List Int) (x : Int) : (nxt S x).getLast? = some x := by
  unfold nxt
  simp
theorem nxt_hi {T R : List Int} {x : Int} (h : ∀ t ∈ T, t < x) : nxt (T ++ R) x = T ++ nxt R x := by
  unfold nxt
  rw [List.filter_append, List.append_assoc]
  have e : T.filter (fun y => decide (y < x)) = T := List.filter_eq_self.mpr fun t ht => decide_eq_true (h t ht)
  rw [e]
theorem nxt_lo {R : List Int} {x : Int} (h : ∀ y ∈ R, x ≤ y) : nxt R x = [x] := by
  unfold nxt
  have e : R.filter (fun y => decide (y < x)) = [] := List.filter_eq_nil_iff.mpr fun y hy => by
    have := h y hy
    simp only [decide_eq_true_eq]
    omega
  rw [e]
  rfl
theorem Good.nil (h : Int) : Good [] h := ⟨List.Pairwise.nil, fun _ z => by cases z⟩
theorem Good.one {x h : Int} (k : x < h) : Good [x] h := ⟨List.pairwise_singleton _ _, fun y hy => by rw [List.mem_singleton.mp hy]; exact k⟩
theorem Good.nxt {S : List Int} {x h : Int} (g : Good S h) (hx : x ∈ S ∨ x = h) : Good (nxt S x) (h + 1) := by
  have hxh : x ≤ h := by
    rcases hx with z | z
    · have := g.lt x z; omega
    · omega
  refine ⟨?_, fun y hy => ?_⟩
  · unfold Js.nxt
    refine List.pairwise_append.mpr ⟨g.asc.filter _, List.pairwise_singleton _ _, fun a ha b hb => ?_⟩
    rw [List.mem_singleton.mp hb]
    exact of_decide_eq_true (List.mem_filter.mp ha).2
  · rcases mem_nxt.mp hy with ⟨hy, _⟩ | rfl
    · have := g.lt y hy; omega
    · omega
theorem filter_take : ∀ {T : List Int} {i : Nat} {x : Int}, T.Pairwise (· < ·) → T[i]? = some x → T.filter (fun y => decide (y < x)) = T.take i
  | [], _, _, _, h => by simp at h
  | y :: T, 0, x, a, h => by
    have e : y = x := Option.some.inj h
    subst e
    rw [List.take_zero]
    refine List.filter_eq_nil_iff.mpr fun z hz => ?_
    simp only [decide_eq_true_eq]
    rcases List.mem_cons.mp hz with e | hz
    · omega
    · have := (List.pairwise_cons.mp a).1 z hz; omega
  | y :: T, i + 1, x, a, h => by
    have h' : T[i]? = some x := by simpa using h
    have hy : y < x := (List.pairwise_cons.mp a).1 x (List.mem_of_getElem? h')
    rw [List.filter_cons_of_pos (p := fun y => decide (y < x)) (decide_eq_true hy), List.take_succ_cons, filter_take (List.pairwise_cons.mp a).2 h']
theorem take_last {α : Type} {T : List α} {i : Nat} {x : α} (h : T[i]? = some x) : T.take i ++ [x] = T.take (i + 1) := by
  rw [List.take_add_one, h]
  rfl
theorem nxt_take {T : List Int} {i : Nat} {x : Int} (a : T.Pairwise (· < ·)) (h : T[i]? = some x) : nxt T x = T.take (i + 1) := by
  unfold nxt
  rw [filter_take a h, take_last h]
/-- an elder run is written again -/
theorem nxt_mid {E R : List Int} {h : Int} {i j : Nat} {x : Int} (g : Good E h) (hR : ∀ y ∈ R, h ≤ y) (hx : E[j]? = some x) (hj : j < i) : nxt (E.take i ++ R) x = E.take (j + 1) := by
  have hxh : x < h := g.lt x (List.mem_of_getElem? hx)
  have e1 : (E.take i)[j]? = some x := by rw [List.getElem?_take_of_lt hj]; exact hx
  have e2 := nxt_take (g.asc.sublist (List.take_sublist _ _)) e1
  have e3 : R.filter (fun y => decide (y < x)) = [] := List.filter_eq_nil_iff.mpr fun y hy => by
    have := hR y hy
    simp only [decide_eq_true_eq]
    omega
  unfold nxt at e2 ⊢
  rw [List.filter_append, e3, List.append_nil, e2, List.take_take, Nat.min_eq_left (by omega)]

/-! ### going on -/
section
variable {K : Int} {W L : Int → Int → Int}
theorem ok_append : ∀ {p q S : List Int} {h : Int}, ok K S h (p ++ q) ↔ ok K S h p ∧ ok K (runs S p) (h + (p.length : Int)) q
  | [], q, S, h => by
    show ok K S h q ↔ True ∧ ok K S (h + 0) q
    rw [Int.add_zero]
    exact ⟨fun z => ⟨trivial, z⟩, fun z => z.2⟩
  | x :: p, q, S, h => by
    show (x ∈ S ∨ x = h) ∧ ((nxt S x).length : Int) ≤ K ∧ ok K (nxt S x) (h + 1) (p ++ q) ↔ ((x ∈ S ∨ x = h) ∧ ((nxt S x).length : Int) ≤ K ∧ ok K (nxt S x) (h + 1) p) ∧ ok K (runs (nxt S x) p) (h + ((p.length + 1 : Nat) : Int)) q
    rw [ok_append, show h + ((p.length + 1 : Nat) : Int) = h + 1 + (p.length : Int) by omega]
    exact ⟨fun ⟨a, b, c, d⟩ => ⟨⟨a, b, c⟩, d⟩, fun ⟨⟨a, b, c⟩, d⟩ => ⟨a, b, c, d⟩⟩
theorem ok_snoc {p S : List Int} {h x : Int} : ok K S h (p ++ [x]) ↔ ok K S h p ∧ (x ∈ runs S p ∨ x = h + (p.length : Int)) ∧ ((nxt (runs S p) x).length : Int) ≤ K := by
  rw [ok_append]
  show _ ∧ (_ ∧ _ ∧ True) ↔ _
  exact ⟨fun ⟨a, b, c, _⟩ => ⟨a, b, c⟩, fun ⟨a, b, c⟩ => ⟨a, b, c, trivial⟩⟩
theorem cst_append : ∀ {p q S : List Int} {h : Int}, cst W L S h (p ++ q) = cst W L S h p + cst W L (runs S p) (h + (p.length : Int)) q
  | [], q, S, h => by
    show cst W L S h q = 0 + cst W L S (h + 0) q
    rw [Int.add_zero, Int.zero_add]
  | x :: p, q, S, h => by
    show hc W L S x h + cst W L (nxt S x) (h + 1) (p ++ q) = hc W L S x h + cst W L (nxt S x) (h + 1) p + cst W L (runs (nxt S x) p) (h + ((p.length + 1 : Nat) : Int)) q
    rw [cst_append, show h + ((p.length + 1 : Nat) : Int) = h + 1 + (p.length : Int) by omega]
    omega
theorem ok_good : ∀ {p S : List Int} {h : Int}, Good S h → ok K S h p → Good (runs S p) (h + (p.length : Int))
  | [], S, h, g, _ => by
    show Good S (h + 0)
    rw [Int.add_zero]
    exact g
  | x :: p, S, h, g, o => by
    have q := ok_good (g.nxt o.1) o.2.2
    rw [show h + 1 + (p.length : Int) = h + ((x :: p).length : Int) by rw [List.length_cons]; omega] at q
    exact q
theorem ok_mono {K' : Int} (hk : K ≤ K') : ∀ {p S : List Int} {h : Int}, ok K S h p → ok K' S h p
  | [], _, _, _ => trivial
  | _ :: _, _, _, o => ⟨o.1, by have := o.2.1; omega, ok_mono hk o.2.2⟩
theorem ok_cap {K' : Int} : ∀ {p S : List Int} {h : Int}, (S.length : Int) + p.length ≤ K' → ok K S h p → ok K' S h p
  | [], _, _, _, _ => trivial
  | x :: p, S, h, hk, o => by
    have hl := nxt_length_le S x
    rw [List.length_cons] at hk
    exact ⟨o.1, by omega, ok_cap (by omega) o.2.2⟩
/-- nothing is begun below lo -/
theorem runs_ge {lo : Int} : ∀ {p S : List Int} {h : Int}, (∀ y ∈ S, lo ≤ y) → lo ≤ h → ok K S h p → ∀ y ∈ runs S p, lo ≤ y
  | [], _, _, hS, _, _ => hS
  | x :: p, S, h, hS, hh, o => by
    refine runs_ge (p := p) (S := nxt S x) (h := h + 1) (fun y hy => ?_) (by omega) o.2.2
    rcases mem_nxt.mp hy with ⟨hy, _⟩ | rfl
    · exact hS y hy
    · rcases o.1 with z | z
      · exact hS _ z
      · omega
theorem runs_new {q : List Int} {h : Int} (o : ok K [] h q) : ∀ y ∈ runs [] q, h ≤ y := runs_ge (fun _ z => by cases z) (Int.le_refl h) o

theorem lk_add (b h : Int) : ∀ (m n : Nat), lk L b h (m + n) = lk L b h m + lk L b (h + (m : Int)) n
  | 0, n => by
    rw [Nat.zero_add]
    show _ = 0 + lk L b (h + 0) n
    rw [Int.add_zero, Int.zero_add]
  | m + 1, n => by
    rw [show m + 1 + n = (m + n) + 1 by omega]
    show L b h + lk L b (h + 1) (m + n) = L b h + lk L b (h + 1) m + lk L b (h + ((m + 1 : Nat) : Int)) n
    have ih := lk_add b (h + 1) m n
    rw [ih, show h + 1 + (m : Int) = h + ((m + 1 : Nat) : Int) by omega, Int.add_assoc]
theorem lk_snoc (b h : Int) (n : Nat) : lk L b h (n + 1) = lk L b h n + L b (h + (n : Int)) := by
  rw [lk_add]
  show _ + (L b (h + n) + 0) = _
  rw [Int.add_zero]
theorem eld_zero (T : List Int) (h : Int) : eld L T h 0 = 0 := by
  unfold eld
  induction T with
  | nil => rfl
  | cons t T ih => rw [List.map_cons, List.sum_cons, ih]; rfl
theorem eld_succ (T : List Int) (h : Int) (n : Nat) : eld L T h (n + 1) = (T.map (fun b => L b h)).sum + eld L T (h + 1) n := by
  unfold eld
  induction T with
  | nil => rfl
  | cons t T ih =>
    simp only [List.map_cons, List.sum_cons]
    rw [ih]
    show L t h + lk L t (h + 1) n + _ = _
    omega
theorem eld_add (T : List Int) (h : Int) (m n : Nat) : eld L T h (m + n) = eld L T h m + eld L T (h + (m : Int)) n := by
  unfold eld
  induction T with
  | nil => rfl
  | cons t T ih =>
    simp only [List.map_cons, List.sum_cons]
    rw [ih, lk_add]
    omega
theorem eld_one (T : List Int) (h : Int) : eld L T h 1 = (T.map (fun b => L b h)).sum := by
  rw [eld_succ, eld_zero, Int.add_zero]

/-- elder runs T stand below all that is written -/
theorem frame {T : List Int} : ∀ {q S : List Int} {h : Int}, (∀ t ∈ T, t < h) → (∀ y ∈ S, ∀ t ∈ T, t < y) → ok (K - T.length) S h q →
    ok K (T ++ S) h q ∧ cst W L (T ++ S) h q = cst W L S h q + eld L T h q.length ∧ runs (T ++ S) q = T ++ runs S q
  | [], S, h, _, _, _ => ⟨trivial, by show (0 : Int) = 0 + eld L T h 0; rw [eld_zero]; rfl, rfl⟩
  | x :: q, S, h, hT, hS, o => by
    have hx : ∀ t ∈ T, t < x := fun t ht => by
      rcases o.1 with z | z
      · exact hS x z t ht
      · rw [z]; exact hT t ht
    have e : nxt (T ++ S) x = T ++ nxt S x := nxt_hi hx
    have ih := frame (q := q) (S := nxt S x) (h := h + 1) (fun t ht => by have := hT t ht; omega) (fun y hy t ht => by
      rcases mem_nxt.mp hy with ⟨hy, _⟩ | rfl
      · exact hS y hy t ht
      · exact hx t ht) o.2.2
    refine ⟨⟨?_, ?_, ?_⟩, ?_, ?_⟩
    · rcases o.1 with z | z
      · exact .inl (List.mem_append_right _ z)
      · exact .inr z
    · have := o.2.1
      rw [e, List.length_append]
      omega
    · rw [e]; exact ih.1
    · show hc W L (T ++ S) x h + cst W L (nxt (T ++ S) x) (h + 1) q = hc W L S x h + cst W L (nxt S x) (h + 1) q + eld L T h (q.length + 1)
      rw [e, ih.2.1, eld_succ]
      unfold hc
      rw [e, List.map_append, List.sum_append]
      omega
    · rw [runs_cons, e, ih.2.2]
      rfl
theorem frame0 {T q : List Int} {h : Int} (hT : ∀ t ∈ T, t < h) (o : ok (K - T.length) [] h q) :
    ok K T h q ∧ cst W L T h q = cst W L [] h q + eld L T h q.length ∧ runs T q = T ++ runs [] q := by
  have z := frame (W := W) (L := L) (S := []) hT (fun _ z => by cases z) o
  rw [List.append_nil] at z
  exact z

theorem snoc_cases {α : Type} : ∀ l : List α, l = [] ∨ ∃ r b, l = r ++ [b]
  | [] => .inl rfl
  | a :: l => by
    rcases snoc_cases l with e | ⟨r, b, e⟩
    · exact .inr ⟨[], a, by rw [e]; rfl⟩
    · exact .inr ⟨a :: r, b, by rw [e]; rfl⟩
/-- the last writing of an elder run parts a going on -/
theorem decomp {E : List Int} {h : Int} (g : Good E h) : ∀ (n : Nat) (p : List Int), p.length = n → ok K E h p → ∃ (i : Nat) (p1 q : List Int), i ≤ E.length ∧ p = p1 ++ q ∧ runs E p1 = E.take i ∧
    ((p1 = [] ∧ i = E.length) ∨ ∃ (j : Nat) (p0 : List Int) (x : Int), p1 = p0 ++ [x] ∧ i = j + 1 ∧ E[j]? = some x) ∧ ok (K - i) [] (h + p1.length) q ∧ runs E p = E.take i ++ runs [] q := by
  intro n
  induction n with
  | zero =>
    intro p hp o
    have e : p = [] := List.length_eq_zero_iff.mp hp
    subst e
    exact ⟨E.length, [], [], Nat.le_refl _, rfl, by rw [List.take_length]; rfl, .inl ⟨rfl, rfl⟩, trivial, by rw [List.take_length]; show E = E ++ []; rw [List.append_nil]⟩
  | succ n ih =>
    intro p hp o
    rcases snoc_cases p with e | ⟨r, x, e⟩
    · subst e; simp at hp
    subst e
    rw [ok_snoc] at o
    obtain ⟨o1, o2, o3⟩ := o
    obtain ⟨i, p1, q, hi, e, e1, hc1, oq, er⟩ := ih r (by simpa using hp) o1
    subst e
    have hge : ∀ y ∈ runs [] q, h ≤ y := fun y hy => by have := runs_new oq y hy; omega
    have hlt : ∀ t ∈ E.take i, t < h + (p1.length : Int) := fun t ht => by
      have := g.lt t (List.mem_of_mem_take ht); omega
    by_cases hx : x ∈ E.take i
    · obtain ⟨j, hj, ej⟩ := List.mem_iff_getElem.mp hx
      have hji : j < i := by rw [List.length_take] at hj; omega
      have ej' : E[j]? = some x := by
        rw [← List.getElem?_take_of_lt hji, List.getElem?_eq_getElem hj, ej]
      have en : nxt (runs E (p1 ++ q)) x = E.take (j + 1) := by
        rw [er]
        exact nxt_mid g hge ej' hji
      refine ⟨j + 1, (p1 ++ q) ++ [x], [], by omega, by rw [List.append_nil], by rw [runs_snoc, en], .inr ⟨j, p1 ++ q, x, rfl, rfl, ej'⟩, trivial, ?_⟩
      rw [runs_snoc, en]
      show _ = _ ++ []
      rw [List.append_nil]
    · have hx2 : x ∈ runs [] q ∨ x = h + (p1.length : Int) + (q.length : Int) := by
        rcases o2 with z | z
        · rw [er] at z
          rcases List.mem_append.mp z with z | z
          · exact absurd z hx
          · exact .inl z
        · rw [List.length_append] at z
          exact .inr (by omega)
      have hxh : h + (p1.length : Int) ≤ x := by
        rcases hx2 with z | z
        · exact runs_new oq x z
        · omega
      have en : nxt (runs E (p1 ++ q)) x = E.take i ++ nxt (runs [] q) x := by
        rw [er]
        exact nxt_hi fun t ht => by have := hlt t ht; omega
      refine ⟨i, p1, q ++ [x], hi, by rw [List.append_assoc], e1, hc1, ok_snoc.mpr ⟨oq, hx2, ?_⟩, by rw [runs_snoc, en, runs_snoc]⟩
      rw [en, List.length_append, List.length_take] at o3
      omega
end
end Js

/-! JsBest: the least going on; the Solver's recursion. -/
namespace Js
section
variable (K : Int) (W L : Int → Int → Int)
structure IsBest (S : List Int) (h : Int) (m : Nat) (c : Int) (p : List Int) : Prop where
  ok : ok K S h p
  len : p.length = m
  cost : cst W L S h p = c
  least : ∀ q, Js.ok K S h q → q.length = m → le (c :: p) (cst W L S h q :: q)
/-- the first of the least pairs (by their codes) -/
def minP : List (Int × List Int) → Int × List Int
  | [] => (0, [])
  | a :: r => if r.isEmpty then a else if ll (en (minP r)) (en a) then minP r else a
def choices (S : List Int) (h : Int) : List Int := (S ++ [h]).filter fun x => decide (((nxt S x).length : Int) ≤ K)
def best : Nat → List Int → Int → Int × List Int
  | 0, _, _ => (0, [])
  | m + 1, S, h => minP ((choices K S h).map fun x => (hc W L S x h + (best m (nxt S x) (h + 1)).1, x :: (best m (nxt S x) (h + 1)).2))
end
theorem minP_mem : ∀ {l : List (Int × List Int)}, l ≠ [] → minP l ∈ l ∧ ∀ y ∈ l, le (en (minP l)) (en y)
  | [], h => absurd rfl h
  | [a], _ => ⟨List.mem_singleton.mpr rfl, fun y hy => by rw [List.mem_singleton.mp hy]; exact le_refl _⟩
  | a :: b :: r, _ => by
    obtain ⟨h1, h2⟩ := minP_mem (l := b :: r) (by simp)
    have e : minP (a :: b :: r) = if ll (en (minP (b :: r))) (en a) then minP (b :: r) else a := rfl
    rw [e]
    by_cases h : ll (en (minP (b :: r))) (en a) = true
    · rw [if_pos h]
      refine ⟨List.mem_cons_of_mem _ h1, fun y hy => ?_⟩
      rcases List.mem_cons.mp hy with z | hy
      · rw [z]
        rcases le_total (en (minP (b :: r))) (en a) with q | q
        · exact q
        · unfold le at q; rw [h] at q; cases q
      · exact h2 y hy
    · rw [if_neg h]
      have ha : le (en a) (en (minP (b :: r))) := by unfold le; exact Bool.eq_false_iff.mpr h
      refine ⟨List.mem_cons_self, fun y hy => ?_⟩
      rcases List.mem_cons.mp hy with z | hy
      · rw [z]; exact le_refl _
      · exact le_trans ha (h2 y hy)
section
variable {K : Int} {W L : Int → Int → Int}
theorem IsBest.uniq {S : List Int} {h : Int} {m : Nat} {c d : Int} {p q : List Int} (a : IsBest K W L S h m c p) (b : IsBest K W L S h m d q) : c = d ∧ p = q := by
  have h1 := a.least q b.ok b.len
  have h2 := b.least p a.ok a.len
  rw [b.cost] at h1
  rw [a.cost] at h2
  have e := le_antisymm h1 h2
  injection e with e1 e2
  exact ⟨e1, e2⟩
theorem isBest_zero (S : List Int) (h : Int) : IsBest K W L S h 0 0 [] :=
  ⟨trivial, rfl, rfl, fun q _ hq => by rw [List.length_eq_zero_iff.mp hq]; exact le_refl _⟩
theorem mem_choices {S : List Int} {h x : Int} : x ∈ choices K S h ↔ (x ∈ S ∨ x = h) ∧ ((nxt S x).length : Int) ≤ K := by
  unfold choices
  rw [List.mem_filter, List.mem_append, List.mem_singleton, decide_eq_true_iff]
theorem choices_ne (hK : 1 ≤ K) {S : List Int} {h : Int} (g : Good S h) : choices K S h ≠ [] := by
  intro e
  have q : ∃ x, x ∈ choices K S h := by
    cases S with
    | nil => exact ⟨h, mem_choices.mpr ⟨.inr rfl, by rw [nxt_lo fun _ z => by cases z]; exact hK⟩⟩
    | cons y S =>
      refine ⟨y, mem_choices.mpr ⟨.inl List.mem_cons_self, ?_⟩⟩
      rw [nxt_lo fun z hz => ?_]
      · exact hK
      · rcases List.mem_cons.mp hz with e | hz
        · omega
        · have := (List.pairwise_cons.mp g.asc).1 z hz; omega
  obtain ⟨x, hx⟩ := q
  rw [e] at hx
  cases hx
theorem best_is (hK : 1 ≤ K) : ∀ (m : Nat) (S : List Int) (h : Int), Good S h → IsBest K W L S h m (best K W L m S h).1 (best K W L m S h).2
  | 0, S, h, _ => isBest_zero S h
  | m + 1, S, h, g => by
    have ne : ((choices K S h).map fun x => (hc W L S x h + (best K W L m (nxt S x) (h + 1)).1, x :: (best K W L m (nxt S x) (h + 1)).2)) ≠ [] := by
      intro e
      exact choices_ne hK g (List.map_eq_nil_iff.mp e)
    obtain ⟨h1, h2⟩ := minP_mem ne
    have eb : best K W L (m + 1) S h = minP ((choices K S h).map fun x => (hc W L S x h + (best K W L m (nxt S x) (h + 1)).1, x :: (best K W L m (nxt S x) (h + 1)).2)) := rfl
    rw [eb]
    obtain ⟨x, hx, ex⟩ := List.mem_map.mp h1
    have hx' := mem_choices.mp hx
    have ih := best_is hK m (nxt S x) (h + 1) (g.nxt hx'.1)
    rw [← ex]
    refine ⟨⟨hx'.1, hx'.2, ih.ok⟩, by rw [List.length_cons, ih.len], ?_, fun q oq lq => ?_⟩
    · show hc W L S x h + cst W L (nxt S x) (h + 1) _ = _
      rw [ih.cost]
    · cases q with
      | nil => simp at lq
      | cons y q =>
        have hy := mem_choices (K := K).mpr ⟨oq.1, oq.2.1⟩
        have ihy := best_is hK m (nxt S y) (h + 1) (g.nxt oq.1)
        have z := h2 _ (List.mem_map.mpr ⟨y, hy, rfl⟩)
        rw [← ex] at z
        refine le_trans z ?_
        have k := ihy.least q oq.2.2 (by simpa using lq)
        exact le_add (p := [y]) (p' := [y]) rfl (le_refl (hc W L S y h :: [y])) k

/-! ### the law's steps -/
/-- the least going on is the least over the next hour's choices -/
theorem IsBest.step {S : List Int} {h : Int} {m : Nat} {c : Int} {p : List Int} (hK : 1 ≤ K) (g : Good S h) (a : IsBest K W L S h (m + 1) c p) :
    (∃ x q d, x ∈ choices K S h ∧ IsBest K W L (nxt S x) (h + 1) m d q ∧ c = hc W L S x h + d ∧ p = x :: q) ∧
    ∀ x q d, x ∈ choices K S h → IsBest K W L (nxt S x) (h + 1) m d q → le (c :: p) ((hc W L S x h + d) :: x :: q) := by
  have up : ∀ x q d, x ∈ choices K S h → IsBest K W L (nxt S x) (h + 1) m d q → le (c :: p) ((hc W L S x h + d) :: x :: q) := fun x q d hx b => by
    have hx' := mem_choices.mp hx
    have z := a.least (x :: q) ⟨hx'.1, hx'.2, b.ok⟩ (by rw [List.length_cons, b.len])
    have e : cst W L S h (x :: q) = hc W L S x h + d := by show hc W L S x h + cst W L (nxt S x) (h + 1) q = _; rw [b.cost]
    rw [e] at z
    exact z
  refine ⟨?_, up⟩
  have hp := a.len
  cases p with
  | nil => simp at hp
  | cons x q =>
    have o := a.ok
    have b := best_is (W := W) (L := L) hK m (nxt S x) (h + 1) (g.nxt o.1)
    have hx : x ∈ choices K S h := mem_choices.mpr ⟨o.1, o.2.1⟩
    have z1 := up x _ _ hx b
    have z2 := b.least q o.2.2 (by simpa using hp)
    have e : c = hc W L S x h + cst W L (nxt S x) (h + 1) q := a.cost.symm
    have z3 := le_add (p := [x]) (p' := [x]) rfl (le_refl (hc W L S x h :: [x])) z2
    rw [e] at z1
    have z4 := le_antisymm z1 z3
    injection z4 with z5 z6
    injection z6 with _ z7
    refine ⟨x, q, cst W L (nxt S x) (h + 1) q, hx, ?_, e, rfl⟩
    rw [z7]
    rw [show cst W L (nxt S x) (h + 1) _ = (best K W L m (nxt S x) (h + 1)).1 from b.cost]
    exact b
/-- what is left of a least going on is least -/
theorem IsBest.drop {S : List Int} {h : Int} {n : Nat} {c : Int} {p r : List Int} (a : IsBest K W L S h (r.length + n) c (r ++ p)) :
    IsBest K W L (runs S r) (h + (r.length : Int)) n (cst W L (runs S r) (h + (r.length : Int)) p) p := by
  have o := ok_append.mp a.ok
  have hl := a.len
  rw [List.length_append] at hl
  refine ⟨o.2, by omega, rfl, fun q oq lq => ?_⟩
  have z := a.least (r ++ q) (ok_append.mpr ⟨o.1, oq⟩) (by rw [List.length_append, lq])
  have e := a.cost
  rw [cst_append] at e z
  rw [← e, le_cons] at z
  rw [le_cons]
  rcases z with z | ⟨z, z'⟩
  · exact .inl (by omega)
  · exact .inr ⟨by omega, le_append_inv rfl z'⟩

/-! ### the Solver -/
variable (K W L)
def span (a : Int) (m : Nat) : Int := (best K W L m [] a).1
def plan (a : Int) (m : Nat) : List Int := (best K W L m [] a).2
def own (a : Int) (m : Nat) : Int := span K W L a m - lk L a a m
variable {K W L}
theorem span_is (hK : 1 ≤ K) (a : Int) (m : Nat) : IsBest K W L [] a m (span K W L a m) (plan K W L a m) := best_is hK m [] a (Good.nil a)
theorem span_zero (a : Int) : span K W L a 0 = 0 := rfl
theorem plan_zero (a : Int) : plan K W L a 0 = [] := rfl
theorem own_zero (a : Int) : own K W L a 0 = 0 := rfl
theorem span_is0 (a : Int) {m : Nat} (h : 1 ≤ K ∨ m = 0) : IsBest K W L [] a m (span K W L a m) (plan K W L a m) := by
  rcases h with h | h
  · exact span_is h a m
  · subst h; exact isBest_zero [] a
theorem plan_len {a : Int} {m : Nat} (h : 1 ≤ K ∨ m = 0) : (plan K W L a m).length = m := (span_is0 a h).len
/-- the last writing of the stretch's own run -/
theorem decompS {a : Int} {p : List Int} (o : ok K [] a p) (hp : p ≠ []) : ∃ p1 q, p = p1 ++ a :: q ∧ ok K [] a p1 ∧ ok (K - 1) [] (a + p1.length + 1) q ∧ 1 ≤ K := by
  cases p with
  | nil => exact absurd rfl hp
  | cons x p =>
    have ex : x = a := by
      rcases o.1 with z | z
      · cases z
      · exact z
    subst ex
    have e0 : nxt [] x = [x] := nxt_lo fun _ z => by cases z
    have o2 := o.2.2
    have h1 : (1 : Int) ≤ K := by have := o.2.1; rw [e0] at this; exact this
    rw [e0] at o2
    obtain ⟨i, p1, q, hi, e, e1, hc1, oq, _⟩ := decomp (Good.one (show x < x + 1 by omega)) _ p rfl o2
    rcases hc1 with ⟨e2, e3⟩ | ⟨j, p0, y, e2, e3, e4⟩
    · subst e2
      subst e3
      refine ⟨[], q, by rw [e]; rfl, trivial, ?_, h1⟩
      have e5 : x + (([] : List Int).length : Int) + 1 = x + 1 + (([] : List Int).length : Int) := by simp
      rw [e5]
      exact oq
    · have hj : j = 0 := by
        rw [List.length_singleton] at hi
        omega
      subst hj
      have ey : y = x := by simpa using e4.symm
      subst ey
      subst e2
      refine ⟨y :: p0, q, by rw [e]; simp, ?_, ?_, h1⟩
      · have o3 : ok K [y] (y + 1) (p0 ++ [y] ++ q) := by rw [← e]; exact o2
        rw [List.append_assoc] at o3
        exact ⟨.inr rfl, by rw [e0]; exact h1, by rw [e0]; exact (ok_append.mp o3).1⟩
      · have e5 : y + ((y :: p0).length : Int) + 1 = y + 1 + ((p0 ++ [y]).length : Int) := by rw [List.length_cons, List.length_append, List.length_singleton]; omega
        rw [e5]
        have e6 : K - 1 = K - ((0 + 1 : Nat) : Int) := by omega
        rw [e6, ← e3]
        exact oq
theorem runs_own {a : Int} {p : List Int} (o : ok K [] a p) : nxt (runs [] p) a = [a] := nxt_lo (runs_new o)
theorem compS {a : Int} {p1 q : List Int} (hK : 1 ≤ K) (o1 : ok K [] a p1) (oq : ok (K - 1) [] (a + p1.length + 1) q) : ok K [] a (p1 ++ a :: q) ∧
    cst W L [] a (p1 ++ a :: q) = cst W L [] a p1 + (W a (a + p1.length) + L a (a + p1.length)) + (cst W L [] (a + p1.length + 1) q + lk L a (a + p1.length + 1) q.length) := by
  have en := runs_own o1
  have fr := frame0 (W := W) (L := L) (T := [a]) (fun t ht => by rw [List.mem_singleton.mp ht]; omega) (show ok (K - ([a] : List Int).length) [] (a + p1.length + 1) q from oq)
  have ha : a ∈ runs [] p1 ∨ a = a + (p1.length : Int) := by
    cases p1 with
    | nil => exact .inr (by simp)
    | cons x p =>
      have ex : x = a := by
        rcases o1.1 with z | z
        · cases z
        · exact z
      subst ex
      left
      obtain ⟨i, p1, q1, hi, e, e1, hc1, oq1, er⟩ := decomp (K := K) (Good.one (show x < x + 1 by omega)) _ p rfl (by have := o1.2.2; rw [nxt_lo (fun _ z => by cases z)] at this; exact this)
      show x ∈ runs (nxt [] x) p
      rw [nxt_lo (fun _ z => by cases z), er]
      have hi1 : i = 1 := by
        rcases hc1 with ⟨_, e3⟩ | ⟨j, _, _, _, e3, e4⟩
        · exact e3
        · rw [List.length_singleton] at hi; omega
      rw [hi1]
      exact List.mem_append_left _ (List.mem_singleton.mpr rfl)
  constructor
  · refine ok_append.mpr ⟨o1, ha, ?_, ?_⟩
    · rw [en]; exact hK
    · rw [en]; exact fr.1
  · rw [cst_append]
    show cst W L [] a p1 + (hc W L (runs [] p1) a (a + p1.length) + cst W L (nxt (runs [] p1) a) (a + p1.length + 1) q) = _
    unfold hc
    rw [en, fr.2.1]
    unfold eld
    simp only [List.map_cons, List.map_nil, List.sum_cons, List.sum_nil]
    omega
variable (K W L)
/-- what the program reckons for the last writing j hours behind the begin -/
def topv (a : Int) (m j : Nat) : Option Int := if j + 1 = m ∨ 1 < K then some (own K W L a j + W a (a + j) + span (K - 1) W L (a + j + 1) (m - j - 1)) else none
def topp (a : Int) (m j : Nat) : List Int := plan K W L a j ++ a :: plan (K - 1) W L (a + j + 1) (m - j - 1)
variable {K W L}
theorem top_ok {a : Int} {m j : Nat} {v : Int} (hK : 1 ≤ K) (hj : j < m) (e : topv K W L a m j = some v) :
    ok K [] a (topp K W L a m j) ∧ (topp K W L a m j).length = m ∧ cst W L [] a (topp K W L a m j) - lk L a a m = v := by
  unfold topv at e
  by_cases h : j + 1 = m ∨ 1 < K
  · rw [if_pos h] at e
    have e' := Option.some.inj e
    have b1 := span_is (W := W) (L := L) hK a j
    have b2 : IsBest (K - 1) W L [] (a + j + 1) (m - j - 1) (span (K - 1) W L (a + j + 1) (m - j - 1)) (plan (K - 1) W L (a + j + 1) (m - j - 1)) := span_is0 _ (by omega)
    have c := compS (W := W) (L := L) hK b1.ok (q := plan (K - 1) W L (a + j + 1) (m - j - 1)) (by rw [b1.len]; exact b2.ok)
    refine ⟨c.1, ?_, ?_⟩
    · unfold topp
      rw [List.length_append, List.length_cons, b1.len, b2.len]
      omega
    · have el : lk L a a m = lk L a a j + (L a (a + j) + lk L a (a + j + 1) (m - j - 1)) := by
        have z := lk_add (L := L) a a j (m - j)
        rw [show j + (m - j) = m by omega] at z
        rw [z, show m - j = (m - j - 1) + 1 by omega]
        rfl
      show cst W L [] a (plan K W L a j ++ a :: plan (K - 1) W L (a + j + 1) (m - j - 1)) - _ = v
      rw [c.2, b1.cost, b1.len, b2.cost, b2.len, el, ← e']
      unfold own
      omega
  · rw [if_neg h] at e
    cases e
theorem top_le {a : Int} {m : Nat} {p : List Int} (hm : 1 ≤ m) (o : ok K [] a p) (hp : p.length = m) : ∃ j v, j < m ∧ topv K W L a m j = some v ∧ 1 ≤ K ∧ le (v :: topp K W L a m j) ((cst W L [] a p - lk L a a m) :: p) := by
  have ne : p ≠ [] := fun e => by rw [e] at hp; simp at hp; omega
  obtain ⟨p1, q, e, o1, oq, hK⟩ := decompS o ne
  subst e
  rw [List.length_append, List.length_cons] at hp
  have c := compS (W := W) (L := L) hK o1 oq
  have hq : q.length = m - p1.length - 1 := by omega
  have cond : p1.length + 1 = m ∨ 1 < K := by
    by_cases z : p1.length + 1 = m
    · exact .inl z
    · right
      cases q with
      | nil => simp at hq; omega
      | cons y q =>
        have h1 := oq.2.1
        have h2 : 0 < (nxt [] y).length := List.length_pos_iff.mpr (nxt_ne _ _)
        omega
  have b1 := span_is (W := W) (L := L) hK a p1.length
  have b2 : IsBest (K - 1) W L [] (a + p1.length + 1) (m - p1.length - 1) (span (K - 1) W L (a + p1.length + 1) (m - p1.length - 1)) (plan (K - 1) W L (a + p1.length + 1) (m - p1.length - 1)) := span_is0 _ (by omega)
  refine ⟨p1.length, _, by omega, by unfold topv; rw [if_pos cond], hK, ?_⟩
  have z1 := b1.least p1 o1 rfl
  have z2 := b2.least q oq hq
  have el : lk L a a m = lk L a a p1.length + (L a (a + p1.length) + lk L a (a + p1.length + 1) (m - p1.length - 1)) := by
    have z := lk_add (L := L) a a p1.length (m - p1.length)
    rw [show p1.length + (m - p1.length) = m by omega] at z
    rw [z, show m - p1.length = (m - p1.length - 1) + 1 by omega]
    rfl
  have z3 : le ((W a (a + p1.length) - lk L a a p1.length + span (K - 1) W L (a + p1.length + 1) (m - p1.length - 1)) :: ([a] ++ plan (K - 1) W L (a + p1.length + 1) (m - p1.length - 1)))
      ((W a (a + p1.length) - lk L a a p1.length + cst W L [] (a + p1.length + 1) q) :: ([a] ++ q)) := le_add (p := [a]) (p' := [a]) rfl (le_refl _) z2
  have z4 := le_add (by rw [b1.len]) z1 z3
  have e1 : own K W L a p1.length + W a (a + p1.length) + span (K - 1) W L (a + p1.length + 1) (m - p1.length - 1) = span K W L a p1.length + (W a (a + p1.length) - lk L a a p1.length + span (K - 1) W L (a + p1.length + 1) (m - p1.length - 1)) := by
    unfold own
    omega
  have e2 : cst W L [] a (p1 ++ a :: q) - lk L a a m = cst W L [] a p1 + (W a (a + p1.length) - lk L a a p1.length + cst W L [] (a + p1.length + 1) q) := by
    rw [c.2, el, hq]
    omega
  rw [e1, e2]
  exact z4
/-- THE RECURSION: own is the least of the tops' values, plan the least of the plans of the tops that reach it -/
theorem own_plan (hK : 1 ≤ K) {a : Int} {m : Nat} (hm : 1 ≤ m) : (∃ j, j < m ∧ topv K W L a m j = some (own K W L a m) ∧ topp K W L a m j = plan K W L a m) ∧
    ∀ j v, j < m → topv K W L a m j = some v → le (own K W L a m :: plan K W L a m) (v :: topp K W L a m j) := by
  have b := span_is (W := W) (L := L) hK a m
  have up : ∀ j v, j < m → topv K W L a m j = some v → le (own K W L a m :: plan K W L a m) (v :: topp K W L a m j) := fun j v hj e => by
    obtain ⟨o, l, c⟩ := top_ok hK hj e
    have z := b.least _ o l
    rw [le_cons] at z ⊢
    have eo : own K W L a m = span K W L a m - lk L a a m := rfl
    rcases z with z | ⟨z, z'⟩
    · exact .inl (by omega)
    · exact .inr ⟨by omega, z'⟩
  refine ⟨?_, up⟩
  obtain ⟨j, v, hj, e, _, z⟩ := top_le (W := W) (L := L) hm b.ok b.len
  rw [b.cost] at z
  have q := le_antisymm (up j v hj e) z
  injection q with q1 q2
  exact ⟨j, hj, by rw [q1]; exact e, q2.symm⟩
theorem own_le (hK : 1 ≤ K) {a : Int} {m j : Nat} {v : Int} (hm : 1 ≤ m) (hj : j < m) (e : topv K W L a m j = some v) : own K W L a m ≤ v := by
  have z := (own_plan (W := W) (L := L) hK (a := a) hm).2 j v hj e
  rw [le_cons] at z
  omega
theorem plan_le (hK : 1 ≤ K) {a : Int} {m j : Nat} (hm : 1 ≤ m) (hj : j < m) (e : topv K W L a m j = some (own K W L a m)) : le (plan K W L a m) (topp K W L a m j) := by
  have z := (own_plan (W := W) (L := L) hK (a := a) hm).2 j _ hj e
  rw [le_cons] at z
  rcases z with z | z
  · omega
  · exact z.2
/-- more runs than hours make no difference -/
theorem best_cap (hK : 1 ≤ K) {K' : Int} (a : Int) {m : Nat} (hK' : 1 ≤ K') (h : K' = K ∨ (K' ≤ K ∧ (m : Int) ≤ K')) : best K' W L m [] a = best K W L m [] a := by
  rcases h with h | ⟨h1, h2⟩
  · rw [h]
  have b1 := best_is (W := W) (L := L) hK m [] a (Good.nil a)
  have b2 := best_is (W := W) (L := L) hK' m [] a (Good.nil a)
  have b3 : IsBest K W L [] a m (best K' W L m [] a).1 (best K' W L m [] a).2 := ⟨ok_mono h1 b2.ok, b2.len, b2.cost, fun q o l => b2.least q (ok_cap (by simpa [l] using h2) o) l⟩
  obtain ⟨e1, e2⟩ := b3.uniq b1
  exact Prod.ext e1 e2
theorem span_cap (hK : 1 ≤ K) {K' : Int} (a : Int) {m : Nat} (hK' : 1 ≤ K') (h : K' = K ∨ (K' ≤ K ∧ (m : Int) ≤ K')) : span K' W L a m = span K W L a m := by
  unfold span
  rw [best_cap hK a hK' h]
theorem plan_cap (hK : 1 ≤ K) {K' : Int} (a : Int) {m : Nat} (hK' : 1 ≤ K') (h : K' = K ∨ (K' ≤ K ∧ (m : Int) ≤ K')) : plan K' W L a m = plan K W L a m := by
  unfold plan
  rw [best_cap hK a hK' h]
theorem own_cap (hK : 1 ≤ K) {K' : Int} (a : Int) {m : Nat} (hK' : 1 ≤ K') (h : K' = K ∨ (K' ≤ K ∧ (m : Int) ≤ K')) : own K' W L a m = own K W L a m := by
  unfold own
  rw [span_cap hK a hK' h]
end
end Js

/-! JsRest: the recursion of Rest: by the last writings of the runs that stand. -/
namespace Js
/-- an elder run was written at ah; i of the eldest stand then -/
structure Kn where
  ah : Int
  i : Nat
  c : Int
  pl : List Int
structure Wy where
  i : Nat
  c : Int
  pl : List Int
section
variable (K : Int) (W L : Int → Int → Int) (E : List Int)
def wayOf (hour : Int) (e : Kn) : Option Wy :=
  if hour - 1 - e.ah = 0 ∨ 1 ≤ K - e.i then
    some ⟨e.i, e.c + span (K - e.i) W L (e.ah + 1) (hour - 1 - e.ah).toNat + eld L (E.take e.i) (e.ah + 1) (hour - 1 - e.ah).toNat, e.pl ++ plan (K - e.i) W L (e.ah + 1) (hour - 1 - e.ah).toNat⟩
  else none
def ways (hour : Int) (kn : List Kn) : List Wy := kn.filterMap (wayOf K W L E hour)
def wsome (ws : List Wy) (j : Nat) : List (Int × List Int) := (ws.filter fun w => decide ((j : Int) < (w.i : Int))).map fun w => (w.c, w.pl)
def wrOf (ws : List Wy) (hour : Int) (j : Nat) : Option Kn :=
  if wsome ws j = [] then none else
    some ⟨hour, j + 1, (minP (wsome ws j)).1 + (W (E.getD j 0) hour + eld L (E.take (j + 1)) hour 1), (minP (wsome ws j)).2 ++ [E.getD j 0]⟩
def wrote (ws : List Wy) (hour : Int) : List Kn := (List.range (min E.length K.toNat)).filterMap (wrOf W L E ws hour)
def knAt (h0 : Int) (begun : List Int) : Nat → List Kn
  | 0 => [⟨h0 - 1, E.length, 0, begun⟩]
  | n + 1 => knAt h0 begun n ++ wrote K W L E (ways K W L E (h0 + n) (knAt h0 begun n)) (h0 + n)
structure KnOk (h0 : Int) (begun : List Int) (n : Nat) (kn : List Kn) : Prop where
  sound : ∀ e ∈ kn, ∃ p, ok K E h0 p ∧ e.pl = begun ++ p ∧ (p.length : Int) = e.ah + 1 - h0 ∧ p.length ≤ n ∧ runs E p = E.take e.i ∧ e.i ≤ E.length ∧ cst W L E h0 p = e.c
  full : ∀ p i, ok K E h0 p → p.length ≤ n → ((p = [] ∧ i = E.length) ∨ ∃ (j : Nat) (p0 : List Int) (x : Int), p = p0 ++ [x] ∧ i = j + 1 ∧ E[j]? = some x) →
    ∃ e ∈ kn, e.ah = h0 + p.length - 1 ∧ e.i = i ∧ le (e.c :: e.pl) (cst W L E h0 p :: (begun ++ p))
structure WyOk (h0 : Int) (begun : List Int) (n : Nat) (ws : List Wy) : Prop where
  sound : ∀ w ∈ ws, ∃ p, ok K E h0 p ∧ p.length = n ∧ w.pl = begun ++ p ∧ cst W L E h0 p = w.c ∧ w.i ≤ E.length ∧ ∃ R, runs E p = E.take w.i ++ R ∧ ∀ y ∈ R, h0 ≤ y
  full : ∀ p, ok K E h0 p → p.length = n → ∃ w ∈ ws, (∀ j x, E[j]? = some x → x ∈ runs E p → j < w.i) ∧ le (w.c :: w.pl) (cst W L E h0 p :: (begun ++ p))
end
section
variable {K : Int} {W L : Int → Int → Int} {E : List Int} {h0 : Int} {begun : List Int}
theorem ways_ok (g : Good E h0) {n : Nat} {kn : List Kn} (k : KnOk K W L E h0 begun n kn) : WyOk K W L E h0 begun n (ways K W L E (h0 + n) kn) where
  sound := fun w hw => by
    obtain ⟨e, he, hew⟩ := List.mem_filterMap.mp hw
    obtain ⟨p1, o1, epl, el, hn, er, hi, ec⟩ := k.sound e he
    unfold wayOf at hew
    by_cases cond : h0 + (n : Int) - 1 - e.ah = 0 ∨ 1 ≤ K - e.i
    · rw [if_pos cond] at hew
      have hew := Option.some.inj hew
      have hm : (h0 + (n : Int) - 1 - e.ah).toNat = n - p1.length := by omega
      have ha : e.ah + 1 = h0 + (p1.length : Int) := by omega
      rw [hm, ha] at hew
      have b : IsBest (K - e.i) W L [] (h0 + p1.length) (n - p1.length) (span (K - e.i) W L (h0 + p1.length) (n - p1.length)) (plan (K - e.i) W L (h0 + p1.length) (n - p1.length)) := span_is0 _ (by omega)
      have hlen : (E.take e.i).length = e.i := by rw [List.length_take]; omega
      have fr := frame0 (K := K) (W := W) (L := L) (T := E.take e.i) (q := plan (K - e.i) W L (h0 + p1.length) (n - p1.length)) (h := h0 + p1.length) (fun t ht => by have := g.lt t (List.mem_of_mem_take ht); omega) (by rw [hlen]; exact b.ok)
      refine ⟨p1 ++ plan (K - e.i) W L (h0 + p1.length) (n - p1.length), ok_append.mpr ⟨o1, by rw [er]; exact fr.1⟩, by rw [List.length_append, b.len]; omega, ?_, ?_, ?_, runs [] (plan (K - e.i) W L (h0 + p1.length) (n - p1.length)), ?_, ?_⟩
      · rw [← hew, epl, List.append_assoc]
      · rw [cst_append, er, fr.2.1, ec, b.cost, b.len, ← hew]
        show e.c + (_ + _) = e.c + _ + _
        omega
      · rw [← hew]; exact hi
      · rw [runs_append, er, fr.2.2, ← hew]
      · intro y hy
        have := runs_new b.ok y hy
        omega
    · rw [if_neg cond] at hew
      cases hew
  full := fun p o hp => by
    obtain ⟨i, p1, q, hi, e, er, hc, oq, er2⟩ := decomp g _ p rfl o
    subst e
    rw [List.length_append] at hp
    have o1 := (ok_append.mp o).1
    obtain ⟨en, hen, ea, ei, hle⟩ := k.full p1 i o1 (by omega) hc
    have hm : (h0 + (n : Int) - 1 - en.ah).toNat = q.length := by omega
    have ha : en.ah + 1 = h0 + (p1.length : Int) := by omega
    have cond : h0 + (n : Int) - 1 - en.ah = 0 ∨ 1 ≤ K - (en.i : Int) := by
      cases q with
      | nil => left; simp at hp; omega
      | cons y q =>
        right
        have h1 := oq.2.1
        have h2 : 0 < (nxt [] y).length := List.length_pos_iff.mpr (nxt_ne _ _)
        omega
    refine ⟨_, List.mem_filterMap.mpr ⟨en, hen, by unfold wayOf; rw [if_pos cond]⟩, fun j x hx hxm => ?_, ?_⟩
    · rw [er2] at hxm
      show j < en.i
      rw [ei]
      rcases List.mem_append.mp hxm with z | z
      · obtain ⟨j', hj', ej'⟩ := List.mem_iff_getElem.mp z
        have hj2 : j' < i := by rw [List.length_take] at hj'; omega
        have ej2 : E[j']? = some x := by rw [← List.getElem?_take_of_lt hj2, List.getElem?_eq_getElem hj', ej']
        have nd : E.Nodup := g.asc.imp fun h => Int.ne_of_lt h
        obtain ⟨b1, c1⟩ := List.getElem?_eq_some_iff.mp hx
        obtain ⟨b2, c2⟩ := List.getElem?_eq_some_iff.mp ej2
        have : j = j' := (List.getElem_inj nd).mp (c1.trans c2.symm)
        omega
      · have h1 := runs_new oq x z
        have h2 := g.lt x (List.mem_of_getElem? hx)
        omega
    · rw [hm, ha, ei]
      have b : IsBest (K - i) W L [] (h0 + p1.length) q.length (span (K - i) W L (h0 + p1.length) q.length) (plan (K - i) W L (h0 + p1.length) q.length) := span_is0 _ (by
        rw [ei] at cond
        rcases cond with z | z
        · right; omega
        · left; exact z)
      have z1 := b.least q oq rfl
      have hlen : (E.take i).length = i := by rw [List.length_take]; omega
      have fr := frame0 (K := K) (W := W) (L := L) (T := E.take i) (q := q) (h := h0 + p1.length) (fun t ht => by have := g.lt t (List.mem_of_mem_take ht); omega) (by rw [hlen]; exact oq)
      have sp := ok_append.mp o
      have hpl : en.pl.length = (begun ++ p1).length := by
        obtain ⟨p2, _, e2, l2, _⟩ := k.sound en hen
        rw [e2, List.length_append, List.length_append]
        omega
      have z2 := le_add hpl hle z1
      have z3 := le_add (q := []) (q' := []) (d := eld L (E.take i) (h0 + p1.length) q.length) (d' := eld L (E.take i) (h0 + p1.length) q.length) (by
        rw [List.length_append, List.length_append, hpl, b.len]) z2 (le_refl _)
      rw [List.append_nil, List.append_nil] at z3
      rw [cst_append, er, fr.2.1, ← List.append_assoc, ← Int.add_assoc]
      exact z3
theorem wrote_ok (hK : 1 ≤ K) (g : Good E h0) {n : Nat} {kn : List Kn} {ws : List Wy} (k : KnOk K W L E h0 begun n kn) (w : WyOk K W L E h0 begun n ws) : KnOk K W L E h0 begun (n + 1) (kn ++ wrote K W L E ws (h0 + n)) where
  sound := fun e he => by
    rcases List.mem_append.mp he with he | he
    · obtain ⟨p, a1, a2, a3, a4, a5⟩ := k.sound e he
      exact ⟨p, a1, a2, a3, by omega, a5⟩
    · obtain ⟨j, hj, hej⟩ := List.mem_filterMap.mp he
      have hj' := List.mem_range.mp hj
      unfold wrOf at hej
      by_cases cond : wsome ws j = []
      · rw [if_pos cond] at hej; cases hej
      · rw [if_neg cond] at hej
        have hej := Option.some.inj hej
        obtain ⟨m1, _⟩ := minP_mem cond
        obtain ⟨v, hv, ev⟩ := List.mem_map.mp m1
        rw [← ev] at hej
        obtain ⟨hvw, hji⟩ := List.mem_filter.mp hv
        have hji' : (j : Int) < (v.i : Int) := of_decide_eq_true hji
        obtain ⟨p, o, lp, epl, ec, hi, R, er, hR⟩ := w.sound v hvw
        have hjE : j < E.length := by omega
        have ex : E[j]? = some (E.getD j 0) := by rw [List.getD_eq_getElem?_getD, List.getElem?_eq_getElem hjE]; rfl
        have en : nxt (runs E p) (E.getD j 0) = E.take (j + 1) := by rw [er]; exact nxt_mid g hR ex (by omega)
        have hl : (E.take (j + 1)).length = j + 1 := by rw [List.length_take]; omega
        refine ⟨p ++ [E.getD j 0], ok_snoc.mpr ⟨o, .inl ?_, ?_⟩, ?_, ?_, ?_, ?_, ?_, ?_⟩
        · rw [er]
          refine List.mem_append_left _ (List.mem_of_getElem? (i := j) ?_)
          rw [List.getElem?_take_of_lt (by omega)]
          exact ex
        · rw [en, hl]
          omega
        · rw [← hej, epl, List.append_assoc]
        · rw [← hej, List.length_append, List.length_singleton, lp]
          show ((n + 1 : Nat) : Int) = h0 + n + 1 - h0
          omega
        · rw [List.length_append, List.length_singleton]; omega
        · rw [runs_snoc, en, ← hej]
        · rw [← hej]; exact hjE
        · rw [cst_append, ec, ← hej, eld_one]
          show v.c + (hc W L (runs E p) (E.getD j 0) (h0 + p.length) + 0) = v.c + _
          unfold hc
          rw [en, lp]
          omega
  full := fun p i o hp hc => by
    by_cases hn : p.length ≤ n
    · obtain ⟨e, he, r⟩ := k.full p i o hn hc
      exact ⟨e, List.mem_append_left _ he, r⟩
    · rcases hc with ⟨e, _⟩ | ⟨j, p0, x, e, ei, ex⟩
      · subst e; exact absurd (Nat.zero_le n) hn
      · subst e
        rw [List.length_append, List.length_singleton] at hp hn
        have lp : p0.length = n := by omega
        obtain ⟨o0, o1, o2⟩ := ok_snoc.mp o
        have hxh := g.lt x (List.mem_of_getElem? ex)
        have hxm : x ∈ runs E p0 := by
          rcases o1 with z | z
          · exact z
          · omega
        obtain ⟨v, hv, hvj, hle⟩ := w.full p0 o0 lp
        have hji := hvj j x ex hxm
        obtain ⟨pv, ov, lpv, epv, _, hiv, _⟩ := w.sound v hv
        have hmem : (v.c, v.pl) ∈ wsome ws j := List.mem_map.mpr ⟨v, List.mem_filter.mpr ⟨hv, decide_eq_true (by omega)⟩, rfl⟩
        have cond : wsome ws j ≠ [] := fun z => by rw [z] at hmem; cases hmem
        obtain ⟨m1, m2⟩ := minP_mem cond
        obtain ⟨v2, hv2, ev2⟩ := List.mem_map.mp m1
        obtain ⟨p2, _, lp2, epl2, _⟩ := w.sound v2 (List.mem_filter.mp hv2).1
        have hjE : j < E.length := by omega
        obtain ⟨i', p1', q', hi', e', er', hc', oq', er2'⟩ := decomp g _ p0 rfl o0
        have hji' : j < i' := by
          rw [er2'] at hxm
          rcases List.mem_append.mp hxm with z | z
          · obtain ⟨j', hj', ej'⟩ := List.mem_iff_getElem.mp z
            have hj2 : j' < i' := by rw [List.length_take] at hj'; omega
            have ej2 : E[j']? = some x := by rw [← List.getElem?_take_of_lt hj2, List.getElem?_eq_getElem hj', ej']
            have nd : E.Nodup := g.asc.imp fun h => Int.ne_of_lt h
            obtain ⟨b1, c1⟩ := List.getElem?_eq_some_iff.mp ex
            obtain ⟨b2, c2⟩ := List.getElem?_eq_some_iff.mp ej2
            have : j = j' := (List.getElem_inj nd).mp (c1.trans c2.symm)
            omega
          · have h1 := runs_new oq' x z
            omega
        have en : nxt (runs E p0) x = E.take (j + 1) := by
          rw [er2']
          exact nxt_mid g (fun y hy => by have := runs_new oq' y hy; omega) ex hji'
        have hl : (E.take (j + 1)).length = j + 1 := by rw [List.length_take]; omega
        rw [en, hl] at o2
        have exd : E.getD j 0 = x := by rw [List.getD_eq_getElem?_getD, ex]; rfl
        refine ⟨⟨h0 + n, j + 1, (minP (wsome ws j)).1 + (W (E.getD j 0) (h0 + n) + eld L (E.take (j + 1)) (h0 + n) 1), (minP (wsome ws j)).2 ++ [E.getD j 0]⟩, List.mem_append_right _ (List.mem_filterMap.mpr ⟨j, List.mem_range.mpr (by omega), by unfold wrOf; rw [if_neg cond]⟩), ?_, ei.symm, ?_⟩
        · show h0 + (n : Int) = _
          rw [List.length_append, List.length_singleton, lp]
          omega
        · have z1 : le (Js.en (minP (wsome ws j))) (cst W L E h0 p0 :: (begun ++ p0)) := le_trans (m2 _ hmem) hle
          have hlen : (minP (wsome ws j)).2.length = (begun ++ p0).length := by
            rw [← ev2]
            show v2.pl.length = _
            rw [epl2, List.length_append, List.length_append, lp2, lp]
          have z2 := le_add hlen z1 (le_refl ((W x (h0 + n) + eld L (E.take (j + 1)) (h0 + n) 1) :: [x]))
          rw [exd, ← List.append_assoc]
          have ecst : cst W L E h0 (p0 ++ [x]) = cst W L E h0 p0 + (W x (h0 + n) + eld L (E.take (j + 1)) (h0 + n) 1) := by
            rw [cst_append, eld_one, lp]
            show _ + (Js.hc W L (runs E p0) x (h0 + n) + 0) = _
            unfold Js.hc
            rw [en]
            omega
          rw [ecst]
          exact z2
theorem kn_ok (hK : 1 ≤ K) (g : Good E h0) : ∀ n, KnOk K W L E h0 begun n (knAt K W L E h0 begun n)
  | 0 => ⟨fun e he => by
      have e' : e = ⟨h0 - 1, E.length, 0, begun⟩ := List.mem_singleton.mp he
      subst e'
      exact ⟨[], trivial, by rw [List.append_nil], by show (0 : Int) = h0 - 1 + 1 - h0; omega, Nat.le_refl _, by rw [List.take_length]; rfl, Nat.le_refl _, rfl⟩,
    fun p i o hp hc => by
      have e : p = [] := List.length_eq_zero_iff.mp (by omega)
      subst e
      rcases hc with ⟨_, ei⟩ | ⟨_, p0, x, e, _⟩
      · refine ⟨_, List.mem_singleton.mpr rfl, ?_, ei.symm, ?_⟩
        · show h0 - 1 = h0 + 0 - 1
          omega
        · rw [List.append_nil]
          exact le_refl _
      · simp at e⟩
  | n + 1 => wrote_ok hK g (kn_ok hK g n) (ways_ok g (kn_ok hK g n))
/-- what Rest hands back is the least going on -/
theorem rest_best (hK : 1 ≤ K) (g : Good E h0) (m : Nat) : ways K W L E (h0 + m) (knAt K W L E h0 begun m) ≠ [] ∧
    ∀ a ∈ (ways K W L E (h0 + m) (knAt K W L E h0 begun m)).map (fun w => (w.c, w.pl)), (∀ b ∈ (ways K W L E (h0 + m) (knAt K W L E h0 begun m)).map (fun w => (w.c, w.pl)), le (en a) (en b)) →
      ∃ p, a.2 = begun ++ p ∧ IsBest K W L E h0 m a.1 p := by
  have w := ways_ok (W := W) (L := L) g (kn_ok (W := W) (L := L) (begun := begun) hK g m)
  have b := best_is (W := W) (L := L) hK m E h0 g
  refine ⟨fun z => ?_, fun a ha hmin => ?_⟩
  · obtain ⟨v, hv, _⟩ := w.full _ b.ok b.len
    rw [z] at hv
    cases hv
  · obtain ⟨v, hv, ev⟩ := List.mem_map.mp ha
    obtain ⟨p, o, lp, epl, ec, _⟩ := w.sound v hv
    subst ev
    refine ⟨p, epl, o, lp, ec, fun q oq lq => ?_⟩
    obtain ⟨u, hu, _, hle⟩ := w.full q oq lq
    have z := le_trans (hmin _ (List.mem_map.mpr ⟨u, hu, rfl⟩)) hle
    have z' : le (v.c :: v.pl) (cst W L E h0 q :: (begun ++ q)) := z
    rw [epl, le_cons] at z'
    rw [le_cons]
    rcases z' with y | ⟨y, y'⟩
    · exact .inl y
    · exact .inr ⟨y, le_append_inv rfl y'⟩
end
end Js

/-! JsRules: rules of our own over HandS: sum of a tuple; min of a list of data; a call of an own field that holds a def; enumerate of a tuple. -/
namespace Js
open PySem PySem.Spec PyProof.Rows L2
section
variable {X : Cx}
/-! ### sum of a tuple of ints -/
def rSumT (K : PySem.W.Frag) : List V → Hp → VK → Prop := fun vs H Q => ∃ (a : Addr) (ns : List Int), vs = [V.ref a] ∧ SqT K H a (ns.map V.int) ∧ Q (.int ns.sum) H
theorem cr_sumT (hc : X.calm = true) : CallR X (.builtin "sum") (rSumT X.K) := by
  intro pins s σ H vs us Q I r h
  obtain ⟨a, ns, rfl, hs, q⟩ := h
  obtain ⟨its, rv, hl, _⟩ := I.tuple hs
  rw [Vals.ref1 r]
  have hi : IntsAre its ns := rv.ints
  obtain ⟨xs, hx⟩ := hi.allInts.items
  have hn : numsOf its.toArray.toList = ns := by rw [show its.toArray.toList = its from rfl, hi.numsOf]
  rw [hx] at hl hn
  rw [nums_intItems] at hn
  refine PySem.W.ktm_sumG (I.ok.hd hc) (show s.heap.IsTuple a (intItems xs) from hl) fun h' tk t' hk => ?_
  refine ⟨.int ns.sum, H, I.kept hk, ⟨t', ?_⟩, q⟩
  rw [preSum_eq, List.take_of_length_le (by simp), hn]

/-! ### min of a list of data that have an order -/
open PySem.W in
def rMinD (K : PySem.W.Frag) (α : Type) [DecidableEq α] [PySem.W.DatumOrd α] : List V → Hp → VK → Prop := fun vs H Q =>
  ∃ (a : Addr) (xs : List V) (y : α) (ys : List α), vs = [V.ref a] ∧ SqL K H a xs ∧ DpAll K H xs ((y :: ys).map Datum.toD) ∧
    ∀ (i : Nat) (v : V), xs[i]? = some v → (y :: ys)[i]? = some (minOf y ys) → Q v H
theorem dpAll_at {K : PySem.W.Frag} {H : Hp} : ∀ {vs : List V} {ds : List PyData} {i : Nat} {v : V}, DpAll K H vs ds → vs[i]? = some v → ∃ d, ds[i]? = some d ∧ Dp K H v d
  | _, _, i, v, .nil, e => by simp at e
  | _, _, 0, v, .cons (d := d) (ds := ds) h t, e => by
    have e' := Option.some.inj (show some _ = some v from e)
    subst e'
    exact ⟨_, rfl, h⟩
  | _, _, i + 1, v, .cons h t, e => dpAll_at (i := i) t (by simpa using e)
theorem Dp.of_all_get {K : PySem.W.Frag} {H : Hp} {vs : List V} {ds : List PyData} (h : DpAll K H vs ds) : vs.length = ds.length := by
  induction vs generalizing ds with
  | nil => cases h; rfl
  | cons v vs ih =>
    cases h with
    | cons h t => rw [List.length_cons, List.length_cons, ih t]
open PySem.W in
theorem toD_inj {α : Type} [DecidableEq α] [Datum α] {a b : α} (h : Datum.toD a = Datum.toD b) : a = b := by
  have e1 := Datum.eqv a b
  have e2 := Datum.eqv b b
  rw [h, e2] at e1
  have : decide (a = b) = true := by rw [← e1]; exact decide_eq_true rfl
  exact of_decide_eq_true this
open PySem.W in
theorem cr_minD {α : Type} [DecidableEq α] [DatumOrd α] (hc : X.calm = true) (hu : X.A.units + 1 + Datum.depth α < cLine) : CallR X (.builtin "min") (rMinD X.K α) := by
  intro pins s σ H vs us Q I r h
  obtain ⟨a, xs, y, ys, rfl, hs, hd, q⟩ := h
  obtain ⟨its, rv, hl, _⟩ := I.list hs
  rw [Vals.ref1 r]
  obtain ⟨as, ra⟩ := Dp.readsAll I _ _ _ hd rv
  refine min_list_datum (α := α) (x := y) (xs := ys) (I.ok.hd hc) hl.isList ⟨as, ra⟩ hu fun i v h' tk hi hh hk => ?_
  have hi' : its[i]? = some v := by simpa using hi
  have hil : i < xs.length := by
    have := rv.length
    obtain ⟨z, _⟩ := List.getElem?_eq_some_iff.mp hi'
    omega
  obtain ⟨u, hu1, hu2⟩ := rv.get (List.getElem?_eq_getElem hil)
  rw [hi'] at hu1
  have hu1 := Option.some.inj hu1
  subst hu1
  obtain ⟨d, hd1, hd2⟩ := dpAll_at hd (List.getElem?_eq_getElem hil)
  obtain ⟨bs, rb⟩ := Dp.reads I _ _ _ hd2 hu2
  obtain ⟨cs, rc⟩ := hh
  have e := (PySem.Reads.unique (PyProof.Rows.Reads.keeps hk rb) _ _ rc).1
  rw [List.getElem?_map] at hd1
  cases hz : (y :: ys)[i]? with
  | none => rw [hz] at hd1; cases hd1
  | some z =>
    rw [hz] at hd1
    have e2 : Datum.toD z = d := Option.some.inj hd1
    have e3 : z = minOf y ys := toD_inj (e2.trans e)
    refine ⟨xs[i], H, I.kept hk, hu2, q i _ (List.getElem?_eq_getElem hil) ?_⟩
    rw [hz, e3]

/-! ### min of a list of tuples of ints; of a list of pairs of an int and such a tuple -/
theorem listLt_ll : ∀ p q : List Int, PySem.W.listLt p q = ll p q
  | [], [] => rfl
  | [], _ :: _ => rfl
  | _ :: _, [] => rfl
  | x :: p, y :: q => by
    show (if x = y then PySem.W.listLt p q else PySem.W.DatumOrd.lt x y) = if x = y then ll p q else decide (x < y)
    rw [listLt_ll p q]
    rfl
open PySem.W in
theorem minOf_spec {α : Type} [DecidableEq α] [DatumOrd α] (cd : α → List Int) (hcd : ∀ a b : α, DatumOrd.lt a b = ll (cd a) (cd b)) : ∀ (ys : List α) (y : α), minOf y ys ∈ y :: ys ∧ ∀ z ∈ y :: ys, le (cd (minOf y ys)) (cd z)
  | [], y => ⟨List.mem_singleton.mpr rfl, fun z hz => by rw [List.mem_singleton.mp hz]; exact le_refl _⟩
  | x :: ys, y => by
    have e : minOf y (x :: ys) = minOf (if DatumOrd.lt x y = true then x else y) ys := rfl
    rw [e]
    by_cases h : DatumOrd.lt x y = true
    · rw [if_pos h]
      obtain ⟨h1, h2⟩ := minOf_spec cd hcd ys x
      refine ⟨List.mem_cons_of_mem _ h1, fun z hz => ?_⟩
      rcases List.mem_cons.mp hz with e | hz
      · rw [e]
        refine le_trans (h2 x List.mem_cons_self) ?_
        rcases le_total (cd x) (cd y) with k | k
        · exact k
        · rw [hcd] at h
          unfold le at k
          rw [h] at k
          cases k
      · exact h2 z hz
    · rw [if_neg h]
      obtain ⟨h1, h2⟩ := minOf_spec cd hcd ys y
      refine ⟨?_, fun z hz => ?_⟩
      · rcases List.mem_cons.mp h1 with e | h1
        · rw [e]; exact List.mem_cons_self
        · exact List.mem_cons_of_mem _ (List.mem_cons_of_mem _ h1)
      · rcases List.mem_cons.mp hz with e | hz
        · rw [e]; exact h2 y List.mem_cons_self
        · rcases List.mem_cons.mp hz with e | hz
          · rw [e]
            refine le_trans (h2 y List.mem_cons_self) ?_
            unfold le
            rw [← hcd]
            exact Bool.eq_false_iff.mpr h
          · exact h2 z (List.mem_cons_of_mem _ hz)
/-- a tuple of ints; a pair of an int and such a tuple -/
def TupI (H : Hp) (b : Addr) (p : List Int) : Prop := H b = some (.tup (p.map V.int))
def PairI (H : Hp) (b : Addr) (p : Int × List Int) : Prop := ∃ t, H b = some (.tup [.int p.1, .ref t]) ∧ TupI H t p.2
theorem Paired.at_ {α β : Type} {F : α → β → Prop} : ∀ {as : List α} {bs : List β} {i : Nat} {a : α} {b : β}, Paired F as bs → as[i]? = some a → bs[i]? = some b → F a b
  | _, _, i, _, _, .nil, e, _ => by simp at e
  | _, _, 0, a, b, .cons r _, e1, e2 => by
    have e1 := Option.some.inj (show some _ = some a from e1)
    have e2 := Option.some.inj (show some _ = some b from e2)
    subst e1 e2
    exact r
  | _, _, i + 1, _, _, .cons _ t, e1, e2 => Paired.at_ (i := i) t (by simpa using e1) (by simpa using e2)
theorem dp_ints {K : PySem.W.Frag} {H : Hp} : ∀ p : List Int, DpAll K H (p.map V.int) (p.map PyData.int)
  | [] => .nil
  | x :: p => .cons (.int x) (dp_ints p)
theorem dp_tup {K : PySem.W.Frag} {H : Hp} {b : Addr} {p : List Int} (h : TupI H b p) : Dp K H (.ref b) (.tuple (p.map PyData.int)) := .tup (SqT.of h) (dp_ints p)
theorem dp_pair {K : PySem.W.Frag} {H : Hp} {b : Addr} {p : Int × List Int} (h : PairI H b p) : Dp K H (.ref b) (.tuple [.int p.1, .tuple (p.2.map PyData.int)]) := by
  obtain ⟨t, h1, h2⟩ := h
  exact .tup (SqT.of h1) (.cons (.int _) (.cons (dp_tup h2) .nil))
def rMinT (K : PySem.W.Frag) : List V → Hp → VK → Prop := fun vs H Q => ∃ (a : Addr) (as : List Addr) (ps : List (List Int)), vs = [V.ref a] ∧ SqL K H a (as.map V.ref) ∧ Paired (TupI H) as ps ∧ ps ≠ [] ∧
  ∀ b p, b ∈ as → TupI H b p → p ∈ ps → (∀ q ∈ ps, le p q) → Q (.ref b) H
def rMinP (K : PySem.W.Frag) : List V → Hp → VK → Prop := fun vs H Q => ∃ (a : Addr) (as : List Addr) (ps : List (Int × List Int)), vs = [V.ref a] ∧ SqL K H a (as.map V.ref) ∧ Paired (PairI H) as ps ∧ ps ≠ [] ∧
  ∀ b p, b ∈ as → PairI H b p → p ∈ ps → (∀ q ∈ ps, le (en p) (en q)) → Q (.ref b) H
section
variable {X : Cx}
theorem cr_minT (hc : X.calm = true) (hu : X.A.units + 64 < cLine) : CallR X (.builtin "min") (rMinT X.K) := by
  intro pins s σ H vs us Q I r h
  obtain ⟨a, as, ps, ev, hs, hp, hne, q⟩ := h
  cases ps with
  | nil => exact absurd rfl hne
  | cons p0 ps =>
    have hd : ∀ {as : List Addr} {qs : List (List Int)}, Paired (TupI H) as qs → DpAll X.K H (as.map V.ref) ((qs.map PySem.W.Tup.mk).map PySem.W.Datum.toD) := by
      intro as qs hp
      induction hp with
      | nil => exact .nil
      | cons r t ih => exact .cons (dp_tup r) ih
    refine cr_minD (α := PySem.W.Tup Int) hc (by show X.A.units + 1 + 1 < cLine; omega) pins s σ H vs us Q I r ⟨a, as.map V.ref, ⟨p0⟩, ps.map PySem.W.Tup.mk, ev, hs, hd hp, fun i v hv hm => ?_⟩
    obtain ⟨m1, m2⟩ := minOf_spec (α := PySem.W.Tup Int) (fun t => t.items) (fun a b => listLt_ll _ _) (ps.map PySem.W.Tup.mk) ⟨p0⟩
    have e0 : (⟨p0⟩ : PySem.W.Tup Int) :: ps.map PySem.W.Tup.mk = (p0 :: ps).map PySem.W.Tup.mk := rfl
    rw [e0, List.getElem?_map] at hm
    rw [List.getElem?_map] at hv
    cases hb : as[i]? with
    | none => rw [hb] at hv; cases hv
    | some b =>
      rw [hb] at hv
      have ev' : V.ref b = v := Option.some.inj hv
      subst ev'
      cases hpi : (p0 :: ps)[i]? with
      | none => rw [hpi] at hm; cases hm
      | some p =>
        rw [hpi] at hm
        have em : PySem.W.Tup.mk p = PySem.W.minOf ⟨p0⟩ (ps.map PySem.W.Tup.mk) := Option.some.inj hm
        refine q b p (List.mem_of_getElem? hb) (Paired.at_ hp hb hpi) (List.mem_of_getElem? hpi) fun q' hq' => ?_
        have z := m2 ⟨q'⟩ (by rw [e0]; exact List.mem_map.mpr ⟨q', hq', rfl⟩)
        rw [← em] at z
        exact z
theorem cr_minP (hc : X.calm = true) (hu : X.A.units + 64 < cLine) : CallR X (.builtin "min") (rMinP X.K) := by
  intro pins s σ H vs us Q I r h
  obtain ⟨a, as, ps, ev, hs, hp, hne, q⟩ := h
  cases ps with
  | nil => exact absurd rfl hne
  | cons p0 ps =>
    have hd : ∀ {as : List Addr} {qs : List (Int × List Int)}, Paired (PairI H) as qs → DpAll X.K H (as.map V.ref) ((qs.map fun z : Int × List Int => (z.1, PySem.W.Tup.mk z.2)).map PySem.W.Datum.toD) := by
      intro as qs hp
      induction hp with
      | nil => exact .nil
      | cons r t ih => exact .cons (dp_pair r) ih
    refine cr_minD (α := Int × PySem.W.Tup Int) hc (by show X.A.units + 1 + 2 < cLine; omega) pins s σ H vs us Q I r ⟨a, as.map V.ref, (p0.1, ⟨p0.2⟩), ps.map fun z : Int × List Int => (z.1, PySem.W.Tup.mk z.2), ev, hs, hd hp, fun i v hv hm => ?_⟩
    obtain ⟨m1, m2⟩ := minOf_spec (α := Int × PySem.W.Tup Int) (fun t => t.1 :: t.2.items) (fun a b => by
      show (if a.1 = b.1 then PySem.W.listLt a.2.items b.2.items else decide (a.1 < b.1)) = ll (a.1 :: a.2.items) (b.1 :: b.2.items)
      rw [listLt_ll]
      rfl) (ps.map fun z : Int × List Int => (z.1, PySem.W.Tup.mk z.2)) (p0.1, ⟨p0.2⟩)
    have e0 : ((p0.1, ⟨p0.2⟩) : Int × PySem.W.Tup Int) :: ps.map (fun z : Int × List Int => (z.1, PySem.W.Tup.mk z.2)) = (p0 :: ps).map fun z : Int × List Int => (z.1, PySem.W.Tup.mk z.2) := rfl
    rw [e0, List.getElem?_map] at hm
    rw [List.getElem?_map] at hv
    cases hb : as[i]? with
    | none => rw [hb] at hv; cases hv
    | some b =>
      rw [hb] at hv
      have ev' : V.ref b = v := Option.some.inj hv
      subst ev'
      cases hpi : (p0 :: ps)[i]? with
      | none => rw [hpi] at hm; cases hm
      | some p =>
        rw [hpi] at hm
        have em : (p.1, PySem.W.Tup.mk p.2) = PySem.W.minOf (p0.1, ⟨p0.2⟩) (ps.map fun z : Int × List Int => (z.1, PySem.W.Tup.mk z.2)) := Option.some.inj hm
        refine q b p (List.mem_of_getElem? hb) (Paired.at_ hp hb hpi) (List.mem_of_getElem? hpi) fun q' hq' => ?_
        have z := m2 (q'.1, ⟨q'.2⟩) (by rw [e0]; exact List.mem_map.mpr ⟨q', hq', rfl⟩)
        rw [← em] at z
        exact z
end

/-! ### o.m(e, ..), m a field of the instance that holds a def -/
def tFC (C : Addr) (m : Str) (f : Addr) (sp : Sp) (dvs : List V) (E : XK) (ta : TE) (t : TA) : TE := fun σ H Q => ta σ H fun x H1 => ∃ a dx fs, x = .ref a ∧ H1 a = some (.ins C dx fs) ∧ fs.lookup m = some (.ref f) ∧
  t σ H1 fun vs H2 => sp (vs ++ dvs) H2 Q E
theorem pe_fcall {CX : CXT} {k : Nat} {f C : Addr} {fd : FuncData} {ps : List Str} {sp : Sp} {dvs : List V} {ds : List Value} {E : XK} {m : Str} {pos apos : Pos} {e o : Expr} {es : List Expr} {ta : TE} {t : TA} {pl : Sem Bool}
    (he : PE X o ta) (c : Cls X.K C) (hn : NoAttr X.K C m) (F : FnOk X.prog X.w X.K X.mg X.base CX k f fd ps sp) (hr : Room k X.A) (hk : PySem.W.keepIn X.K (.ref f) = true) (hb : Binds X.K fd ps ds) (hd : Vals dvs ds) (hx : Passes CX X E) (ha : PA X (e :: es) t)
    (hst : starEach (e :: es) X.env = (false, eval e X.env) :: starEach es X.env := by rfl) (hpl : (backTo pos (starEach es X.env)).any (·.1) = false := by rfl)
    (ht : eval (.Call (.Attribute o m apos) (e :: es) [] pos) X.env = (do
      let ov ← eval o X.env
      standAt apos.atName
      let (f, first) ← holding [ov] (getMethod ov m pl)
      callWith pos f first (backTo pos (starEach (e :: es) X.env)) (backToKw pos (keywordEach [] X.env))) := by rfl) :
    PE X (.Call (.Attribute o m apos) (e :: es) [] pos) (tFC C m f sp dvs E ta t) := by
  refine ⟨fun pins s σ H Q I h => ?_⟩
  refine PySem.W.methodCall_KW (pl := pl) (thn (he.run pins s σ H _ I h) fun u s1 ⟨x, H1, I1, rx, a, dx, fs, ex, ea, l, q⟩ => ?_) ht
  subst ex
  obtain rfl : u = Value.ref a := rx
  obtain ⟨mA, O, r, _, _, _⟩ := ins_get I1.hok ea
  obtain ⟨od, J, hl⟩ := O.look
  refine PySem.W.method_usual (r := none) I1.kIn J (PySem.W.plainGet_of (c.get m)).1 (PySem.W.plainGet_of (c.get m)).2 hn rfl ?_
  refine getattr_ok I1 ea c hn l fun u s2 I2 ru => ?_
  obtain rfl : u = Value.ref f := ru
  refine PySem.W.callWith_K (first := []) (h₀ := X.base) I.ok.mod.kin hk (thn (ha.run pos pins s2 σ H1 _ I2 q) fun us s3 ⟨vs, H2, I3, r3, q2⟩ => ⟨I3.kIn, ?_⟩) hst hpl
  exact run_fn (us := us) (vs := vs) F hr hb hd hx I3 r3 q2
end

/-! ### enumerate of a tuple -/
set_option maxHeartbeats 1000000 in
theorem meets_enumerate_new1B {v : Value} {o : Obj} {H : Heap → Prop} (B : Begins v o H) :
    Meets (Builtin.«enumerate.__new__» ⟨[.type "enumerate", v], []⟩) (fun _ R s => H s.heap ∧
      R (.ok (.ret (.ref (s.heap.push o).objs.size))) { s with heap := (s.heap.push o).push { cls := .type "enumerate", data := .fields #[.none, .bool false, .ref s.heap.objs.size, rawInt 0, .none, .none] } }) :=
  .of_wp fun prog w A R s h => by
    obtain ⟨hp, g, d, tk, os⟩ := s; obtain ⟨h1, h⟩ := h
    have hsub := sub_enumerate
    have q1 : ∀ {A' : Around} {E : Value → Shared → Prop} {Q : Value → Shared → Prop}, Q (.ref hp.objs.size) ⟨hp.push o, g, d, tk, os⟩ → wpAny (model prog w) A' (pyIter v) Q E ⟨hp, g, d, tk, os⟩ :=
      fun q => B.iter prog w _ _ ⟨hp, g, d, tk, os⟩ _ h1 q
    wp_walk using q1
    refine wpAny_stack_any fun st => wpAny_pure ?_
    split
    · rename_i c _ _ _ _ _
      cases (c == Value.type "enumerate")
      · wp_walk using q1
        exact ⟨_, rfl, h⟩
      · wp_walk using q1
        exact ⟨_, rfl, h⟩
    · wp_walk using q1
      exact ⟨_, rfl, h⟩
theorem call_enumerate_1B {prog : Program} {w : World} {A : Around} {E : Value → Shared → Prop} {s : Shared} {v : Value} {o : Obj} {H : Heap → Prop} {Q : Value → Shared → Prop} (B : Begins v o H) (h1 : H s.heap)
    (h : ∀ h', IsEnum h' (s.heap.objs.size + 1) s.heap.objs.size 0 .none → h'.get? s.heap.objs.size = some o → h'.objs.size = s.heap.objs.size + 2 →
      (∀ b o, s.heap.get? b = some o → h'.get? b = some o) → Q (.ref (s.heap.objs.size + 1)) { s with heap := h' }) :
    wpAny (model prog w) A (call (.type "enumerate") [v]) Q E s := by
  refine callType_new F.called_enumerate (by decide) (F.typeCall_enumerate_1 _) (F.newCall_enumerate_1 _) (fun obj => F.args_object_init_2 obj _) F.entry_enumerate_new
    (meets_enumerate_new1B B) ⟨h1, ?_⟩
  have hz : (s.heap.push o).objs.size = s.heap.objs.size + 1 := Heap.size_push ..
  show _ ∧ _
  rw [hz]
  have he : IsEnum ((s.heap.push o).push { cls := .type "enumerate", data := .fields #[.none, .bool false, .ref s.heap.objs.size, rawInt 0, .none, .none] }) (s.heap.objs.size + 1) s.heap.objs.size 0 .none := by
    have := Heap.get?_push_size (s.heap.push o) (o := { cls := .type "enumerate", data := .fields #[.none, .bool false, .ref s.heap.objs.size, rawInt 0, .none, .none] }) rfl
    rw [hz] at this; exact this
  refine ⟨⟨_, he, rfl⟩, h _ he (Heap.get?_push_of_some _ (Heap.get?_push_size _ B.free)) (by rw [Heap.size_push, hz]) fun b o x => Heap.get?_push_of_some _ (Heap.get?_push_of_some _ x)⟩
/-- the tuple at a, each item in a new pair -/
def Iet (K : PySem.W.Frag) (a : Addr) : It :=
  ⟨fun i H => ∃ (xs : List V) (x : V), SqT K H a xs ∧ xs[i]? = some x, fun i H v H' => ∃ T x, v = .ref T ∧ H T = none ∧ H' = upd H T (.tup [.int (i : Nat), x]) ∧ ∀ xs, SqT K H a xs → xs[i]? = some x, fun i H => ∃ xs : List V, SqT K H a xs ∧ xs.length ≤ i⟩
theorem enum_apart {h : Heap} {e it a : Addr} {i : Int} {old : Value} {j : Nat} {its : Array Value} (he : IsEnum h e it i old) (hit : h.IsTupleIter it a j) (ht : h.IsTuple a its) : e ≠ a ∧ a ≠ it := by
  obtain ⟨o, ho, hc, _⟩ := ht
  obtain ⟨o2, ho2, hc2, _⟩ := hit
  constructor
  · intro z
    subst z
    rw [he] at ho
    cases ho
    exact absurd (show Value.type "enumerate" = Value.type "tuple" from hc) (by decide +kernel)
  · intro z
    subst z
    rw [ho2] at ho
    cases ho
    rw [hc2] at hc
    exact absurd hc (by decide +kernel)
theorem turn_enumT {P : Program} {w : World} {K : PySem.W.Frag} {elts : List Expr} {kk : Nat} {tpos : Pos} (a e it : Addr) :
    Turn P w K (.Tuple elts kk tpos) (Iet K a) [e, it] e (fun i h => (∃ old, IsEnum h e it ((i : Nat) : Int) old) ∧ h.IsTupleIter it a i ∧ e ≠ it) where
  mem := by simp
  obj := fun i h st b hb => by
    obtain ⟨⟨old, he⟩, ⟨o, ho, hc, hd⟩, _⟩ := st
    have e' : b = e ∨ b = it := by simpa using hb
    rcases e' with z | z
    · rw [z]; exact ⟨_, he, fun v q => nomatch q⟩
    · rw [z]; exact ⟨o, ho, fun v q => by rw [hd] at q; cases q⟩
  keep := fun i h h' st k => let ⟨⟨old, he⟩, hi, hne⟩ := st; ⟨⟨old, k e (by simp) _ he⟩, hi.at fun o q => k it (by simp) o q, hne⟩
  item := by
    intro X hP hw hK hc i pins s σ H E I hf st hg
    subst hP hw hK
    obtain ⟨⟨old, he⟩, hit, hne⟩ := st
    obtain ⟨xs, x, hq, hx⟩ := hg
    obtain ⟨its, rv, p, hz⟩ := I.tuple hq
    obtain ⟨u, hu, ru⟩ := rv.get hx
    have hel : e < s.heap.objs.size := Heap.lt_size he
    have hil : it < s.heap.objs.size := by obtain ⟨_, q, _⟩ := hit; exact Heap.lt_size q
    have pt : s.heap.IsTuple a its.toArray := p
    obtain ⟨hea, hai⟩ := enum_apart he hit pt
    have hilt : i < its.toArray.size := by
      obtain ⟨z, _⟩ := List.getElem?_eq_some_iff.mp hu
      simpa using z
    have hef : e ∉ [it, a] := by simp [hne, hea]
    refine wpAny_pyNext_enum_itemC (Draws.tuple (A := X.A.in1) (show X.A.in1.handled = none from I.ok.hd hc) it a hai its.toArray) he ⟨hit, pt⟩ hilt hne hef fun x' h' tk hx' ho hst' hT hsz hk => ?_
    have hxx : x' = u := by
      have hx2 : its[i]? = some x' := by simpa using hx'
      rw [hu] at hx2
      exact (Option.some.inj hx2).symm
    subst hxx
    refine ⟨_, rfl, wpAny_letOwnedTupleGo_enum (s := { s with heap := h', toks := tk + 1 }) ho fun h'' he' sb => ?_⟩
    have hT2 : h''.get? s.heap.objs.size = some { cls := .type "tuple", data := .seq #[.int i tk, x'] } := (sb.2 _ (Nat.ne_of_gt hel)).trans hT
    have new : ObjOk X.prog X.w (upd H s.heap.objs.size (.tup [.int (i : Nat), x])) h'' s.heap.objs.size (.tup [.int (i : Nat), x]) :=
      ⟨by show 2 ≤ sizeLine; decide, [.int i tk, x'], .cons ⟨_, rfl⟩ (.cons ru .nil), ⟨_, hT2, rfl, _, rfl⟩⟩
    have I1 : Inv X pins σ (upd H s.heap.objs.size (.tup [.int (i : Nat), x])) { s with heap := h'', toks := tk + 1 } :=
      I.turnedNew (ch := [e, it]) (fun b ob hb q => (sb.2 b (fun z => hb (by simp [z]))).trans (hk b ob (fun z => hb (by simp [z])) (fun z => hb (by simp [z])) q)) hf (Nat.le_refl _) new
    refine ⟨.ref s.heap.objs.size, _, I1, rfl, ⟨_, x, rfl, I.hok.fresh (Nat.le_refl _), rfl, fun ys hy => by rw [I.tuple_inj hy hq]; exact hx⟩, ⟨⟨x', ?_⟩, hst'.1.at fun o q => (sb.2 it (Ne.symm hne)).trans q, hne⟩, fun b hb => ?_⟩
    · have e1 : ((i + 1 : Nat) : Int) = (i : Int) + 1 := by omega
      rw [e1]; exact he'
    · have hb' : b < s.heap.objs.size := by
        have e' : b = e ∨ b = it := by simpa using hb
        rcases e' with z | z
        · rw [z]; exact hel
        · rw [z]; exact hil
      rw [upd_ne (Nat.ne_of_lt hb')]
      exact (hf b hb).1
  done := by
    intro X hP hw hK hc i pins s σ H E I hf st hg
    subst hP hw hK
    obtain ⟨⟨old, he⟩, hit, hne⟩ := st
    obtain ⟨xs, hq, hx⟩ := hg
    obtain ⟨its, rv, p, hz⟩ := I.tuple hq
    obtain ⟨f0, f1, f2, f3, f4, f5⟩ := hf it (by simp)
    have hl := rv.length
    have pt : s.heap.IsTuple a its.toArray := p
    have hT : s.TypeIs (.ref e) "enumerate" := ⟨_, he, rfl⟩
    unfold pyNext
    refine wpAny_bind (wpAny_attempt (wpAny_callSpecial?_slot (name := Str.ofString "__next__") hT F.slot_enumerate_next
      (wpAny_call_entry F.slot_enumerate_next hT F.entry_enumerate_next ?_ (F.args_enumerate_next_1 _))))
    show wpAny _ _ (field (.ref e) 2 >>= _) _ _ _
    refine wpAny_bind (wpAny_field he rfl (x := .ref it) rfl ?_)
    refine wpAny_bind (wpAny_nextOf_tuple_end (show X.A.in1.handled = none from I.ok.hd hc) hit pt (by simp; omega) fun h' x he' hx' => ?_)
    obtain ⟨o, ho, hc'⟩ := hx'
    refine wpAny_bind (wpAny_isInstance (T := "StopIteration") (b := true) ⟨o, ho, hc'⟩ isSubtype_stop ?_)
    exact wpAny_pure ⟨rfl, I.turned (t' := s.toks) (fun b o hb q => he' b o hb q) f0 f1 f3 f4 f5⟩
  self := fun A i s Q E st h => let ⟨⟨_, he⟩, _⟩ := st; wpAny_pyIter_enum he h
def iEnumT (K : PySem.W.Frag) (ta : TA) : TI := fun σ H R => ta σ H fun vs H1 => ∃ a xs, vs = [.ref a] ∧ SqT K H1 a xs ∧ R (Iet K a) H1
theorem pi_enumT {X : Cx} {e : Expr} {ta : TA} {p pos tpos : Pos} {elts : List Expr} {kk : Nat} (hg : Gl X "enumerate") (hm : X.mg "enumerate" = none) (ha : PA X [e] ta) (hs : starEach [e] X.env = [(false, eval e X.env)] := by rfl) :
    PI X (.Tuple elts kk tpos) (.Call (.Name "enumerate" p) [e] [] pos) (iEnumT X.K ta) := by
  refine ⟨fun pins s σ H R I h => ?_⟩
  refine Call_ (ld_blt I hg hm boot_enumerate (PyProof.Rows.callWith_type1 (thn (ha.run pos pins s σ H _ I h) fun us s1 ⟨vs, H1, I1, r1, q1⟩ => ?_) hs rfl))
  obtain ⟨a, xs, ex, hq, q⟩ := q1
  subst ex
  cases r1 with
  | cons r rr =>
    cases rr
    cases r
    obtain ⟨its, rv, p', hz⟩ := I1.tuple hq
    refine call_enumerate_1B (begins_tuple a its.toArray) p' fun h' he hit hsz hk => wpAny_pyIter_enum he ?_
    have I2 : Inv X pins σ H1 { s1 with heap := h' } := I1.kept (t' := s1.toks) hk
    refine ⟨s1.heap.objs.size + 1, [s1.heap.objs.size + 1, s1.heap.objs.size], _, _, H1, rfl, I2, turn_enumT a (s1.heap.objs.size + 1) s1.heap.objs.size, ⟨⟨.none, he⟩, ⟨_, hit, rfl, rfl⟩, Nat.succ_ne_self _⟩, fun b hb => ?_, q⟩
    have e' : b = s1.heap.objs.size + 1 ∨ b = s1.heap.objs.size := by simpa using hb
    have hle : s1.heap.objs.size ≤ b := by
      rcases e' with z | z
      · rw [z]; exact Nat.le_add_right _ _
      · rw [z]; exact Nat.le_refl _
    exact I1.fpOk hle (I1.hok.fresh hle)
/-- for i, x in enumerate(t), t a tuple -/
theorem for_enumT {K : PySem.W.Frag} {a : Addr} {xs : List V} {g : TG} {tb : TS} {D : Ends} {σ : L2.St} {H : Hp} (Pv : Nat → L2.St → Hp → Prop) (h0 : Pv 0 σ H) (hl : ∀ i σ H, i ≤ xs.length → Pv i σ H → SqT K H a xs)
    (hs : ∀ i x T σ H, xs[i]? = some x → Pv i σ H → H T = none → g (.ref T) σ (upd H T (.tup [.int (i : Nat), x])) fun σ2 H2 => tb { D with nx := Pv (i + 1), ct := Pv (i + 1), bk := D.nx } σ2 H2) (hd : ∀ σ H, Pv xs.length σ H → D.nx σ H) :
    ∃ W : Nat → Nat → L2.St → Hp → Prop, (∃ m, W 0 m σ H) ∧ ∀ i m σ H, W i m σ H →
      ((Iet K a).stop i H ∧ D.nx σ H) ∨ ((Iet K a).go i H ∧ ∃ N : L2.St → Hp → Prop, (∀ σ' H', N σ' H' → ∃ m', m' < m ∧ W (i + 1) m' σ' H') ∧ ∀ x H', (Iet K a).yld i H x H' → g x σ H' fun σ2 H2 => tb { D with nx := N, ct := N, bk := D.nx } σ2 H2) := by
  refine ⟨fun i m σ H => m = xs.length - i ∧ i ≤ xs.length ∧ Pv i σ H, ⟨xs.length, by simp, Nat.zero_le _, h0⟩, ?_⟩
  rintro i m σ H ⟨rfl, hi, p⟩
  have q := hl i σ H hi p
  by_cases hlt : i < xs.length
  · refine .inr ⟨⟨xs, xs[i], q, by simp [hlt]⟩, Pv (i + 1), fun σ' H' p' => ⟨xs.length - (i + 1), by omega, rfl, hlt, p'⟩, fun x H' y => ?_⟩
    obtain ⟨T, z, e, hT, e2, y⟩ := y
    subst e e2
    exact hs i z T σ _ (y xs q) p hT
  · have e : i = xs.length := by omega
    subst e
    exact .inl ⟨⟨xs, q, Nat.le_refl _⟩, hd σ H p⟩
end Js

/-! JsBase: the text by places, what the top has written, promises in short, heaps, matrices. -/
namespace Js
open PySem PySem.Spec PyProof.Rows L2
def top (i : Nat) : Stmt := PySem.Challenge.pw_joinshelf_k59_whole_rests_of_great_tasks.main.body.getD i (.Pass ⟨0, 0, 0, 0⟩)
/-- the built-ins' names are not the module's own; the module's constants; the classes at CT, CS, CR -/
structure Txt (K : PySem.W.Frag) (mg : Str → Option Value) (CT CS CR : Addr) : Prop where
  len : mg "len" = none
  range : mg "range" = none
  tuple : mg "tuple" = none
  isinstance : mg "isinstance" = none
  int : mg "int" = none
  bool : mg "bool" = none
  list : mg "list" = none
  all : mg "all" = none
  enumerate : mg "enumerate" = none
  min : mg "min" = none
  sum : mg "sum" = none
  abs : mg "abs" = none
  cRuns : ∃ t, mg "MOST_RUNS" = some (.int 30 t)
  cHt : ∃ t, mg "MOST_HOURS_tasks" = some (.int 30 t)
  cHp : ∃ t, mg "MOST_HOURS_plans" = some (.int 40 t)
  cPr : ∃ t, mg "MOST_PRICE" = some (.int 1000000000 t)
  clT : Cls K CT
  nT_writes : NoAttr K CT "writes"
  nT_looks : NoAttr K CT "looks"
  clS : Cls K CS
  nS_task : NoAttr K CS "task"
  nS_may : NoAttr K CS "may"
  nS_costs : NoAttr K CS "costs"
  nS_plans : NoAttr K CS "plans"
  nS_counts : NoAttr K CS "counts"
  clR : Cls K CR
  nR_task : NoAttr K CR "task"
  nR_most : NoAttr K CR "most"
  nR_first : NoAttr K CR "first"
  nR_begins : NoAttr K CR "begins"
  nR_solver : NoAttr K CR "solver"
  nR_known : NoAttr K CR "known"

/-! ### a def, a method, a class that is ready to be called -/
structure DefAt (K : PySem.W.Frag) (mg : Str → Option Value) (x : Str) (st : Stmt) (ps : List Str) : Prop where
  ex : ∃ f fd, Fun K x x st f fd ∧ mg x = some (.ref f) ∧ Binds K fd ps []
structure MethAt (K : PySem.W.Frag) (C : Addr) (m qual : Str) (st : Stmt) (ps : List Str) : Prop where
  ex : ∃ f fd, Fun K m qual st f fd ∧ Meth K C m f ∧ Binds K fd ps []
structure InitAt (K : PySem.W.Frag) (mg : Str → Option Value) (x : Str) (C : Addr) (qual : Str) (st : Stmt) (ps : List Str) : Prop where
  ex : ∃ f fd, Fun K "__init__" qual st f fd ∧ Mk K C f ∧ mg x = some (.ref C) ∧ Binds K fd ps []
structure Rdy (P : Program) (w : World) (K : PySem.W.Frag) (mg : Str → Option Value) (base : Heap) (x : Str) (ps : List Str) (k : Nat) (sp : Sp) : Prop where
  ex : ∃ f fd, FnOk P w K mg base CX0 k f fd ps sp ∧ mg x = some (.ref f) ∧ PySem.W.keepIn K (.ref f) = true ∧ Binds K fd ps []
structure MRdy (P : Program) (w : World) (K : PySem.W.Frag) (mg : Str → Option Value) (base : Heap) (C : Addr) (m : Str) (ps : List Str) (k : Nat) (sp : Sp) : Prop where
  ex : ∃ f fd, FnOk P w K mg base CX0 k f fd ps sp ∧ Meth K C m f ∧ Binds K fd ps []
structure CRdy (P : Program) (w : World) (K : PySem.W.Frag) (mg : Str → Option Value) (base : Heap) (x : Str) (C : Addr) (ps : List Str) (k : Nat) (sp : Sp) : Prop where
  ex : ∃ f fd, FnOk P w K mg base CX0 k f fd ps sp ∧ Mk K C f ∧ mg x = some (.ref C) ∧ Binds K fd ps []
section
variable {P : Program} {w : World} {K : PySem.W.Frag} {mg : Str → Option Value} {base : Heap}
theorem DefAt.rdy {x : Str} {st : Stmt} {ps N : List Str} {k : Nat} {sp : Sp} (D : DefAt K mg x st ps) (S : FnScope N ps (defScope st)) (len : ∀ vs H Q E, sp vs H Q E → vs.length = ps.length)
    (hbody : ∀ (f : Addr) (cdv : Value) (A : Around) (outer : List Env) (s : Shared) (H : Hp) (vs : List V) (Q : VK) (E : XK), Room k (A.deeper (envOfC x (defScope st) s.heap.objs.size f cdv)) → sp vs H Q E →
      ∃ t, PSs (cxOf CX0 P w K mg base N x (defScope st) f cdv A outer s H E).nox (defBody st) t ∧ t { nx := fun _ H' => Q .non H', rt := Q } (start N vs) H) : Rdy P w K mg base x ps (k + 1) sp := by
  obtain ⟨f, fd, F, m, b⟩ := D.ex
  exact ⟨f, fd, F.ok S len fun cdv A outer s H vs Q E hr h => hbody f cdv A outer s H vs Q E hr h, m, F.kp, b⟩
theorem MethAt.rdy {C : Addr} {m qual : Str} {st : Stmt} {ps N : List Str} {k : Nat} {sp : Sp} (D : MethAt K C m qual st ps) (S : FnScope N ps (defScope st)) (len : ∀ vs H Q E, sp vs H Q E → vs.length = ps.length)
    (hbody : ∀ (f : Addr) (cdv : Value) (A : Around) (outer : List Env) (s : Shared) (H : Hp) (vs : List V) (Q : VK) (E : XK), Room k (A.deeper (envOfC qual (defScope st) s.heap.objs.size f cdv)) → sp vs H Q E →
      ∃ t, PSs (cxOf CX0 P w K mg base N qual (defScope st) f cdv A outer s H E).nox (defBody st) t ∧ t { nx := fun _ H' => Q .non H', rt := Q } (start N vs) H) : MRdy P w K mg base C m ps (k + 1) sp := by
  obtain ⟨f, fd, F, m, b⟩ := D.ex
  exact ⟨f, fd, F.ok S len fun cdv A outer s H vs Q E hr h => hbody f cdv A outer s H vs Q E hr h, m, b⟩
theorem InitAt.rdy {x : Str} {C : Addr} {qual : Str} {st : Stmt} {ps N : List Str} {k : Nat} {sp : Sp} (D : InitAt K mg x C qual st ps) (S : FnScope N ps (defScope st)) (len : ∀ vs H Q E, sp vs H Q E → vs.length = ps.length)
    (hbody : ∀ (f : Addr) (cdv : Value) (A : Around) (outer : List Env) (s : Shared) (H : Hp) (vs : List V) (Q : VK) (E : XK), Room k (A.deeper (envOfC qual (defScope st) s.heap.objs.size f cdv)) → sp vs H Q E →
      ∃ t, PSs (cxOf CX0 P w K mg base N qual (defScope st) f cdv A outer s H E).nox (defBody st) t ∧ t { nx := fun _ H' => Q .non H', rt := Q } (start N vs) H) : CRdy P w K mg base x C ps (k + 1) sp := by
  obtain ⟨f, fd, F, m, g, b⟩ := D.ex
  exact ⟨f, fd, F.ok S len fun cdv A outer s H vs Q E hr h => hbody f cdv A outer s H vs Q E hr h, m, g, b⟩
theorem Rdy.imp {x : Str} {ps : List Str} {j k : Nat} {sp sp' : Sp} (R : Rdy P w K mg base x ps j sp) (hk : j ≤ k) (h : ∀ vs H Q E, sp' vs H Q E → sp vs H Q E) : Rdy P w K mg base x ps k sp' := by
  obtain ⟨f, fd, F, r⟩ := R.ex
  exact ⟨f, fd, (F.mono hk).imp h, r⟩
theorem MRdy.imp {C : Addr} {x : Str} {ps : List Str} {j k : Nat} {sp sp' : Sp} (R : MRdy P w K mg base C x ps j sp) (hk : j ≤ k) (h : ∀ vs H Q E, sp' vs H Q E → sp vs H Q E) : MRdy P w K mg base C x ps k sp' := by
  obtain ⟨f, fd, F, r⟩ := R.ex
  exact ⟨f, fd, (F.mono hk).imp h, r⟩
end
section
variable {X : Cx} {k : Nat} {C : Addr} {ps : List Str} {sp : Sp} {x m : Str} {p pos apos : Pos} {e o : Expr} {es : List Expr} {ta : TE} {t : TA}
theorem pe_rdy (R : Rdy X.prog X.w X.K X.mg X.base x ps k sp) (hr : Room k X.A) (hg : Gl X x) (ha : PA X (e :: es) t) (hdb : (x == ("__debug__" : Str)) = false := by decide)
    (he : starEach (e :: es) X.env = (false, eval e X.env) :: starEach es X.env := by rfl) (hpl : (backTo pos (starEach es X.env)).any (·.1) = false := by rfl) :
    PE X (.Call (.Name x p) (e :: es) [] pos) (tCall sp [] E0 t) := by
  obtain ⟨f, fd, F, mf, kp, b⟩ := R.ex
  exact pe_call F hr hg mf kp b .nil pass0 ha hdb he hpl
theorem pe_mrdy {pl : Sem Bool} (he : PE X o ta) (c : Cls X.K C) (R : MRdy X.prog X.w X.K X.mg X.base C m ps k sp) (hr : Room k X.A) (ha : PA X (e :: es) t)
    (hst : starEach (e :: es) X.env = (false, eval e X.env) :: starEach es X.env := by rfl) (hpl : (backTo pos (starEach es X.env)).any (·.1) = false := by rfl)
    (ht : eval (.Call (.Attribute o m apos) (e :: es) [] pos) X.env = (do
      let ov ← eval o X.env
      standAt apos.atName
      let (f, first) ← holding [ov] (getMethod ov m pl)
      callWith pos f first (backTo pos (starEach (e :: es) X.env)) (backToKw pos (keywordEach [] X.env))) := by rfl) :
    PE X (.Call (.Attribute o m apos) (e :: es) [] pos) (tMeth C m sp [] E0 ta t) := by
  obtain ⟨f, fd, F, M, b⟩ := R.ex
  exact pe_meth (pl := pl) he c M F hr b .nil pass0 ha hst hpl ht
theorem pe_mrdy0 {pl : Sem Bool} (he : PE X o ta) (c : Cls X.K C) (R : MRdy X.prog X.w X.K X.mg X.base C m ps k sp) (hr : Room k X.A)
    (ht : eval (.Call (.Attribute o m apos) [] [] pos) X.env = (do
      let ov ← eval o X.env
      standAt apos.atName
      let (f, first) ← holding [ov] (getMethod ov m pl)
      callWith pos f first (backTo pos (starEach [] X.env)) (backToKw pos (keywordEach [] X.env))) := by rfl) :
    PE X (.Call (.Attribute o m apos) [] [] pos) (tMeth C m sp [] E0 ta tNil) := by
  obtain ⟨f, fd, F, M, b⟩ := R.ex
  exact pe_meth0 (pl := pl) he c M F hr b .nil pass0 ht
theorem pe_crdy (R : CRdy X.prog X.w X.K X.mg X.base x C ps k sp) (hr : Room (k + 1) X.A) (hg : Gl X x) (ha : PA X (e :: es) t) (hdb : (x == ("__debug__" : Str)) = false := by decide)
    (he : starEach (e :: es) X.env = (false, eval e X.env) :: starEach es X.env := by rfl) (hpl : (backTo pos (starEach es X.env)).any (·.1) = false := by rfl) :
    PE X (.Call (.Name x p) (e :: es) [] pos) (tMake C sp [] E0 t) := by
  obtain ⟨f, fd, F, M, g, b⟩ := R.ex
  exact pe_make M F hr hg g b .nil pass0 ha hdb he hpl
/-- tuple(x) -/
def rTupOf (K : PySem.W.Frag) : List V → Hp → VK → Prop := fun xs H Q => ∃ p ys, xs = [.ref p] ∧ ((SqL K H p ys ∧ ∀ l, H l = none → Q (.ref l) (upd H l (.tup ys))) ∨ (SqT K H p ys ∧ Q (.ref p) H))
/-! ### isinstance of ints and tuples -/
inductive IsA (H : Hp) : V → String → Bool → Prop where
  | ii (i : Int) : IsA H (.int i) "int" true
  | ib (i : Int) : IsA H (.int i) "bool" false
  | tt {a : Addr} {xs : List V} (h : H a = some (.tup xs)) : IsA H (.ref a) "tuple" true
theorem kit_ii : kitB "int" "int" = some true := by decide +kernel
theorem kit_ib : kitB "int" "bool" = some false := by decide +kernel
theorem kit_tt : kitB "tuple" "tuple" = some true := by decide +kernel
theorem kit_it : kitB "int" "tuple" = some false := by decide +kernel
theorem kit_il : kitB "int" "list" = some false := by decide +kernel
def rIsA : List V → Hp → VK → Prop := fun xs H Q => ∃ (x : V) (n : String) (b : Bool), xs = [x, .ty n] ∧ IsA H x n b ∧ Q (.bl b) H
theorem cr_isA : CallR X (.builtin "isinstance") rIsA := by
  intro pins s σ H xs us Q I r h
  obtain ⟨x, n, b, rfl, h, q⟩ := h
  cases h with
  | ii i => exact call_isi pins s σ H _ us Q I r ⟨_, _, _, _, _, rfl, .ty _, .base (.int i), kit_ty kit_ii, q⟩
  | ib i => exact call_isi pins s σ H _ us Q I r ⟨_, _, _, _, _, rfl, .ty _, .base (.int i), kit_ty kit_ib, q⟩
  | tt h => exact call_isi pins s σ H _ us Q I r ⟨_, _, _, _, _, rfl, .ty _, .base (.tup h), kit_ty kit_tt, q⟩
end

/-! ### heaps -/
theorem same_new {H : Hp} {p : Addr} {o : HO} (h : H p = none) : Same H (upd H p o) := fun b u e => by rw [upd_ne (ne_of_none e h)]; exact e
theorem same_mut {H H' : Hp} {p : Addr} {o : HO} (e : Same H H') (h : H p = none) : Same H (upd H' p o) := fun a u ha => by
  rw [upd_ne (ne_of_none ha h)]
  exact e a u ha
/-- all but M is kept -/
def Kp (M : List Addr) (H H' : Hp) : Prop := ∀ b o, H b = some o → b ∉ M → H' b = some o
theorem Kp.refl (M : List Addr) (H : Hp) : Kp M H H := fun _ _ h _ => h
theorem Kp.trans {M : List Addr} {H H1 H2 : Hp} (a : Kp M H H1) (b : Kp M H1 H2) : Kp M H H2 := fun c o h n => b c o (a c o h n) n
theorem Kp.of {M : List Addr} {H H' : Hp} (s : Same H H') : Kp M H H' := fun b o h _ => s b o h
theorem Kp.mono {M M' : List Addr} {H H' : Hp} (k : Kp M H H') (h : ∀ b ∈ M, b ∈ M') : Kp M' H H' := fun b o e n => k b o e fun z => n (h b z)
theorem Kp.mut {M : List Addr} {H H' : Hp} {p : Addr} {o : HO} (k : Kp M H H') (h : p ∈ M ∨ H p = none) : Kp M H (upd H' p o) := fun b u e n => by
  have hb : b ≠ p := by
    rcases h with h | h
    · intro z; exact n (z ▸ h)
    · exact ne_of_none e h
  rw [upd_ne hb]
  exact k b u e n
theorem Kp.free {M : List Addr} {H H' : Hp} (k : Kp M H H') {b : Addr} (h : H' b = none) (n : b ∉ M) : H b = none := by
  cases q : H b with
  | none => rfl
  | some o => rw [k b o q n] at h; cases h

/-! ### tuples are kept -/
def Tk (H H' : Hp) : Prop := ∀ b xs, H b = some (.tup xs) → H' b = some (.tup xs)
theorem same_tk {H H' : Hp} (s : Same H H') : Tk H H' := fun b xs h => s b _ h
theorem Tk.refl (H : Hp) : Tk H H := fun _ _ h => h
theorem Tk.trans {H H1 H2 : Hp} (a : Tk H H1) (b : Tk H1 H2) : Tk H H2 := fun c xs h => b c xs (a c xs h)
theorem TupI.tk {H H' : Hp} {b : Addr} {p : List Int} (h : TupI H b p) (k : Tk H H') : TupI H' b p := k _ _ h
theorem PairI.tk {H H' : Hp} {b : Addr} {p : Int × List Int} (h : PairI H b p) (k : Tk H H') : PairI H' b p := by
  obtain ⟨t, h1, h2⟩ := h
  exact ⟨t, k _ _ h1, k _ _ h2⟩
theorem Paired.imp {α β : Type} {F G : α → β → Prop} (h : ∀ a b, F a b → G a b) : ∀ {as : List α} {bs : List β}, Paired F as bs → Paired G as bs
  | _, _, .nil => .nil
  | _, _, .cons r t => .cons (h _ _ r) (Paired.imp h t)
theorem Paired.snoc {α β : Type} {F : α → β → Prop} {a : α} {b : β} (r : F a b) : ∀ {as : List α} {bs : List β}, Paired F as bs → Paired F (as ++ [a]) (bs ++ [b])
  | _, _, .nil => .cons r .nil
  | _, _, .cons r' t => .cons r' (Paired.snoc r t)
theorem Paired.len {α β : Type} {F : α → β → Prop} : ∀ {as : List α} {bs : List β}, Paired F as bs → as.length = bs.length
  | _, _, .nil => rfl
  | _, _, .cons _ t => by rw [List.length_cons, List.length_cons, Paired.len t]

/-! ### price tables -/
def MatI (H : Hp) (b : Addr) (M : List (List Int)) : Prop := ∃ as : List Addr, H b = some (.tup (as.map V.ref)) ∧ Paired (TupI H) as M
theorem MatI.tk {H H' : Hp} {b : Addr} {M : List (List Int)} (h : MatI H b M) (k : Tk H H') : MatI H' b M := by
  obtain ⟨as, h1, h2⟩ := h
  exact ⟨as, k _ _ h1, Paired.imp (fun a p q => q.tk k) h2⟩
/-- a tuple for each hour, from it on -/
structure Tri (N : Nat) (M : List (List Int)) : Prop where
  len : M.length = N
  row : ∀ i r, M[i]? = some r → r.length + i = N
/-- the entry (a, m) -/
def ent (M : List (List Int)) (a m : Int) : Int := (M.getD a.toNat []).getD (m - a).toNat 0
theorem Tri.at_ {N : Nat} {M : List (List Int)} (T : Tri N M) {a m : Int} (h0 : 0 ≤ a) (h1 : a ≤ m) (h2 : m < N) : ∃ r, M[a.toNat]? = some r ∧ r[(m - a).toNat]? = some (ent M a m) := by
  have ha : a.toNat < M.length := by rw [T.len]; omega
  refine ⟨M[a.toNat], List.getElem?_eq_getElem ha, ?_⟩
  have hr := T.row a.toNat _ (List.getElem?_eq_getElem ha)
  have hm : (m - a).toNat < M[a.toNat].length := by omega
  unfold ent
  rw [List.getD_eq_getElem?_getD, List.getD_eq_getElem?_getD, List.getElem?_eq_getElem ha]
  show _ = some ((M[a.toNat][(m - a).toNat]?).getD 0)
  rw [List.getElem?_eq_getElem hm]
  rfl
theorem atI_int {α : Type} {xs : List α} {i : Int} {v : α} (h0 : 0 ≤ i) (h : xs[i.toNat]? = some v) : atI xs i = some v := by
  have e : ((i.toNat : Nat) : Int) = i := Int.toNat_of_nonneg h0
  rw [← e]
  exact atI_nat h
theorem MatI.row {H : Hp} {b : Addr} {M : List (List Int)} (h : MatI H b M) {i : Int} {r : List Int} (h0 : 0 ≤ i) (hr : M[i.toNat]? = some r) : ∃ (xs : List V) (c : Addr), H b = some (.tup xs) ∧ atI xs i = some (.ref c) ∧ TupI H c r := by
  obtain ⟨as, h1, h2⟩ := h
  have hl := Paired.len h2
  obtain ⟨hi, _⟩ := List.getElem?_eq_some_iff.mp hr
  have hi' : i.toNat < as.length := by omega
  refine ⟨_, as[i.toNat], h1, atI_int h0 (by rw [List.getElem?_map, List.getElem?_eq_getElem hi']; rfl), Paired.at_ h2 (List.getElem?_eq_getElem hi') hr⟩
theorem sum_ents {N : Nat} {M : List (List Int)} (T : Tri N M) {a : Int} (h0 : 0 ≤ a) {r : List Int} (hr : M[a.toNat]? = some r) : ∀ (n : Nat) (f : Int), a ≤ f → f + n ≤ N →
    ((r.drop (f - a).toNat).take n).sum = lk (ent M) a f n
  | 0, f, _, _ => rfl
  | n + 1, f, h1, h2 => by
    have hrl := T.row _ _ hr
    have hlt : (f - a).toNat < r.length := by omega
    rw [List.drop_eq_getElem_cons hlt, List.take_succ_cons, List.sum_cons]
    have ih := sum_ents T h0 hr n (f + 1) (by omega) (by omega)
    rw [show (f + 1 - a).toNat = (f - a).toNat + 1 by omega] at ih
    rw [ih]
    show _ = ent M a f + lk (ent M) a (f + 1) n
    congr 1
    unfold ent
    rw [List.getD_eq_getElem?_getD, List.getD_eq_getElem?_getD, hr]
    show _ = (r[(f - a).toNat]?).getD 0
    rw [List.getElem?_eq_getElem hlt]
    rfl
/-! ### the Task object -/
def tkF (w l : Addr) : List (Str × V) := putF "looks" (.ref l) (putF "writes" (.ref w) [])
theorem s_wl : ¬ (("writes" : Str) = "looks") := by decide +kernel
theorem tkF_writes (w l : Addr) : (tkF w l).lookup ("writes" : Str) = some (.ref w) := by
  unfold tkF
  rw [lookup_putF, if_neg s_wl, lookup_putF, if_pos rfl]
theorem tkF_looks (w l : Addr) : (tkF w l).lookup ("looks" : Str) = some (.ref l) := by
  unfold tkF
  rw [lookup_putF, if_pos rfl]
structure TkD where
  N : Nat
  W : List (List Int)
  L : List (List Int)
structure TkD.Ok (D : TkD) : Prop where
  w : Tri D.N D.W
  l : Tri D.N D.L
  pos : 1 ≤ D.N
  le : D.N ≤ 30
def TkAt (CT : Addr) (D : TkD) (H : Hp) (t : Addr) : Prop := D.Ok ∧ ∃ dx w l, H t = some (.ins CT dx (tkF w l)) ∧ MatI H w D.W ∧ MatI H l D.L
theorem TkAt.kp {CT : Addr} {D : TkD} {M : List Addr} {H H' : Hp} {t : Addr} (h : TkAt CT D H t) (k : Kp M H H') (n : t ∉ M) (tk : Tk H H') : TkAt CT D H' t := by
  obtain ⟨o, dx, w, l, h1, h2, h3⟩ := h
  exact ⟨o, dx, w, l, k _ _ h1 n, h2.tk tk, h3.tk tk⟩
theorem TkAt.same {CT : Addr} {D : TkD} {H H' : Hp} {t : Addr} (h : TkAt CT D H t) (k : Same H H') : TkAt CT D H' t := by
  obtain ⟨o, dx, w, l, h1, h2, h3⟩ := h
  exact ⟨o, dx, w, l, k _ _ h1, h2.tk (same_tk k), h3.tk (same_tk k)⟩
abbrev TkD.w (D : TkD) : Int → Int → Int := ent D.W
abbrev TkD.l (D : TkD) : Int → Int → Int := ent D.L
end Js

/-! JsSv: the Solver object, its dicts. -/
namespace Js
open PySem PySem.Spec PyProof.Rows L2
def svF (t fm c p n : Addr) : List (Str × V) := putF "counts" (.ref n) (putF "plans" (.ref p) (putF "costs" (.ref c) (putF "may" (.ref fm) (putF "task" (.ref t) []))))
section
variable (t fm c p n : Addr)
theorem svF_get (m : Str) : (svF t fm c p n).lookup m = if m = "counts" then some (.ref n) else if m = "plans" then some (.ref p) else if m = "costs" then some (.ref c) else if m = "may" then some (.ref fm) else if m = "task" then some (.ref t) else none := by
  unfold svF
  rw [lookup_putF, lookup_putF, lookup_putF, lookup_putF, lookup_putF]
  rfl
theorem svF_task : (svF t fm c p n).lookup ("task" : Str) = some (.ref t) := by
  rw [svF_get, if_neg (by decide +kernel), if_neg (by decide +kernel), if_neg (by decide +kernel), if_neg (by decide +kernel), if_pos rfl]
theorem svF_may : (svF t fm c p n).lookup ("may" : Str) = some (.ref fm) := by
  rw [svF_get, if_neg (by decide +kernel), if_neg (by decide +kernel), if_neg (by decide +kernel), if_pos rfl]
theorem svF_costs : (svF t fm c p n).lookup ("costs" : Str) = some (.ref c) := by
  rw [svF_get, if_neg (by decide +kernel), if_neg (by decide +kernel), if_pos rfl]
theorem svF_plans : (svF t fm c p n).lookup ("plans" : Str) = some (.ref p) := by
  rw [svF_get, if_neg (by decide +kernel), if_pos rfl]
theorem svF_no {m : Str} (h1 : ¬ m = "counts") (h2 : ¬ m = "plans") (h3 : ¬ m = "costs") (h4 : ¬ m = "may") (h5 : ¬ m = "task") : (svF t fm c p n).lookup m = none := by
  rw [svF_get, if_neg h1, if_neg h2, if_neg h3, if_neg h4, if_neg h5]
theorem svF_m1 : (svF t fm c p n).lookup ("capped" : Str) = none := svF_no t fm c p n (by decide +kernel) (by decide +kernel) (by decide +kernel) (by decide +kernel) (by decide +kernel)
theorem svF_m2 : (svF t fm c p n).lookup ("ahead_cost" : Str) = none := svF_no t fm c p n (by decide +kernel) (by decide +kernel) (by decide +kernel) (by decide +kernel) (by decide +kernel)
theorem svF_m3 : (svF t fm c p n).lookup ("behind_cost" : Str) = none := svF_no t fm c p n (by decide +kernel) (by decide +kernel) (by decide +kernel) (by decide +kernel) (by decide +kernel)
theorem svF_m4 : (svF t fm c p n).lookup ("top_cost" : Str) = none := svF_no t fm c p n (by decide +kernel) (by decide +kernel) (by decide +kernel) (by decide +kernel) (by decide +kernel)
theorem svF_m5 : (svF t fm c p n).lookup ("own_cost" : Str) = none := svF_no t fm c p n (by decide +kernel) (by decide +kernel) (by decide +kernel) (by decide +kernel) (by decide +kernel)
theorem svF_m6 : (svF t fm c p n).lookup ("span_cost" : Str) = none := svF_no t fm c p n (by decide +kernel) (by decide +kernel) (by decide +kernel) (by decide +kernel) (by decide +kernel)
theorem svF_m7 : (svF t fm c p n).lookup ("tops" : Str) = none := svF_no t fm c p n (by decide +kernel) (by decide +kernel) (by decide +kernel) (by decide +kernel) (by decide +kernel)
theorem svF_m8 : (svF t fm c p n).lookup ("span_plan" : Str) = none := svF_no t fm c p n (by decide +kernel) (by decide +kernel) (by decide +kernel) (by decide +kernel) (by decide +kernel)
end

/-! ### keys of the dicts -/
def k3 (k a b : Int) : List Key := [.inl k, .inl a, .inl b]
theorem k3_inj {k a b k' a' b' : Int} (h : k3 k a b = k3 k' a' b') : k = k' ∧ a = a' ∧ b = b' := by
  unfold k3 at h
  injection h with h1 h2
  injection h2 with h2 h3
  injection h3 with h3 h4
  exact ⟨Sum.inl.inj h1, Sum.inl.inj h2, Sum.inl.inj h3⟩
structure KeysOk (kc : List (List Key × V)) : Prop where
  nd : (kc.map (·.1)).Nodup
  rg : ∀ key ∈ kc.map (·.1), ∃ k a b : Int, key = k3 k a b ∧ 0 ≤ k ∧ k < 31 ∧ 0 ≤ a ∧ a < 31 ∧ 0 ≤ b ∧ b < 31
theorem nodup_bound : ∀ (n : Nat) (l : List Nat), l.Nodup → (∀ x ∈ l, x < n) → l.length ≤ n
  | 0, [], _, _ => Nat.le_refl _
  | 0, x :: _, _, h => absurd (h x List.mem_cons_self) (Nat.not_lt_zero _)
  | n + 1, l, nd, h => by
    by_cases hn : n ∈ l
    · have ih := nodup_bound n (l.erase n) (nd.erase n) fun x hx => by
        have h1 := h x (List.mem_of_mem_erase hx)
        have h2 : x ≠ n := fun e => by
          subst e
          exact (List.Nodup.not_mem_erase nd) hx
        omega
      rw [List.length_erase_of_mem hn] at ih
      omega
    · have ih := nodup_bound n l nd fun x hx => by
        have h1 := h x hx
        have h2 : x ≠ n := fun e => hn (e ▸ hx)
        omega
      omega
def kCode : List Key → Nat
  | [.inl k, .inl a, .inl b] => k.toNat * 961 + a.toNat * 31 + b.toNat
  | _ => 0
theorem KeysOk.len {kc : List (List Key × V)} (h : KeysOk kc) : kc.length ≤ 29791 := by
  have nd : ((kc.map (·.1)).map kCode).Nodup := by
    refine List.pairwise_map.mpr (List.Pairwise.imp_of_mem ?_ h.nd)
    · intro x y hx hy hxy e
      refine hxy ?_
      obtain ⟨k, a, b, rfl, b1, b2, b3, b4, b5, b6⟩ := h.rg x hx
      obtain ⟨k', a', b', rfl, c1, c2, c3, c4, c5, c6⟩ := h.rg y hy
      have e' : k.toNat * 961 + a.toNat * 31 + b.toNat = k'.toNat * 961 + a'.toNat * 31 + b'.toNat := e
      have e1 : k = k' := by omega
      have e2 : a = a' := by omega
      have e3 : b = b' := by omega
      rw [e1, e2, e3]
  have := nodup_bound 29791 _ nd fun x hx => by
    obtain ⟨key, hk, e⟩ := List.mem_map.mp hx
    obtain ⟨k, a, b, rfl, b1, b2, b3, b4, b5, b6⟩ := h.rg key hk
    have e' : k.toNat * 961 + a.toNat * 31 + b.toNat = x := e
    omega
  simpa using this
theorem KeysOk.nil : KeysOk [] := ⟨List.nodup_nil, fun _ h => by cases h⟩
theorem KeysOk.put {kc : List (List Key × V)} (h : KeysOk kc) {k a b : Int} {v : V} (hk : 0 ≤ k ∧ k < 31 ∧ 0 ≤ a ∧ a < 31 ∧ 0 ≤ b ∧ b < 31) : KeysOk (putK kc (k3 k a b) v) := by
  cases hv : valV kc (k3 k a b) with
  | some x =>
    have e : (putK kc (k3 k a b) v).map (·.1) = kc.map (·.1) := by
      unfold putK
      rw [valV_any, hv]
      show ((kc.map fun kv => if kv.1 = k3 k a b then (kv.1, v) else kv).map (·.1)) = _
      rw [List.map_map]
      refine List.map_congr_left fun kv _ => ?_
      show (if kv.1 = k3 k a b then (kv.1, v) else kv).1 = kv.1
      by_cases z : kv.1 = k3 k a b
      · rw [if_pos z]
      · rw [if_neg z]
    exact ⟨by rw [e]; exact h.nd, by rw [e]; exact h.rg⟩
  | none =>
    rw [putK_new v hv]
    have hn : k3 k a b ∉ kc.map (·.1) := fun hm => by
      obtain ⟨kv, h1, h2⟩ := List.mem_map.mp hm
      have q : (kc.any fun kv => decide (kv.1 = k3 k a b)) = true := List.any_eq_true.mpr ⟨kv, h1, decide_eq_true h2⟩
      rw [valV_any, hv] at q
      cases q
    refine ⟨?_, fun key hkey => ?_⟩
    · rw [List.map_append]
      refine List.nodup_append.mpr ⟨h.nd, by simp, ?_⟩
      intro x hx y hy e
      have : y = k3 k a b := by simpa using hy
      subst this
      subst e
      exact hn hx
    · rw [List.map_append] at hkey
      rcases List.mem_append.mp hkey with hkey | hkey
      · exact h.rg key hkey
      · exact ⟨k, a, b, by simpa using hkey, hk⟩
structure CostsOk (D : TkD) (kc : List (List Key × V)) : Prop where
  keys : KeysOk kc
  val : ∀ k a b v, valV kc (k3 k a b) = some v → v = .int (own k D.w D.l a (b - a + 1).toNat)
structure PlansOk (D : TkD) (H : Hp) (kp : List (List Key × V)) : Prop where
  keys : KeysOk kp
  val : ∀ k a b v, valV kp (k3 k a b) = some v → ∃ t, v = .ref t ∧ TupI H t (plan k D.w D.l a (b - a + 1).toNat)
theorem PlansOk.tk {D : TkD} {H H' : Hp} {kp : List (List Key × V)} (h : PlansOk D H kp) (k : Tk H H') : PlansOk D H' kp :=
  ⟨h.keys, fun a b c v e => by obtain ⟨t, h1, h2⟩ := h.val a b c v e; exact ⟨t, h1, h2.tk k⟩⟩
structure SvAt (CT CS fm : Addr) (D : TkD) (H : Hp) (s c p : Addr) : Prop where
  ob : ∃ dx t n, H s = some (.ins CS dx (svF t fm c p n)) ∧ TkAt CT D H t
  cs : ∃ kc, H c = some (.dT kc) ∧ CostsOk D kc
  ps : ∃ kp, H p = some (.dT kp) ∧ PlansOk D H kp
  ne : c ≠ p
section
variable {CT CS fm : Addr} {D : TkD} {H H' : Hp} {s c p : Addr}
theorem SvAt.same (S : SvAt CT CS fm D H s c p) (k : Same H H') : SvAt CT CS fm D H' s c p := by
  obtain ⟨⟨dx, t, n, h1, h2⟩, ⟨kc, h3, h4⟩, ⟨kp, h5, h6⟩, h7⟩ := S
  exact ⟨⟨dx, t, n, k _ _ h1, h2.same k⟩, ⟨kc, k _ _ h3, h4⟩, ⟨kp, k _ _ h5, h6.tk (same_tk k)⟩, h7⟩
theorem SvAt.out (S : SvAt CT CS fm D H s c p) {b : Addr} {o : HO} (h : H b = some o) (ho : ∀ kc, o ≠ .dT kc) : b ∉ [c, p] := by
  obtain ⟨_, ⟨kc, h3, _⟩, ⟨kp, h5, _⟩, _⟩ := S
  intro hm
  rcases List.mem_cons.mp hm with e | hm
  · subst e
    rw [h3] at h
    exact ho _ (Option.some.inj h).symm
  · have e := List.mem_singleton.mp hm
    subst e
    rw [h5] at h
    exact ho _ (Option.some.inj h).symm
theorem SvAt.tk (S : SvAt CT CS fm D H s c p) (k : Kp [c, p] H H') : Tk H H' := fun b xs h => k b _ h (S.out h fun kc z => by cases z)
theorem SvAt.new (S : SvAt CT CS fm D H s c p) {b : Addr} (h : H b = none) : b ∉ [c, p] := by
  obtain ⟨_, ⟨kc, h3, _⟩, ⟨kp, h5, _⟩, _⟩ := S
  intro hm
  rcases List.mem_cons.mp hm with e | hm
  · subst e; rw [h3] at h; cases h
  · have e := List.mem_singleton.mp hm
    subst e; rw [h5] at h; cases h
/-- a list is changed -/
theorem tk_list {d : Addr} {xs : List V} (hd : H d = some (.lst xs)) (k : Kp [d] H H') : Tk H H' := fun b ys h => k b _ h fun hm => by
  have e := List.mem_singleton.mp hm
  subst e
  rw [hd] at h
  cases h
theorem TkAt.kpl {t d : Addr} {xs : List V} (h : TkAt CT D H t) (hd : H d = some (.lst xs)) (k : Kp [d] H H') : TkAt CT D H' t := by
  obtain ⟨_, _, _, _, q1, _⟩ := id h
  refine h.kp k (fun hm => ?_) (tk_list hd k)
  have e := List.mem_singleton.mp hm
  subst e
  rw [hd] at q1
  cases q1
theorem SvAt.kpl {d : Addr} {xs : List V} (S : SvAt CT CS fm D H s c p) (hd : H d = some (.lst xs)) (k : Kp [d] H H') : SvAt CT CS fm D H' s c p := by
  obtain ⟨⟨dx, t, n, h1, h2⟩, ⟨kc, h3, h4⟩, ⟨kp, h5, h6⟩, h7⟩ := S
  have out : ∀ b o, H b = some o → (∀ ys, o ≠ .lst ys) → b ∉ [d] := fun b o e n hm => by
    have e2 := List.mem_singleton.mp hm
    subst e2
    rw [hd] at e
    exact n xs (Option.some.inj e).symm
  exact ⟨⟨dx, t, n, k _ _ h1 (out _ _ h1 fun ys z => by cases z), h2.kpl hd k⟩, ⟨kc, k _ _ h3 (out _ _ h3 fun ys z => by cases z), h4⟩, ⟨kp, k _ _ h5 (out _ _ h5 fun ys z => by cases z), h6.tk (tk_list hd k)⟩, h7⟩
theorem SvAt.setL {d : Addr} {xs ys : List V} (S : SvAt CT CS fm D H s c p) (hd : H d = some (.lst xs)) : SvAt CT CS fm D (upd H d (.lst ys)) s c p := S.kpl hd ((Kp.refl _ H).mut (.inl (List.mem_singleton.mpr rfl)))
/-- a new entry of costs -/
theorem SvAt.putC (S : SvAt CT CS fm D H s c p) {kc : List (List Key × V)} (hc : H c = some (.dT kc)) {k a b : Int} (hk : 0 ≤ k ∧ k < 31 ∧ 0 ≤ a ∧ a < 31 ∧ 0 ≤ b ∧ b < 31) :
    SvAt CT CS fm D (upd H c (.dT (putK kc (k3 k a b) (.int (own k D.w D.l a (b - a + 1).toNat))))) s c p := by
  have kp0 : Kp [c, p] H (upd H c (.dT (putK kc (k3 k a b) (.int (own k D.w D.l a (b - a + 1).toNat))))) := (Kp.refl _ H).mut (.inl List.mem_cons_self)
  have tk := S.tk kp0
  obtain ⟨⟨dx, t, n, h1, h2⟩, ⟨kc', h3, h4⟩, ⟨kp, h5, h6⟩, h7⟩ := id S
  have e : kc' = kc := by rw [hc] at h3; injection h3 with h3; injection h3 with h3; exact h3.symm
  subst e
  have ht : t ∉ [c, p] := by
    obtain ⟨_, dx', w, l, q1, _⟩ := h2
    exact S.out q1 fun kc z => by cases z
  refine ⟨⟨dx, t, n, kp0 _ _ h1 (S.out h1 fun kc z => by cases z), h2.kp kp0 ht tk⟩, ⟨_, upd_same, h4.keys.put hk, fun k' a' b' v e => ?_⟩, ⟨kp, by rw [upd_ne h7.symm]; exact h5, h6.tk tk⟩, h7⟩
  rw [valV_put] at e
  by_cases he : k3 k' a' b' = k3 k a b
  · rw [if_pos he] at e
    obtain ⟨rfl, rfl, rfl⟩ := k3_inj he
    exact (Option.some.inj e).symm
  · rw [if_neg he] at e
    exact h4.val k' a' b' v e
/-- a new entry of plans -/
theorem SvAt.putP (S : SvAt CT CS fm D H s c p) {kp : List (List Key × V)} (hp : H p = some (.dT kp)) {k a b : Int} {t0 : Addr} (ht0 : TupI H t0 (plan k D.w D.l a (b - a + 1).toNat)) (hk : 0 ≤ k ∧ k < 31 ∧ 0 ≤ a ∧ a < 31 ∧ 0 ≤ b ∧ b < 31) :
    SvAt CT CS fm D (upd H p (.dT (putK kp (k3 k a b) (.ref t0)))) s c p := by
  have kp0 : Kp [c, p] H (upd H p (.dT (putK kp (k3 k a b) (.ref t0)))) := (Kp.refl _ H).mut (.inl (List.mem_cons_of_mem _ List.mem_cons_self))
  have tk := S.tk kp0
  obtain ⟨⟨dx, t, n, h1, h2⟩, ⟨kc, h3, h4⟩, ⟨kp', h5, h6⟩, h7⟩ := id S
  have e : kp' = kp := by rw [hp] at h5; injection h5 with h5; injection h5 with h5; exact h5.symm
  subst e
  have ht : t ∉ [c, p] := by
    obtain ⟨_, dx', w, l, q1, _⟩ := h2
    exact S.out q1 fun kc z => by cases z
  refine ⟨⟨dx, t, n, kp0 _ _ h1 (S.out h1 fun kc z => by cases z), h2.kp kp0 ht tk⟩, ⟨kc, by rw [upd_ne h7]; exact h3, h4⟩, ⟨_, upd_same, h6.keys.put hk, fun k' a' b' v e => ?_⟩, h7⟩
  rw [valV_put] at e
  by_cases he : k3 k' a' b' = k3 k a b
  · rw [if_pos he] at e
    obtain ⟨rfl, rfl, rfl⟩ := k3_inj he
    exact ⟨t0, (Option.some.inj e).symm, ht0.tk tk⟩
  · rw [if_neg he] at e
    obtain ⟨t', q1, q2⟩ := h6.val k' a' b' v e
    exact ⟨t', q1, q2.tk tk⟩
end
def optV : Option Int → V
  | none => .non
  | some i => .int i
/-- what the tops' list keeps -/
theorem filter_opt (f : Nat → Option Int) : ∀ n, ((List.range n).filterMap f).map V.int = ((List.range n).map fun j => optV (f j)).filter fun v => !decide (v = .non)
  | 0 => rfl
  | n + 1 => by
    rw [List.range_succ, List.filterMap_append, List.map_append, List.map_append, List.filter_append, filter_opt f n]
    congr 1
    cases h : f n with
    | none => simp [h, optV]
    | some i => simp [h, optV]
end Js

/-! JsW1: checks and tasks: the small defs. -/
namespace Js
open PySem PySem.Spec PyProof.Rows L2
/-! ### promises -/
def spIsInteger : Sp := fun vs H Q _ => ∃ i : Int, vs = [.int i] ∧ Q (.bl true) H
def spIsWithin : Sp := fun vs H Q _ => ∃ i lo hi : Int, vs = [.int i, .int lo, .int hi] ∧ Q (.bl (decide (lo ≤ i) && decide (i ≤ hi))) H
def spIsRow : Sp := fun vs H Q _ => ∃ (a : Addr) (ns : List Int) (lo hi : Int), vs = [.ref a, .int (ns.length : Int), .int lo, .int hi] ∧ TupI H a ns ∧ ns.length ≤ 1000 ∧ (∀ n ∈ ns, lo ≤ n ∧ n ≤ hi) ∧ ∀ H', Same H H' → Q (.bl true) H'
def spFirstWrong : Sp := fun vs H Q _ => ∃ (a : Addr) (M : List (List Int)) (N : Nat) (lo hi : Int), vs = [.ref a, .int lo, .int hi] ∧ MatI H a M ∧ Tri N M ∧ N ≤ 1000 ∧ (∀ r ∈ M, ∀ n ∈ r, lo ≤ n ∧ n ≤ hi) ∧ ∀ H', Same H H' → Q .non H'
def spCheckNumber : Sp := fun vs H Q _ => ∃ i lo hi : Int, vs = [.int i, .int lo, .int hi] ∧ lo ≤ i ∧ i ≤ hi ∧ Q .non H
def spLengthOf (CT : Addr) : Sp := fun vs H Q _ => ∃ (t : Addr) (D : TkD), vs = [.ref t] ∧ TkAt CT D H t ∧ Q (.int (D.N : Int)) H
def spWriteOf (CT : Addr) : Sp := fun vs H Q _ => ∃ (t : Addr) (D : TkD) (a m : Int), vs = [.ref t, .int a, .int m] ∧ TkAt CT D H t ∧ 0 ≤ a ∧ a ≤ m ∧ m < D.N ∧ Q (.int (D.w a m)) H
def spLookSum (CT : Addr) : Sp := fun vs H Q _ => ∃ (t : Addr) (D : TkD) (b f l : Int), vs = [.ref t, .int b, .int f, .int l] ∧ TkAt CT D H t ∧ 0 ≤ b ∧ b ≤ f ∧ f ≤ l + 1 ∧ l < D.N ∧ b < D.N ∧ ∀ H', Same H H' → Q (.int (lk D.l b f (l + 1 - f).toNat)) H'
def spCheckMost : Sp := fun vs H Q _ => ∃ i : Int, vs = [.int i] ∧ 1 ≤ i ∧ i ≤ 30 ∧ Q .non H
def spMayAll : Sp := fun vs H Q _ => ∃ i j : Int, vs = [.int i, .int j] ∧ Q (.bl true) H
section
variable {P : Program} {w : World} {K : PySem.W.Frag} {mg : Str → Option Value} {base : Heap} {CT CS CR : Addr}
abbrev s_is_integer : Stmt := top 7
abbrev N_is_integer : List Str := ["thing"]
theorem sc_is_integer : FnScope N_is_integer ["thing"] (defScope s_is_integer) := ⟨rfl, rfl, rfl, by decide +kernel, rfl, by decide +kernel, by decide +kernel⟩
theorem rd_is_integer (D : DefAt K mg "is_integer" s_is_integer ["thing"]) (T : Txt K mg CT CS CR) : Rdy P w K mg base "is_integer" ["thing"] 1 spIsInteger := by
  refine D.rdy sc_is_integer (fun vs H Q E h => ?_) (fun f cdv A outer s H vs Q E hr h => ?_)
  · obtain ⟨i, rfl, _⟩ := h; rfl
  obtain ⟨i, rfl, q⟩ := h
  refine ⟨_, (pss_one (ps_ret (pe_and (pe_callB cr_isA rfl T.isinstance (by decide +kernel) (pa_cons (pv 0) (pa_cons (pe_bltn (v := .ty "int") rfl T.int (by decide +kernel) rfl) pa_nil))) (pe_one (pe_not (pe_callB cr_isA rfl T.isinstance (by decide +kernel) (pa_cons (pv 0) (pa_cons (pe_bltn (v := .ty "bool") rfl T.bool (by decide +kernel) rfl) pa_nil)))))))), ?_⟩
  refine ⟨_, rfl, _, _, _, rfl, .ii i, true, rfl, iteT ?_⟩
  exact ⟨_, rfl, _, _, _, rfl, .ib i, false, rfl, q⟩
abbrev s_is_within : Stmt := top 8
abbrev N_is_within : List Str := ["thing", "least", "most"]
theorem sc_is_within : FnScope N_is_within ["thing", "least", "most"] (defScope s_is_within) := ⟨rfl, rfl, rfl, by decide +kernel, rfl, by decide +kernel, by decide +kernel⟩
theorem rd_is_within (D : DefAt K mg "is_within" s_is_within ["thing", "least", "most"]) (R_is_integer : Rdy P w K mg base "is_integer" ["thing"] 1 spIsInteger) : Rdy P w K mg base "is_within" ["thing", "least", "most"] 2 spIsWithin := by
  refine D.rdy sc_is_within (fun vs H Q E h => ?_) (fun f cdv A outer s H vs Q E hr h => ?_)
  · obtain ⟨i, lo, hi, rfl, _⟩ := h; rfl
  obtain ⟨i, lo, hi, rfl, q⟩ := h
  refine ⟨_, (pss_one (ps_ret (pe_and (pe_rdy R_is_integer (hr.mono (by omega)) rfl (pa_cons (pv 0) pa_nil)) (pe_one (pe_chain op_le op_le (pv 1) (pv 0) (pv 2)))))), ?_⟩
  refine ⟨_, rfl, i, rfl, true, rfl, iteT ?_⟩
  refine ⟨_, rfl, _, rfl, _, _, rfl, rfl, _, rfl, ite2 (fun c => ?_) (fun c => ?_)⟩
  · refine ⟨_, rfl, _, _, rfl, rfl, ?_⟩
    rw [c] at q
    exact q
  · rw [Bool.eq_false_iff.mpr c] at q
    exact q
abbrev s_is_row : Stmt := top 9
abbrev N_is_row : List Str := ["thing", "size", "least", "most", "number"]
theorem sc_is_row : FnScope N_is_row ["thing", "size", "least", "most"] (defScope s_is_row) := ⟨rfl, rfl, rfl, by decide +kernel, rfl, by decide +kernel, by decide +kernel⟩
theorem rd_is_row (D : DefAt K mg "is_row" s_is_row ["thing", "size", "least", "most"]) (T : Txt K mg CT CS CR) (R_is_within : Rdy P w K mg base "is_within" ["thing", "least", "most"] 2 spIsWithin) : Rdy P w K mg base "is_row" ["thing", "size", "least", "most"] 3 spIsRow := by
  refine D.rdy sc_is_row (fun vs H Q E h => ?_) (fun f cdv A outer s H vs Q E hr h => ?_)
  · obtain ⟨a, ns, lo, hi, rfl, _⟩ := h; rfl
  obtain ⟨a, ns, lo, hi, rfl, ha, hn, hb, q⟩ := h
  refine ⟨_, (pss_cons (ps_if (PW.pt (pw_or (pt_not (pt_val (pe_callB cr_isA rfl T.isinstance (by decide +kernel) (pa_cons (pv 0) (pa_cons (pe_bltn (v := .ty "tuple") rfl T.tuple (by decide +kernel) rfl) pa_nil))))) (pw_or1 (pt_cmpR op_ne (pe_callB call_len_seq rfl T.len PySem.boot_len (pa_cons (pv 0) pa_nil)) (pv 1) (nomark _)))))
    (pss_one (ps_ret pe_bl))
    pss_nil)
    (pss_one (ps_ret (pe_callB (cr_all rfl) rfl T.all (by decide +kernel) (pa_cons (pe_lc (own := [("number", 4)]) (g := gName 4) (tt := tYes) rfl sc_is_row.nd (pi_tup (pv 0)) (blkOk_by (own := [("number", 4)]) (N := N_is_row) (sc := defScope s_is_row) (by decide +kernel)) (fun _ _ _ _ _ => (pg_name (i := 4) sc_is_row.nd rfl (Or.inl rfl))) (fun _ _ _ _ _ => pts_nil) (fun _ _ _ _ _ => (pe_rdy R_is_within (hr.mono (by omega)) rfl (pa_cons (pv 4) (pa_cons (pv 2) (pa_cons (pv 3) pa_nil)))))) pa_nil))))), ?_⟩
  have el : ((ns.map V.int).length : Int) = (ns.length : Int) := by rw [List.length_map]
  refine ⟨_, rfl, _, _, _, rfl, .tt ha, true, rfl, iteF ?_⟩
  refine ⟨_, rfl, a, _, rfl, .inr (SqT.of ha), _, rfl, rfl, _, rfl, ?_⟩
  have e0 : (!decide (V.int ((ns.map V.int).length : Int) = V.int (ns.length : Int))) = false := by rw [el]; simp
  rw [e0]
  refine iteF ?_
  refine ⟨_, rfl, a, rfl, ⟨_, SqT.of ha⟩, fun Dl hD => lc_tup (K := K) (a := a) (xs := ns.map V.int) (fun i H' => Same H H' ∧ H' Dl = some (.lst ((List.replicate i true).map V.bl)))
    ⟨same_new hD, upd_same⟩ (fun i H' _ ⟨s1, _⟩ => SqT.of (s1 _ _ ha)) ?_ ?_⟩
  · rintro i x H' hi' ⟨s1, hl⟩
    have hil : i < ns.length := by
      have := (List.getElem?_eq_some_iff.mp hi').1
      rw [List.length_map] at this
      exact this
    rw [List.getElem?_map, List.getElem?_eq_getElem hil] at hi'
    have ex : V.int ns[i] = x := Option.some.inj hi'
    subst ex
    have hbi := hb ns[i] (List.getElem_mem hil)
    refine ⟨rfl, _, rfl, _, rfl, _, rfl, ns[i], lo, hi, rfl, ?_⟩
    rw [decide_eq_true hbi.1, decide_eq_true hbi.2]
    refine ⟨_, hl, ?_, same_mut s1 hD, ?_⟩
    · rw [List.length_map, List.length_replicate]; exact small1000 (by omega)
    · rw [upd_same, List.replicate_succ', List.map_append]
      rfl
  · rintro H' ⟨s1, hl⟩
    refine ⟨Dl, _, rfl, SqL.of hl, ?_⟩
    have e1 : (List.replicate (ns.map V.int).length true).all id = true := by simp
    rw [e1]
    exact q H' s1
abbrev s_first_wrong_row : Stmt := top 10
abbrev N_first_wrong_row : List Str := ["rows", "least", "most", "number", "row"]
theorem sc_first_wrong_row : FnScope N_first_wrong_row ["rows", "least", "most"] (defScope s_first_wrong_row) := ⟨rfl, rfl, rfl, by decide +kernel, rfl, by decide +kernel, by decide +kernel⟩
theorem rd_first_wrong_row (D : DefAt K mg "first_wrong_row" s_first_wrong_row ["rows", "least", "most"]) (T : Txt K mg CT CS CR) (R_is_row : Rdy P w K mg base "is_row" ["thing", "size", "least", "most"] 3 spIsRow) : Rdy P w K mg base "first_wrong_row" ["rows", "least", "most"] 4 spFirstWrong := by
  refine D.rdy sc_first_wrong_row (fun vs H Q E h => ?_) (fun f cdv A outer s H vs Q E hr h => ?_)
  · obtain ⟨a, M, N, lo, hi, rfl, _⟩ := h; rfl
  obtain ⟨a, M, N, lo, hi, rfl, ha, hT, hN, hb, q⟩ := h
  refine ⟨_, (pss_cons (ps_for PassesOwn.never rfl (pi_enumT rfl T.enumerate (pa_cons (pv 0) pa_nil)) (pg_tup rfl (pgs_cons (pg_name (i := 3) sc_first_wrong_row.nd rfl (Or.inl rfl)) (pgs_cons (pg_name (i := 4) sc_first_wrong_row.nd rfl (Or.inl rfl)) pgs_nil)))
    (pss_one (ps_if (pt_not (pt_val (pe_rdy R_is_row (hr.mono (by omega)) rfl (pa_cons (pv 4) (pa_cons (pe_op op_sub (pe_callB call_len_seq rfl T.len PySem.boot_len (pa_cons (pv 0) pa_nil)) (pv 3)) (pa_cons (pv 1) (pa_cons (pv 2) pa_nil)))))))
    (pss_one (ps_ret (pv 3)))
    pss_nil)))
    (pss_one (ps_ret pe_non))), ?_⟩
  obtain ⟨as, h1, h2⟩ := id ha
  have hl := Paired.len h2
  refine ⟨_, rfl, a, _, rfl, SqT.of h1, for_enumT (K := K) (a := a) (xs := as.map V.ref) (fun i σ H' => ∃ v3 v4 : Option V, σ = [some (.ref a), some (.int lo), some (.int hi), v3, v4] ∧ Same H H')
    ⟨none, none, rfl, Same.refl H⟩ (fun i σ H' _ ⟨_, _, _, s1⟩ => SqT.of (s1 _ _ h1)) ?_ ?_⟩
  · rintro i x Ta σ H' hi' ⟨v3, v4, rfl, s1⟩ hTa
    have hil : i < as.length := by
      have := (List.getElem?_eq_some_iff.mp hi').1
      rw [List.length_map] at this
      exact this
    rw [List.getElem?_map, List.getElem?_eq_getElem hil] at hi'
    have ex : V.ref as[i] = x := Option.some.inj hi'
    subst ex
    have hiM : i < M.length := by omega
    have hrow := Paired.at_ h2 (List.getElem?_eq_getElem hil) (List.getElem?_eq_getElem hiM)
    have hlen := hT.row i _ (List.getElem?_eq_getElem hiM)
    have hML := hT.len
    have s2 : Same H (upd H' Ta (.tup [.int (i : Nat), .ref as[i]])) := same_mut s1 (s1.free hTa)
    refine ⟨Ta, _, rfl, SqT.of upd_same, rfl, _, _, rfl, _, _, rfl, rfl, ?_⟩
    refine ⟨_, rfl, _, rfl, a, _, rfl, .inr (SqT.of (s2 _ _ h1)), _, rfl, _, _, rfl, rfl, _, rfl, _, rfl, as[i], M[i], lo, hi, ?_, hrow.tk (same_tk s2), by omega, fun n hn => hb M[i] (List.getElem_mem hiM) n hn, fun H2 s3 => ?_⟩
    · have e : (((as.map V.ref).length : Nat) : Int) - ((i : Nat) : Int) = (M[i].length : Int) := by rw [List.length_map]; omega
      exact congrArg (fun z : Int => [V.ref as[i], V.int z, V.int lo, V.int hi]) e
    · refine ⟨true, rfl, ?_⟩
      refine iteF ?_
      exact ⟨_, _, rfl, s2.trans s3⟩
  · rintro σ H' ⟨v3, v4, rfl, s1⟩
    exact q H' s1
abbrev s_check_number : Stmt := top 11
abbrev N_check_number : List Str := ["thing", "least", "most"]
theorem sc_check_number : FnScope N_check_number ["thing", "least", "most"] (defScope s_check_number) := ⟨rfl, rfl, rfl, by decide +kernel, rfl, by decide +kernel, by decide +kernel⟩
theorem rd_check_number (D : DefAt K mg "check_number" s_check_number ["thing", "least", "most"]) (R_is_within : Rdy P w K mg base "is_within" ["thing", "least", "most"] 2 spIsWithin) : Rdy P w K mg base "check_number" ["thing", "least", "most"] 3 spCheckNumber := by
  refine D.rdy sc_check_number (fun vs H Q E h => ?_) (fun f cdv A outer s H vs Q E hr h => ?_)
  · obtain ⟨i, lo, hi, rfl, _⟩ := h; rfl
  obtain ⟨i, lo, hi, rfl, h1, h2, q⟩ := h
  refine ⟨_, (pss_one (ps_if (pt_not (pt_val (pe_rdy R_is_within (hr.mono (by omega)) rfl (pa_cons (pv 0) (pa_cons (pv 1) (pa_cons (pv 2) pa_nil))))))
    pss_never
    pss_nil)), ?_⟩
  refine ⟨_, rfl, _, rfl, _, rfl, i, lo, hi, rfl, ?_⟩
  rw [decide_eq_true h1, decide_eq_true h2]
  exact ⟨true, rfl, iteF q⟩
abbrev s_length_of : Stmt := top 16
abbrev N_length_of : List Str := ["task"]
theorem sc_length_of : FnScope N_length_of ["task"] (defScope s_length_of) := ⟨rfl, rfl, rfl, by decide +kernel, rfl, by decide +kernel, by decide +kernel⟩
theorem rd_length_of (D : DefAt K mg "length_of" s_length_of ["task"]) (T : Txt K mg CT CS CR) : Rdy P w K mg base "length_of" ["task"] 1 (spLengthOf CT) := by
  refine D.rdy sc_length_of (fun vs H Q E h => ?_) (fun f cdv A outer s H vs Q E hr h => ?_)
  · obtain ⟨t, Dt, rfl, _⟩ := h; rfl
  obtain ⟨t, Dt, rfl, ⟨hok, dx, w', l, h1, h2, h3⟩, q⟩ := h
  refine ⟨_, (pss_one (ps_ret (pe_callB call_len_seq rfl T.len PySem.boot_len (pa_cons (pe_fld (pv 0) rfl) pa_nil)))), ?_⟩
  obtain ⟨as, g1, g2⟩ := id h2
  have hl := Paired.len g2
  refine ⟨_, rfl, t, CT, dx, _, _, rfl, h1, T.clT, T.nT_writes, tkF_writes _ _, w', _, rfl, .inr (SqT.of g1), ?_⟩
  have e : (((as.map V.ref).length : Nat) : Int) = (Dt.N : Int) := by rw [List.length_map, hl, hok.w.len]
  rw [e]
  exact q
abbrev s_write_of : Stmt := top 17
abbrev N_write_of : List Str := ["task", "first", "last"]
theorem sc_write_of : FnScope N_write_of ["task", "first", "last"] (defScope s_write_of) := ⟨rfl, rfl, rfl, by decide +kernel, rfl, by decide +kernel, by decide +kernel⟩
theorem rd_write_of (D : DefAt K mg "write_of" s_write_of ["task", "first", "last"]) (T : Txt K mg CT CS CR) : Rdy P w K mg base "write_of" ["task", "first", "last"] 1 (spWriteOf CT) := by
  refine D.rdy sc_write_of (fun vs H Q E h => ?_) (fun f cdv A outer s H vs Q E hr h => ?_)
  · obtain ⟨t, Dt, a, m, rfl, _⟩ := h; rfl
  obtain ⟨t, Dt, a, m, rfl, ⟨hok, dx, w', l, h1, h2, h3⟩, ha, hm, hN, q⟩ := h
  refine ⟨_, (pss_one (ps_ret (pe_ix ix_tup (pe_ix ix_tup (pe_fld (pv 0) rfl) (pv 1) (fun _ _ => rfl)) (pe_op op_sub (pv 2) (pv 1)) (fun _ _ => rfl)))), ?_⟩
  obtain ⟨r, hr1, hr2⟩ := hok.w.at_ ha hm hN
  obtain ⟨xs, c, g1, g2, g3⟩ := h2.row ha hr1
  refine ⟨_, rfl, t, CT, dx, _, _, rfl, h1, T.clT, T.nT_writes, tkF_writes _ _, _, rfl, w', _, _, _, rfl, rfl, SqT.of g1, g2, _, rfl, _, rfl, _, _, rfl, rfl, c, _, _, _, rfl, rfl, SqT.of g3, atI_int (by omega) (by rw [List.getElem?_map, hr2]; rfl), q⟩
abbrev s_look_sum : Stmt := top 18
abbrev N_look_sum : List Str := ["task", "begin", "first", "last"]
theorem sc_look_sum : FnScope N_look_sum ["task", "begin", "first", "last"] (defScope s_look_sum) := ⟨rfl, rfl, rfl, by decide +kernel, rfl, by decide +kernel, by decide +kernel⟩
theorem rd_look_sum (D : DefAt K mg "look_sum" s_look_sum ["task", "begin", "first", "last"]) (T : Txt K mg CT CS CR) : Rdy P w K mg base "look_sum" ["task", "begin", "first", "last"] 1 (spLookSum CT) := by
  refine D.rdy sc_look_sum (fun vs H Q E h => ?_) (fun f cdv A outer s H vs Q E hr h => ?_)
  · obtain ⟨t, Dt, b, f, l, rfl, _⟩ := h; rfl
  obtain ⟨t, Dt, b, f, l, rfl, ⟨hok, dx, w', l', h1, h2, h3⟩, hb, hf, hl, hN, hbN, q⟩ := h
  refine ⟨_, (pss_one (ps_ret (pe_callB (cr_sumT rfl) rfl T.sum (by decide +kernel) (pa_cons (pe_slice sl_tupA (pe_ix ix_tup (pe_fld (pv 0) rfl) (pv 1) (fun _ _ => rfl)) (po_some (pe_op op_sub (pv 2) (pv 1))) (po_some (pe_op op_add (pe_op op_sub (pv 3) (pv 1)) pe_int))) pa_nil)))), ?_⟩
  obtain ⟨r, hr1, hr2⟩ := hok.l.at_ hb (Int.le_refl b) hbN
  obtain ⟨xs, c, g1, g2, g3⟩ := h3.row hb hr1
  have hrl := hok.l.row _ _ hr1
  have hsum := sum_ents hok.l hb hr1 (l + 1 - f).toNat f hf (by omega)
  have e1 : HT.sIx (r.map V.int).length 0 (some (f - b)) = (f - b).toNat := by
    have := HT.sIx_nat (r.map V.int).length 0 (f - b).toNat
    rw [show (((f - b).toNat : Nat) : Int) = f - b by omega] at this
    rw [this, List.length_map]
    omega
  have e2 : HT.sIx (r.map V.int).length (r.map V.int).length (some (l - b + 1)) = (l - b + 1).toNat := by
    have := HT.sIx_nat (r.map V.int).length (r.map V.int).length (l - b + 1).toNat
    rw [show (((l - b + 1).toNat : Nat) : Int) = l - b + 1 by omega] at this
    rw [this, List.length_map]
    omega
  have e3 : cutV (r.map V.int) (some (f - b)) (some (l - b + 1)) = ((r.drop (f - b).toNat).take (l + 1 - f).toNat).map V.int := by
    unfold cutV
    rw [e1, e2, List.map_take, List.map_drop, show (l - b + 1).toNat - (f - b).toNat = (l + 1 - f).toNat by omega]
  have fin : ∀ (p : Addr) (H' : Hp), Same H H' → TupI H' p ((r.drop (f - b).toNat).take (l + 1 - f).toNat) → ∃ (a : Addr) (ns : List Int), [V.ref p] = [V.ref a] ∧ SqT K H' a (ns.map V.int) ∧ Q (.int ns.sum) H' :=
    fun p H' hs ht => ⟨p, _, rfl, SqT.of ht, by rw [hsum]; exact q H' hs⟩
  refine ⟨_, rfl, t, CT, dx, _, _, rfl, h1, T.clT, T.nT_looks, tkF_looks _ _, _, rfl, l', _, _, _, rfl, rfl, SqT.of g1, g2, _, rfl, _, rfl, _, _, rfl, rfl, _, rfl, _, rfl, _, rfl, _, _, rfl, rfl, _, _, rfl, rfl, _, rfl, c, _, rfl, SqT.of g3, fun hw => ?_, fun hw p np => ?_⟩
  · refine fin c H (Same.refl H) ?_
    have h4 : HT.sIx (r.map V.int).length 0 (some (f - b)) = 0 := hw.1
    have h5 : HT.sIx (r.map V.int).length (r.map V.int).length (some (l - b + 1)) = (r.map V.int).length := hw.2
    rw [e1] at h4
    rw [e2, List.length_map] at h5
    have e4 : ((r.drop (f - b).toNat).take (l + 1 - f).toNat) = r := by
      rw [h4, List.drop_zero]
      exact List.take_of_length_le (by omega)
    rw [e4]
    exact g3
  · refine fin p _ (same_new np) ?_
    show upd H p _ p = _
    rw [upd_same]
    exact congrArg (fun z => some (HO.tup z)) e3
abbrev s_check_most : Stmt := top 21
abbrev N_check_most : List Str := ["most"]
theorem sc_check_most : FnScope N_check_most ["most"] (defScope s_check_most) := ⟨rfl, rfl, rfl, by decide +kernel, rfl, by decide +kernel, by decide +kernel⟩
theorem rd_check_most (D : DefAt K mg "check_most" s_check_most ["most"]) (T : Txt K mg CT CS CR) (R_check_number : Rdy P w K mg base "check_number" ["thing", "least", "most"] 3 spCheckNumber) : Rdy P w K mg base "check_most" ["most"] 4 spCheckMost := by
  refine D.rdy sc_check_most (fun vs H Q E h => ?_) (fun f cdv A outer s H vs Q E hr h => ?_)
  · obtain ⟨i, rfl, _⟩ := h; rfl
  obtain ⟨i, rfl, h1, h2, q⟩ := h
  obtain ⟨tk, hm_MOST_RUNS⟩ := T.cRuns
  refine ⟨_, (pss_one (ps_expr (pe_rdy R_check_number (hr.mono (by omega)) rfl (pa_cons (pv 0) (pa_cons pe_int (pa_cons (pe_glob (v := .int 30) rfl hm_MOST_RUNS ⟨_, rfl⟩) pa_nil)))))), ?_⟩
  exact ⟨_, rfl, i, 1, 30, rfl, h1, h2, q⟩
abbrev s_may_all : Stmt := top 22
abbrev N_may_all : List Str := ["hour", "begin"]
theorem sc_may_all : FnScope N_may_all ["hour", "begin"] (defScope s_may_all) := ⟨rfl, rfl, rfl, by decide +kernel, rfl, by decide +kernel, by decide +kernel⟩
theorem rd_may_all (D : DefAt K mg "may_all" s_may_all ["hour", "begin"]) : Rdy P w K mg base "may_all" ["hour", "begin"] 1 spMayAll := by
  refine D.rdy sc_may_all (fun vs H Q E h => ?_) (fun f cdv A outer s H vs Q E hr h => ?_)
  · obtain ⟨i, j, rfl, _⟩ := h; rfl
  obtain ⟨i, j, rfl, q⟩ := h
  exact ⟨_, (pss_one (ps_ret pe_bl)), q⟩
end
end Js

/-! JsW2: the Solver's costs. -/
namespace Js
open PySem PySem.Spec PyProof.Rows L2
/-! ### promises -/
def spTaskInit (CT : Addr) : Sp := fun vs H Q _ => ∃ (x dx w l : Addr) (D : TkD), vs = [.ref x, .ref w, .ref l] ∧ H x = some (.ins CT dx []) ∧ D.Ok ∧ MatI H w D.W ∧ MatI H l D.L ∧ (∀ r ∈ D.W, ∀ n ∈ r, 0 ≤ n ∧ n ≤ 1000000000) ∧ (∀ r ∈ D.L, ∀ n ∈ r, 0 ≤ n ∧ n ≤ 1000000000) ∧
  ∀ H', Kp [x] H H' → TkAt CT D H' x → Q .non H'
def spSolverInit (CT CS fm : Addr) : Sp := fun vs H Q _ => ∃ (x dx t : Addr) (D : TkD), vs = [.ref x, .ref t, .ref fm] ∧ H x = some (.ins CS dx []) ∧ TkAt CT D H t ∧
  ∀ H' c p, Kp [x] H H' → H c = none → H p = none → SvAt CT CS fm D H' x c p → Q .non H'
def spCapped : Sp := fun vs H Q _ => ∃ (s : Addr) (k a b : Int), vs = [.ref s, .int k, .int a, .int b] ∧ ∀ q, H q = none → Q (.ref q) (upd H q (.tup ((k3 (if b - a + 1 < k then b - a + 1 else k) a b).map kV)))
section
variable (CT CS fm : Addr)
def spOwn (n : Nat) : Sp := fun vs H Q _ => ∃ (s c p : Addr) (D : TkD) (k a b : Int), vs = [.ref s, .int k, .int a, .int b] ∧ SvAt CT CS fm D H s c p ∧ 1 ≤ k ∧ k ≤ 30 ∧ 0 ≤ a ∧ a ≤ b ∧ b < D.N ∧ b - a + 1 ≤ n ∧
  ∀ H', Kp [c, p] H H' → SvAt CT CS fm D H' s c p → Q (.int (own k D.w D.l a (b - a + 1).toNat)) H'
def spSpan (n : Nat) : Sp := fun vs H Q _ => ∃ (s c p : Addr) (D : TkD) (k a b : Int), vs = [.ref s, .int k, .int a, .int b] ∧ SvAt CT CS fm D H s c p ∧ 1 ≤ k ∧ k ≤ 30 ∧ 0 ≤ a ∧ a ≤ b ∧ b < D.N ∧ b - a + 1 ≤ n ∧
  ∀ H', Kp [c, p] H H' → SvAt CT CS fm D H' s c p → Q (.int (span k D.w D.l a (b - a + 1).toNat)) H'
def spAhead (n : Nat) : Sp := fun vs H Q _ => ∃ (s c p : Addr) (D : TkD) (k a t : Int), vs = [.ref s, .int k, .int a, .int t] ∧ SvAt CT CS fm D H s c p ∧ 1 ≤ k ∧ k ≤ 30 ∧ 0 ≤ a ∧ a ≤ t ∧ t < D.N ∧ t - a ≤ n ∧
  ∀ H', Kp [c, p] H H' → SvAt CT CS fm D H' s c p → Q (.int (own k D.w D.l a (t - a).toNat + D.w a t)) H'
def spBehind (n : Nat) : Sp := fun vs H Q _ => ∃ (s c p : Addr) (D : TkD) (k t b : Int), vs = [.ref s, .int k, .int t, .int b] ∧ SvAt CT CS fm D H s c p ∧ 1 ≤ k ∧ k ≤ 30 ∧ 0 ≤ t ∧ t ≤ b ∧ b < D.N ∧ b - t ≤ n ∧
  ∀ H', Kp [c, p] H H' → SvAt CT CS fm D H' s c p → Q (optV (if t = b ∨ 1 < k then some (span (k - 1) D.w D.l (t + 1) (b - t).toNat) else none)) H'
def spTop (n : Nat) : Sp := fun vs H Q _ => ∃ (s c p : Addr) (D : TkD) (k a b t : Int), vs = [.ref s, .int k, .int a, .int b, .int t] ∧ SvAt CT CS fm D H s c p ∧ 1 ≤ k ∧ k ≤ 30 ∧ 0 ≤ a ∧ a ≤ t ∧ t ≤ b ∧ b < D.N ∧ b - a + 1 ≤ n ∧
  ∀ H', Kp [c, p] H H' → SvAt CT CS fm D H' s c p → Q (optV (topv k D.w D.l a (b - a + 1).toNat (t - a).toNat)) H'
end
section
variable {P : Program} {w : World} {K : PySem.W.Frag} {mg : Str → Option Value} {base : Heap} {CT CS CR fm : Addr}
abbrev s_Task___init__ : Stmt := inClass (top 15) 0
abbrev N_Task___init__ : List Str := ["self", "writes", "looks", "wrong"]
theorem sc_Task___init__ : FnScope N_Task___init__ ["self", "writes", "looks"] (defScope s_Task___init__) := ⟨rfl, rfl, rfl, by decide +kernel, rfl, by decide +kernel, by decide +kernel⟩
theorem rd_Task (D : InitAt K mg "Task" CT "Task.__init__" s_Task___init__ ["self", "writes", "looks"]) (T : Txt K mg CT CS CR) (R_first_wrong_row : Rdy P w K mg base "first_wrong_row" ["rows", "least", "most"] 4 spFirstWrong) :
    CRdy P w K mg base "Task" CT ["self", "writes", "looks"] 5 (spTaskInit CT) := by
  refine D.rdy sc_Task___init__ (fun vs H Q E h => ?_) (fun f cdv A outer s H vs Q E hr h => ?_)
  · obtain ⟨x, dx, w', l, D', rfl, _⟩ := h; rfl
  obtain ⟨x, dx, w', l, D', rfl, hx, hok, hw, hl, bw, bl, q⟩ := h
  obtain ⟨tk1, hm_MOST_HOURS_tasks⟩ := T.cHt
  obtain ⟨tk2, hm_MOST_PRICE⟩ := T.cPr
  refine ⟨_, (pss_cons (ps_if (PW.pt (pw_or (pt_not (pt_val (pe_callB cr_isA rfl T.isinstance (by decide +kernel) (pa_cons (pv 1) (pa_cons (pe_bltn (v := .ty "tuple") rfl T.tuple (by decide +kernel) rfl) pa_nil))))) (pw_or1 (pt_not (pt_chain op_le op_le pe_int (pe_callB call_len_seq rfl T.len PySem.boot_len (pa_cons (pv 1) pa_nil)) (pe_glob (v := .int 30) rfl hm_MOST_HOURS_tasks ⟨_, rfl⟩))))))
    pss_never
    pss_nil)
    (pss_cons (ps_set (i := 3) sc_Task___init__.nd rfl (Or.inl rfl) (pe_rdy R_first_wrong_row (hr.mono (by omega)) rfl (pa_cons (pv 1) (pa_cons pe_int (pa_cons (pe_glob (v := .int 1000000000) rfl hm_MOST_PRICE ⟨_, rfl⟩) pa_nil)))))
    (pss_cons (ps_if (pt_cmpR op_notN (pv 3) pe_non (nomark _))
    pss_never
    pss_nil)
    (pss_cons (ps_if (PW.pt (pw_or (pt_not (pt_val (pe_callB cr_isA rfl T.isinstance (by decide +kernel) (pa_cons (pv 2) (pa_cons (pe_bltn (v := .ty "tuple") rfl T.tuple (by decide +kernel) rfl) pa_nil))))) (pw_or1 (pt_cmpR op_ne (pe_callB call_len_seq rfl T.len PySem.boot_len (pa_cons (pv 2) pa_nil)) (pe_callB call_len_seq rfl T.len PySem.boot_len (pa_cons (pv 1) pa_nil)) (nomark _)))))
    pss_never
    pss_nil)
    (pss_cons (ps_set (i := 3) sc_Task___init__.nd rfl (Or.inl rfl) (pe_rdy R_first_wrong_row (hr.mono (by omega)) rfl (pa_cons (pv 2) (pa_cons pe_int (pa_cons (pe_glob (v := .int 1000000000) rfl hm_MOST_PRICE ⟨_, rfl⟩) pa_nil)))))
    (pss_cons (ps_if (pt_cmpR op_notN (pv 3) pe_non (nomark _))
    pss_never
    pss_nil)
    (pss_cons (ps_fld (pv 0) (pv 1) rfl)
    (pss_one (ps_fld (pv 0) (pv 2) rfl))))))))), ?_⟩
  have hp := hok.pos
  have hle := hok.le
  obtain ⟨as, h1, h2⟩ := id hw
  obtain ⟨bs, g1, g2⟩ := id hl
  have la : as.length = D'.N := by rw [Paired.len h2, hok.w.len]
  have lb : bs.length = D'.N := by rw [Paired.len g2, hok.l.len]
  refine ⟨_, rfl, _, _, _, rfl, .tt h1, true, rfl, iteF ?_⟩
  have ea : (((as.map V.ref).length : Nat) : Int) = (D'.N : Int) := by rw [List.length_map, la]
  have eb : (((bs.map V.ref).length : Nat) : Int) = (D'.N : Int) := by rw [List.length_map, lb]
  refine ⟨_, rfl, w', _, rfl, .inr (SqT.of h1), _, _, rfl, rfl, _, rfl, ite2 (fun c => ?_) (fun c => absurd (decide_eq_true (show (1 : Int) ≤ (((as.map V.ref).length : Nat) : Int) by omega)) c)⟩
  refine ⟨_, _, rfl, rfl, _, rfl, ?_⟩
  have e3 : decide ((((as.map V.ref).length : Nat) : Int) ≤ 30) = true := decide_eq_true (by omega)
  rw [e3]
  refine iteF ?_
  refine ⟨_, rfl, w', D'.W, D'.N, 0, 1000000000, rfl, hw, hok.w, by omega, bw, fun H1 s1 => ?_⟩
  refine ⟨_, rfl, rfl, _, rfl, iteF ?_⟩
  refine ⟨_, rfl, _, _, _, rfl, .tt (s1 _ _ g1), true, rfl, iteF ?_⟩
  refine ⟨_, rfl, l, _, rfl, .inr (SqT.of (s1 _ _ g1)), _, rfl, w', _, rfl, .inr (SqT.of (s1 _ _ h1)), rfl, _, rfl, ?_⟩
  have e4 : (!decide (V.int (((bs.map V.ref).length : Nat) : Int) = V.int (((as.map V.ref).length : Nat) : Int))) = false := by rw [ea, eb]; simp
  rw [e4]
  refine iteF ?_
  refine ⟨_, rfl, l, D'.L, D'.N, 0, 1000000000, rfl, hl.tk (same_tk s1), hok.l, by omega, bl, fun H2 s2 => ?_⟩
  refine ⟨_, rfl, rfl, _, rfl, iteF ?_⟩
  have s12 := s1.trans s2
  refine ⟨_, rfl, _, rfl, x, CT, dx, _, rfl, s12 _ _ hx, T.clT, T.nT_writes, by show 0 < 1000; decide, ?_⟩
  refine ⟨_, rfl, _, rfl, x, CT, dx, _, rfl, upd_same, T.clT, T.nT_looks, by show 1 < 1000; decide, ?_⟩
  have k1 : Kp [x] H (upd (upd H2 x (.ins CT dx (putF "writes" (.ref w') []))) x (.ins CT dx (putF "looks" (.ref l) (putF "writes" (.ref w') [])))) :=
    ((Kp.of s12).mut (.inl List.mem_cons_self)).mut (.inl List.mem_cons_self)
  have tk : Tk H (upd (upd H2 x (.ins CT dx (putF "writes" (.ref w') []))) x (.ins CT dx (putF "looks" (.ref l) (putF "writes" (.ref w') [])))) := fun b xs e => k1 b _ e fun hm => by
    have := List.mem_singleton.mp hm
    subst this
    rw [hx] at e
    cases e
  exact q _ k1 ⟨hok, dx, w', l, upd_same, hw.tk tk, hl.tk tk⟩
abbrev s_Solver___init__ : Stmt := inClass (top 23) 0
abbrev N_Solver___init__ : List Str := ["self", "task", "may"]
theorem sc_Solver___init__ : FnScope N_Solver___init__ ["self", "task", "may"] (defScope s_Solver___init__) := ⟨rfl, rfl, rfl, by decide +kernel, rfl, by decide +kernel, by decide +kernel⟩
theorem rd_Solver (D : InitAt K mg "Solver" CS "Solver.__init__" s_Solver___init__ ["self", "task", "may"]) (T : Txt K mg CT CS CR) : CRdy P w K mg base "Solver" CS ["self", "task", "may"] 1 (spSolverInit CT CS fm) := by
  refine D.rdy sc_Solver___init__ (fun vs H Q E h => ?_) (fun f cdv A outer s H vs Q E hr h => ?_)
  · obtain ⟨x, dx, t, D', rfl, _⟩ := h; rfl
  obtain ⟨x, dx, t, D', rfl, hx, ht, q⟩ := h
  refine ⟨_, (pss_cons (ps_fld (pv 0) (pv 1) rfl)
    (pss_cons (ps_fld (pv 0) (pv 2) rfl)
    (pss_cons (ps_fld (pv 0) pe_dnewT rfl)
    (pss_cons (ps_fld (pv 0) pe_dnewT rfl)
    (pss_one (ps_fld (pv 0) pe_dnewT rfl)))))), ?_⟩
  refine ⟨_, rfl, _, rfl, x, CS, dx, _, rfl, hx, T.clS, T.nS_task, by show 0 < 1000; decide, ?_⟩
  refine ⟨_, rfl, _, rfl, x, CS, dx, _, rfl, upd_same, T.clS, T.nS_may, by show 1 < 1000; decide, ?_⟩
  intro c nc
  have ncx : x ≠ c := ne_of_none upd_same nc
  refine ⟨_, rfl, x, CS, dx, _, rfl, by rw [upd_ne ncx]; exact upd_same, T.clS, T.nS_costs, by show 2 < 1000; decide, ?_⟩
  intro p np
  have npx : x ≠ p := ne_of_none upd_same np
  have ncp : c ≠ p := ne_of_none (by rw [upd_ne ncx.symm]; exact upd_same) np
  refine ⟨_, rfl, x, CS, dx, _, rfl, by rw [upd_ne npx]; exact upd_same, T.clS, T.nS_plans, by show 3 < 1000; decide, ?_⟩
  intro n nn
  have nnx : x ≠ n := ne_of_none upd_same nn
  have npn : p ≠ n := ne_of_none (by rw [upd_ne npx.symm]; exact upd_same) nn
  have ncn : c ≠ n := ne_of_none (by rw [upd_ne ncx.symm, upd_ne ncp, upd_ne ncx.symm]; exact upd_same) nn
  refine ⟨_, rfl, x, CS, dx, _, rfl, by rw [upd_ne nnx]; exact upd_same, T.clS, T.nS_counts, by show 4 < 1000; decide, ?_⟩
  have c0 : H c = none := by rw [upd_ne ncx.symm, upd_ne ncx.symm] at nc; exact nc
  have p0 : H p = none := by rw [upd_ne npx.symm, upd_ne ncp.symm, upd_ne npx.symm, upd_ne npx.symm] at np; exact np
  have n0 : H n = none := by rw [upd_ne nnx.symm, upd_ne npn.symm, upd_ne nnx.symm, upd_ne ncn.symm, upd_ne nnx.symm, upd_ne nnx.symm] at nn; exact nn
  have fin : ∀ Hf : Hp, Kp [x] H Hf → Hf x = some (.ins CS dx (svF t fm c p n)) → Hf c = some (.dT []) → Hf p = some (.dT []) → Q .non Hf := fun Hf kk hx' hc' hp' => by
    refine q _ c p kk c0 p0 ⟨⟨dx, t, n, hx', ?_⟩, ⟨[], hc', ⟨KeysOk.nil, fun k a b v e => by cases e⟩⟩, ⟨[], hp', ⟨KeysOk.nil, fun k a b v e => by cases e⟩⟩, ncp⟩
    obtain ⟨_, dx', w', l', q1, _⟩ := id ht
    refine ht.kp kk (fun hm => ?_) fun b xs e => kk b _ e fun hm => ?_
    · have e := List.mem_singleton.mp hm
      subst e
      rw [hx] at q1
      have e2 := Option.some.inj q1
      injection e2 with _ _ e3
      have e5 := tkF_writes w' l'
      rw [← e3] at e5
      cases e5
    · have e2 := List.mem_singleton.mp hm
      subst e2
      rw [hx] at e
      cases e
  refine fin _ (((((((((Kp.refl _ H).mut (.inl List.mem_cons_self)).mut (.inl List.mem_cons_self)).mut (.inr c0)).mut (.inl List.mem_cons_self)).mut (.inr p0)).mut (.inl List.mem_cons_self)).mut (.inr n0)).mut (.inl List.mem_cons_self)) upd_same ?_ ?_
  · rw [upd_ne ncx.symm, upd_ne ncn, upd_ne ncx.symm, upd_ne ncp, upd_ne ncx.symm]
    exact upd_same
  · rw [upd_ne npx.symm, upd_ne npn, upd_ne npx.symm]
    exact upd_same
abbrev s_Solver_capped : Stmt := inClass (top 23) 1
abbrev N_Solver_capped : List Str := ["self", "most", "first", "last"]
theorem sc_Solver_capped : FnScope N_Solver_capped ["self", "most", "first", "last"] (defScope s_Solver_capped) := ⟨rfl, rfl, rfl, by decide +kernel, rfl, by decide +kernel, by decide +kernel⟩
theorem rd_capped (D : MethAt K CS "capped" "Solver.capped" s_Solver_capped ["self", "most", "first", "last"]) (T : Txt K mg CT CS CR) : MRdy P w K mg base CS "capped" ["self", "most", "first", "last"] 1 spCapped := by
  refine D.rdy sc_Solver_capped (fun vs H Q E h => ?_) (fun f cdv A outer s H vs Q E hr h => ?_)
  · obtain ⟨x, k, a, b, rfl, _⟩ := h; rfl
  obtain ⟨x, k, a, b, rfl, q⟩ := h
  refine ⟨_, (pss_one (ps_ret (pe_tup (pa_cons (pe_callB (call_min2 rfl) rfl T.min (by decide +kernel) (pa_cons (pv 1) (pa_cons (pe_op op_add (pe_op op_sub (pv 3) (pv 2)) pe_int) pa_nil))) (pa_cons (pv 2) (pa_cons (pv 3) pa_nil)))))), ?_⟩
  refine ⟨_, rfl, _, rfl, _, rfl, _, _, rfl, rfl, _, _, rfl, rfl, _, _, rfl, _, rfl, _, rfl, by show 3 ≤ sizeLine; decide, fun q' nq => ?_⟩
  exact q q' nq
/-! ### the recursion, a stretch of at most n hours -/
abbrev s_Solver_ahead_cost : Stmt := inClass (top 23) 2
abbrev N_Solver_ahead_cost : List Str := ["self", "most", "first", "top", "ahead"]
theorem sc_Solver_ahead_cost : FnScope N_Solver_ahead_cost ["self", "most", "first", "top"] (defScope s_Solver_ahead_cost) := ⟨rfl, rfl, rfl, by decide +kernel, rfl, by decide +kernel, by decide +kernel⟩
theorem rd_ahead {n : Nat} (D : MethAt K CS "ahead_cost" "Solver.ahead_cost" s_Solver_ahead_cost ["self", "most", "first", "top"]) (T : Txt K mg CT CS CR) (R_may_all : Rdy P w K mg base "may_all" ["hour", "begin"] 1 spMayAll) (hfm : mg "may_all" = some (.ref fm))
    (R_write_of : Rdy P w K mg base "write_of" ["task", "first", "last"] 1 (spWriteOf CT)) (R_own_cost : MRdy P w K mg base CS "own_cost" ["self", "most", "first", "last"] (4 * n + 1) (spOwn CT CS fm n)) :
    MRdy P w K mg base CS "ahead_cost" ["self", "most", "first", "top"] (4 * n + 2) (spAhead CT CS fm n) := by
  obtain ⟨fm', fdm, G_may, mgM, k_may, b_may⟩ := R_may_all.ex
  have efm : fm' = fm := by
    rw [hfm] at mgM
    injection mgM with z
    injection z with z
    exact z.symm
  subst efm
  refine D.rdy (k := 4 * n + 1) sc_Solver_ahead_cost (fun vs H Q E h => ?_) (fun f cdv A outer st H vs Q E hr h => ?_)
  · obtain ⟨s, c, p, D', k, a, t, rfl, _⟩ := h; rfl
  obtain ⟨s, c, p, D', k, a, t, rfl, S, hk1, hk2, ha, hat, htN, hn, q⟩ := h
  refine ⟨_, (pss_cons (ps_if (pt_not (pt_val (pe_fcall (pv 0) T.clS T.nS_may G_may (hr.mono (by omega)) k_may b_may .nil pass0 (pa_cons (pv 3) (pa_cons (pv 2) pa_nil)))))
    (pss_one (ps_ret pe_non))
    pss_nil)
    (pss_cons (ps_if (pt_cmpR op_eq (pv 3) (pv 2) (nomark _))
    (pss_one (ps_ret (pe_rdy R_write_of (hr.mono (by omega)) rfl (pa_cons (pe_fld (pv 0) rfl) (pa_cons (pv 2) (pa_cons (pv 2) pa_nil))))))
    pss_nil)
    (pss_cons (ps_set (i := 4) sc_Solver_ahead_cost.nd rfl (Or.inl rfl) (pe_mrdy (pv 0) T.clS R_own_cost (hr.mono (by omega)) (pa_cons (pv 1) (pa_cons (pv 2) (pa_cons (pe_op op_sub (pv 3) pe_int) pa_nil)))))
    (pss_one (ps_ret (pe_ifExp (pt_cmpR op_isN (pv 4) pe_non (nomark _)) pe_non (pe_op op_add (pv 4) (pe_rdy R_write_of (hr.mono (by omega)) rfl (pa_cons (pe_fld (pv 0) rfl) (pa_cons (pv 2) (pa_cons (pv 3) pa_nil))))))))))), ?_⟩
  obtain ⟨⟨dx, ta, nc, h1, h2⟩, _⟩ := id S
  refine ⟨_, rfl, s, dx, _, rfl, h1, svF_may _ _ _ _ _, _, rfl, _, rfl, t, a, rfl, true, rfl, iteF ?_⟩
  refine ⟨_, rfl, _, rfl, rfl, _, rfl, ite2 (fun e => ?_) (fun e => ?_)⟩
  · have e' : t = a := by simpa using of_decide_eq_true e
    subst e'
    refine ⟨_, rfl, s, CS, dx, _, _, rfl, h1, T.clS, T.nS_task, svF_task _ _ _ _ _, _, rfl, _, rfl, ta, D', t, t, rfl, h2, ha, Int.le_refl _, htN, ?_⟩
    have z := q H (Kp.refl _ H) S
    rw [show (t - t).toNat = 0 by omega, own_zero, Int.zero_add] at z
    exact z
  · have e' : t ≠ a := fun z => e (decide_eq_true (by rw [z]))
    refine ⟨_, rfl, s, dx, _, rfl, h1, svF_m5 _ _ _ _ _, _, rfl, _, rfl, _, rfl, _, _, rfl, rfl, s, c, p, D', k, a, t - 1, rfl, S, hk1, hk2, ha, by omega, by omega, by omega, fun H1 k1 S1 => ?_⟩
    refine ⟨_, rfl, rfl, _, rfl, iteF ?_⟩
    obtain ⟨⟨dx', ta', nc', g1, g2⟩, _⟩ := id S1
    refine ⟨_, rfl, _, rfl, s, CS, dx', _, _, rfl, g1, T.clS, T.nS_task, svF_task _ _ _ _ _, _, rfl, _, rfl, ta', D', a, t, rfl, g2, ha, hat, htN, _, _, rfl, rfl, ?_⟩
    have z := q H1 k1 S1
    rw [show (t - 1 - a + 1).toNat = (t - a).toNat by omega]
    exact z
abbrev s_Solver_behind_cost : Stmt := inClass (top 23) 3
abbrev N_Solver_behind_cost : List Str := ["self", "most", "top", "last"]
theorem sc_Solver_behind_cost : FnScope N_Solver_behind_cost ["self", "most", "top", "last"] (defScope s_Solver_behind_cost) := ⟨rfl, rfl, rfl, by decide +kernel, rfl, by decide +kernel, by decide +kernel⟩
theorem rd_behind {n : Nat} (D : MethAt K CS "behind_cost" "Solver.behind_cost" s_Solver_behind_cost ["self", "most", "top", "last"]) (T : Txt K mg CT CS CR) (R_span_cost : MRdy P w K mg base CS "span_cost" ["self", "most", "first", "last"] (4 * n + 2) (spSpan CT CS fm n)) :
    MRdy P w K mg base CS "behind_cost" ["self", "most", "top", "last"] (4 * n + 3) (spBehind CT CS fm n) := by
  refine D.rdy (k := 4 * n + 2) sc_Solver_behind_cost (fun vs H Q E h => ?_) (fun f cdv A outer st H vs Q E hr h => ?_)
  · obtain ⟨s, c, p, D', k, a, t, rfl, _⟩ := h; rfl
  obtain ⟨s, c, p, D', k, t, b, rfl, S, hk1, hk2, ht, htb, hbN, hn, q⟩ := h
  refine ⟨_, (pss_cons (ps_if (pt_cmpR op_eq (pv 2) (pv 3) (nomark _))
    (pss_one (ps_ret pe_int))
    pss_nil)
    (pss_one (ps_ret (pe_ifExp (pt_cmpR op_gt (pv 1) pe_int (nomark _)) (pe_mrdy (pv 0) T.clS R_span_cost (hr.mono (by omega)) (pa_cons (pe_op op_sub (pv 1) pe_int) (pa_cons (pe_op op_add (pv 2) pe_int) (pa_cons (pv 3) pa_nil)))) pe_non)))), ?_⟩
  obtain ⟨⟨dx, ta, nc, h1, h2⟩, _⟩ := id S
  refine ⟨_, rfl, _, rfl, rfl, _, rfl, ite2 (fun e => ?_) (fun e => ?_)⟩
  · have e' : t = b := by simpa using of_decide_eq_true e
    have z := q H (Kp.refl _ H) S
    rw [if_pos (.inl e'), show (b - t).toNat = 0 by omega, span_zero] at z
    exact z
  · have e' : t ≠ b := fun z => e (decide_eq_true (by rw [z]))
    refine ⟨_, rfl, _, _, rfl, rfl, _, rfl, ite2 (fun g => ?_) (fun g => ?_)⟩
    · have g' : 1 < k := of_decide_eq_true g
      refine ⟨_, rfl, s, dx, _, rfl, h1, svF_m6 _ _ _ _ _, _, rfl, _, _, rfl, rfl, _, rfl, _, _, rfl, rfl, _, rfl, s, c, p, D', k - 1, t + 1, b, rfl, S, by omega, by omega, by omega, by omega, hbN, by omega, fun H1 k1 S1 => ?_⟩
      have z := q H1 k1 S1
      rw [if_pos (.inr g')] at z
      rw [show (b - (t + 1) + 1).toNat = (b - t).toNat by omega]
      exact z
    · have g' : ¬ 1 < k := of_decide_eq_false (Bool.eq_false_iff.mpr g)
      have z := q H (Kp.refl _ H) S
      rw [if_neg (fun u => u.elim e' g')] at z
      exact z
abbrev s_Solver_top_cost : Stmt := inClass (top 23) 4
abbrev N_Solver_top_cost : List Str := ["self", "most", "first", "last", "top", "ahead", "behind"]
theorem sc_Solver_top_cost : FnScope N_Solver_top_cost ["self", "most", "first", "last", "top"] (defScope s_Solver_top_cost) := ⟨rfl, rfl, rfl, by decide +kernel, rfl, by decide +kernel, by decide +kernel⟩
theorem rd_top {n : Nat} (D : MethAt K CS "top_cost" "Solver.top_cost" s_Solver_top_cost ["self", "most", "first", "last", "top"]) (T : Txt K mg CT CS CR) (R_ahead_cost : MRdy P w K mg base CS "ahead_cost" ["self", "most", "first", "top"] (4 * n + 2) (spAhead CT CS fm n))
    (R_behind_cost : MRdy P w K mg base CS "behind_cost" ["self", "most", "top", "last"] (4 * n + 3) (spBehind CT CS fm n)) :
    MRdy P w K mg base CS "top_cost" ["self", "most", "first", "last", "top"] (4 * n + 4) (spTop CT CS fm (n + 1)) := by
  refine D.rdy (k := 4 * n + 3) sc_Solver_top_cost (fun vs H Q E h => ?_) (fun f cdv A outer st H vs Q E hr h => ?_)
  · obtain ⟨s, c, p, D', k, a, b, t, rfl, _⟩ := h; rfl
  obtain ⟨s, c, p, D', k, a, b, t, rfl, S, hk1, hk2, ha, hat, htb, hbN, hn, q⟩ := h
  refine ⟨_, (pss_cons (ps_set (i := 5) sc_Solver_top_cost.nd rfl (Or.inl rfl) (pe_mrdy (pv 0) T.clS R_ahead_cost (hr.mono (by omega)) (pa_cons (pv 1) (pa_cons (pv 2) (pa_cons (pv 4) pa_nil)))))
    (pss_cons (ps_if (pt_cmpR op_isN (pv 5) pe_non (nomark _))
    (pss_one (ps_ret pe_non))
    pss_nil)
    (pss_cons (ps_set (i := 6) sc_Solver_top_cost.nd rfl (Or.inl rfl) (pe_mrdy (pv 0) T.clS R_behind_cost (hr.mono (by omega)) (pa_cons (pv 1) (pa_cons (pv 4) (pa_cons (pv 3) pa_nil)))))
    (pss_one (ps_ret (pe_ifExp (pt_cmpR op_isN (pv 6) pe_non (nomark _)) pe_non (pe_op op_add (pv 5) (pv 6)))))))), ?_⟩
  obtain ⟨⟨dx, ta, nc, h1, h2⟩, _⟩ := id S
  refine ⟨_, rfl, s, dx, _, rfl, h1, svF_m2 _ _ _ _ _, _, rfl, _, rfl, _, rfl, s, c, p, D', k, a, t, rfl, S, hk1, hk2, ha, hat, by omega, by omega, fun H1 k1 S1 => ?_⟩
  refine ⟨_, rfl, rfl, _, rfl, iteF ?_⟩
  obtain ⟨⟨dx', ta', nc', g1, g2⟩, _⟩ := id S1
  refine ⟨_, rfl, s, dx', _, rfl, g1, svF_m3 _ _ _ _ _, _, rfl, _, rfl, _, rfl, s, c, p, D', k, t, b, rfl, S1, hk1, hk2, by omega, htb, hbN, by omega, fun H2 k2 S2 => ?_⟩
  have e1 : ((t - a).toNat + 1 = (b - a + 1).toNat ∨ 1 < k) ↔ (t = b ∨ 1 < k) := ⟨fun z => z.elim (fun z => .inl (by omega)) .inr, fun z => z.elim (fun z => .inl (by omega)) .inr⟩
  have z := q H2 (k1.trans k2) S2
  unfold topv at z
  by_cases cond : t = b ∨ 1 < k
  · rw [if_pos cond]
    rw [if_pos (e1.mpr cond)] at z
    refine ⟨_, rfl, rfl, _, rfl, iteF ?_⟩
    refine ⟨_, rfl, _, rfl, _, _, rfl, rfl, ?_⟩
    rw [show a + (((t - a).toNat : Nat) : Int) = t by omega, show (b - a + 1).toNat - (t - a).toNat - 1 = (b - t).toNat by omega] at z
    exact z
  · rw [if_neg cond]
    rw [if_neg (fun u => cond (e1.mp u))] at z
    exact ⟨_, rfl, rfl, _, rfl, iteT z⟩
abbrev s_Solver_span_cost : Stmt := inClass (top 23) 6
abbrev N_Solver_span_cost : List Str := ["self", "most", "first", "last", "found"]
theorem sc_Solver_span_cost : FnScope N_Solver_span_cost ["self", "most", "first", "last"] (defScope s_Solver_span_cost) := ⟨rfl, rfl, rfl, by decide +kernel, rfl, by decide +kernel, by decide +kernel⟩
theorem rd_span {n : Nat} (D : MethAt K CS "span_cost" "Solver.span_cost" s_Solver_span_cost ["self", "most", "first", "last"]) (T : Txt K mg CT CS CR) (R_look_sum : Rdy P w K mg base "look_sum" ["task", "begin", "first", "last"] 1 (spLookSum CT))
    (R_own_cost : MRdy P w K mg base CS "own_cost" ["self", "most", "first", "last"] (4 * n + 1) (spOwn CT CS fm n)) :
    MRdy P w K mg base CS "span_cost" ["self", "most", "first", "last"] (4 * n + 2) (spSpan CT CS fm n) := by
  refine D.rdy (k := 4 * n + 1) sc_Solver_span_cost (fun vs H Q E h => ?_) (fun f cdv A outer st H vs Q E hr h => ?_)
  · obtain ⟨s, c, p, D', k, a, b, rfl, _⟩ := h; rfl
  obtain ⟨s, c, p, D', k, a, b, rfl, S, hk1, hk2, ha, hab, hbN, hn, q⟩ := h
  refine ⟨_, (pss_cons (ps_set (i := 4) sc_Solver_span_cost.nd rfl (Or.inl rfl) (pe_mrdy (pv 0) T.clS R_own_cost (hr.mono (by omega)) (pa_cons (pv 1) (pa_cons (pv 2) (pa_cons (pv 3) pa_nil)))))
    (pss_one (ps_ret (pe_ifExp (pt_cmpR op_isN (pv 4) pe_non (nomark _)) pe_non (pe_op op_add (pv 4) (pe_rdy R_look_sum (hr.mono (by omega)) rfl (pa_cons (pe_fld (pv 0) rfl) (pa_cons (pv 2) (pa_cons (pv 2) (pa_cons (pv 3) pa_nil)))))))))), ?_⟩
  obtain ⟨⟨dx, ta, nc, h1, h2⟩, _⟩ := id S
  refine ⟨_, rfl, s, dx, _, rfl, h1, svF_m5 _ _ _ _ _, _, rfl, _, rfl, _, rfl, s, c, p, D', k, a, b, rfl, S, hk1, hk2, ha, hab, hbN, hn, fun H1 k1 S1 => ?_⟩
  refine ⟨_, rfl, rfl, _, rfl, iteF ?_⟩
  obtain ⟨⟨dx', ta', nc', g1, g2⟩, _⟩ := id S1
  refine ⟨_, rfl, _, rfl, s, CS, dx', _, _, rfl, g1, T.clS, T.nS_task, svF_task _ _ _ _ _, _, rfl, _, rfl, _, rfl, ta', D', a, a, b, rfl, g2, ha, Int.le_refl _, by omega, hbN, by omega, fun H2 s2 => ⟨_, _, rfl, rfl, ?_⟩⟩
  have z := q H2 (k1.trans (Kp.of s2)) (S1.same s2)
  have e : own k D'.w D'.l a (b - a + 1).toNat + lk D'.l a a (b + 1 - a).toNat = span k D'.w D'.l a (b - a + 1).toNat := by
    rw [show (b + 1 - a).toNat = (b - a + 1).toNat by omega]
    unfold own
    omega
  rw [← e] at z
  exact z
theorem capK_le {k a b : Int} (hab : a ≤ b) (hk : 1 ≤ k) : 1 ≤ (if b - a + 1 < k then b - a + 1 else k) ∧ (if b - a + 1 < k then b - a + 1 else k) ≤ k ∧
    ((if b - a + 1 < k then b - a + 1 else k) = k ∨ ((if b - a + 1 < k then b - a + 1 else k) ≤ k ∧ (((b - a + 1).toNat : Nat) : Int) ≤ (if b - a + 1 < k then b - a + 1 else k))) := by
  by_cases h : b - a + 1 < k
  · rw [if_pos h]; omega
  · rw [if_neg h]; omega
abbrev s_Solver_own_cost : Stmt := inClass (top 23) 5
abbrev N_Solver_own_cost : List Str := ["self", "most", "first", "last", "key", "some", "top", "one"]
theorem sc_Solver_own_cost : FnScope N_Solver_own_cost ["self", "most", "first", "last"] (defScope s_Solver_own_cost) := ⟨rfl, rfl, rfl, by decide +kernel, rfl, by decide +kernel, by decide +kernel⟩
theorem rd_own {n : Nat} (D : MethAt K CS "own_cost" "Solver.own_cost" s_Solver_own_cost ["self", "most", "first", "last"]) (T : Txt K mg CT CS CR) (R_capped : MRdy P w K mg base CS "capped" ["self", "most", "first", "last"] 1 spCapped)
    (R_top_cost : MRdy P w K mg base CS "top_cost" ["self", "most", "first", "last", "top"] (4 * n + 4) (spTop CT CS fm (n + 1))) :
    MRdy P w K mg base CS "own_cost" ["self", "most", "first", "last"] (4 * (n + 1) + 1) (spOwn CT CS fm (n + 1)) := by
  refine D.rdy (k := 4 * (n + 1)) sc_Solver_own_cost (fun vs H Q E h => ?_) (fun f cdv A outer st H vs Q E hr h => ?_)
  · obtain ⟨s, c, p, D', k, a, b, rfl, _⟩ := h; rfl
  obtain ⟨s, c, p, D', k, a, b, rfl, S, hk1, hk2, ha, hab, hbN, hn, q⟩ := h
  have hN30 : D'.N ≤ 30 := by
    obtain ⟨⟨_, _, _, _, ⟨o, _⟩⟩, _⟩ := S
    exact o.le
  refine ⟨_, (pss_cons (ps_set (i := 4) sc_Solver_own_cost.nd rfl (Or.inr rfl) (pe_mrdy (pv 0) T.clS R_capped (hr.mono (by omega)) (pa_cons (pv 1) (pa_cons (pv 2) (pa_cons (pv 3) pa_nil)))))
    (pss_cons (ps_if (pt_cmp (pc_dnotin (hu_of hr) (pv 4) (pe_fld (pv 0) rfl)))
    (pss_cons (ps_setLc (i := 5) (own := [("top", 6)]) (g := gName 6) (tt := tYes) rfl sc_Solver_own_cost.nd rfl rfl (sw_true rfl rfl rfl (by decide +kernel)) (pi_range2 rfl T.range (pa_cons (pv 2) (pa_cons (pe_op op_add (pv 3) pe_int) pa_nil))) (blkOk_by (own := [("top", 6)]) (N := N_Solver_own_cost) (sc := defScope s_Solver_own_cost) (by decide +kernel)) (fun _ _ _ _ _ => (pg_name (i := 6) sc_Solver_own_cost.nd rfl (Or.inl rfl))) (fun _ _ _ _ _ => pts_nil) (fun _ _ _ _ _ => (pe_mrdy (pv 0) T.clS R_top_cost (hr.mono (by omega)) (pa_cons (pe_ix (r := rIxT K) ix_tup (pv 4) pe_int (fun _ _ => rfl)) (pa_cons (pv 2) (pa_cons (pv 3) (pa_cons (pv 6) pa_nil)))))))
    (pss_cons (ps_setLc (i := 5) (own := [("one", 7)]) (g := gName 7) rfl sc_Solver_own_cost.nd rfl rfl (sw_true rfl rfl rfl (by decide +kernel)) (pi_list (pv 5)) (blkOk_by (own := [("one", 7)]) (N := N_Solver_own_cost) (sc := defScope s_Solver_own_cost) (by decide +kernel)) (fun _ _ _ _ _ => (pg_name (i := 7) sc_Solver_own_cost.nd rfl (Or.inl rfl))) (fun _ _ _ _ _ => (pts_one (pt_cmpR op_notN (pv 7) pe_non (nomark _)))) (fun _ _ _ _ _ => (pv 7)))
    (pss_one (ps_dput (hu_of hr) (pe_fld (pv 0) rfl) (pv 4) (pe_ifExp (pt_cmpR op_gt (pe_callB call_len_seq rfl T.len PySem.boot_len (pa_cons (pv 5) pa_nil)) pe_int (nomark _)) (pe_callB (cr_min rfl) rfl T.min (by decide +kernel) (pa_cons (pv 5) pa_nil)) pe_non) rfl))))
    pss_nil)
    (pss_one (ps_ret (pe_dget (hu_of hr) (pe_fld (pv 0) rfl) (pv 4) (fun _ _ => rfl)))))), ?_⟩
  obtain ⟨⟨dx, ta, nc, h1, h2⟩, _⟩ := id S
  -- key = self.capped(most, first, last)
  obtain ⟨kk, ekk⟩ : ∃ kk, kk = (if b - a + 1 < k then b - a + 1 else k) := ⟨_, rfl⟩
  have hcap := capK_le hab hk1
  rw [← ekk] at hcap
  obtain ⟨hc1, hc2, hc3⟩ := hcap
  refine ⟨_, rfl, s, dx, _, rfl, h1, svF_m1 _ _ _ _ _, _, rfl, _, rfl, _, rfl, s, k, a, b, rfl, fun qa nq => ?_⟩
  rw [← ekk]
  have S1 : SvAt CT CS fm D' (upd H qa (.tup ((k3 kk a b).map kV))) s c p := S.same (same_new nq)
  have ekey : own k D'.w D'.l a (b - a + 1).toNat = own kk D'.w D'.l a (b - a + 1).toNat := (own_cap hk1 a hc1 hc3).symm
  rw [ekey] at q
  generalize hH1 : upd H qa (.tup ((k3 kk a b).map kV)) = H1 at S1 ⊢
  have s01 : Same H H1 := by rw [← hH1]; exact same_new nq
  have hqa : H1 qa = some (.tup ((k3 kk a b).map kV)) := by rw [← hH1]; exact upd_same
  obtain ⟨⟨dx1, ta1, nc1, g1, g2⟩, ⟨kc, g3, g4⟩, _⟩ := id S1
  -- the end: return self.costs[key]
  have fin : ∀ H2, Kp [c, p] H1 H2 → SvAt CT CS fm D' H2 s c p → ∀ kc2, H2 c = some (.dT kc2) → valV kc2 (k3 kk a b) = some (.int (own kk D'.w D'.l a (b - a + 1).toNat)) → ∀ v5 v6 v7,
      tRet (tDGet (tFld K (tVar 0) "costs") (tVar 4)) { nx := fun _ H' => Q .non H', rt := Q } [some (.ref s), some (.int k), some (.int a), some (.int b), some (.ref qa), v5, v6, v7] H2 := fun H2 k2 S2 kc2 hk2' hv v5 v6 v7 => by
    obtain ⟨⟨dx2, ta2, nc2, e1, e2⟩, _⟩ := id S2
    refine ⟨_, rfl, s, CS, dx2, _, _, rfl, e1, T.clS, T.nS_costs, svF_costs _ _ _ _ _, _, rfl, c, _, rfl, ?_, q H2 ((Kp.of s01).trans k2) S2⟩
    have z := DGet.t (k := k3 kk a b) hk2' (S1.tk k2 _ _ hqa)
    rw [hv] at z
    exact z
  -- if key not in self.costs
  refine ⟨_, rfl, _, rfl, s, CS, dx1, _, _, rfl, g1, T.clS, T.nS_costs, svF_costs _ _ _ _ _, c, _, rfl, DGet.t (k := k3 kk a b) g3 hqa, _, rfl, ?_⟩
  cases hv : valV kc (k3 kk a b) with
  | some v =>
    refine iteF ?_
    have ev := g4.val _ _ _ _ hv
    subst ev
    exact fin H1 (Kp.refl _ _) S1 kc g3 hv none none none
  | none =>
    refine iteT ?_
    obtain ⟨m, em⟩ : ∃ m, m = (b - a + 1).toNat := ⟨_, rfl⟩
    have em' : (b + 1 - a).toNat = m := by omega
    -- some = [self.top_cost(key[0], first, last, top) for top in range(first, last + 1)]
    refine ⟨_, rfl, _, rfl, _, _, rfl, rfl, a, b + 1, rfl, ⟨by omega, by omega, by omega, by omega⟩, fun Dl hD => lc_range (lo := a) (n := (b + 1 - a).toNat)
      (fun i H' => Kp [c, p] H1 H' ∧ SvAt CT CS fm D' H' s c p ∧ H' Dl = some (.lst ((List.range i).map fun j => optV (topv kk D'.w D'.l a m j))))
      ⟨Kp.of (same_new hD), S1.same (same_new hD), upd_same⟩ ?_ ?_⟩
    · rintro i H' hi ⟨k', S', hl⟩
      obtain ⟨⟨dx', ta', nc', e1, e2⟩, _⟩ := id S'
      refine ⟨rfl, _, rfl, s, dx', _, rfl, e1, svF_m4 _ _ _ _ _, _, rfl, qa, _, _, _, rfl, rfl, SqT.of (S1.tk k' _ _ hqa), rfl, _, rfl, _, rfl, _, rfl, s, c, p, D', kk, a, b, a + i, rfl, S', hc1, by omega, ha, by omega, by omega, hbN, hn, fun H3 k3' S3 => ?_⟩
      have hl3 := k3' _ _ hl (S'.out hl fun kc z => by cases z)
      refine ⟨_, hl3, ?_, (k'.trans k3').mut (.inr hD), S3.setL hl3, ?_⟩
      · rw [List.length_map, List.length_range]; exact small1000 (by omega)
      · rw [upd_same, List.range_succ, List.map_append, show (a + (i : Int) - a).toNat = i by omega, ← em]
        rfl
    · rintro H2 ⟨k2, S2, hl2⟩
      rw [em'] at hl2
      -- some = [one for one in some if one is not None]
      refine ⟨_, rfl, Dl, rfl, ⟨_, SqL.of hl2⟩, fun D2 hD2 => lc_list (K := K) (a := Dl) (xs := (List.range m).map fun j => optV (topv kk D'.w D'.l a m j))
        (fun i H' => Same H2 H' ∧ H' D2 = some (.lst ((((List.range m).map fun j => optV (topv kk D'.w D'.l a m j)).take i).filter fun v => !decide (v = .non))))
        ⟨same_new hD2, upd_same⟩ (fun i H' _ ⟨s', _⟩ => SqL.of (s' _ _ hl2)) ?_ ?_⟩
      · rintro i x H' hx ⟨s', hl'⟩
        refine ⟨rfl, _, rfl, rfl, _, rfl, ?_⟩
        have et := take_last hx
        by_cases hn' : x = .non
        · have e0 : (!decide (x = V.non)) = false := by rw [hn']; rfl
          rw [e0]
          refine iteF ⟨s', ?_⟩
          rw [← et, List.filter_append, List.filter_cons_of_neg (by rw [e0]; exact Bool.false_ne_true), List.filter_nil, List.append_nil]
          exact hl'
        · have e0 : (!decide (x = V.non)) = true := by rw [decide_eq_false hn']; rfl
          rw [e0]
          refine iteT ⟨_, rfl, _, hl', ?_, same_mut s' hD2, ?_⟩
          · have h3 := List.length_filter_le (fun v => !decide (v = V.non)) (((List.range m).map fun j => optV (topv kk D'.w D'.l a m j)).take i)
            rw [List.length_take, List.length_map, List.length_range] at h3
            exact small1000 (by omega)
          · rw [upd_same, ← et, List.filter_append, List.filter_cons_of_pos (p := fun v => !decide (v = V.non)) e0, List.filter_nil]
      · rintro H3 ⟨s3, hl3⟩
        rw [List.take_length, ← filter_opt] at hl3
        have S3 := S2.same s3
        have k23 : Kp [c, p] H1 H3 := k2.trans (Kp.of s3)
        obtain ⟨⟨dx3, ta3, nc3, e1, e2⟩, ⟨kc3, e3, e4⟩, _⟩ := id S3
        have hm1 : 1 ≤ m := by omega
        obtain ⟨⟨j0, hj0, ej0, _⟩, _⟩ := own_plan (W := D'.w) (L := D'.l) hc1 (a := a) hm1
        have hmem : own kk D'.w D'.l a m ∈ (List.range m).filterMap fun j => topv kk D'.w D'.l a m j := List.mem_filterMap.mpr ⟨j0, List.mem_range.mpr hj0, ej0⟩
        have hpos : 0 < ((List.range m).filterMap fun j => topv kk D'.w D'.l a m j).length := List.length_pos_of_mem hmem
        refine ⟨_, rfl, D2, _, rfl, .inl (SqL.of hl3), _, _, rfl, rfl, _, rfl, ite2 (fun _ => ?_) (fun g => absurd (decide_eq_true (by rw [List.length_map]; exact Int.ofNat_lt.mpr hpos)) g)⟩
        refine ⟨_, rfl, D2, _, rfl, SqL.of hl3, hpos, fun mm hmm hle => ?_⟩
        have emm : mm = own kk D'.w D'.l a (b - a + 1).toNat := by
          rw [← em]
          obtain ⟨j1, hj1, ej1⟩ := List.mem_filterMap.mp hmm
          have z1 := own_le (W := D'.w) (L := D'.l) hc1 hm1 (List.mem_range.mp hj1) ej1
          have z2 := hle _ hmem
          omega
        subst emm
        have hqa3 := S1.tk k23 _ _ hqa
        refine ⟨_, rfl, s, CS, dx3, _, _, rfl, e1, T.clS, T.nS_costs, svF_costs _ _ _ _ _, _, rfl, c, _, rfl, DPut.t (k := k3 kk a b) e3 hqa3 (Nat.lt_of_le_of_lt e4.keys.len (by decide)), ?_⟩
        exact fin _ (k23.mut (.inl List.mem_cons_self)) (S3.putC e3 ⟨by omega, by omega, by omega, by omega, by omega, by omega⟩) _ upd_same (by rw [valV_put, if_pos rfl]) _ _ _
theorem rd_own0 (D : MethAt K CS "own_cost" "Solver.own_cost" s_Solver_own_cost ["self", "most", "first", "last"]) : MRdy P w K mg base CS "own_cost" ["self", "most", "first", "last"] (4 * 0 + 1) (spOwn CT CS fm 0) := by
  obtain ⟨f, fd, F, M, b⟩ := D.ex
  have no : ∀ vs H Q E, ¬ spOwn CT CS fm 0 vs H Q E := fun vs H Q E h => by
    obtain ⟨s, c, p, D', k, a, b, rfl, S, hk1, hk2, ha, hab, hbN, hn, q⟩ := h
    omega
  exact ⟨f, fd, ⟨fun vs H Q E h => absurd h (no vs H Q E), fun A outer s H args us vs Q E _ _ _ _ h => absurd h (no vs H Q E)⟩, M, b⟩
/-- the Solver's costs, for stretches of any length -/
theorem rd_costs (DA : MethAt K CS "ahead_cost" "Solver.ahead_cost" s_Solver_ahead_cost ["self", "most", "first", "top"]) (DB : MethAt K CS "behind_cost" "Solver.behind_cost" s_Solver_behind_cost ["self", "most", "top", "last"])
    (DT : MethAt K CS "top_cost" "Solver.top_cost" s_Solver_top_cost ["self", "most", "first", "last", "top"]) (DO : MethAt K CS "own_cost" "Solver.own_cost" s_Solver_own_cost ["self", "most", "first", "last"])
    (DS : MethAt K CS "span_cost" "Solver.span_cost" s_Solver_span_cost ["self", "most", "first", "last"]) (T : Txt K mg CT CS CR) (R_capped : MRdy P w K mg base CS "capped" ["self", "most", "first", "last"] 1 spCapped)
    (R_may_all : Rdy P w K mg base "may_all" ["hour", "begin"] 1 spMayAll) (hfm : mg "may_all" = some (.ref fm)) (R_write_of : Rdy P w K mg base "write_of" ["task", "first", "last"] 1 (spWriteOf CT)) (R_look_sum : Rdy P w K mg base "look_sum" ["task", "begin", "first", "last"] 1 (spLookSum CT)) :
    ∀ n, MRdy P w K mg base CS "own_cost" ["self", "most", "first", "last"] (4 * n + 1) (spOwn CT CS fm n)
  | 0 => rd_own0 DO
  | n + 1 => by
    have ih := rd_costs DA DB DT DO DS T R_capped R_may_all hfm R_write_of R_look_sum n
    exact rd_own DO T R_capped (rd_top DT T (rd_ahead DA T R_may_all hfm R_write_of ih) (rd_behind DB T (rd_span DS T R_look_sum ih)))
end
end Js

/-! JsW3: the Solver's plans; least, least_plan, between. -/
namespace Js
open PySem PySem.Spec PyProof.Rows L2
/-- t + u of two tuples of ints -/
theorem catA_of {K : PySem.W.Frag} {H : Hp} {Q : VK} {t1 t2 : Addr} {p q : List Int} (h1 : TupI H t1 p) (h2 : TupI H t2 q) (hl : p.length + q.length ≤ 1000) (k : ∀ t H', Same H H' → TupI H' t (p ++ q) → Q (.ref t) H') : rCatA K (.ref t1) (.ref t2) H Q := by
  refine ⟨t1, t2, _, _, rfl, rfl, SqT.of h1, SqT.of h2, ?_, fun e => ?_, fun e1 e2 => ?_, fun e1 e2 t nt => ?_⟩
  · rw [List.length_map, List.length_map]
    exact Nat.le_of_lt (small1000 hl)
  · have ep : p = [] := List.map_eq_nil_iff.mp e
    subst ep
    exact k t2 H (Same.refl H) h2
  · have eq : q = [] := List.map_eq_nil_iff.mp e2
    subst eq
    exact k t1 H (Same.refl H) (by rw [List.append_nil]; exact h1)
  · refine k t _ (same_new nt) ?_
    show upd H t _ t = _
    rw [upd_same, List.map_append]
/-- the tops that reach the least cost -/
def topsOf (k : Int) (W L : Int → Int → Int) (a : Int) (m : Nat) : List Nat := (List.range m).filter fun j => decide (topv k W L a m j = some (own k W L a m))
theorem mem_topsOf {k : Int} {W L : Int → Int → Int} {a : Int} {m j : Nat} : j ∈ topsOf k W L a m ↔ j < m ∧ topv k W L a m j = some (own k W L a m) := by
  unfold topsOf
  rw [List.mem_filter, List.mem_range, decide_eq_true_iff]
section
variable (CT CS fm : Addr)
def spTops : Sp := fun vs H Q _ => ∃ (s c p : Addr) (D : TkD) (k kk a b : Int), vs = [.ref s, .int k, .int a, .int b] ∧ SvAt CT CS fm D H s c p ∧ 1 ≤ k ∧ k ≤ 30 ∧ 0 ≤ a ∧ a ≤ b ∧ b < D.N ∧ kk = (if b - a + 1 < k then b - a + 1 else k) ∧
  ∀ H' q, Kp [c, p] H H' → SvAt CT CS fm D H' s c p → H q = none → H' q = some (.lst ((topsOf kk D.w D.l a (b - a + 1).toNat).map fun j : Nat => V.int (a + (j : Int)))) → Q (.ref q) H'
def spPlan (n : Nat) : Sp := fun vs H Q _ => ∃ (s c p : Addr) (D : TkD) (k a b : Int), vs = [.ref s, .int k, .int a, .int b] ∧ SvAt CT CS fm D H s c p ∧ 1 ≤ k ∧ k ≤ 30 ∧ 0 ≤ a ∧ a ≤ b ∧ b < D.N ∧ b - a + 1 ≤ n ∧
  ∀ H' t, Kp [c, p] H H' → SvAt CT CS fm D H' s c p → TupI H' t (plan k D.w D.l a (b - a + 1).toNat) → Q (.ref t) H'
end
section
variable {P : Program} {w : World} {K : PySem.W.Frag} {mg : Str → Option Value} {base : Heap} {CT CS CR fm : Addr}
abbrev s_Solver_tops : Stmt := inClass (top 23) 7
abbrev N_Solver_tops : List Str := ["self", "most", "first", "last", "due", "few", "top"]
theorem sc_Solver_tops : FnScope N_Solver_tops ["self", "most", "first", "last"] (defScope s_Solver_tops) := ⟨rfl, rfl, rfl, by decide +kernel, rfl, by decide +kernel, by decide +kernel⟩
theorem rd_tops (D : MethAt K CS "tops" "Solver.tops" s_Solver_tops ["self", "most", "first", "last"]) (T : Txt K mg CT CS CR) (R_own_cost : MRdy P w K mg base CS "own_cost" ["self", "most", "first", "last"] 121 (spOwn CT CS fm 30))
    (R_top_cost : MRdy P w K mg base CS "top_cost" ["self", "most", "first", "last", "top"] 120 (spTop CT CS fm 30)) :
    MRdy P w K mg base CS "tops" ["self", "most", "first", "last"] 122 (spTops CT CS fm) := by
  refine D.rdy (k := 121) sc_Solver_tops (fun vs H Q E h => ?_) (fun f cdv A outer st H vs Q E hr h => ?_)
  · obtain ⟨s, c, p, D', k, kk, a, b, rfl, _⟩ := h; rfl
  obtain ⟨s, c, p, D', k, kk, a, b, rfl, S, hk1, hk2, ha, hab, hbN, ekk, q⟩ := h
  have hN30 : D'.N ≤ 30 := by
    obtain ⟨⟨_, _, _, _, ⟨o, _⟩⟩, _⟩ := S
    exact o.le
  have hcap := capK_le hab hk1
  rw [← ekk] at hcap
  obtain ⟨hc1, hc2, hc3⟩ := hcap
  obtain ⟨m, em⟩ : ∃ m, m = (b - a + 1).toNat := ⟨_, rfl⟩
  rw [← em] at hc3 q
  refine ⟨_, (pss_cons (ps_set (i := 4) sc_Solver_tops.nd rfl (Or.inr rfl) (pe_mrdy (pv 0) T.clS R_own_cost (hr.mono (by omega)) (pa_cons (pv 1) (pa_cons (pv 2) (pa_cons (pv 3) pa_nil)))))
    (pss_cons (ps_if (pt_cmpR op_isN (pv 4) pe_non (nomark _))
    (pss_one (ps_ret (pe_lst pa_nil)))
    pss_nil)
    (pss_cons (ps_set (i := 5) sc_Solver_tops.nd rfl (Or.inr rfl) (pe_callB (call_min2 rfl) rfl T.min (by decide +kernel) (pa_cons (pv 1) (pa_cons (pe_op op_add (pe_op op_sub (pv 3) (pv 2)) pe_int) pa_nil))))
    (pss_one (ps_ret (pe_lc (own := [("top", 6)]) (g := gName 6) rfl sc_Solver_tops.nd (pi_range2 rfl T.range (pa_cons (pv 2) (pa_cons (pe_op op_add (pv 3) pe_int) pa_nil))) (blkOk_by (own := [("top", 6)]) (N := N_Solver_tops) (sc := defScope s_Solver_tops) (by decide +kernel)) (fun _ _ _ _ _ => (pg_name (i := 6) sc_Solver_tops.nd rfl (Or.inl rfl))) (fun _ _ _ _ _ => (pts_one (pt_cmpR op_eq (pe_mrdy (pv 0) T.clS R_top_cost (hr.mono (by omega)) (pa_cons (pv 5) (pa_cons (pv 2) (pa_cons (pv 3) (pa_cons (pv 6) pa_nil))))) (pv 4) (nomark _)))) (fun _ _ _ _ _ => (pv 6)))))))), ?_⟩
  obtain ⟨⟨dx, ta, nc, h1, h2⟩, _⟩ := id S
  refine ⟨_, rfl, s, dx, _, rfl, h1, svF_m5 _ _ _ _ _, _, rfl, _, rfl, _, rfl, s, c, p, D', k, a, b, rfl, S, hk1, hk2, ha, hab, hbN, by omega, fun H1 k1 S1 => ?_⟩
  rw [← em, ← own_cap hk1 a hc1 hc3]
  refine ⟨_, rfl, rfl, _, rfl, iteF ?_⟩
  refine ⟨_, rfl, _, rfl, _, rfl, _, _, rfl, rfl, _, _, rfl, rfl, _, _, rfl, ?_⟩
  rw [← ekk]
  refine ⟨_, rfl, _, rfl, _, _, rfl, rfl, a, b + 1, rfl, ⟨by omega, by omega, by omega, by omega⟩, fun Dl hD => lc_range (lo := a) (n := (b + 1 - a).toNat)
    (fun i H' => Kp [c, p] H1 H' ∧ SvAt CT CS fm D' H' s c p ∧ H' Dl = some (.lst (((List.range i).filter fun j => decide (topv kk D'.w D'.l a m j = some (own kk D'.w D'.l a m))).map fun j : Nat => V.int (a + (j : Int)))))
    ⟨Kp.of (same_new hD), S1.same (same_new hD), upd_same⟩ ?_ ?_⟩
  · rintro i H' hi ⟨k', S', hl⟩
    obtain ⟨⟨dx', ta', nc', e1, e2⟩, _⟩ := id S'
    refine ⟨rfl, _, rfl, s, dx', _, rfl, e1, svF_m4 _ _ _ _ _, _, rfl, _, rfl, _, rfl, _, rfl, s, c, p, D', kk, a, b, a + i, rfl, S', hc1, by omega, ha, by omega, by omega, hbN, by omega, fun H3 k3' S3 => ?_⟩
    have hl3 := k3' _ _ hl (S'.out hl fun kc z => by cases z)
    have ei : (a + (i : Int) - a).toNat = i := by omega
    rw [← em, ei]
    have es : scal (optV (topv kk D'.w D'.l a m i)) (V.int (own kk D'.w D'.l a m)) = true := by
      cases topv kk D'.w D'.l a m i <;> rfl
    have ed : decide (optV (topv kk D'.w D'.l a m i) = V.int (own kk D'.w D'.l a m)) = decide (topv kk D'.w D'.l a m i = some (own kk D'.w D'.l a m)) := by
      cases h : topv kk D'.w D'.l a m i with
      | none => rfl
      | some v => show decide (V.int v = _) = decide (some v = _); simp
    refine ⟨_, rfl, es, _, rfl, ?_⟩
    rw [ed]
    refine ite2 (fun g => ?_) (fun g => ?_)
    · refine ⟨_, rfl, _, hl3, ?_, (k'.trans k3').mut (.inr hD), S3.setL hl3, ?_⟩
      · have h3 := List.length_filter_le (fun j => decide (topv kk D'.w D'.l a m j = some (own kk D'.w D'.l a m))) (List.range i)
        rw [List.length_range] at h3
        rw [List.length_map]
        exact small1000 (by omega)
      · rw [upd_same, List.range_succ, List.filter_append, List.filter_cons_of_pos (p := fun j => decide (topv kk D'.w D'.l a m j = some (own kk D'.w D'.l a m))) g, List.filter_nil, List.map_append]
        rfl
    · refine ⟨k'.trans k3', S3, ?_⟩
      rw [List.range_succ, List.filter_append, List.filter_cons_of_neg (p := fun j => decide (topv kk D'.w D'.l a m j = some (own kk D'.w D'.l a m))) g, List.filter_nil, List.append_nil]
      exact hl3
  · rintro H2 ⟨k2, S2, hl2⟩
    rw [show (b + 1 - a).toNat = m by omega] at hl2
    exact q H2 Dl (k1.trans k2) S2 (k1.free hD (S1.new hD)) hl2
/-- self.span_plan(key[0], first, top - 1) if top > first else () -/
theorem ahead_read {n : Nat} {D : TkD} {H : Hp} {s c p qa : Addr} {a b kk : Int} {j : Nat} {v1 v3 v5 v7 v8 : Option V} {Q : VK} (S : SvAt CT CS fm D H s c p) (hq : H qa = some (.tup ((k3 kk a b).map kV))) (hc1 : 1 ≤ kk) (hc2 : kk ≤ 30) (ha : 0 ≤ a) (hj : a + (j : Int) ≤ D.N) (hn : j ≤ n)
    (h : ∀ H4 t1, Kp [c, p] H H4 → SvAt CT CS fm D H4 s c p → TupI H4 t1 (plan kk D.w D.l a j) → Q (.ref t1) H4) :
    tIf (tTest (tOp (rI0 fun i j => .bl (decide (j < i))) (tVar 6) (tVar 2))) (tMeth CS "span_plan" (spPlan CT CS fm n) [] E0 (tVar 0) (tCons (tOp (rIxT K) (tVar 4) (tC (.int 0))) (tCons (tVar 2) (tCons (tOp (rI0 fun i j => .int (i - j)) (tVar 6) (tC (.int 1))) tNil)))) (tTup tNil)
      [some (.ref s), v1, some (.int a), v3, some (.ref qa), v5, some (.int (a + (j : Int))), v7, v8] H Q := by
  refine ⟨_, rfl, _, rfl, _, _, rfl, rfl, _, rfl, ite2 (fun g => ?_) (fun g => ?_)⟩
  · have g' : a < a + (j : Int) := of_decide_eq_true g
    obtain ⟨⟨dx, ta, nc, h1, h2⟩, _⟩ := id S
    refine ⟨_, rfl, s, dx, _, rfl, h1, svF_m8 _ _ _ _ _, _, rfl, qa, _, _, _, rfl, rfl, SqT.of hq, rfl, _, rfl, _, rfl, _, _, rfl, rfl, s, c, p, D, kk, a, a + (j : Int) - 1, rfl, S, hc1, hc2, ha, by omega, by omega, by omega, fun H1 t k1 S1 ht => h H1 t k1 S1 ?_⟩
    rw [show (a + (j : Int) - 1 - a + 1).toNat = j by omega] at ht
    exact ht
  · have g' : ¬ a < a + (j : Int) := of_decide_eq_false (Bool.eq_false_iff.mpr g)
    have e : j = 0 := by omega
    subst e
    refine ⟨by show 0 ≤ sizeLine; decide, fun t nt => h _ t (Kp.of (same_new nt)) (S.same (same_new nt)) ?_⟩
    exact upd_same
/-- self.span_plan(key[0] - 1, top + 1, last) if top < last else () -/
theorem behind_read {n m : Nat} {D : TkD} {H : Hp} {s c p qa : Addr} {a b kk : Int} {j : Nat} {v1 v2 v5 v7 v8 : Option V} {Q : VK} (S : SvAt CT CS fm D H s c p) (hq : H qa = some (.tup ((k3 kk a b).map kV))) (hc1 : 1 ≤ kk) (hc2 : kk ≤ 30) (ha : 0 ≤ a) (hb : b < D.N) (em : m = (b - a + 1).toNat) (hj : j < m) (hab : a ≤ b) (hcond : j + 1 = m ∨ 1 < kk) (hn : b - a ≤ n)
    (h : ∀ H4 t1, Kp [c, p] H H4 → SvAt CT CS fm D H4 s c p → TupI H4 t1 (plan (kk - 1) D.w D.l (a + j + 1) (m - j - 1)) → Q (.ref t1) H4) :
    tIf (tTest (tOp (rI0 fun i j => .bl (decide (i < j))) (tVar 6) (tVar 3))) (tMeth CS "span_plan" (spPlan CT CS fm n) [] E0 (tVar 0) (tCons (tOp (rI0 fun i j => .int (i - j)) (tOp (rIxT K) (tVar 4) (tC (.int 0))) (tC (.int 1))) (tCons (tOp (rI0 fun i j => .int (i + j)) (tVar 6) (tC (.int 1))) (tCons (tVar 3) tNil)))) (tTup tNil)
      [some (.ref s), v1, v2, some (.int b), some (.ref qa), v5, some (.int (a + (j : Int))), v7, v8] H Q := by
  refine ⟨_, rfl, _, rfl, _, _, rfl, rfl, _, rfl, ite2 (fun g => ?_) (fun g => ?_)⟩
  · have g' : a + (j : Int) < b := of_decide_eq_true g
    obtain ⟨⟨dx, ta, nc, h1, h2⟩, _⟩ := id S
    refine ⟨_, rfl, s, dx, _, rfl, h1, svF_m8 _ _ _ _ _, _, rfl, qa, _, _, _, rfl, rfl, SqT.of hq, rfl, _, _, rfl, rfl, _, rfl, _, _, rfl, rfl, _, rfl, s, c, p, D, kk - 1, a + (j : Int) + 1, b, rfl, S, by omega, by omega, by omega, by omega, by omega, by omega, fun H1 t k1 S1 ht => h H1 t k1 S1 ?_⟩
    rw [show (b - (a + (j : Int) + 1) + 1).toNat = m - j - 1 by omega] at ht
    exact ht
  · have g' : ¬ a + (j : Int) < b := of_decide_eq_false (Bool.eq_false_iff.mpr g)
    refine ⟨by show 0 ≤ sizeLine; decide, fun t nt => h _ t (Kp.of (same_new nt)) (S.same (same_new nt)) ?_⟩
    rw [show m - j - 1 = 0 by omega, plan_zero]
    exact upd_same
abbrev s_Solver_span_plan : Stmt := inClass (top 23) 8
abbrev N_Solver_span_plan : List Str := ["self", "most", "first", "last", "key", "found", "top", "ahead", "behind"]
theorem sc_Solver_span_plan : FnScope N_Solver_span_plan ["self", "most", "first", "last"] (defScope s_Solver_span_plan) := ⟨rfl, rfl, rfl, by decide +kernel, rfl, by decide +kernel, by decide +kernel⟩
theorem rd_plan {n : Nat} (D : MethAt K CS "span_plan" "Solver.span_plan" s_Solver_span_plan ["self", "most", "first", "last"]) (T : Txt K mg CT CS CR) (R_capped : MRdy P w K mg base CS "capped" ["self", "most", "first", "last"] 1 spCapped)
    (R_tops : MRdy P w K mg base CS "tops" ["self", "most", "first", "last"] 122 (spTops CT CS fm)) (R_span_plan : MRdy P w K mg base CS "span_plan" ["self", "most", "first", "last"] (122 + n) (spPlan CT CS fm n)) :
    MRdy P w K mg base CS "span_plan" ["self", "most", "first", "last"] (122 + (n + 1)) (spPlan CT CS fm (n + 1)) := by
  refine D.rdy (k := 122 + n) sc_Solver_span_plan (fun vs H Q E h => ?_) (fun f cdv A outer st H vs Q E hr h => ?_)
  · obtain ⟨s, c, p, D', k, a, b, rfl, _⟩ := h; rfl
  obtain ⟨s, c, p, D', k, a, b, rfl, S, hk1, hk2, ha, hab, hbN, hn, q⟩ := h
  have hN30 : D'.N ≤ 30 := by
    obtain ⟨⟨_, _, _, _, ⟨o, _⟩⟩, _⟩ := S
    exact o.le
  refine ⟨_, (pss_cons (ps_set (i := 4) sc_Solver_span_plan.nd rfl (Or.inl rfl) (pe_mrdy (pv 0) T.clS R_capped (hr.mono (by omega)) (pa_cons (pv 1) (pa_cons (pv 2) (pa_cons (pv 3) pa_nil)))))
    (pss_cons (ps_if (pt_cmp (pc_dnotin (hu_of hr) (pv 4) (pe_fld (pv 0) rfl)))
    (pss_cons (ps_set (i := 5) sc_Solver_span_plan.nd rfl (Or.inl rfl) (pe_lst pa_nil))
    (pss_cons (ps_for PassesOwn.never rfl (pi_list (pe_mrdy (pv 0) T.clS R_tops (hr.mono (by omega)) (pa_cons (pv 1) (pa_cons (pv 2) (pa_cons (pv 3) pa_nil))))) (pg_name (i := 6) sc_Solver_span_plan.nd rfl (Or.inl rfl))
    (pss_cons (ps_set (i := 7) sc_Solver_span_plan.nd rfl (Or.inl rfl) (pe_ifExp (pt_cmpR op_gt (pv 6) (pv 2) (nomark _)) (pe_mrdy (pv 0) T.clS R_span_plan (hr.mono (by omega)) (pa_cons (pe_ix ix_tup (pv 4) pe_int (fun _ _ => rfl)) (pa_cons (pv 2) (pa_cons (pe_op op_sub (pv 6) pe_int) pa_nil)))) (pe_tup pa_nil)))
    (pss_cons (ps_set (i := 8) sc_Solver_span_plan.nd rfl (Or.inl rfl) (pe_ifExp (pt_cmpR op_lt (pv 6) (pv 3) (nomark _)) (pe_mrdy (pv 0) T.clS R_span_plan (hr.mono (by omega)) (pa_cons (pe_op op_sub (pe_ix ix_tup (pv 4) pe_int (fun _ _ => rfl)) pe_int) (pa_cons (pe_op op_add (pv 6) pe_int) (pa_cons (pv 3) pa_nil)))) (pe_tup pa_nil)))
    (pss_one (ps_expr (pe_bm PySem.F.plainAttrs_list PySem.F.slot_list_append PySem.F.type_list_append mt_append (pv 5) (pa_cons (pe_op op_catA (pe_op op_catA (pv 7) (pe_tup (pa_cons (pv 2) pa_nil))) (pv 8)) pa_nil)))))))
    (pss_one (ps_dput (hu_of hr) (pe_fld (pv 0) rfl) (pv 4) (pe_callB (cr_minT rfl hr.units) rfl T.min (by decide +kernel) (pa_cons (pv 5) pa_nil)) rfl))))
    pss_nil)
    (pss_one (ps_ret (pe_dget (hu_of hr) (pe_fld (pv 0) rfl) (pv 4) (fun _ _ => rfl)))))), ?_⟩
  obtain ⟨⟨dx, ta, nc, h1, h2⟩, _⟩ := id S
  obtain ⟨kk, ekk⟩ : ∃ kk, kk = (if b - a + 1 < k then b - a + 1 else k) := ⟨_, rfl⟩
  have hcap := capK_le hab hk1
  rw [← ekk] at hcap
  obtain ⟨hc1, hc2, hc3⟩ := hcap
  refine ⟨_, rfl, s, dx, _, rfl, h1, svF_m1 _ _ _ _ _, _, rfl, _, rfl, _, rfl, s, k, a, b, rfl, fun qa nq => ?_⟩
  rw [← ekk]
  have S1 : SvAt CT CS fm D' (upd H qa (.tup ((k3 kk a b).map kV))) s c p := S.same (same_new nq)
  have ekey : plan k D'.w D'.l a (b - a + 1).toNat = plan kk D'.w D'.l a (b - a + 1).toNat := (plan_cap hk1 a hc1 hc3).symm
  rw [ekey] at q
  generalize hH1 : upd H qa (.tup ((k3 kk a b).map kV)) = H1 at S1 ⊢
  have s01 : Same H H1 := by rw [← hH1]; exact same_new nq
  have hqa : H1 qa = some (.tup ((k3 kk a b).map kV)) := by rw [← hH1]; exact upd_same
  obtain ⟨⟨dx1, ta1, nc1, g1, g2⟩, _, ⟨kp, g3, g4⟩, _⟩ := id S1
  have fin : ∀ H2, Kp [c, p] H1 H2 → SvAt CT CS fm D' H2 s c p → ∀ kp2 t, H2 p = some (.dT kp2) → valV kp2 (k3 kk a b) = some (.ref t) → TupI H2 t (plan kk D'.w D'.l a (b - a + 1).toNat) → ∀ v5 v6 v7 v8,
      tRet (tDGet (tFld K (tVar 0) "plans") (tVar 4)) { nx := fun _ H' => Q .non H', rt := Q } [some (.ref s), some (.int k), some (.int a), some (.int b), some (.ref qa), v5, v6, v7, v8] H2 := fun H2 k2 S2 kp2 t hk2' hv ht v5 v6 v7 v8 => by
    obtain ⟨⟨dx2, ta2, nc2, e1, e2⟩, _⟩ := id S2
    refine ⟨_, rfl, s, CS, dx2, _, _, rfl, e1, T.clS, T.nS_plans, svF_plans _ _ _ _ _, _, rfl, p, _, rfl, ?_, q H2 t ((Kp.of s01).trans k2) S2 ht⟩
    have z := DGet.t (k := k3 kk a b) hk2' (S1.tk k2 _ _ hqa)
    rw [hv] at z
    exact z
  refine ⟨_, rfl, _, rfl, s, CS, dx1, _, _, rfl, g1, T.clS, T.nS_plans, svF_plans _ _ _ _ _, p, _, rfl, DGet.t (k := k3 kk a b) g3 hqa, _, rfl, ?_⟩
  cases hv : valV kp (k3 kk a b) with
  | some v =>
    refine iteF ?_
    obtain ⟨t, ev, ht⟩ := g4.val _ _ _ _ hv
    subst ev
    exact fin H1 (Kp.refl _ _) S1 kp t g3 hv ht none none none none
  | none =>
    refine iteT ?_
    obtain ⟨m, em⟩ : ∃ m, m = (b - a + 1).toNat := ⟨_, rfl⟩
    have hm1 : 1 ≤ m := by omega
    -- found = []
    refine ⟨by show 0 ≤ sizeLine; decide, fun fl nfl => ?_⟩
    have S2 := S1.same (same_new (o := .lst []) nfl)
    have k12 : Kp [c, p] H1 (upd H1 fl (.lst [])) := Kp.of (same_new nfl)
    -- self.tops(most, first, last)
    obtain ⟨⟨dx2, ta2, nc2, e1, e2⟩, _⟩ := id S2
    refine ⟨_, rfl, s, dx2, _, rfl, e1, svF_m7 _ _ _ _ _, _, rfl, _, rfl, _, rfl, s, c, p, D', k, kk, a, b, rfl, S2, hk1, hk2, ha, hab, hbN, ekk, fun H3 ql k3' S3 nql hql => ?_⟩
    rw [← em] at hql
    have hfl3 : H3 fl = some (.lst []) := k3' _ _ upd_same (S2.out upd_same fun kc z => by cases z)
    have nfq : fl ≠ ql := ne_of_none upd_same nql
    refine ⟨ql, rfl, ⟨_, SqL.of hql⟩, for_list (K := K) (a := ql) (xs := (topsOf kk D'.w D'.l a m).map fun j : Nat => V.int (a + (j : Int)))
      (fun i σ H' => ∃ v6 v7 v8 : Option V, σ = [some (.ref s), some (.int k), some (.int a), some (.int b), some (.ref qa), some (.ref fl), v6, v7, v8] ∧ Kp [c, p, fl] H3 H' ∧ SvAt CT CS fm D' H' s c p ∧
        ∃ as : List Addr, H' fl = some (.lst (as.map V.ref)) ∧ Paired (TupI H') as (((topsOf kk D'.w D'.l a m).take i).map (topp kk D'.w D'.l a m)))
      ⟨none, none, none, rfl, Kp.refl _ _, S3, [], hfl3, .nil⟩ ?_ ?_ ?_⟩
    · rintro i σ H' hi ⟨v6, v7, v8, rfl, k', S', _⟩
      refine SqL.of (k' _ _ hql fun hm => ?_)
      rcases List.mem_cons.mp hm with e | hm
      · exact S3.out hql (fun kc z => by cases z) (e ▸ List.mem_cons_self)
      · rcases List.mem_cons.mp hm with e | hm
        · exact S3.out hql (fun kc z => by cases z) (e ▸ List.mem_cons_of_mem _ List.mem_cons_self)
        · exact nfq (List.mem_singleton.mp hm).symm
    · rintro i x σ H' hx ⟨v6, v7, v8, rfl, k', S', as, hfl', hP⟩
      rw [List.getElem?_map] at hx
      cases hj : (topsOf kk D'.w D'.l a m)[i]? with
      | none => rw [hj] at hx; cases hx
      | some j =>
      rw [hj] at hx
      have ex : V.int (a + (j : Int)) = x := Option.some.inj hx
      subst ex
      have hjm := mem_topsOf.mp (List.mem_of_getElem? hj)
      have hcond : j + 1 = m ∨ 1 < kk := by
        have z := hjm.2
        unfold topv at z
        by_cases cc : j + 1 = m ∨ 1 < kk
        · exact cc
        · rw [if_neg cc] at z; cases z
      have hq' : H' qa = some (.tup ((k3 kk a b).map kV)) := by
        refine k' _ _ (S2.tk k3' _ _ ((same_new nfl) _ _ hqa)) fun hm => ?_
        have hq3 := S2.tk k3' _ _ ((same_new (o := .lst []) nfl) _ _ hqa)
        rcases List.mem_cons.mp hm with e | hm
        · exact S3.out hq3 (fun kc z => by cases z) (e ▸ List.mem_cons_self)
        · rcases List.mem_cons.mp hm with e | hm
          · exact S3.out hq3 (fun kc z => by cases z) (e ▸ List.mem_cons_of_mem _ List.mem_cons_self)
          · have e := List.mem_singleton.mp hm
            subst e
            rw [hfl3] at hq3
            cases hq3
      refine ahead_read S' hq' hc1 (by omega) ha (by omega) (by omega) fun H4 t1 k4 S4 ht1 => ?_
      refine behind_read S4 (S'.tk k4 _ _ hq') hc1 (by omega) ha hbN em hjm.1 hab hcond (by omega) fun H5 t2 k5 S5 ht2 => ?_
      have ht1' := ht1.tk (S4.tk k5)
      have l1 : (plan kk D'.w D'.l a j).length = j := plan_len (.inl hc1)
      have l2 : (plan (kk - 1) D'.w D'.l (a + j + 1) (m - j - 1)).length = m - j - 1 := plan_len (by omega)
      have hfl5 : H5 fl = some (.lst (as.map V.ref)) := k5 _ _ (k4 _ _ hfl' (S'.out hfl' fun kc z => by cases z)) (S4.out (k4 _ _ hfl' (S'.out hfl' fun kc z => by cases z)) fun kc z => by cases z)
      have las := Paired.len hP
      refine ⟨_, rfl, .inl ⟨rfl, _, SqL.of hfl5⟩, _, rfl, _, rfl, by show 1 ≤ sizeLine; decide, fun q1 nq1 => catA_of (ht1'.tk (same_tk (same_new nq1))) (p := plan kk D'.w D'.l a j) (q := [a]) upd_same (by rw [l1]; show j + 1 ≤ 1000; omega) fun t3 H6 s6 ht3 => ?_⟩
      refine ⟨_, rfl, catA_of ht3 (ht2.tk (same_tk ((same_new nq1).trans s6))) (by rw [List.length_append, l1, l2]; show j + 1 + (m - j - 1) ≤ 1000; omega) fun t4 H7 s7 ht4 => ?_⟩
      have s57 : Same H5 H7 := ((same_new nq1).trans s6).trans s7
      have hfl7 := s57 _ _ hfl5
      refine ⟨fl, _, _, rfl, rfl, hfl7, ?_, ?_⟩
      · rw [List.length_map, las, List.length_map]
        have := List.length_take_le i (topsOf kk D'.w D'.l a m)
        have h2 : (topsOf kk D'.w D'.l a m).length ≤ m := by
          have h3 := List.length_filter_le (fun j => decide (topv kk D'.w D'.l a m j = some (own kk D'.w D'.l a m))) (List.range m)
          rw [List.length_range] at h3
          exact h3
        exact small1000 (by rw [List.length_take]; omega)
      · refine ⟨_, _, _, rfl, ?_, (S5.same s57).setL hfl7, as ++ [t4], ?_, ?_⟩
        · have m2 : ∀ b ∈ [c, p], b ∈ [c, p, fl] := fun b hb => by
            rcases List.mem_cons.mp hb with e | hb
            · rw [e]; exact List.mem_cons_self
            · rw [List.mem_singleton.mp hb]; exact List.mem_cons_of_mem _ List.mem_cons_self
          exact (((k'.trans (k4.mono m2)).trans (k5.mono m2)).trans (Kp.of s57)).mut (.inl (by simp))
        · rw [upd_same, List.map_append]
          rfl
        · rw [← take_last hj, List.map_append]
          have tk7 : Tk H' H7 := (S'.tk k4).trans ((S4.tk k5).trans (same_tk s57))
          have tkl : Tk H7 (upd H7 fl (.lst (as.map V.ref ++ [V.ref t4]))) := tk_list hfl7 ((Kp.refl _ _).mut (.inl (List.mem_singleton.mpr rfl)))
          refine Paired.snoc ?_ (Paired.imp (fun a b z => (z.tk tk7).tk tkl) hP)
          refine TupI.tk ?_ tkl
          have e : topp kk D'.w D'.l a m j = plan kk D'.w D'.l a j ++ [a] ++ plan (kk - 1) D'.w D'.l (a + j + 1) (m - j - 1) := by
            unfold topp
            rw [List.append_assoc]
            rfl
          rw [e]
          exact ht4
    · rintro σ H6 ⟨v6, v7, v8, rfl, k', S', as, hfl', hP⟩
      rw [List.length_map, List.take_length] at hP
      have k16 : Kp [c, p] H1 H6 := fun b o e hn' => k' b o ((k12.trans k3') b o e hn') fun hm => by
        rcases List.mem_cons.mp hm with z | hm
        · exact hn' (z ▸ List.mem_cons_self)
        · rcases List.mem_cons.mp hm with z | hm
          · exact hn' (z ▸ List.mem_cons_of_mem _ List.mem_cons_self)
          · have z := List.mem_singleton.mp hm
            subst z
            rw [nfl] at e
            cases e
      obtain ⟨⟨j0, hj0, ej0, ep0⟩, _⟩ := own_plan (W := D'.w) (L := D'.l) hc1 (a := a) hm1
      have hmem : plan kk D'.w D'.l a m ∈ (topsOf kk D'.w D'.l a m).map (topp kk D'.w D'.l a m) := List.mem_map.mpr ⟨j0, mem_topsOf.mpr ⟨hj0, ej0⟩, ep0⟩
      refine ⟨_, rfl, fl, as, _, rfl, SqL.of hfl', hP, (fun z => by rw [z] at hmem; cases hmem), fun bb pp _ htb hmp hle => ?_⟩
      have epp : pp = plan kk D'.w D'.l a (b - a + 1).toNat := by
        rw [← em]
        obtain ⟨j1, hj1, ej1⟩ := List.mem_map.mp hmp
        have hj2 := mem_topsOf.mp hj1
        have z1 := plan_le (W := D'.w) (L := D'.l) hc1 hm1 hj2.1 hj2.2
        rw [ej1] at z1
        exact le_antisymm (hle _ hmem) z1
      subst epp
      obtain ⟨⟨dx6, ta6, nc6, e1', e2'⟩, _, ⟨kp6, e3', e4'⟩, _⟩ := id S'
      have hqa6 := S1.tk k16 _ _ hqa
      have S7 := S'.putP e3' (k := kk) (a := a) (b := b) htb ⟨by omega, by omega, by omega, by omega, by omega, by omega⟩
      have tk7 := S'.tk ((Kp.refl [c, p] H6).mut (o := .dT (putK kp6 (k3 kk a b) (.ref bb))) (.inl (List.mem_cons_of_mem _ List.mem_cons_self)))
      refine ⟨_, rfl, s, CS, dx6, _, _, rfl, e1', T.clS, T.nS_plans, svF_plans _ _ _ _ _, _, rfl, p, _, rfl, DPut.t (k := k3 kk a b) e3' hqa6 (Nat.lt_of_le_of_lt e4'.keys.len (by decide)), ?_⟩
      exact fin _ (k16.mut (.inl (List.mem_cons_of_mem _ List.mem_cons_self))) S7 _ bb upd_same (by rw [valV_put, if_pos rfl]) (htb.tk tk7) _ _ _ _
theorem rd_plan0 (D : MethAt K CS "span_plan" "Solver.span_plan" s_Solver_span_plan ["self", "most", "first", "last"]) : MRdy P w K mg base CS "span_plan" ["self", "most", "first", "last"] (122 + 0) (spPlan CT CS fm 0) := by
  obtain ⟨f, fd, F, M, b⟩ := D.ex
  have no : ∀ vs H Q E, ¬ spPlan CT CS fm 0 vs H Q E := fun vs H Q E h => by
    obtain ⟨s, c, p, D', k, a, b, rfl, S, hk1, hk2, ha, hab, hbN, hn, q⟩ := h
    omega
  exact ⟨f, fd, ⟨fun vs H Q E h => absurd h (no vs H Q E), fun A outer s H args us vs Q E _ _ _ _ h => absurd h (no vs H Q E)⟩, M, b⟩
theorem rd_plans (DP : MethAt K CS "span_plan" "Solver.span_plan" s_Solver_span_plan ["self", "most", "first", "last"]) (T : Txt K mg CT CS CR) (R_capped : MRdy P w K mg base CS "capped" ["self", "most", "first", "last"] 1 spCapped)
    (R_tops : MRdy P w K mg base CS "tops" ["self", "most", "first", "last"] 122 (spTops CT CS fm)) : ∀ n, MRdy P w K mg base CS "span_plan" ["self", "most", "first", "last"] (122 + n) (spPlan CT CS fm n)
  | 0 => rd_plan0 DP
  | n + 1 => rd_plan DP T R_capped R_tops (rd_plans DP T R_capped R_tops n)
end
end Js

/-! JsW4: least, least_plan, between; plans. -/
namespace Js
open PySem PySem.Spec PyProof.Rows L2
section
variable (CT CS fm : Addr)
def spLeast : Sp := fun vs H Q _ => ∃ (t : Addr) (D : TkD) (k : Int), vs = [.ref t, .int k] ∧ TkAt CT D H t ∧ 1 ≤ k ∧ k ≤ 30 ∧ ∀ H', Same H H' → Q (.int (span k D.w D.l 0 D.N)) H'
def spBestPair : Sp := fun vs H Q _ => ∃ (t : Addr) (D : TkD) (k : Int), vs = [.ref t, .int k, .ref fm] ∧ TkAt CT D H t ∧ 1 ≤ k ∧ k ≤ 30 ∧ ∀ H' q, Same H H' → PairI H' q (span k D.w D.l 0 D.N, plan k D.w D.l 0 D.N) → Q (.ref q) H'
def spLeastPlan : Sp := fun vs H Q _ => ∃ (t : Addr) (D : TkD) (k : Int), vs = [.ref t, .int k] ∧ TkAt CT D H t ∧ 1 ≤ k ∧ k ≤ 30 ∧ ∀ H' q, Same H H' → TupI H' q (plan k D.w D.l 0 D.N) → Q (.ref q) H'
def spBetween : Sp := fun vs H Q _ => ∃ (s c p : Addr) (D : TkD) (k a b : Int), vs = [.ref s, .int k, .int a, .int b] ∧ SvAt CT CS fm D H s c p ∧ k ≤ 30 ∧ 0 ≤ a ∧ a ≤ b + 1 ∧ b < D.N ∧
  ((b + 1 - a = 0 ∨ 1 ≤ k) → ∀ H' q, Kp [c, p] H H' → SvAt CT CS fm D H' s c p → PairI H' q (span k D.w D.l a (b + 1 - a).toNat, plan k D.w D.l a (b + 1 - a).toNat) → Q (.ref q) H') ∧ (¬ (b + 1 - a = 0 ∨ 1 ≤ k) → Q .non H)
end
def spBeginsNext : Sp := fun vs H Q _ => ∃ (a : Addr) (S : List Int) (x : Int), vs = [.ref a, .int x] ∧ TupI H a S ∧ S.length ≤ 100 ∧ ∀ H' t, Same H H' → TupI H' t (nxt S x) → Q (.ref t) H'
def spIsPlanOf : Sp := fun vs H Q _ => ∃ (a : Addr) (p : List Int) (k : Int), vs = [.int (p.length : Int), .ref a] ∧ TupI H a p ∧ ok k [] 0 p ∧ p.length ≤ 40 ∧ ∀ H', Same H H' → Q (.bl true) H'
def spIsAnyPlan : Sp := fun vs H Q _ => ∃ (a : Addr) (p : List Int) (k : Int), vs = [.ref a] ∧ TupI H a p ∧ ok k [] 0 p ∧ 1 ≤ p.length ∧ p.length ≤ 40 ∧ ∀ H', Same H H' → Q (.bl true) H'
def spBeginsBehind : Sp := fun vs H Q _ => ∃ (a : Addr) (p : List Int), vs = [.ref a] ∧ TupI H a p ∧ p.length ≤ 40 ∧
  ∀ H' q as, Same H H' → H' q = some (.lst (as.map V.ref)) → Paired (TupI H') as ((List.range p.length).map fun i => runs [] (p.take (i + 1))) → Q (.ref q) H'
def spCheckBegun (CT : Addr) : Sp := fun vs H Q _ => ∃ (t a : Addr) (D : TkD) (p : List Int) (k : Int), vs = [.ref t, .ref a] ∧ TkAt CT D H t ∧ TupI H a p ∧ ok k [] 0 p ∧ 1 ≤ p.length ∧ p.length < D.N ∧ ∀ H', Same H H' → Q .non H'
theorem inV_int (x : Int) : ∀ S : List Int, inV (.int x) (S.map V.int) = decide (x ∈ S)
  | [] => rfl
  | y :: S => by
    have ih := inV_int x S
    unfold inV at ih ⊢
    rw [List.map_cons, List.any_cons, ih]
    show ((y == x) || decide (x ∈ S)) = decide (x ∈ y :: S)
    by_cases h : y = x
    · subst h; simp
    · have e : (y == x) = false := beq_eq_false_iff_ne.mpr h
      rw [e, Bool.false_or]
      exact decide_eq_decide.mpr ⟨fun z => List.mem_cons_of_mem _ z, fun z => (List.mem_cons.mp z).elim (fun z => absurd z.symm h) id⟩
theorem flat_ints (S : List Int) : (S.map V.int).all flatV = true := by
  rw [List.all_map]
  exact List.all_eq_true.mpr fun x _ => rfl
section
variable {P : Program} {w : World} {K : PySem.W.Frag} {mg : Str → Option Value} {base : Heap} {CT CS CR fm : Addr}
/-- a new Solver: all that was tracked stands -/
theorem made_same {H H1 : Hp} {x dx C : Addr} (nx : H x = none) (nd : H dx = none) (k : Kp [x] (upd (upd H dx (.own x)) x (.ins C dx [])) H1) : Same H H1 := fun b o e =>
  k b o (by rw [upd_ne (ne_of_none e nx), upd_ne (ne_of_none e nd)]; exact e) fun hm => ne_of_none e nx (List.mem_singleton.mp hm)
theorem kp_same {H H1 H2 : Hp} {c p : Addr} (s : Same H H1) (k : Kp [c, p] H1 H2) (hc : H c = none) (hp : H p = none) : Same H H2 := fun b o e => k b o (s b o e) fun hm => by
  rcases List.mem_cons.mp hm with z | hm
  · exact ne_of_none e hc z
  · exact ne_of_none e hp (List.mem_singleton.mp hm)
theorem same_none {H H1 : Hp} {b : Addr} (s : Same H H1) (h : H1 b = none) : H b = none := s.free h
abbrev s_best_pair : Stmt := top 24
abbrev N_best_pair : List Str := ["task", "most", "may", "solver", "last", "found"]
theorem sc_best_pair : FnScope N_best_pair ["task", "most", "may"] (defScope s_best_pair) := ⟨rfl, rfl, rfl, by decide +kernel, rfl, by decide +kernel, by decide +kernel⟩
theorem rd_best_pair (D : DefAt K mg "best_pair" s_best_pair ["task", "most", "may"]) (T : Txt K mg CT CS CR) (R_Solver : CRdy P w K mg base "Solver" CS ["self", "task", "may"] 1 (spSolverInit CT CS fm)) (R_length_of : Rdy P w K mg base "length_of" ["task"] 1 (spLengthOf CT))
    (R_span_cost : MRdy P w K mg base CS "span_cost" ["self", "most", "first", "last"] 122 (spSpan CT CS fm 30)) (R_span_plan : MRdy P w K mg base CS "span_plan" ["self", "most", "first", "last"] 152 (spPlan CT CS fm 30)) :
    Rdy P w K mg base "best_pair" ["task", "most", "may"] 153 (spBestPair CT fm) := by
  refine D.rdy sc_best_pair (fun vs H Q E h => ?_) (fun f cdv A outer st H vs Q E hr h => ?_)
  · obtain ⟨t, D', k, rfl, _⟩ := h; rfl
  obtain ⟨t, D', k, rfl, ht, hk1, hk2, q⟩ := h
  have hN30 := ht.1.le
  have hN1 := ht.1.pos
  refine ⟨_, (pss_cons (ps_set (i := 3) sc_best_pair.nd rfl (Or.inl rfl) (pe_crdy R_Solver (hr.mono (by omega)) rfl (pa_cons (pv 0) (pa_cons (pv 2) pa_nil))))
    (pss_cons (ps_set (i := 4) sc_best_pair.nd rfl (Or.inl rfl) (pe_op op_sub (pe_rdy R_length_of (hr.mono (by omega)) rfl (pa_cons (pv 0) pa_nil)) pe_int))
    (pss_cons (ps_set (i := 5) sc_best_pair.nd rfl (Or.inl rfl) (pe_mrdy (pv 3) T.clS R_span_cost (hr.mono (by omega)) (pa_cons (pv 1) (pa_cons pe_int (pa_cons (pv 4) pa_nil)))))
    (pss_one (ps_ret (pe_ifExp (pt_cmpR op_isN (pv 5) pe_non (nomark _)) pe_non (pe_tup (pa_cons (pv 5) (pa_cons (pe_mrdy (pv 3) T.clS R_span_plan (hr.mono (by omega)) (pa_cons (pv 1) (pa_cons pe_int (pa_cons (pv 4) pa_nil)))) pa_nil))))))))), ?_⟩
  refine ⟨_, rfl, _, rfl, fun x dx nx ndx nex => ?_⟩
  have s0 : Same H (upd (upd H dx (.own x)) x (.ins CS dx [])) := (same_new ndx).trans (same_new (by rw [upd_ne nex.symm]; exact nx))
  refine ⟨x, dx, t, D', rfl, upd_same, ht.same s0, fun H1 c p k1 c0 p0 S1 => ⟨rfl, ?_⟩⟩
  have s1 : Same H H1 := made_same nx ndx k1
  have hc0 := same_none s0 c0
  have hp0 := same_none s0 p0
  refine ⟨_, rfl, t, D', rfl, ht.same s1, _, _, rfl, rfl, ?_⟩
  obtain ⟨⟨dx1, ta1, nc1, e1, _⟩, _⟩ := id S1
  refine ⟨_, rfl, x, dx1, _, rfl, e1, svF_m6 _ _ _ _ _, _, rfl, _, rfl, x, c, p, D', k, 0, (D'.N : Int) - 1, rfl, S1, hk1, hk2, by omega, by omega, by omega, by omega, fun H2 k2 S2 => ?_⟩
  refine ⟨_, rfl, rfl, _, rfl, iteF ?_⟩
  obtain ⟨⟨dx2, ta2, nc2, e2, _⟩, _⟩ := id S2
  refine ⟨_, rfl, _, rfl, x, dx2, _, rfl, e2, svF_m8 _ _ _ _ _, _, rfl, _, rfl, x, c, p, D', k, 0, (D'.N : Int) - 1, rfl, S2, hk1, hk2, by omega, by omega, by omega, by omega, fun H3 t3 k3' S3 ht3 => ?_⟩
  have en : ((D'.N : Int) - 1 - 0 + 1).toNat = D'.N := by omega
  rw [en] at ht3 ⊢
  refine ⟨by show 2 ≤ sizeLine; decide, fun q' nq' => q _ q' ((kp_same (kp_same s1 k2 hc0 hp0) k3' hc0 hp0).trans (same_new nq')) ⟨t3, upd_same, ht3.tk (same_tk (same_new nq'))⟩⟩
abbrev s_least_cost : Stmt := top 25
abbrev N_least_cost : List Str := ["task", "most"]
theorem sc_least_cost : FnScope N_least_cost ["task", "most"] (defScope s_least_cost) := ⟨rfl, rfl, rfl, by decide +kernel, rfl, by decide +kernel, by decide +kernel⟩
theorem rd_least_cost (D : DefAt K mg "least_cost" s_least_cost ["task", "most"]) (T : Txt K mg CT CS CR) (hfm : mg "may_all" = some (.ref fm)) (R_Solver : CRdy P w K mg base "Solver" CS ["self", "task", "may"] 1 (spSolverInit CT CS fm)) (R_length_of : Rdy P w K mg base "length_of" ["task"] 1 (spLengthOf CT))
    (R_span_cost : MRdy P w K mg base CS "span_cost" ["self", "most", "first", "last"] 122 (spSpan CT CS fm 30)) : Rdy P w K mg base "least_cost" ["task", "most"] 123 (spLeast CT) := by
  refine D.rdy sc_least_cost (fun vs H Q E h => ?_) (fun f cdv A outer st H vs Q E hr h => ?_)
  · obtain ⟨t, D', k, rfl, _⟩ := h; rfl
  obtain ⟨t, D', k, rfl, ht, hk1, hk2, q⟩ := h
  have hN30 := ht.1.le
  have hN1 := ht.1.pos
  refine ⟨_, (pss_one (ps_ret (pe_mrdy (pe_crdy R_Solver (hr.mono (by omega)) rfl (pa_cons (pv 0) (pa_cons (pe_glob (v := .ref fm) rfl hfm rfl) pa_nil))) T.clS R_span_cost (hr.mono (by omega)) (pa_cons (pv 1) (pa_cons pe_int (pa_cons (pe_op op_sub (pe_rdy R_length_of (hr.mono (by omega)) rfl (pa_cons (pv 0) pa_nil)) pe_int) pa_nil)))))), ?_⟩
  refine ⟨_, rfl, fun x dx nx ndx nex => ?_⟩
  have s0 : Same H (upd (upd H dx (.own x)) x (.ins CS dx [])) := (same_new ndx).trans (same_new (by rw [upd_ne nex.symm]; exact nx))
  refine ⟨x, dx, t, D', rfl, upd_same, ht.same s0, fun H1 c p k1 c0 p0 S1 => ⟨rfl, ?_⟩⟩
  have s1 : Same H H1 := made_same nx ndx k1
  have hc0 := same_none s0 c0
  have hp0 := same_none s0 p0
  obtain ⟨⟨dx1, ta1, nc1, e1, _⟩, _⟩ := id S1
  refine ⟨x, dx1, _, rfl, e1, svF_m6 _ _ _ _ _, _, rfl, _, rfl, t, D', rfl, ht.same s1, _, _, rfl, rfl, x, c, p, D', k, 0, (D'.N : Int) - 1, rfl, S1, hk1, hk2, by omega, by omega, by omega, by omega, fun H2 k2 S2 => ?_⟩
  rw [show ((D'.N : Int) - 1 - 0 + 1).toNat = D'.N by omega]
  exact q H2 (kp_same s1 k2 hc0 hp0)
abbrev s_least : Stmt := top 26
abbrev N_least : List Str := ["task", "most"]
theorem sc_least : FnScope N_least ["task", "most"] (defScope s_least) := ⟨rfl, rfl, rfl, by decide +kernel, rfl, by decide +kernel, by decide +kernel⟩
theorem rd_least (D : DefAt K mg "least" s_least ["task", "most"]) (R_check_most : Rdy P w K mg base "check_most" ["most"] 4 spCheckMost) (R_least_cost : Rdy P w K mg base "least_cost" ["task", "most"] 123 (spLeast CT)) : Rdy P w K mg base "least" ["task", "most"] 124 (spLeast CT) := by
  refine D.rdy sc_least (fun vs H Q E h => ?_) (fun f cdv A outer st H vs Q E hr h => ?_)
  · obtain ⟨t, D', k, rfl, _⟩ := h; rfl
  obtain ⟨t, D', k, rfl, ht, hk1, hk2, q⟩ := h
  refine ⟨_, (pss_cons (ps_expr (pe_rdy R_check_most (hr.mono (by omega)) rfl (pa_cons (pv 1) pa_nil)))
    (pss_one (ps_ret (pe_rdy R_least_cost (hr.mono (by omega)) rfl (pa_cons (pv 0) (pa_cons (pv 1) pa_nil)))))), ?_⟩
  exact ⟨_, rfl, k, rfl, hk1, hk2, _, rfl, _, rfl, t, D', k, rfl, ht, hk1, hk2, q⟩
abbrev s_least_plan : Stmt := top 27
abbrev N_least_plan : List Str := ["task", "most"]
theorem sc_least_plan : FnScope N_least_plan ["task", "most"] (defScope s_least_plan) := ⟨rfl, rfl, rfl, by decide +kernel, rfl, by decide +kernel, by decide +kernel⟩
theorem rd_least_plan (D : DefAt K mg "least_plan" s_least_plan ["task", "most"]) (hfm : mg "may_all" = some (.ref fm)) (R_check_most : Rdy P w K mg base "check_most" ["most"] 4 spCheckMost) (R_best_pair : Rdy P w K mg base "best_pair" ["task", "most", "may"] 153 (spBestPair CT fm)) :
    Rdy P w K mg base "least_plan" ["task", "most"] 154 (spLeastPlan CT) := by
  refine D.rdy sc_least_plan (fun vs H Q E h => ?_) (fun f cdv A outer st H vs Q E hr h => ?_)
  · obtain ⟨t, D', k, rfl, _⟩ := h; rfl
  obtain ⟨t, D', k, rfl, ht, hk1, hk2, q⟩ := h
  refine ⟨_, (pss_cons (ps_expr (pe_rdy R_check_most (hr.mono (by omega)) rfl (pa_cons (pv 1) pa_nil)))
    (pss_one (ps_ret (pe_ix ix_tup (pe_rdy R_best_pair (hr.mono (by omega)) rfl (pa_cons (pv 0) (pa_cons (pv 1) (pa_cons (pe_glob (v := .ref fm) rfl hfm rfl) pa_nil)))) pe_int (fun _ _ => rfl))))), ?_⟩
  refine ⟨_, rfl, k, rfl, hk1, hk2, _, rfl, _, rfl, t, D', k, rfl, ht, hk1, hk2, fun H1 qa s1 ⟨t1, h1, h2⟩ => ?_⟩
  exact ⟨qa, _, _, _, rfl, rfl, SqT.of h1, rfl, q H1 t1 s1 h2⟩
abbrev s_between : Stmt := top 35
abbrev N_between : List Str := ["solver", "most", "first", "last", "found"]
theorem sc_between : FnScope N_between ["solver", "most", "first", "last"] (defScope s_between) := ⟨rfl, rfl, rfl, by decide +kernel, rfl, by decide +kernel, by decide +kernel⟩
theorem rd_between (D : DefAt K mg "between" s_between ["solver", "most", "first", "last"]) (T : Txt K mg CT CS CR) (R_span_cost : MRdy P w K mg base CS "span_cost" ["self", "most", "first", "last"] 122 (spSpan CT CS fm 30))
    (R_span_plan : MRdy P w K mg base CS "span_plan" ["self", "most", "first", "last"] 152 (spPlan CT CS fm 30)) : Rdy P w K mg base "between" ["solver", "most", "first", "last"] 153 (spBetween CT CS fm) := by
  refine D.rdy sc_between (fun vs H Q E h => ?_) (fun f cdv A outer st H vs Q E hr h => ?_)
  · obtain ⟨s, c, p, D', k, a, b, rfl, _⟩ := h; rfl
  obtain ⟨s, c, p, D', k, a, b, rfl, S, hk2, ha, hab, hbN, q1, q2⟩ := h
  have hN30 : D'.N ≤ 30 := by
    obtain ⟨⟨_, _, _, _, ⟨o, _⟩⟩, _⟩ := S
    exact o.le
  refine ⟨_, (pss_cons (ps_if (pt_cmpR op_gt (pv 2) (pv 3) (nomark _))
    (pss_one (ps_ret (pe_tup (pa_cons pe_int (pa_cons (pe_tup pa_nil) pa_nil)))))
    pss_nil)
    (pss_cons (ps_if (pt_cmpR op_lt (pv 1) pe_int (nomark _))
    (pss_one (ps_ret pe_non))
    pss_nil)
    (pss_cons (ps_set (i := 4) sc_between.nd rfl (Or.inl rfl) (pe_mrdy (pv 0) T.clS R_span_cost (hr.mono (by omega)) (pa_cons (pv 1) (pa_cons (pv 2) (pa_cons (pv 3) pa_nil)))))
    (pss_one (ps_ret (pe_ifExp (pt_cmpR op_isN (pv 4) pe_non (nomark _)) pe_non (pe_tup (pa_cons (pv 4) (pa_cons (pe_mrdy (pv 0) T.clS R_span_plan (hr.mono (by omega)) (pa_cons (pv 1) (pa_cons (pv 2) (pa_cons (pv 3) pa_nil)))) pa_nil))))))))), ?_⟩
  refine ⟨_, rfl, _, rfl, _, _, rfl, rfl, _, rfl, ite2 (fun g => ?_) (fun g => ?_)⟩
  · have g' : b < a := of_decide_eq_true g
    refine ⟨by show 0 ≤ sizeLine; decide, fun t nt => ?_⟩
    refine ⟨by show 2 ≤ sizeLine; decide, fun t2 nt2 => ?_⟩
    have s12 : Same H (upd (upd H t (.tup [])) t2 (.tup [.int 0, .ref t])) := (same_new nt).trans (same_new nt2)
    refine q1 (.inl (by omega)) _ t2 (Kp.of s12) (S.same s12) ?_
    rw [show (b + 1 - a).toNat = 0 by omega]
    exact ⟨t, upd_same, (same_new (o := .tup [.int 0, .ref t]) nt2) _ _ upd_same⟩
  · have g' : ¬ b < a := of_decide_eq_false (Bool.eq_false_iff.mpr g)
    refine ⟨_, rfl, _, _, rfl, rfl, _, rfl, ite2 (fun g2 => ?_) (fun g2 => ?_)⟩
    · have g2' : k < 1 := of_decide_eq_true g2
      exact q2 (by omega)
    · have g2' : ¬ k < 1 := of_decide_eq_false (Bool.eq_false_iff.mpr g2)
      obtain ⟨⟨dx1, ta1, nc1, e1, _⟩, _⟩ := id S
      refine ⟨_, rfl, s, dx1, _, rfl, e1, svF_m6 _ _ _ _ _, _, rfl, _, rfl, _, rfl, s, c, p, D', k, a, b, rfl, S, by omega, hk2, ha, by omega, hbN, by omega, fun H2 k2 S2 => ?_⟩
      refine ⟨_, rfl, rfl, _, rfl, iteF ?_⟩
      obtain ⟨⟨dx2, ta2, nc2, e2, _⟩, _⟩ := id S2
      refine ⟨_, rfl, _, rfl, s, dx2, _, rfl, e2, svF_m8 _ _ _ _ _, _, rfl, _, rfl, _, rfl, s, c, p, D', k, a, b, rfl, S2, by omega, hk2, ha, by omega, hbN, by omega, fun H3 t3 k3' S3 ht3 => ?_⟩
      have en : (b - a + 1).toNat = (b + 1 - a).toNat := by omega
      rw [en] at ht3 ⊢
      exact ⟨by show 2 ≤ sizeLine; decide, fun q' nq' => q1 (.inr (by omega)) _ q' ((k2.trans k3').trans (Kp.of (same_new nq'))) (S3.same (same_new nq')) ⟨t3, upd_same, ht3.tk (same_tk (same_new nq'))⟩⟩
end
end Js

/-! JsW5: plans walked. -/
namespace Js
open PySem PySem.Spec PyProof.Rows L2
theorem runs_len_le : ∀ (p S : List Int), (runs S p).length ≤ S.length + p.length
  | [], S => Nat.le_refl _
  | x :: p, S => by
    have h1 := runs_len_le p (nxt S x)
    have h2 := nxt_length_le S x
    rw [runs_cons, List.length_cons]
    omega
/-- a plan's step: what its i-th begin is -/
theorem ok_at {k : Int} {S p : List Int} {h : Int} (o : ok k S h p) {i : Nat} {x : Int} (hx : p[i]? = some x) : (x ∈ runs S (p.take i) ∨ x = h + (i : Int)) ∧ ((nxt (runs S (p.take i)) x).length : Int) ≤ k := by
  have e := take_last hx
  have o2 : ok k S h (p.take i ++ [x]) := by
    rw [e]
    have z := o
    rw [← List.take_append_drop (i + 1) p, ok_append] at z
    exact z.1
  have hl : (p.take i).length = i := by
    rw [List.length_take]
    have := (List.getElem?_eq_some_iff.mp hx).1
    omega
  obtain ⟨_, o3, o4⟩ := ok_snoc.mp o2
  rw [hl] at o3
  exact ⟨o3, o4⟩
theorem ok_take {k : Int} {S p : List Int} {h : Int} (o : ok k S h p) (i : Nat) : ok k S h (p.take i) := by
  have z := o
  rw [← List.take_append_drop i p, ok_append] at z
  exact z.1
theorem runs_take {S p : List Int} {i : Nat} {x : Int} (hx : p[i]? = some x) : runs S (p.take (i + 1)) = nxt (runs S (p.take i)) x := by
  rw [← take_last hx, runs_snoc]
section
variable {P : Program} {w : World} {K : PySem.W.Frag} {mg : Str → Option Value} {base : Heap} {CT CS CR fm : Addr}
abbrev s_begins_next : Stmt := top 31
abbrev N_begins_next : List Str := ["begins", "begin", "one"]
theorem sc_begins_next : FnScope N_begins_next ["begins", "begin"] (defScope s_begins_next) := ⟨rfl, rfl, rfl, by decide +kernel, rfl, by decide +kernel, by decide +kernel⟩
theorem rd_begins_next (D : DefAt K mg "begins_next" s_begins_next ["begins", "begin"]) (T : Txt K mg CT CS CR) : Rdy P w K mg base "begins_next" ["begins", "begin"] 1 spBeginsNext := by
  refine D.rdy sc_begins_next (fun vs H Q E h => ?_) (fun f cdv A outer st H vs Q E hr h => ?_)
  · obtain ⟨a, S, x, rfl, _⟩ := h; rfl
  obtain ⟨a, S, x, rfl, ha, hl, q⟩ := h
  refine ⟨_, (pss_one (ps_ret (pe_op op_catA (pe_callTy call_tuple_of rfl T.tuple (by decide +kernel) (pa_cons (pe_lc (own := [("one", 2)]) (g := gName 2) rfl sc_begins_next.nd (pi_tup (pv 0)) (blkOk_by (own := [("one", 2)]) (N := N_begins_next) (sc := defScope s_begins_next) (by decide +kernel)) (fun _ _ _ _ _ => (pg_name (i := 2) sc_begins_next.nd rfl (Or.inl rfl))) (fun _ _ _ _ _ => (pts_one (pt_cmpR op_lt (pv 2) (pv 1) (nomark _)))) (fun _ _ _ _ _ => (pv 2))) pa_nil)) (pe_tup (pa_cons (pv 1) pa_nil))))), ?_⟩
  refine ⟨_, rfl, a, rfl, ⟨_, SqT.of ha⟩, fun Dl hD => lc_tup (K := K) (a := a) (xs := S.map V.int) (fun i H' => Same H H' ∧ H' Dl = some (.lst (((S.take i).filter fun y => decide (y < x)).map V.int)))
    ⟨same_new hD, upd_same⟩ (fun i H' _ ⟨s', _⟩ => SqT.of (s' _ _ ha)) ?_ ?_⟩
  · rintro i y H' hy ⟨s', hl'⟩
    rw [List.getElem?_map] at hy
    cases hz : S[i]? with
    | none => rw [hz] at hy; cases hy
    | some z =>
    rw [hz] at hy
    have ey : V.int z = y := Option.some.inj hy
    subst ey
    have et := take_last hz
    refine ⟨rfl, _, rfl, _, rfl, _, _, rfl, rfl, _, rfl, ite2 (fun g => ?_) (fun g => ?_)⟩
    · refine ⟨_, rfl, _, hl', ?_, same_mut s' hD, ?_⟩
      · have h3 := List.length_filter_le (fun y => decide (y < x)) (S.take i)
        rw [List.length_take] at h3
        rw [List.length_map]
        exact small1000 (by omega)
      · rw [upd_same, ← et, List.filter_append, List.filter_cons_of_pos (p := fun y => decide (y < x)) g, List.filter_nil, List.map_append]
        rfl
    · refine ⟨s', ?_⟩
      rw [← et, List.filter_append, List.filter_cons_of_neg (p := fun y => decide (y < x)) g, List.filter_nil, List.append_nil]
      exact hl'
  · rintro H' ⟨s', hl'⟩
    rw [List.length_map, List.take_length] at hl'
    refine ⟨Dl, _, rfl, .inl ⟨SqL.of hl', fun t nt => ?_⟩⟩
    refine ⟨_, rfl, by show 1 ≤ sizeLine; decide, fun t2 nt2 => ?_⟩
    have h3 := List.length_filter_le (fun y => decide (y < x)) S
    refine catA_of (p := S.filter fun y => decide (y < x)) (q := [x]) ((same_new nt2) _ _ upd_same) upd_same (by show _ + 1 ≤ 1000; omega) fun t3 H3 s3 ht3 => ?_
    exact q H3 t3 (s'.trans ((same_new nt).trans ((same_new nt2).trans s3))) ht3
abbrev s_is_plan_of : Stmt := top 30
abbrev N_is_plan_of : List Str := ["hours", "thing", "begins", "hour", "begin"]
theorem sc_is_plan_of : FnScope N_is_plan_of ["hours", "thing"] (defScope s_is_plan_of) := ⟨rfl, rfl, rfl, by decide +kernel, rfl, by decide +kernel, by decide +kernel⟩
theorem rd_is_plan_of (D : DefAt K mg "is_plan_of" s_is_plan_of ["hours", "thing"]) (T : Txt K mg CT CS CR) (R_is_within : Rdy P w K mg base "is_within" ["thing", "least", "most"] 2 spIsWithin) (R_begins_next : Rdy P w K mg base "begins_next" ["begins", "begin"] 1 spBeginsNext) :
    Rdy P w K mg base "is_plan_of" ["hours", "thing"] 3 spIsPlanOf := by
  refine D.rdy sc_is_plan_of (fun vs H Q E h => ?_) (fun f cdv A outer st H vs Q E hr h => ?_)
  · obtain ⟨a, p, k, rfl, _⟩ := h; rfl
  obtain ⟨a, p, k, rfl, ha, o, hl, q⟩ := h
  refine ⟨_, (pss_cons (ps_if (PW.pt (pw_or (pt_not (pt_val (pe_callB cr_isA rfl T.isinstance (by decide +kernel) (pa_cons (pv 1) (pa_cons (pe_bltn (v := .ty "tuple") rfl T.tuple (by decide +kernel) rfl) pa_nil))))) (pw_or1 (pt_cmpR op_ne (pe_callB call_len_seq rfl T.len PySem.boot_len (pa_cons (pv 1) pa_nil)) (pv 0) (nomark _)))))
    (pss_one (ps_ret pe_bl))
    pss_nil)
    (pss_cons (ps_set (i := 2) sc_is_plan_of.nd rfl (Or.inl rfl) (pe_tup pa_nil))
    (pss_cons (ps_for PassesOwn.never rfl (pi_enumT rfl T.enumerate (pa_cons (pv 1) pa_nil)) (pg_tup rfl (pgs_cons (pg_name (i := 3) sc_is_plan_of.nd rfl (Or.inl rfl)) (pgs_cons (pg_name (i := 4) sc_is_plan_of.nd rfl (Or.inl rfl)) pgs_nil)))
    (pss_cons (ps_if (PW.pt (pw_or (pt_not (pt_val (pe_rdy R_is_within (hr.mono (by omega)) rfl (pa_cons (pv 4) (pa_cons pe_int (pa_cons (pv 3) pa_nil)))))) (pw_or1 (PW.pt (pw_and (pt_cmpR op_ne (pv 4) (pv 3) (nomark _)) (pw_and1 (pt_cmpR op_notIn_seq (pv 4) (pv 2) (by rfl))))))))
    (pss_one (ps_ret pe_bl))
    pss_nil)
    (pss_one (ps_set (i := 2) sc_is_plan_of.nd rfl (Or.inl rfl) (pe_rdy R_begins_next (hr.mono (by omega)) rfl (pa_cons (pv 2) (pa_cons (pv 4) pa_nil)))))))
    (pss_one (ps_ret pe_bl))))), ?_⟩
  have el : (((p.map V.int).length : Nat) : Int) = (p.length : Int) := by rw [List.length_map]
  refine ⟨_, rfl, _, _, _, rfl, .tt ha, true, rfl, iteF ?_⟩
  refine ⟨_, rfl, a, _, rfl, .inr (SqT.of ha), _, rfl, rfl, _, rfl, ?_⟩
  have e0 : (!decide (V.int (((p.map V.int).length : Nat) : Int) = V.int (p.length : Int))) = false := by rw [el]; simp
  rw [e0]
  refine iteF ?_
  refine ⟨by show 0 ≤ sizeLine; decide, fun t nt => ?_⟩
  have s0 := same_new (o := .tup []) nt
  refine ⟨_, rfl, a, _, rfl, SqT.of (s0 _ _ ha), for_enumT (K := K) (a := a) (xs := p.map V.int) (fun i σ H' => ∃ (v3 v4 : Option V) (tb : Addr), σ = [some (.int (p.length : Int)), some (.ref a), some (.ref tb), v3, v4] ∧ Same H H' ∧ TupI H' tb (runs [] (p.take i)))
    ⟨none, none, t, rfl, s0, upd_same⟩ (fun i σ H' _ ⟨_, _, _, _, s1, _⟩ => SqT.of (s1 _ _ ha)) ?_ ?_⟩
  · rintro i x Ta σ H' hx ⟨v3, v4, tb, rfl, s1, htb⟩ hTa
    rw [List.getElem?_map] at hx
    cases hz : p[i]? with
    | none => rw [hz] at hx; cases hx
    | some z =>
    rw [hz] at hx
    have ex : V.int z = x := Option.some.inj hx
    subst ex
    have hip := (List.getElem?_eq_some_iff.mp hz).1
    have s2 : Same H' (upd H' Ta (.tup [.int (i : Nat), .int z])) := same_new hTa
    obtain ⟨o1, o2⟩ := ok_at o hz
    have o0 := ok_take o i
    have gd := ok_good (Good.nil 0) o0
    have hlt : (p.take i).length = i := by rw [List.length_take]; omega
    rw [hlt] at gd
    have hzi : z ≤ (i : Int) := by
      rcases o1 with z1 | z1
      · have := gd.lt _ z1; omega
      · omega
    have hz0 : 0 ≤ z := by
      rcases o1 with z1 | z1
      · exact runs_new o0 _ z1
      · omega
    refine ⟨Ta, _, rfl, SqT.of upd_same, rfl, _, _, rfl, _, _, rfl, rfl, ?_⟩
    refine ⟨_, rfl, _, rfl, z, 0, (i : Int), rfl, ?_⟩
    rw [decide_eq_true hz0, decide_eq_true hzi]
    refine ⟨true, rfl, iteF ?_⟩
    refine ⟨_, rfl, _, rfl, rfl, _, rfl, ?_⟩
    have cont : ∀ H3, Same (upd H' Ta (.tup [.int (i : Nat), .int z])) H3 → tAsg (tCall spBeginsNext [] E0 (tCons (tVar 2) (tCons (tVar 4) tNil))) (gName 2)
        { nx := fun σ H' => ∃ (v3 v4 : Option V) (tb : Addr), σ = [some (.int (p.length : Int)), some (.ref a), some (.ref tb), v3, v4] ∧ Same H H' ∧ TupI H' tb (runs [] (p.take (i + 1))), rt := Q } [some (.int (p.length : Int)), some (.ref a), some (.ref tb), some (.int (i : Int)), some (.int z)] H3 := fun H3 s3 => by
      have hl2 := runs_len_le (p.take i) []
      rw [hlt] at hl2
      refine ⟨_, rfl, _, rfl, tb, _, z, rfl, htb.tk (same_tk (s2.trans s3)), by simp at hl2; omega, fun H4 t4 s4 ht4 => ?_⟩
      refine ⟨_, _, t4, rfl, ((s1.trans s2).trans s3).trans s4, ?_⟩
      rw [runs_take hz]
      exact ht4
    by_cases hzh : z = (i : Int)
    · have e1 : (!decide (V.int z = V.int (i : Int))) = false := by rw [hzh]; simp
      rw [e1]
      refine iteF (iteF ?_)
      exact cont _ (Same.refl _)
    · have e1 : (!decide (V.int z = V.int (i : Int))) = true := by
        rw [decide_eq_false (fun e => hzh (V.int.inj e))]; rfl
      rw [e1]
      refine iteT ?_
      have hm : z ∈ runs [] (p.take i) := o1.elim id fun e => absurd (by omega) hzh
      refine ⟨_, rfl, _, rfl, tb, _, rfl, .inr (SqT.of (htb.tk (same_tk s2))), rfl, flat_ints _, _, rfl, ?_⟩
      rw [inV_int, decide_eq_true hm]
      exact iteF (cont _ (Same.refl _))
  · rintro σ H' ⟨v3, v4, tb, rfl, s1, htb⟩
    exact q H' s1
abbrev s_is_any_plan : Stmt := top 32
abbrev N_is_any_plan : List Str := ["thing"]
theorem sc_is_any_plan : FnScope N_is_any_plan ["thing"] (defScope s_is_any_plan) := ⟨rfl, rfl, rfl, by decide +kernel, rfl, by decide +kernel, by decide +kernel⟩
theorem rd_is_any_plan (D : DefAt K mg "is_any_plan" s_is_any_plan ["thing"]) (T : Txt K mg CT CS CR) (R_is_plan_of : Rdy P w K mg base "is_plan_of" ["hours", "thing"] 3 spIsPlanOf) : Rdy P w K mg base "is_any_plan" ["thing"] 4 spIsAnyPlan := by
  refine D.rdy sc_is_any_plan (fun vs H Q E h => ?_) (fun f cdv A outer st H vs Q E hr h => ?_)
  · obtain ⟨a, p, k, rfl, _⟩ := h; rfl
  obtain ⟨a, p, k, rfl, ha, o, hl1, hl2, q⟩ := h
  obtain ⟨tk1, hm_MOST_HOURS_plans⟩ := T.cHp
  refine ⟨_, (pss_one (ps_ret (pe_and (pe_callB cr_isA rfl T.isinstance (by decide +kernel) (pa_cons (pv 0) (pa_cons (pe_bltn (v := .ty "tuple") rfl T.tuple (by decide +kernel) rfl) pa_nil))) (pe_and (pe_chain op_le op_le pe_int (pe_callB call_len_seq rfl T.len PySem.boot_len (pa_cons (pv 0) pa_nil)) (pe_glob (v := .int 40) rfl hm_MOST_HOURS_plans ⟨_, rfl⟩)) (pe_one (pe_rdy R_is_plan_of (hr.mono (by omega)) rfl (pa_cons (pe_callB call_len_seq rfl T.len PySem.boot_len (pa_cons (pv 0) pa_nil)) (pa_cons (pv 0) pa_nil)))))))), ?_⟩
  have el : (((p.map V.int).length : Nat) : Int) = (p.length : Int) := by rw [List.length_map]
  refine ⟨_, rfl, _, _, _, rfl, .tt ha, true, rfl, iteT ?_⟩
  refine ⟨_, rfl, a, _, rfl, .inr (SqT.of ha), _, _, rfl, rfl, _, rfl, ite2 (fun _ => ?_) (fun g => absurd (decide_eq_true (by omega)) g)⟩
  refine ⟨_, _, rfl, rfl, _, rfl, ite2 (fun _ => ?_) (fun g => absurd (decide_eq_true (by omega)) g)⟩
  refine ⟨_, rfl, a, _, rfl, .inr (SqT.of ha), _, rfl, a, p, k, ?_, ha, o, hl2, q⟩
  exact congrArg (fun z : Int => [V.int z, V.ref a]) el
abbrev s_begins_behind : Stmt := top 33
abbrev N_begins_behind : List Str := ["plan", "found", "begins", "begin"]
theorem sc_begins_behind : FnScope N_begins_behind ["plan"] (defScope s_begins_behind) := ⟨rfl, rfl, rfl, by decide +kernel, rfl, by decide +kernel, by decide +kernel⟩
theorem rd_begins_behind (D : DefAt K mg "begins_behind" s_begins_behind ["plan"]) (T : Txt K mg CT CS CR) (R_begins_next : Rdy P w K mg base "begins_next" ["begins", "begin"] 1 spBeginsNext) : Rdy P w K mg base "begins_behind" ["plan"] 2 spBeginsBehind := by
  refine D.rdy sc_begins_behind (fun vs H Q E h => ?_) (fun f cdv A outer st H vs Q E hr h => ?_)
  · obtain ⟨a, p, rfl, _⟩ := h; rfl
  obtain ⟨a, p, rfl, ha, hl, q⟩ := h
  refine ⟨_, (pss_cons (ps_set (i := 1) sc_begins_behind.nd rfl (Or.inl rfl) (pe_lst pa_nil))
    (pss_cons (ps_set (i := 2) sc_begins_behind.nd rfl (Or.inl rfl) (pe_tup pa_nil))
    (pss_cons (ps_for PassesOwn.never rfl (pi_tup (pv 0)) (pg_name (i := 3) sc_begins_behind.nd rfl (Or.inl rfl))
    (pss_cons (ps_set (i := 2) sc_begins_behind.nd rfl (Or.inl rfl) (pe_rdy R_begins_next (hr.mono (by omega)) rfl (pa_cons (pv 2) (pa_cons (pv 3) pa_nil))))
    (pss_one (ps_expr (pe_bm PySem.F.plainAttrs_list PySem.F.slot_list_append PySem.F.type_list_append mt_append (pv 1) (pa_cons (pv 2) pa_nil))))))
    (pss_one (ps_ret (pv 1)))))), ?_⟩
  refine ⟨by show 0 ≤ sizeLine; decide, fun fl nfl => ?_⟩
  refine ⟨by show 0 ≤ sizeLine; decide, fun t nt => ?_⟩
  have nft : fl ≠ t := ne_of_none upd_same nt
  refine ⟨_, rfl, a, rfl, ⟨_, SqT.of ((same_new nt) _ _ ((same_new nfl) _ _ ha))⟩, for_tup (K := K) (a := a) (xs := p.map V.int) (fun i σ H' => ∃ (v3 : Option V) (tb : Addr) (as : List Addr), σ = [some (.ref a), some (.ref fl), some (.ref tb), v3] ∧ Same H H' ∧ TupI H' tb (runs [] (p.take i)) ∧
      H' fl = some (.lst (as.map V.ref)) ∧ Paired (TupI H') as ((List.range i).map fun i => runs [] (p.take (i + 1))))
    ⟨none, t, [], rfl, (same_new nfl).trans (same_new nt), upd_same, (same_new nt) _ _ upd_same, .nil⟩ (fun i σ H' _ ⟨_, _, _, _, s1, _⟩ => SqT.of (s1 _ _ ha)) ?_ ?_⟩
  · rintro i x σ H' hx ⟨v3, tb, as, rfl, s1, htb, hfl, hP⟩
    rw [List.getElem?_map] at hx
    cases hz : p[i]? with
    | none => rw [hz] at hx; cases hx
    | some z =>
    rw [hz] at hx
    have ex : V.int z = x := Option.some.inj hx
    subst ex
    have hip := (List.getElem?_eq_some_iff.mp hz).1
    have hl2 := runs_len_le (p.take i) []
    rw [List.length_take] at hl2
    have las := Paired.len hP
    rw [List.length_map, List.length_range] at las
    refine ⟨_, rfl, _, rfl, tb, _, z, rfl, htb, by simp at hl2; omega, fun H4 t4 s4 ht4 => ?_⟩
    have hfl4 := s4 _ _ hfl
    have tkl : Tk H4 (upd H4 fl (.lst (as.map V.ref ++ [V.ref t4]))) := tk_list hfl4 ((Kp.refl _ _).mut (.inl (List.mem_singleton.mpr rfl)))
    refine ⟨_, rfl, .inl ⟨rfl, _, SqL.of hfl4⟩, _, rfl, fl, _, _, rfl, rfl, hfl4, by rw [List.length_map]; exact small1000 (by omega), ?_⟩
    refine ⟨_, t4, as ++ [t4], rfl, same_mut (s1.trans s4) nfl, ?_, ?_, ?_⟩
    · rw [runs_take hz]
      exact ht4.tk tkl
    · rw [upd_same, List.map_append]
      rfl
    · rw [List.range_succ, List.map_append]
      refine Paired.snoc ?_ (Paired.imp (fun a b z => (z.tk (same_tk s4)).tk tkl) hP)
      show TupI _ t4 (runs [] (p.take (i + 1)))
      rw [runs_take hz]
      exact ht4.tk tkl
  · rintro σ H' ⟨v3, tb, as, rfl, s1, htb, hfl, hP⟩
    rw [List.length_map] at hP
    exact ⟨_, rfl, q H' fl as s1 hfl hP⟩
abbrev s_check_begun : Stmt := top 37
abbrev N_check_begun : List Str := ["task", "thing"]
theorem sc_check_begun : FnScope N_check_begun ["task", "thing"] (defScope s_check_begun) := ⟨rfl, rfl, rfl, by decide +kernel, rfl, by decide +kernel, by decide +kernel⟩
theorem rd_check_begun (D : DefAt K mg "check_begun" s_check_begun ["task", "thing"]) (T : Txt K mg CT CS CR) (R_is_any_plan : Rdy P w K mg base "is_any_plan" ["thing"] 4 spIsAnyPlan) (R_length_of : Rdy P w K mg base "length_of" ["task"] 1 (spLengthOf CT)) :
    Rdy P w K mg base "check_begun" ["task", "thing"] 5 (spCheckBegun CT) := by
  refine D.rdy sc_check_begun (fun vs H Q E h => ?_) (fun f cdv A outer st H vs Q E hr h => ?_)
  · obtain ⟨t, a, D', p, k, rfl, _⟩ := h; rfl
  obtain ⟨t, a, D', p, k, rfl, ht, ha, o, hl1, hl2, q⟩ := h
  have hN30 := ht.1.le
  refine ⟨_, (pss_one (ps_if (PW.pt (pw_or (pt_not (pt_val (pe_rdy R_is_any_plan (hr.mono (by omega)) rfl (pa_cons (pv 1) pa_nil)))) (pw_or1 (pt_cmpR op_ge (pe_callB call_len_seq rfl T.len PySem.boot_len (pa_cons (pv 1) pa_nil)) (pe_rdy R_length_of (hr.mono (by omega)) rfl (pa_cons (pv 0) pa_nil)) (nomark _)))))
    pss_never
    pss_nil)), ?_⟩
  refine ⟨_, rfl, a, p, k, rfl, ha, o, hl1, by omega, fun H1 s1 => ?_⟩
  refine ⟨true, rfl, iteF ?_⟩
  have ha1 := ha.tk (same_tk s1)
  refine ⟨_, rfl, a, _, rfl, .inr (SqT.of ha1), _, rfl, t, D', rfl, ht.same s1, _, _, rfl, rfl, _, rfl, ?_⟩
  have e0 : decide ((D'.N : Int) ≤ (((p.map V.int).length : Nat) : Int)) = false := decide_eq_false (by rw [List.length_map]; omega)
  rw [e0]
  exact iteF (q H1 s1)
end
end Js

/-! JsW6: the class Rest: its making, elder_looks, ways_to. -/
namespace Js
open PySem PySem.Spec PyProof.Rows L2
def rsF (t : Addr) (k h0 : Int) (b s kn : Addr) : List (Str × V) := putF "known" (.ref kn) (putF "solver" (.ref s) (putF "begins" (.ref b) (putF "first" (.int h0) (putF "most" (.int k) (putF "task" (.ref t) [])))))
section
variable (t : Addr) (k h0 : Int) (b s kn : Addr)
theorem rsF_get (m : Str) : (rsF t k h0 b s kn).lookup m = if m = "known" then some (.ref kn) else if m = "solver" then some (.ref s) else if m = "begins" then some (.ref b) else if m = "first" then some (.int h0) else if m = "most" then some (.int k) else if m = "task" then some (.ref t) else none := by
  unfold rsF
  rw [lookup_putF, lookup_putF, lookup_putF, lookup_putF, lookup_putF, lookup_putF]
  rfl
theorem rsF_known : (rsF t k h0 b s kn).lookup ("known" : Str) = some (.ref kn) := by rw [rsF_get, if_pos rfl]
theorem rsF_solver : (rsF t k h0 b s kn).lookup ("solver" : Str) = some (.ref s) := by rw [rsF_get, if_neg (by decide +kernel), if_pos rfl]
theorem rsF_begins : (rsF t k h0 b s kn).lookup ("begins" : Str) = some (.ref b) := by rw [rsF_get, if_neg (by decide +kernel), if_neg (by decide +kernel), if_pos rfl]
theorem rsF_first : (rsF t k h0 b s kn).lookup ("first" : Str) = some (.int h0) := by rw [rsF_get, if_neg (by decide +kernel), if_neg (by decide +kernel), if_neg (by decide +kernel), if_pos rfl]
theorem rsF_most : (rsF t k h0 b s kn).lookup ("most" : Str) = some (.int k) := by rw [rsF_get, if_neg (by decide +kernel), if_neg (by decide +kernel), if_neg (by decide +kernel), if_neg (by decide +kernel), if_pos rfl]
theorem rsF_task : (rsF t k h0 b s kn).lookup ("task" : Str) = some (.ref t) := by rw [rsF_get, if_neg (by decide +kernel), if_neg (by decide +kernel), if_neg (by decide +kernel), if_neg (by decide +kernel), if_neg (by decide +kernel), if_pos rfl]
theorem rsF_m1 : (rsF t k h0 b s kn).lookup ("elder_looks" : Str) = none := by rw [rsF_get, if_neg (by decide +kernel), if_neg (by decide +kernel), if_neg (by decide +kernel), if_neg (by decide +kernel), if_neg (by decide +kernel), if_neg (by decide +kernel)]
theorem rsF_m2 : (rsF t k h0 b s kn).lookup ("ways_to" : Str) = none := by rw [rsF_get, if_neg (by decide +kernel), if_neg (by decide +kernel), if_neg (by decide +kernel), if_neg (by decide +kernel), if_neg (by decide +kernel), if_neg (by decide +kernel)]
theorem rsF_m3 : (rsF t k h0 b s kn).lookup ("written_at" : Str) = none := by rw [rsF_get, if_neg (by decide +kernel), if_neg (by decide +kernel), if_neg (by decide +kernel), if_neg (by decide +kernel), if_neg (by decide +kernel), if_neg (by decide +kernel)]
theorem rsF_m4 : (rsF t k h0 b s kn).lookup ("best" : Str) = none := by rw [rsF_get, if_neg (by decide +kernel), if_neg (by decide +kernel), if_neg (by decide +kernel), if_neg (by decide +kernel), if_neg (by decide +kernel), if_neg (by decide +kernel)]
end
/-- what the numbers of a Rest keep -/
structure RsP (D : TkD) (k h0 : Int) (E begun : List Int) : Prop where
  k1 : 1 ≤ k
  k30 : k ≤ 30
  gd : Good E h0
  nn : ∀ y ∈ E, 0 ≤ y
  bl : (begun.length : Int) = h0
  lt : h0 < D.N
  el : E.length ≤ begun.length
structure RsAt (CT CS CR fm : Addr) (D : TkD) (k h0 : Int) (E : List Int) (H : Hp) (r kn s c p : Addr) : Prop where
  ob : ∃ dx t b, H r = some (.ins CR dx (rsF t k h0 b s kn)) ∧ TkAt CT D H t ∧ TupI H b E
  sv : SvAt CT CS fm D H s c p
def KnI (H : Hp) (b : Addr) (e : Kn) : Prop := ∃ t, H b = some (.tup [.int e.ah, .int (e.i : Int), .int e.c, .ref t]) ∧ TupI H t e.pl
def WyI (H : Hp) (b : Addr) (e : Wy) : Prop := ∃ t, H b = some (.tup [.int (e.i : Int), .int e.c, .ref t]) ∧ TupI H t e.pl
theorem KnI.tk {H H' : Hp} {b : Addr} {e : Kn} (h : KnI H b e) (k : Tk H H') : KnI H' b e := by
  obtain ⟨t, h1, h2⟩ := h
  exact ⟨t, k _ _ h1, h2.tk k⟩
theorem WyI.tk {H H' : Hp} {b : Addr} {e : Wy} (h : WyI H b e) (k : Tk H H') : WyI H' b e := by
  obtain ⟨t, h1, h2⟩ := h
  exact ⟨t, k _ _ h1, h2.tk k⟩
def KnAt (H : Hp) (kn : Addr) (l : List Kn) : Prop := ∃ as : List Addr, H kn = some (.lst (as.map V.ref)) ∧ Paired (KnI H) as l
section
variable {CT CS CR fm : Addr} {D : TkD} {k h0 : Int} {E : List Int} {H H' : Hp} {r kn s c p : Addr}
theorem RsAt.same (R : RsAt CT CS CR fm D k h0 E H r kn s c p) (q : Same H H') : RsAt CT CS CR fm D k h0 E H' r kn s c p := by
  obtain ⟨⟨dx, t, b, h1, h2, h3⟩, h4⟩ := R
  exact ⟨⟨dx, t, b, q _ _ h1, h2.same q, h3.tk (same_tk q)⟩, h4.same q⟩
/-- the solver's dicts have changed -/
theorem RsAt.kp (R : RsAt CT CS CR fm D k h0 E H r kn s c p) (q : Kp [c, p] H H') (S : SvAt CT CS fm D H' s c p) : RsAt CT CS CR fm D k h0 E H' r kn s c p := by
  obtain ⟨⟨dx, t, b, h1, h2, h3⟩, h4⟩ := R
  obtain ⟨_, dx', w, l, q1, _⟩ := id h2
  exact ⟨⟨dx, t, b, q _ _ h1 (h4.out h1 fun kc z => by cases z), h2.kp q (h4.out q1 fun kc z => by cases z) (h4.tk q), h3.tk (h4.tk q)⟩, S⟩
/-- a list has changed -/
theorem RsAt.kpl {d : Addr} {xs : List V} (R : RsAt CT CS CR fm D k h0 E H r kn s c p) (hd : H d = some (.lst xs)) (q : Kp [d] H H') : RsAt CT CS CR fm D k h0 E H' r kn s c p := by
  obtain ⟨⟨dx, t, b, h1, h2, h3⟩, h4⟩ := R
  refine ⟨⟨dx, t, b, q _ _ h1 (fun hm => ?_), h2.kpl hd q, h3.tk (tk_list hd q)⟩, h4.kpl hd q⟩
  have e := List.mem_singleton.mp hm
  subst e
  rw [hd] at h1
  cases h1
end
/-- another instance has changed -/
theorem SvAt.kpx {CT CS fm : Addr} {D : TkD} {H H' : Hp} {s c p x : Addr} (S : SvAt CT CS fm D H s c p) (hs : x ≠ s) (ht : ∀ dx w l, H x ≠ some (.ins CT dx (tkF w l))) (hd : ∀ kc, H x ≠ some (.dT kc)) (hu : ∀ xs, H x ≠ some (.tup xs)) (k : Kp [x] H H') : SvAt CT CS fm D H' s c p := by
  have tk : Tk H H' := fun b xs e => k _ _ e fun hm => by
    have e2 := List.mem_singleton.mp hm
    subst e2
    exact hu _ e
  obtain ⟨⟨dx, t, n, h1, h2⟩, ⟨kc, h3, h4⟩, ⟨kp, h5, h6⟩, h7⟩ := S
  obtain ⟨_, dx', w, l, q1, _⟩ := id h2
  refine ⟨⟨dx, t, n, k _ _ h1 fun hm => hs (List.mem_singleton.mp hm).symm, h2.kp k (fun hm => ?_) tk⟩, ⟨kc, k _ _ h3 fun hm => ?_, h4⟩, ⟨kp, k _ _ h5 fun hm => ?_, h6.tk tk⟩, h7⟩
  · have e2 := List.mem_singleton.mp hm
    subst e2
    exact ht _ _ _ q1
  · have e2 := List.mem_singleton.mp hm
    subst e2
    exact hd _ h3
  · have e2 := List.mem_singleton.mp hm
    subst e2
    exact hd _ h5
theorem atI_neg1 {α : Type} {xs : List α} {v : α} (h : xs[xs.length - 1]? = some v) : atI xs (-1) = some v := by
  have hl : 0 < xs.length := by
    have := (List.getElem?_eq_some_iff.mp h).1
    omega
  have e : ixN xs.length (-1) = some (xs.length - 1) := by
    unfold ixN
    rw [if_neg (by decide), if_pos (by omega)]
    congr 1
    omega
  unfold atI
  rw [e]
  exact h
section
variable (CT CS CR fm : Addr)
def spRestInit : Sp := fun vs H Q _ => ∃ (x dx t b : Addr) (D : TkD) (k kk : Int) (begun : List Int), vs = [.ref x, .ref t, .int k, .ref b] ∧ H x = some (.ins CR dx []) ∧ TkAt CT D H t ∧ TupI H b begun ∧ ok kk [] 0 begun ∧ 1 ≤ begun.length ∧ begun.length < D.N ∧ 1 ≤ k ∧ k ≤ 30 ∧
  ∀ H' kn s c p, Kp [x] H H' → H kn = none → H c = none → H p = none → RsAt CT CS CR fm D k begun.length (runs [] begun) H' x kn s c p → KnAt H' kn [⟨(begun.length : Int) - 1, (runs [] begun).length, 0, begun⟩] → Q .non H'
def spElder : Sp := fun vs H Q _ => ∃ (r kn s c p : Addr) (D : TkD) (k h0 : Int) (E begun : List Int) (i : Nat) (f l : Int), vs = [.ref r, .int (i : Int), .int f, .int l] ∧ RsAt CT CS CR fm D k h0 E H r kn s c p ∧ RsP D k h0 E begun ∧ i ≤ E.length ∧ h0 ≤ f ∧ f ≤ l + 1 ∧ l < D.N ∧
  ∀ H', Same H H' → Q (.int (eld D.l (E.take i) f (l + 1 - f).toNat)) H'
def spWays : Sp := fun vs H Q _ => ∃ (r kn s c p : Addr) (D : TkD) (k h0 : Int) (E begun : List Int) (n : Nat) (l : List Kn), vs = [.ref r, .int (h0 + n)] ∧ RsAt CT CS CR fm D k h0 E H r kn s c p ∧ RsP D k h0 E begun ∧ KnAt H kn l ∧ KnOk k D.w D.l E h0 begun n l ∧ l.length ≤ 999 ∧ h0 + n ≤ D.N ∧
  ∀ H' q as, Kp [c, p] H H' → SvAt CT CS fm D H' s c p → H q = none → H' q = some (.lst (as.map V.ref)) → Paired (WyI H') as (ways k D.w D.l E (h0 + n) l) → Q (.ref q) H'
end
section
variable {P : Program} {w : World} {K : PySem.W.Frag} {mg : Str → Option Value} {base : Heap} {CT CS CR fm : Addr}
abbrev s_Rest___init__ : Stmt := inClass (top 38) 0
abbrev N_Rest___init__ : List Str := ["self", "task", "most", "begun"]
theorem sc_Rest___init__ : FnScope N_Rest___init__ ["self", "task", "most", "begun"] (defScope s_Rest___init__) := ⟨rfl, rfl, rfl, by decide +kernel, rfl, by decide +kernel, by decide +kernel⟩
theorem rd_Rest (D : InitAt K mg "Rest" CR "Rest.__init__" s_Rest___init__ ["self", "task", "most", "begun"]) (T : Txt K mg CT CS CR) (hfm : mg "may_all" = some (.ref fm)) (R_begins_behind : Rdy P w K mg base "begins_behind" ["plan"] 2 spBeginsBehind)
    (R_Solver : CRdy P w K mg base "Solver" CS ["self", "task", "may"] 1 (spSolverInit CT CS fm)) : CRdy P w K mg base "Rest" CR ["self", "task", "most", "begun"] 3 (spRestInit CT CS CR fm) := by
  refine D.rdy sc_Rest___init__ (fun vs H Q E h => ?_) (fun f cdv A outer st H vs Q E hr h => ?_)
  · obtain ⟨x, dx, t, b, D', k, kk, begun, rfl, _⟩ := h; rfl
  obtain ⟨x, dx, t, b, D', k, kk, begun, rfl, hx, ht, hb, o, hl1, hl2, hk1, hk2, q⟩ := h
  have hN30 := ht.1.le
  refine ⟨_, (pss_cons (ps_fld (pv 0) (pv 1) rfl)
    (pss_cons (ps_fld (pv 0) (pv 2) rfl)
    (pss_cons (ps_fld (pv 0) (pe_callB call_len_seq rfl T.len PySem.boot_len (pa_cons (pv 3) pa_nil)) rfl)
    (pss_cons (ps_fld (pv 0) (pe_ix ix_list (pe_rdy R_begins_behind (hr.mono (by omega)) rfl (pa_cons (pv 3) pa_nil)) (pe_un un_neg pe_int) (fun _ _ => rfl)) rfl)
    (pss_cons (ps_fld (pv 0) (pe_crdy R_Solver (hr.mono (by omega)) rfl (pa_cons (pv 1) (pa_cons (pe_glob (v := .ref fm) rfl hfm rfl) pa_nil))) rfl)
    (pss_one (ps_fld (pv 0) (pe_lst (pa_cons (pe_tup (pa_cons (pe_op op_sub (pe_fld (pv 0) rfl) pe_int) (pa_cons (pe_callB call_len_seq rfl T.len PySem.boot_len (pa_cons (pe_fld (pv 0) rfl) pa_nil)) (pa_cons pe_int (pa_cons (pv 3) pa_nil))))) pa_nil)) rfl))))))), ?_⟩
  -- self.task = task; self.most = most; self.first = len(begun)
  refine ⟨_, rfl, _, rfl, x, CR, dx, _, rfl, hx, T.clR, T.nR_task, by show 0 < 1000; decide, ?_⟩
  refine ⟨_, rfl, _, rfl, x, CR, dx, _, rfl, upd_same, T.clR, T.nR_most, by show 1 < 1000; decide, ?_⟩
  have out : ∀ (b : Addr) (xs : List V), H b = some (.tup xs) → b ∉ [x] := fun b xs e hm => by
    have e2 := List.mem_singleton.mp hm
    subst e2
    rw [hx] at e
    cases e
  have k1 : Kp [x] H (upd (upd H x (.ins CR dx (putF "task" (.ref t) []))) x (.ins CR dx (putF "most" (.int k) (putF "task" (.ref t) [])))) := ((Kp.refl _ H).mut (.inl List.mem_cons_self)).mut (.inl List.mem_cons_self)
  have el : (((begun.map V.int).length : Nat) : Int) = (begun.length : Int) := by rw [List.length_map]
  refine ⟨_, rfl, b, _, rfl, .inr (SqT.of (k1 _ _ hb (out _ _ hb))), _, rfl, x, CR, dx, _, rfl, upd_same, T.clR, T.nR_first, by show 2 < 1000; decide, ?_⟩
  rw [el]
  -- self.begins = begins_behind(begun)[-1]
  generalize hH3 : upd (upd (upd H x (.ins CR dx (putF "task" (.ref t) []))) x (.ins CR dx (putF "most" (.int k) (putF "task" (.ref t) [])))) x (.ins CR dx (putF "first" (.int (begun.length : Int)) (putF "most" (.int k) (putF "task" (.ref t) [])))) = H3
  have k3' : Kp [x] H H3 := by rw [← hH3]; exact k1.mut (.inl List.mem_cons_self)
  have hx3 : H3 x = some (.ins CR dx (putF "first" (.int (begun.length : Int)) (putF "most" (.int k) (putF "task" (.ref t) [])))) := by rw [← hH3]; exact upd_same
  refine ⟨_, rfl, b, begun, rfl, k3' _ _ hb (out _ _ hb), by omega, fun H4 ql as s4 hql hP => ?_⟩
  have las := Paired.len hP
  rw [List.length_map, List.length_range] at las
  have hlast : as.length - 1 < as.length := by omega
  have hE : TupI H4 as[as.length - 1] (runs [] begun) := by
    have z := Paired.at_ hP (List.getElem?_eq_getElem hlast) (b := runs [] begun) (by
      rw [List.getElem?_map, List.getElem?_range (by omega), las]
      show some (runs [] (begun.take (begun.length - 1 + 1))) = _
      rw [show begun.length - 1 + 1 = begun.length by omega, List.take_length])
    exact z
  refine ⟨_, rfl, ql, _, _, _, rfl, rfl, SqL.of hql, atI_neg1 (v := V.ref as[as.length - 1]) (by rw [List.length_map, List.getElem?_map, List.getElem?_eq_getElem hlast]; rfl), ?_⟩
  refine ⟨_, rfl, x, CR, dx, _, rfl, s4 _ _ hx3, T.clR, T.nR_begins, by show 3 < 1000; decide, ?_⟩
  generalize hH5 : upd H4 x _ = H5
  have k5 : Kp [x] H H5 := by rw [← hH5]; exact (k3'.trans (Kp.of s4)).mut (.inl List.mem_cons_self)
  have hx5 : H5 x = some (.ins CR dx (putF "begins" (.ref as[as.length - 1]) (putF "first" (.int (begun.length : Int)) (putF "most" (.int k) (putF "task" (.ref t) []))))) := by rw [← hH5]; exact upd_same
  have hx4 := s4 _ _ hx3
  have hE5 : TupI H5 as[as.length - 1] (runs [] begun) := by
    rw [← hH5]
    show upd H4 x _ _ = _
    rw [upd_ne (fun e => by
      have z := hx4.symm.trans (show H4 x = some (.tup ((runs [] begun).map V.int)) by rw [← e]; exact hE)
      cases z)]
    exact hE
  have tk5 : Tk H H5 := fun b xs e => k5 _ _ e (out _ _ e)
  have ht5 : TkAt CT D' H5 t := by
    obtain ⟨_, dx', w', l', q1, _⟩ := id ht
    refine ht.kp k5 (fun hm => ?_) tk5
    have e := List.mem_singleton.mp hm
    subst e
    rw [hx] at q1
    have e2 := Option.some.inj q1
    injection e2 with _ _ e3
    have e5 := tkF_writes w' l'
    rw [← e3] at e5
    cases e5
  -- self.solver = Solver(task, may_all)
  refine ⟨_, rfl, fun y dy ny ndy ney => ?_⟩
  have s0 : Same H5 (upd (upd H5 dy (.own y)) y (.ins CS dy [])) := (same_new ndy).trans (same_new (by rw [upd_ne ney.symm]; exact ny))
  refine ⟨y, dy, t, D', rfl, upd_same, ht5.same s0, fun H6 c p k6 c0 p0 S6 => ⟨rfl, ?_⟩⟩
  have s6 : Same H5 H6 := made_same ny ndy k6
  have hx6 := s6 _ _ hx5
  refine ⟨_, rfl, x, CR, dx, _, rfl, hx6, T.clR, T.nR_solver, by show 4 < 1000; decide, ?_⟩
  generalize hH7 : upd H6 x _ = H7
  have hx7 : H7 x = some (.ins CR dx (putF "solver" (.ref y) (putF "begins" (.ref as[as.length - 1]) (putF "first" (.int (begun.length : Int)) (putF "most" (.int k) (putF "task" (.ref t) [])))))) := by rw [← hH7]; exact upd_same
  have k7 : Kp [x] H6 H7 := by rw [← hH7]; exact (Kp.refl _ H6).mut (.inl List.mem_cons_self)
  have not_tk : ∀ {Hq : Hp} {fs : List (Str × V)}, Hq x = some (.ins CR dx fs) → fs.lookup ("writes" : Str) = none → ∀ dx' w l, Hq x ≠ some (.ins CT dx' (tkF w l)) := fun h hl dx' w l e => by
    rw [h] at e
    have e2 := Option.some.inj e
    injection e2 with _ _ e3
    rw [e3, tkF_writes] at hl
    cases hl
  have nxy : x ≠ y := ne_of_none hx5 ny
  have S7 : SvAt CT CS fm D' H7 y c p := S6.kpx nxy (not_tk hx6 (by rw [lookup_putF, if_neg (by decide +kernel), lookup_putF, if_neg (by decide +kernel), lookup_putF, if_neg (by decide +kernel), lookup_putF, if_neg (by decide +kernel)]; rfl)) (fun kc e => by rw [hx6] at e; cases e) (fun xs e => by rw [hx6] at e; cases e) k7
  have tk7 : Tk H6 H7 := fun b xs e => k7 _ _ e fun hm => by
    have e2 := List.mem_singleton.mp hm
    subst e2
    rw [hx6] at e
    cases e
  have hE7 := (hE5.tk (same_tk s6)).tk tk7
  have tk07 : Tk H H7 := (tk5.trans (same_tk s6)).trans tk7
  have kx7 : Kp [x] H H7 := (k5.trans (Kp.of s6)).trans k7
  have c5 : H5 c = none := same_none s0 c0
  have p5 : H5 p = none := same_none s0 p0
  have fr : ∀ b, H5 b = none → H b = none := fun b hb => k5.free hb fun hm => by
    have e2 := List.mem_singleton.mp hm
    subst e2
    rw [hx5] at hb
    cases hb
  -- self.known = [(self.first - 1, len(self.begins), 0, begun)]
  refine ⟨_, rfl, x, CR, dx, _, _, rfl, hx7, T.clR, T.nR_first, by rw [lookup_putF, if_neg (by decide +kernel), lookup_putF, if_neg (by decide +kernel), lookup_putF, if_pos rfl], _, _, rfl, rfl,
    _, rfl, x, CR, dx, _, _, rfl, hx7, T.clR, T.nR_begins, by rw [lookup_putF, if_neg (by decide +kernel), lookup_putF, if_pos rfl], _, _, rfl, .inr (SqT.of hE7), _, rfl, by show 4 ≤ sizeLine; decide, fun tp ntp => ?_⟩
  refine ⟨by show 1 ≤ sizeLine; decide, fun kn nkn => ?_⟩
  have s8 := same_new (o := .tup [.int ((begun.length : Int) - 1), .int ((((runs [] begun).map V.int).length : Nat) : Int), .int 0, .ref b]) ntp
  have s9 := same_new (o := .lst [.ref tp]) nkn
  have s79 := s8.trans s9
  have hx9 := s79 _ _ hx7
  refine ⟨_, rfl, x, CR, dx, _, rfl, hx9, T.clR, T.nR_known, by show 5 < 1000; decide, ?_⟩
  generalize hH10 : upd _ x _ = H10
  have k10 : Kp [x] (upd (upd H7 tp (.tup [.int ((begun.length : Int) - 1), .int ((((runs [] begun).map V.int).length : Nat) : Int), .int 0, .ref b])) kn (.lst [.ref tp])) H10 := by rw [← hH10]; exact (Kp.refl _ _).mut (.inl List.mem_cons_self)
  have hx10 : H10 x = some (.ins CR dx (rsF t k begun.length as[as.length - 1] y kn)) := by rw [← hH10]; exact upd_same
  have S9 := S7.same s79
  have S10 : SvAt CT CS fm D' H10 y c p := S9.kpx nxy (not_tk hx9 (by rw [lookup_putF, if_neg (by decide +kernel), lookup_putF, if_neg (by decide +kernel), lookup_putF, if_neg (by decide +kernel), lookup_putF, if_neg (by decide +kernel), lookup_putF, if_neg (by decide +kernel)]; rfl)) (fun kc e => by rw [hx9] at e; cases e) (fun xs e => by rw [hx9] at e; cases e) k10
  have tk10 : Tk H7 H10 := fun b xs e => k10 _ _ (s79 _ _ e) fun hm => by
    have e2 := List.mem_singleton.mp hm
    subst e2
    rw [hx7] at e
    cases e
  have kx10 : Kp [x] H H10 := (kx7.trans (Kp.of s79)).trans k10
  have nkx : kn ≠ x := fun e => by
    subst e
    rw [s8 _ _ hx7] at nkn
    cases nkn
  have ntx : tp ≠ x := fun e => by
    subst e
    rw [hx7] at ntp
    cases ntp
  have n7 : ∀ b, H7 b = none → H b = none := fun b hb => kx7.free hb fun hm => by
    have e2 := List.mem_singleton.mp hm
    subst e2
    rw [hx7] at hb
    cases hb
  have hkn9 : upd (upd H7 tp (.tup [.int ((begun.length : Int) - 1), .int ((((runs [] begun).map V.int).length : Nat) : Int), .int 0, .ref b])) kn (.lst [.ref tp]) kn = some (.lst [.ref tp]) := upd_same
  refine q H10 kn y c p kx10 (n7 _ (s8.free nkn)) (fr _ c5) (fr _ p5) ⟨⟨dx, t, as[as.length - 1], hx10, ?_, hE7.tk tk10⟩, S10⟩ ⟨[tp], k10 _ _ hkn9 (fun hm => nkx (List.mem_singleton.mp hm)), .cons ⟨b, ?_, (TupI.tk hb tk07).tk tk10⟩ .nil⟩
  · obtain ⟨_, dx', w', l', q1, _⟩ := id ht
    refine ht.kp kx10 (fun hm => ?_) (tk07.trans tk10)
    have e := List.mem_singleton.mp hm
    subst e
    rw [hx] at q1
    have e2 := Option.some.inj q1
    injection e2 with _ _ e3
    have e5 := tkF_writes w' l'
    rw [← e3] at e5
    cases e5
  · have z := k10 _ _ (s9 _ _ (upd_same (H := H7) (a := tp) (o := .tup [.int ((begun.length : Int) - 1), .int ((((runs [] begun).map V.int).length : Nat) : Int), .int 0, .ref b]))) (fun hm => ntx (List.mem_singleton.mp hm))
    rw [List.length_map] at z
    exact z
abbrev s_Rest_elder_looks : Stmt := inClass (top 38) 1
abbrev N_Rest_elder_looks : List Str := ["self", "many", "first", "last", "begin"]
theorem sc_Rest_elder_looks : FnScope N_Rest_elder_looks ["self", "many", "first", "last"] (defScope s_Rest_elder_looks) := ⟨rfl, rfl, rfl, by decide +kernel, rfl, by decide +kernel, by decide +kernel⟩
theorem rd_elder_looks (D : MethAt K CR "elder_looks" "Rest.elder_looks" s_Rest_elder_looks ["self", "many", "first", "last"]) (T : Txt K mg CT CS CR) (R_look_sum : Rdy P w K mg base "look_sum" ["task", "begin", "first", "last"] 1 (spLookSum CT)) :
    MRdy P w K mg base CR "elder_looks" ["self", "many", "first", "last"] 2 (spElder CT CS CR fm) := by
  refine D.rdy sc_Rest_elder_looks (fun vs H Q E h => ?_) (fun f cdv A outer st H vs Q Ex hr h => ?_)
  · obtain ⟨r, kn, s, c, p, D', k, h0, E', begun, i, f, l, rfl, _⟩ := h; rfl
  obtain ⟨r, kn, s, c, p, D', k, h0, E, begun, i, f, l, rfl, R, RP, hi, hf, hfl, hlN, q⟩ := h
  have hEl : E.length ≤ 30 := by
    obtain ⟨⟨_, _, _, _, ⟨o, _⟩, _⟩, _⟩ := R
    have := RP.el
    have := RP.bl
    have := RP.lt
    have := o.le
    omega
  refine ⟨_, (pss_one (ps_ret (pe_callB (cr_sum rfl) rfl T.sum (by decide +kernel) (pa_cons (pe_lc (own := [("begin", 4)]) (g := gName 4) (tt := tYes) rfl sc_Rest_elder_looks.nd (pi_tup (pe_slice sl_tupA (pe_fld (pv 0) rfl) po_none (po_some (pv 1)))) (blkOk_by (own := [("begin", 4)]) (N := N_Rest_elder_looks) (sc := defScope s_Rest_elder_looks) (by decide +kernel)) (fun _ _ _ _ _ => (pg_name (i := 4) sc_Rest_elder_looks.nd rfl (Or.inl rfl))) (fun _ _ _ _ _ => pts_nil) (fun _ _ _ _ _ => (pe_rdy R_look_sum (hr.mono (by omega)) rfl (pa_cons (show PE _ _ (tFld K _ _) from (pe_fld (pv 0) rfl)) (pa_cons (pv 4) (pa_cons (pv 2) (pa_cons (pv 3) pa_nil))))))) pa_nil)))), ?_⟩
  obtain ⟨⟨dx, t, b, h1, h2, h3⟩, _⟩ := id R
  have e1 : HT.sIx (E.map V.int).length 0 none = 0 := HT.sIx_none _ _
  have e2 : HT.sIx (E.map V.int).length (E.map V.int).length (some (i : Int)) = i := by
    rw [HT.sIx_nat, List.length_map]
    omega
  have e3 : cutV (E.map V.int) none (some (i : Int)) = (E.take i).map V.int := by
    unfold cutV
    rw [e1, e2, List.drop_zero, Nat.sub_zero, List.map_take]
  -- the loop over the eldest i begins, wherever they stand
  have body : ∀ (H1 : Hp) (b1 : Addr), Same H H1 → TupI H1 b1 (E.take i) →
      (∃ a, V.ref b1 = V.ref a ∧ (∃ xs, SqT K H1 a xs) ∧ ∀ Dl, H1 Dl = none → ∃ W : Nat → Nat → Hp → Prop, (∃ m, W 0 m (upd H1 Dl (.lst []))) ∧ ∀ j m H', W j m H' →
        ((Itt K a).stop j H' ∧ ∃ (a2 : Addr) (ns : List Int), [V.ref Dl] = [V.ref a2] ∧ SqL K H' a2 (ns.map V.int) ∧ Q (.int ns.sum) H') ∨ ((Itt K a).go j H' ∧ ∃ Nx : Hp → Prop, (∀ H', Nx H' → ∃ m', m' < m ∧ W (j + 1) m' H') ∧ ∀ x H'', (Itt K a).yld j H' x H'' →
          gName 4 x (wipe [some (.ref r), some (.int (i : Int)), some (.int f), some (.int l), none] [4]) H'' fun σ2 H2 => wipe σ2 [4] = wipe [some (.ref r), some (.int (i : Int)), some (.int f), some (.int l), none] [4] ∧ tYes σ2 H2 fun b H3 =>
            if b = true then tCall (spLookSum CT) [] E0 (tCons (tFld K (tVar 0) "task") (tCons (tVar 4) (tCons (tVar 2) (tCons (tVar 3) tNil)))) σ2 H3 fun y H4 => ∃ acc, H4 Dl = some (.lst acc) ∧ acc.length < sizeLine ∧ Nx (upd H4 Dl (.lst (acc ++ [y]))) else Nx H3)) := fun H1 b1 s1 hb1 => by
    refine ⟨b1, rfl, ⟨_, SqT.of hb1⟩, fun Dl hD => lc_tup (K := K) (a := b1) (xs := (E.take i).map V.int) (fun j H' => Same H1 H' ∧ H' Dl = some (.lst ((((E.take i).take j).map fun e => lk D'.l e f (l + 1 - f).toNat).map V.int)))
      ⟨same_new hD, upd_same⟩ (fun j H' _ ⟨s', _⟩ => SqT.of (s' _ _ hb1)) ?_ ?_⟩
    · rintro j x H' hx ⟨s', hl'⟩
      rw [List.getElem?_map] at hx
      cases hz : (E.take i)[j]? with
      | none => rw [hz] at hx; cases hx
      | some z =>
      rw [hz] at hx
      have ex : V.int z = x := Option.some.inj hx
      subst ex
      have hzE : z ∈ E := List.mem_of_mem_take (List.mem_of_getElem? hz)
      have hz0 := RP.nn z hzE
      have hzl := RP.gd.lt z hzE
      have hji := (List.getElem?_eq_some_iff.mp hz).1
      rw [List.length_take] at hji
      have s2 := s1.trans s'
      have hlt := RP.lt
      refine ⟨rfl, _, rfl, r, CR, dx, _, _, rfl, s2 _ _ h1, T.clR, T.nR_task, rsF_task _ _ _ _ _ _, _, rfl, _, rfl, _, rfl, t, D', z, f, l, rfl, h2.same s2, hz0, by omega, hfl, hlN, by omega, fun H3 s3 => ?_⟩
      have hl3 := s3 _ _ hl'
      refine ⟨_, hl3, ?_, same_mut (s'.trans s3) hD, ?_⟩
      · rw [List.length_map, List.length_map, List.length_take, List.length_take]
        exact small1000 (by omega)
      · rw [upd_same, ← take_last hz, List.map_append, List.map_append]
        rfl
    · rintro H' ⟨s', hl'⟩
      rw [List.length_map, List.take_length] at hl'
      refine ⟨Dl, _, rfl, SqL.of hl', ?_⟩
      exact q H' (s1.trans s')
  refine ⟨_, rfl, r, CR, dx, _, _, rfl, h1, T.clR, T.nR_begins, rsF_begins _ _ _ _ _ _, _, rfl, _, rfl, b, _, rfl, SqT.of h3, fun hw => ?_, fun hw b1 nb1 => ?_⟩
  · refine body H b (Same.refl H) ?_
    have h5 : HT.sIx (E.map V.int).length (E.map V.int).length (some (i : Int)) = (E.map V.int).length := hw.2
    rw [e2, List.length_map] at h5
    rw [h5, List.take_length]
    exact h3
  · refine body _ b1 (same_new nb1) ?_
    show upd H b1 _ b1 = _
    rw [upd_same]
    exact congrArg (fun z => some (HO.tup z)) e3
end
end Js

/-! JsW7: ways_to, written_at, best, rest. -/
namespace Js
open PySem PySem.Spec PyProof.Rows L2
/-- a list fl of ours, new at H, has changed beside the dicts -/
theorem kp_drop {c p fl : Addr} {H H1 H2 : Hp} (k1 : Kp [c, p] H H1) (k2 : Kp [c, p, fl] H1 H2) (hfl : H fl = none) : Kp [c, p] H H2 := fun b o e n => k2 b o (k1 b o e n) fun hm => by
  rcases List.mem_cons.mp hm with z | hm
  · exact n (z ▸ List.mem_cons_self)
  · rcases List.mem_cons.mp hm with z | hm
    · exact n (z ▸ List.mem_cons_of_mem _ List.mem_cons_self)
    · have z := List.mem_singleton.mp hm
      subst z
      rw [hfl] at e
      cases e
theorem mono2 {c p fl : Addr} : ∀ b ∈ [c, p], b ∈ [c, p, fl] := fun b hb => by
  rcases List.mem_cons.mp hb with e | hb
  · rw [e]; exact List.mem_cons_self
  · rw [List.mem_singleton.mp hb]; exact List.mem_cons_of_mem _ List.mem_cons_self
/-- kept beside the dicts and a list: what is none of them -/
theorem SvAt.out3 {CT CS fm : Addr} {D : TkD} {H : Hp} {s c p fl : Addr} (S : SvAt CT CS fm D H s c p) {b : Addr} {o : HO} (h : H b = some o) (ho : ∀ kc, o ≠ .dT kc) (hb : b ≠ fl) : b ∉ [c, p, fl] := fun hm => by
  rcases List.mem_cons.mp hm with z | hm
  · exact S.out h ho (z ▸ List.mem_cons_self)
  · rcases List.mem_cons.mp hm with z | hm
    · exact S.out h ho (z ▸ List.mem_cons_of_mem _ List.mem_cons_self)
    · exact hb (List.mem_singleton.mp hm)
section
variable {CT CS CR fm : Addr} {D : TkD} {k h0 : Int} {E : List Int} {H H' : Hp} {r kn s c p : Addr}
theorem RsAt.kp3 {fl : Addr} {xs : List V} (R : RsAt CT CS CR fm D k h0 E H r kn s c p) (hf : H fl = some (.lst xs)) (q : Kp [c, p, fl] H H') (S : SvAt CT CS fm D H' s c p) : RsAt CT CS CR fm D k h0 E H' r kn s c p := by
  obtain ⟨⟨dx, t, b, h1, h2, h3⟩, h4⟩ := R
  obtain ⟨_, dx', w, l, q1, _⟩ := id h2
  have ne : ∀ b o, H b = some o → (∀ ys, o ≠ .lst ys) → b ≠ fl := fun b o e n z => by
    subst z
    rw [hf] at e
    exact n xs (Option.some.inj e).symm
  have tk : Tk H H' := fun b ys e => q _ _ e (h4.out3 e (fun kc z => by cases z) (ne _ _ e fun ys z => by cases z))
  exact ⟨⟨dx, t, b, q _ _ h1 (h4.out3 h1 (fun kc z => by cases z) (ne _ _ h1 fun ys z => by cases z)), h2.kp q (h4.out3 q1 (fun kc z => by cases z) (ne _ _ q1 fun ys z => by cases z)) tk, h3.tk tk⟩, S⟩
theorem SvAt.tk3 {fl : Addr} {xs : List V} (S : SvAt CT CS fm D H s c p) (hf : H fl = some (.lst xs)) (q : Kp [c, p, fl] H H') : Tk H H' := fun b ys e => q _ _ e (S.out3 e (fun kc z => by cases z) fun z => by
  subst z
  rw [hf] at e
  cases e)
end
section
variable {P : Program} {w : World} {K : PySem.W.Frag} {mg : Str → Option Value} {base : Heap} {CT CS CR fm : Addr}
abbrev s_Rest_ways_to : Stmt := inClass (top 38) 2
abbrev N_Rest_ways_to : List Str := ["self", "hour", "found", "ahead", "many", "cost", "plan", "more", "paid"]
theorem sc_Rest_ways_to : FnScope N_Rest_ways_to ["self", "hour"] (defScope s_Rest_ways_to) := ⟨rfl, rfl, rfl, by decide +kernel, rfl, by decide +kernel, by decide +kernel⟩
theorem rd_ways_to (D : MethAt K CR "ways_to" "Rest.ways_to" s_Rest_ways_to ["self", "hour"]) (T : Txt K mg CT CS CR) (R_between : Rdy P w K mg base "between" ["solver", "most", "first", "last"] 153 (spBetween CT CS fm)) (R_elder_looks : MRdy P w K mg base CR "elder_looks" ["self", "many", "first", "last"] 2 (spElder CT CS CR fm)) :
    MRdy P w K mg base CR "ways_to" ["self", "hour"] 154 (spWays CT CS CR fm) := by
  refine D.rdy sc_Rest_ways_to (fun vs H Q E h => ?_) (fun f cdv A outer st H vs Q Ex hr h => ?_)
  · obtain ⟨r, kn, s, c, p, D', k, h0, E', begun, n, l, rfl, _⟩ := h; rfl
  obtain ⟨r, kn, s, c, p, D', k, h0, E, begun, n, l, rfl, R, RP, hkn, hok, hll, hnN, q⟩ := h
  have hN30 : D'.N ≤ 30 := by
    obtain ⟨⟨_, _, _, _, ⟨o, _⟩, _⟩, _⟩ := R
    exact o.le
  have hbl := RP.bl
  refine ⟨_, (pss_cons (ps_set (i := 2) sc_Rest_ways_to.nd rfl (Or.inl rfl) (pe_lst pa_nil))
    (pss_cons (ps_for PassesOwn.never rfl (pi_list (pe_fld (pv 0) rfl)) (pg_tup rfl (pgs_cons (pg_name (i := 3) sc_Rest_ways_to.nd rfl (Or.inl rfl)) (pgs_cons (pg_name (i := 4) sc_Rest_ways_to.nd rfl (Or.inl rfl)) (pgs_cons (pg_name (i := 5) sc_Rest_ways_to.nd rfl (Or.inl rfl)) (pgs_cons (pg_name (i := 6) sc_Rest_ways_to.nd rfl (Or.inl rfl)) pgs_nil)))))
    (pss_cons (ps_set (i := 7) sc_Rest_ways_to.nd rfl (Or.inl rfl) (pe_rdy R_between (hr.mono (by omega)) rfl (pa_cons (pe_fld (pv 0) rfl) (pa_cons (pe_op op_sub (pe_fld (pv 0) rfl) (pv 4)) (pa_cons (pe_op op_add (pv 3) pe_int) (pa_cons (pe_op op_sub (pv 1) pe_int) pa_nil))))))
    (pss_one (ps_if (pt_cmpR op_notN (pv 7) pe_non (nomark _))
    (pss_cons (ps_set (i := 8) sc_Rest_ways_to.nd rfl (Or.inl rfl) (pe_op op_add (pe_op op_add (pv 5) (pe_ix ix_tup (pv 7) pe_int (fun _ _ => rfl))) (pe_mrdy (pv 0) T.clR R_elder_looks (hr.mono (by omega)) (pa_cons (pv 4) (pa_cons (pe_op op_add (pv 3) pe_int) (pa_cons (pe_op op_sub (pv 1) pe_int) pa_nil))))))
    (pss_one (ps_expr (pe_bm PySem.F.plainAttrs_list PySem.F.slot_list_append PySem.F.type_list_append mt_append (pv 2) (pa_cons (pe_tup (pa_cons (pv 4) (pa_cons (pv 8) (pa_cons (pe_op op_catA (pv 6) (pe_ix ix_tup (pv 7) pe_int (fun _ _ => rfl))) pa_nil)))) pa_nil)))))
    pss_nil))))
    (pss_one (ps_ret (pv 2))))), ?_⟩
  obtain ⟨as, hkn1, hkn2⟩ := id hkn
  have las := Paired.len hkn2
  refine ⟨by show 0 ≤ sizeLine; decide, fun fl nfl => ?_⟩
  have s1 := same_new (o := .lst []) nfl
  have R1 := R.same s1
  have hfl1 : upd H fl (.lst []) fl = some (.lst []) := upd_same
  generalize hH1 : upd H fl (.lst []) = H1 at s1 R1 hfl1
  obtain ⟨⟨dx, t, b, h1, h2, h3⟩, S1⟩ := id R1
  have nkf : kn ≠ fl := ne_of_none hkn1 nfl
  refine ⟨_, rfl, r, CR, dx, _, _, rfl, h1, T.clR, T.nR_known, rsF_known _ _ _ _ _ _, kn, rfl, ⟨_, SqL.of (s1 _ _ hkn1)⟩, for_list (K := K) (a := kn) (xs := as.map V.ref)
    (fun i σ H' => ∃ v3 v4 v5 v6 v7 v8 : Option V, σ = [some (.ref r), some (.int (h0 + n)), some (.ref fl), v3, v4, v5, v6, v7, v8] ∧ Kp [c, p, fl] H1 H' ∧ SvAt CT CS fm D' H' s c p ∧
      ∃ bs : List Addr, H' fl = some (.lst (bs.map V.ref)) ∧ Paired (WyI H') bs ((l.take i).filterMap (wayOf k D'.w D'.l E (h0 + n))))
    ⟨none, none, none, none, none, none, rfl, Kp.refl _ _, S1, [], hfl1, .nil⟩ ?_ ?_ ?_⟩
  · rintro i σ H' hi ⟨v3, v4, v5, v6, v7, v8, rfl, k', S', _⟩
    exact SqL.of (k' _ _ (s1 _ _ hkn1) (S1.out3 (s1 _ _ hkn1) (fun kc z => by cases z) nkf))
  · rintro i x σ H' hx ⟨v3, v4, v5, v6, v7, v8, rfl, k', S', bs, hfl', hP⟩
    rw [List.getElem?_map] at hx
    cases ha : as[i]? with
    | none => rw [ha] at hx; cases hx
    | some a =>
    rw [ha] at hx
    have ex : V.ref a = x := Option.some.inj hx
    subst ex
    have hia := (List.getElem?_eq_some_iff.mp ha).1
    have hel : l[i]? = some (l[i]'(by omega)) := List.getElem?_eq_getElem (by omega)
    obtain ⟨e, he⟩ : ∃ e, l[i]? = some e := ⟨_, hel⟩
    obtain ⟨te, hte1, hte2⟩ := Paired.at_ hkn2 ha he
    obtain ⟨pe, ope, epl, elen, enl, _, eiE, _⟩ := hok.sound e (List.mem_of_getElem? he)
    have tk1 : Tk H H' := (same_tk s1).trans (S1.tk3 hfl1 k')
    have R' := R1.kp3 hfl1 k' S'
    obtain ⟨⟨dx', t', b', g1, g2, g3⟩, _⟩ := id R'
    have etake := take_last he
    have lbs := Paired.len hP
    have lfm := List.length_filterMap_le (wayOf k D'.w D'.l E (h0 + n)) (l.take i)
    rw [List.length_take] at lfm
    have hk30 := RP.k30
    refine ⟨a, _, rfl, SqT.of (tk1 _ _ hte1), rfl, _, _, rfl, _, _, rfl, _, _, rfl, _, _, rfl, rfl, ?_⟩
    refine ⟨_, rfl, r, CR, dx', _, _, rfl, g1, T.clR, T.nR_solver, rsF_solver _ _ _ _ _ _, _, rfl, r, CR, dx', _, _, rfl, g1, T.clR, T.nR_most, rsF_most _ _ _ _ _ _, _, rfl, _, _, rfl, rfl, _, rfl, _, _, rfl, rfl, _, rfl, _, _, rfl, rfl,
      s, c, p, D', k - (e.i : Int), e.ah + 1, h0 + n - 1, rfl, S', by omega, by omega, by omega, by omega, fun hc H2 q2 k2 S2 hpair => ?_, fun hnc => ?_⟩
    · have hc' : h0 + (n : Int) - 1 - e.ah = 0 ∨ 1 ≤ k - (e.i : Int) := by omega
      have em : (h0 + (n : Int) - 1 + 1 - (e.ah + 1)).toNat = (h0 + (n : Int) - 1 - e.ah).toNat := by omega
      rw [em] at hpair
      obtain ⟨tp, hp1, hp2⟩ := id hpair
      obtain ⟨m, hm⟩ : ∃ m, m = (h0 + (n : Int) - 1 - e.ah).toNat := ⟨_, rfl⟩
      rw [← hm] at hp1 hp2
      have R2 := R'.kp k2 S2
      obtain ⟨⟨dx2, t2, b2, f1, f2, f3⟩, _⟩ := id R2
      have hfl2 := k2 _ _ hfl' (S'.out hfl' fun kc z => by cases z)
      refine ⟨_, rfl, rfl, _, rfl, iteT ?_⟩
      refine ⟨_, rfl, _, rfl, q2, _, _, _, rfl, rfl, SqT.of hp1, rfl, _, _, rfl, rfl, _, rfl, r, dx2, _, rfl, f1, rsF_m1 _ _ _ _ _ _, _, rfl, _, rfl, _, _, rfl, rfl, _, rfl, _, _, rfl, rfl,
        r, kn, s, c, p, D', k, h0, E, begun, e.i, e.ah + 1, h0 + n - 1, rfl, R2, RP, eiE, by omega, by omega, by omega, fun H3 s3 => ⟨_, _, rfl, rfl, ?_⟩⟩
      rw [em, ← hm]
      have hfl3 := s3 _ _ hfl2
      have tk3 : Tk H' H3 := (S'.tk k2).trans (same_tk s3)
      have lpl : (plan (k - (e.i : Int)) D'.w D'.l (e.ah + 1) m).length = m := plan_len (by omega)
      refine ⟨_, rfl, .inl ⟨rfl, _, SqL.of hfl3⟩, _, rfl, _, rfl, _, rfl, _, rfl, q2, _, _, _, rfl, rfl, SqT.of (s3 _ _ hp1), rfl, catA_of ((hte2.tk tk1).tk tk3) (hp2.tk (same_tk s3)) (by
        rw [lpl, epl, List.length_append]
        omega) fun t4 H4 s4 ht4 => ?_⟩
      refine ⟨by show 3 ≤ sizeLine; decide, fun tw ntw => ?_⟩
      have s34 := s4.trans (same_new (o := .tup [.int (e.i : Int), .int (e.c + span (k - (e.i : Int)) D'.w D'.l (e.ah + 1) m + eld D'.l (E.take e.i) (e.ah + 1) m), .ref t4]) ntw)
      have hfl5 := s34 _ _ hfl3
      refine ⟨fl, _, _, rfl, rfl, hfl5, by rw [List.length_map]; exact small1000 (by omega), ?_⟩
      have tkl := tk_list (H' := upd (upd H4 tw (.tup [.int (e.i : Int), .int (e.c + span (k - (e.i : Int)) D'.w D'.l (e.ah + 1) m + eld D'.l (E.take e.i) (e.ah + 1) m), .ref t4])) fl (.lst (bs.map V.ref ++ [V.ref tw]))) hfl5 ((Kp.refl _ _).mut (.inl (List.mem_singleton.mpr rfl)))
      refine ⟨_, _, _, _, _, _, rfl, ((k'.trans (k2.mono mono2)).trans (Kp.of (s3.trans s34))).mut (.inl (by simp)), (S2.same (s3.trans s34)).setL hfl5, bs ++ [tw], ?_, ?_⟩
      · rw [upd_same, List.map_append]
        rfl
      · have ew : wayOf k D'.w D'.l E (h0 + n) e = some ⟨e.i, e.c + span (k - (e.i : Int)) D'.w D'.l (e.ah + 1) m + eld D'.l (E.take e.i) (e.ah + 1) m, e.pl ++ plan (k - (e.i : Int)) D'.w D'.l (e.ah + 1) m⟩ := by
          unfold wayOf
          rw [if_pos hc', ← hm]
        rw [← etake, List.filterMap_append, List.filterMap_cons_some ew, List.filterMap_nil]
        refine Paired.snoc ⟨t4, tkl _ _ upd_same, (ht4.tk (same_tk (same_new ntw))).tk tkl⟩ (Paired.imp (fun a b z => ((z.tk tk3).tk (same_tk s34)).tk tkl) hP)
    · have hnc' : ¬ (h0 + (n : Int) - 1 - e.ah = 0 ∨ 1 ≤ k - (e.i : Int)) := by omega
      refine ⟨_, rfl, rfl, _, rfl, iteF ?_⟩
      refine ⟨_, _, _, _, _, _, rfl, k', S', bs, hfl', ?_⟩
      have ew : wayOf k D'.w D'.l E (h0 + n) e = none := by
        unfold wayOf
        rw [if_neg hnc']
      rw [← etake, List.filterMap_append, List.filterMap_cons_none ew, List.filterMap_nil, List.append_nil]
      exact hP
  · rintro σ H' ⟨v3, v4, v5, v6, v7, v8, rfl, k', S', bs, hfl', hP⟩
    rw [List.length_map, las, List.take_length] at hP
    exact ⟨_, rfl, q H' fl bs (kp_drop (Kp.of s1) k' nfl) S' nfl hfl' hP⟩
end
end Js

/-! JsW8: written_at, best, rest. -/
namespace Js
open PySem PySem.Spec PyProof.Rows L2
theorem Paired.app {α β : Type} {F : α → β → Prop} {cs : List α} {ds : List β} (h2 : Paired F cs ds) : ∀ {as : List α} {bs : List β}, Paired F as bs → Paired F (as ++ cs) (bs ++ ds)
  | _, _, .nil => h2
  | _, _, .cons r t => .cons r (Paired.app h2 t)
theorem minP_eq {l : List (Int × List Int)} {p : Int × List Int} (h : p ∈ l) (hl : ∀ q ∈ l, le (en p) (en q)) : p = minP l := by
  have hne : l ≠ [] := fun e => by rw [e] at h; cases h
  obtain ⟨m1, m2⟩ := minP_mem hne
  have e := le_antisymm (hl _ m1) (m2 _ h)
  unfold en at e
  injection e with e1 e2
  exact Prod.ext e1 e2
theorem wsome_snoc {ws : List Wy} {w : Wy} {j : Nat} : wsome (ws ++ [w]) j = wsome ws j ++ (if (j : Int) < (w.i : Int) then [(w.c, w.pl)] else []) := by
  unfold wsome
  rw [List.filter_append, List.map_append]
  by_cases h : (j : Int) < (w.i : Int)
  · rw [if_pos h, List.filter_cons_of_pos (p := fun w : Wy => decide ((j : Int) < (w.i : Int))) (decide_eq_true h)]; rfl
  · rw [if_neg h, List.filter_cons_of_neg (p := fun w : Wy => decide ((j : Int) < (w.i : Int))) (by rw [decide_eq_false h]; decide)]; rfl
theorem wsome_len (ws : List Wy) (j : Nat) : (wsome ws j).length ≤ ws.length := by
  unfold wsome
  rw [List.length_map]
  exact List.length_filter_le _ _
theorem wsome_mem {ws : List Wy} {j : Nat} {p : Int × List Int} (h : p ∈ wsome ws j) : ∃ w ∈ ws, p.2 = w.pl := by
  unfold wsome at h
  obtain ⟨w, hw, e⟩ := List.mem_map.mp h
  exact ⟨w, (List.mem_filter.mp hw).1, by rw [← e]⟩
theorem knAt_len (K : Int) (W L : Int → Int → Int) (E : List Int) (h0 : Int) (begun : List Int) : ∀ n, (knAt K W L E h0 begun n).length ≤ 1 + E.length * n
  | 0 => by show 1 ≤ 1 + E.length * 0; omega
  | n + 1 => by
    have ih := knAt_len K W L E h0 begun n
    have h : (wrote K W L E (ways K W L E (h0 + n) (knAt K W L E h0 begun n)) (h0 + n)).length ≤ E.length := by
      unfold wrote
      have z := List.length_filterMap_le (wrOf W L E (ways K W L E (h0 + n) (knAt K W L E h0 begun n)) (h0 + n)) (List.range (min E.length K.toNat))
      rw [List.length_range] at z
      omega
    show (knAt K W L E h0 begun n ++ _).length ≤ _
    rw [List.length_append, Nat.mul_succ]
    omega
theorem knAt_lt {K : Int} {W L : Int → Int → Int} {E : List Int} {h0 : Int} {begun : List Int} {n : Nat} (h1 : E.length ≤ 30) (h2 : n ≤ 30) : (knAt K W L E h0 begun n).length ≤ 901 := by
  have h := knAt_len K W L E h0 begun n
  have h3 : E.length * n ≤ 30 * 30 := Nat.mul_le_mul h1 h2
  omega
section
variable (CT CS CR fm : Addr)
def spWritten : Sp := fun vs H Q _ => ∃ (r kn s c p : Addr) (D : TkD) (k h0 : Int) (E begun : List Int) (n : Nat) (l : List Kn), vs = [.ref r, .int (h0 + n)] ∧ RsAt CT CS CR fm D k h0 E H r kn s c p ∧ RsP D k h0 E begun ∧ KnAt H kn l ∧ KnOk k D.w D.l E h0 begun n l ∧ l.length ≤ 999 ∧ h0 + n < D.N ∧
  ∀ H' q as, Kp [c, p] H H' → SvAt CT CS fm D H' s c p → H q = none → H' q = some (.lst (as.map V.ref)) → Paired (KnI H') as (wrote k D.w D.l E (ways k D.w D.l E (h0 + n) l) (h0 + n)) → Q (.ref q) H'
def spBest : Sp := fun vs H Q _ => ∃ (r kn s c p : Addr) (D : TkD) (k h0 : Int) (E begun : List Int), vs = [.ref r] ∧ RsAt CT CS CR fm D k h0 E H r kn s c p ∧ RsP D k h0 E begun ∧ KnAt H kn (knAt k D.w D.l E h0 begun 0) ∧
  ∀ H' q pr, Kp [c, p, kn] H H' → PairI H' q pr → (∃ pp, pr.2 = begun ++ pp ∧ IsBest k D.w D.l E h0 (D.N - begun.length) pr.1 pp) → Q (.ref q) H'
def spRest : Sp := fun vs H Q _ => ∃ (t b : Addr) (D : TkD) (k kk : Int) (begun : List Int), vs = [.ref t, .int k, .ref b] ∧ TkAt CT D H t ∧ TupI H b begun ∧ ok kk [] 0 begun ∧ 1 ≤ begun.length ∧ begun.length < D.N ∧ 1 ≤ k ∧ k ≤ 30 ∧
  ∀ H' q c p, Same H H' → PairI H' q (c, begun ++ p) → IsBest k D.w D.l (runs [] begun) begun.length (D.N - begun.length) c p → Q (.ref q) H'
end
section
variable {P : Program} {w : World} {K : PySem.W.Frag} {mg : Str → Option Value} {base : Heap} {CT CS CR fm : Addr}
abbrev s_Rest_written_at : Stmt := inClass (top 38) 3
abbrev N_Rest_written_at : List Str := ["self", "hour", "ways", "found", "at", "some", "more", "cost", "plan", "many"]
theorem sc_Rest_written_at : FnScope N_Rest_written_at ["self", "hour"] (defScope s_Rest_written_at) := ⟨rfl, rfl, rfl, by decide +kernel, rfl, by decide +kernel, by decide +kernel⟩
theorem rd_written_at (D : MethAt K CR "written_at" "Rest.written_at" s_Rest_written_at ["self", "hour"]) (T : Txt K mg CT CS CR) (R_write_of : Rdy P w K mg base "write_of" ["task", "first", "last"] 1 (spWriteOf CT)) (R_elder_looks : MRdy P w K mg base CR "elder_looks" ["self", "many", "first", "last"] 2 (spElder CT CS CR fm)) (R_ways_to : MRdy P w K mg base CR "ways_to" ["self", "hour"] 154 (spWays CT CS CR fm)) :
    MRdy P w K mg base CR "written_at" ["self", "hour"] 155 (spWritten CT CS CR fm) := by
  refine D.rdy sc_Rest_written_at (fun vs H Q E h => ?_) (fun f cdv A outer st H vs Q Ex hr h => ?_)
  · obtain ⟨r, kn, s, c, p, D', k, h0, E', begun, n, l, rfl, _⟩ := h; rfl
  obtain ⟨r, kn, s, c, p, D', k, h0, E, begun, n, l, rfl, R, RP, hkn, hok, hll, hnN, q⟩ := h
  have hN30 : D'.N ≤ 30 := by
    obtain ⟨⟨_, _, _, _, ⟨o, _⟩, _⟩, _⟩ := R
    exact o.le
  have hbl := RP.bl
  have hk30 := RP.k30
  have hel := RP.el
  have hlt := RP.lt
  refine ⟨_, (pss_cons (ps_set (i := 2) sc_Rest_written_at.nd rfl (Or.inl rfl) (pe_mrdy (pv 0) T.clR R_ways_to (hr.mono (by omega)) (pa_cons (pv 1) pa_nil)))
    (pss_cons (ps_set (i := 3) sc_Rest_written_at.nd rfl (Or.inl rfl) (pe_lst pa_nil))
    (pss_cons (ps_for PassesOwn.never rfl (pi_range1 rfl T.range (pa_cons (pe_callB (call_min2 rfl) rfl T.min (by decide +kernel) (pa_cons (pe_callB call_len_seq rfl T.len PySem.boot_len (pa_cons (pe_fld (pv 0) rfl) pa_nil)) (pa_cons (pe_fld (pv 0) rfl) pa_nil))) pa_nil)) (pg_name (i := 4) sc_Rest_written_at.nd rfl (Or.inr rfl))
    (pss_cons (ps_setLc (i := 5) (own := [("many", 9), ("cost", 7), ("plan", 8)]) (g := gTup K 3 (gCons (gName 9) (gCons (gName 7) (gCons (gName 8) gNil)))) rfl sc_Rest_written_at.nd rfl rfl (sw_true rfl rfl rfl (by decide +kernel)) (pi_list (pv 2)) (blkOk_by (own := [("many", 9), ("cost", 7), ("plan", 8)]) (N := N_Rest_written_at) (sc := defScope s_Rest_written_at) (by decide +kernel)) (fun _ _ _ _ _ => (pg_tup rfl (pgs_cons (pg_name (i := 9) sc_Rest_written_at.nd rfl (Or.inl rfl)) (pgs_cons (pg_name (i := 7) sc_Rest_written_at.nd rfl (Or.inl rfl)) (pgs_cons (pg_name (i := 8) sc_Rest_written_at.nd rfl (Or.inl rfl)) pgs_nil))))) (fun _ _ _ _ _ => (pts_one (pt_cmpR op_gt (pv 9) (pv 4) (nomark _)))) (fun _ _ _ _ _ => (pe_tup (pa_cons (pv 7) (pa_cons (pv 8) pa_nil)))))
    (pss_one (ps_if (pt_cmpR op_gt (pe_callB call_len_seq rfl T.len PySem.boot_len (pa_cons (pv 5) pa_nil)) pe_int (nomark _))
    (pss_cons (ps_asg (pe_callB (cr_minP rfl hr.units) rfl T.min (by decide +kernel) (pa_cons (pv 5) pa_nil)) (pg_tup rfl (pgs_cons (pg_name (i := 7) sc_Rest_written_at.nd rfl (Or.inl rfl)) (pgs_cons (pg_name (i := 8) sc_Rest_written_at.nd rfl (Or.inl rfl)) pgs_nil))))
    (pss_cons (ps_set (i := 6) sc_Rest_written_at.nd rfl (Or.inl rfl) (pe_op op_add (pe_rdy R_write_of (hr.mono (by omega)) rfl (pa_cons (pe_fld (pv 0) rfl) (pa_cons (pe_ix ix_tup (pe_fld (pv 0) rfl) (pv 4) (fun _ _ => rfl)) (pa_cons (pv 1) pa_nil)))) (pe_mrdy (pv 0) T.clR R_elder_looks (hr.mono (by omega)) (pa_cons (pe_op op_add (pv 4) pe_int) (pa_cons (pv 1) (pa_cons (pv 1) pa_nil))))))
    (pss_one (ps_expr (pe_bm PySem.F.plainAttrs_list PySem.F.slot_list_append PySem.F.type_list_append mt_append (pv 3) (pa_cons (pe_tup (pa_cons (pv 1) (pa_cons (pe_op op_add (pv 4) pe_int) (pa_cons (pe_op op_add (pv 7) (pv 6)) (pa_cons (pe_op op_catA (pv 8) (pe_tup (pa_cons (pe_ix ix_tup (pe_fld (pv 0) rfl) (pv 4) (fun _ _ => rfl)) pa_nil))) pa_nil))))) pa_nil))))))
    pss_nil))))
    (pss_one (ps_ret (pv 3)))))), ?_⟩
  obtain ⟨⟨dx0, t0, b0, z1, z2, z3⟩, S0⟩ := id R
  refine ⟨_, rfl, r, dx0, _, rfl, z1, rsF_m2 _ _ _ _ _ _, _, rfl, r, kn, s, c, p, D', k, h0, E, begun, n, l, rfl, R, RP, hkn, hok, hll, by omega, fun H1 wy ws k1 S1 wy0 hwy hW => ?_⟩
  have R1 := R.kp k1 S1
  have hWok := ways_ok RP.gd hok
  have hWl : (ways k D'.w D'.l E (h0 + n) l).length ≤ l.length := List.length_filterMap_le _ _
  refine ⟨by show 0 ≤ sizeLine; decide, fun fl nfl => ?_⟩
  have s2 := same_new (o := .lst []) nfl
  have R2 := R1.same s2
  have hfl2 : upd H1 fl (.lst []) fl = some (.lst []) := upd_same
  generalize hH2 : upd H1 fl (.lst []) = H2 at s2 R2 hfl2
  generalize hw : ways k D'.w D'.l E (h0 + n) l = W at hW hWok hWl q
  obtain ⟨⟨dx, t, b, g1, g2, g3⟩, S2⟩ := id R2
  have nwf : wy ≠ fl := ne_of_none hwy nfl
  have hwy2 := s2 _ _ hwy
  have hW2 : Paired (WyI H2) ws W := Paired.imp (fun a b z => z.tk (same_tk s2)) hW
  have lws := Paired.len hW2
  have eE : (((E.map V.int).length : Nat) : Int) = (E.length : Int) := by rw [List.length_map]
  have emin : (if k < (((E.map V.int).length : Nat) : Int) then k else (((E.map V.int).length : Nat) : Int)) = ((min E.length k.toNat : Nat) : Int) := by
    rw [eE]
    have := RP.k1
    by_cases h : k < (E.length : Int)
    · rw [if_pos h]; omega
    · rw [if_neg h]; omega
  refine ⟨_, rfl, r, CR, dx, _, _, rfl, g1, T.clR, T.nR_begins, rsF_begins _ _ _ _ _ _, b, _, rfl, .inr (SqT.of g3), _, rfl, r, CR, dx, _, _, rfl, g1, T.clR, T.nR_most, rsF_most _ _ _ _ _ _, _, _, rfl, _, rfl, ?_⟩
  rw [emin]
  refine ⟨by omega, by omega, for_range (lo := 0) (n := min E.length k.toNat)
    (fun j σ H' => ∃ v4 v5 v6 v7 v8 v9 : Option V, σ = [some (.ref r), some (.int (h0 + n)), some (.ref wy), some (.ref fl), v4, v5, v6, v7, v8, v9] ∧ Kp [fl] H2 H' ∧
      ∃ bs : List Addr, H' fl = some (.lst (bs.map V.ref)) ∧ Paired (KnI H') bs ((List.range j).filterMap (wrOf D'.w D'.l E W (h0 + n))))
    ⟨none, none, none, none, none, none, rfl, Kp.refl _ _, [], hfl2, .nil⟩ ?_ ?_⟩
  · rintro j σ H' hj ⟨v4, v5, v6, v7, v8, v9, rfl, k', bs, hfl', hP⟩
    rw [Int.zero_add]
    have hjE : j < E.length := by omega
    have hx : E[j]? = some (E.getD j 0) := by rw [List.getD_eq_getElem?_getD, List.getElem?_eq_getElem hjE]; rfl
    generalize hgx : E.getD j 0 = x at hx
    have hx0 := RP.nn x (List.mem_of_getElem? hx)
    have hxl := RP.gd.lt x (List.mem_of_getElem? hx)
    have R' := R2.kpl hfl2 k'
    have tk' : Tk H2 H' := tk_list hfl2 k'
    obtain ⟨⟨dx', t', b', e1, e2, e3⟩, S'⟩ := id R'
    have hwy' := k' _ _ hwy2 (fun hm => nwf (List.mem_singleton.mp hm))
    have hW' : Paired (WyI H') ws W := Paired.imp (fun a b z => z.tk tk') hW2
    have lbs := Paired.len hP
    have lfm := List.length_filterMap_le (wrOf D'.w D'.l E W (h0 + n)) (List.range j)
    rw [List.length_range] at lfm
    have erange : (List.range (j + 1)).filterMap (wrOf D'.w D'.l E W (h0 + n)) = (List.range j).filterMap (wrOf D'.w D'.l E W (h0 + n)) ++ (wrOf D'.w D'.l E W (h0 + n) j).toList := by
      rw [List.range_succ, List.filterMap_append]
      cases h : wrOf D'.w D'.l E W (h0 + n) j with
      | none => rw [List.filterMap_cons_none h]; rfl
      | some v => rw [List.filterMap_cons_some h]; rfl
    refine ⟨_, rfl, wy, rfl, ⟨_, SqL.of hwy'⟩, fun Dl hD => lc_list (K := K) (a := wy) (xs := ws.map V.ref)
      (fun i H3 => Same H' H3 ∧ ∃ cs : List Addr, H3 Dl = some (.lst (cs.map V.ref)) ∧ Paired (PairI H3) cs (wsome (W.take i) j))
      ⟨same_new hD, [], upd_same, .nil⟩ (fun i H3 _ ⟨s3, _⟩ => SqL.of (s3 _ _ hwy')) ?_ ?_⟩
    · rintro i y H3 hy ⟨s3, cs, hcs, hcP⟩
      rw [List.getElem?_map] at hy
      cases ha : ws[i]? with
      | none => rw [ha] at hy; cases hy
      | some a =>
      rw [ha] at hy
      have ey : V.ref a = y := Option.some.inj hy
      subst ey
      have hia := (List.getElem?_eq_some_iff.mp ha).1
      have hel : W[i]? = some (W[i]'(by omega)) := List.getElem?_eq_getElem (by omega)
      obtain ⟨e, he⟩ : ∃ e, W[i]? = some e := ⟨_, hel⟩
      obtain ⟨te, hte1, hte2⟩ := Paired.at_ hW' ha he
      have etake := take_last he
      have lcs := Paired.len hcP
      have lwl := wsome_len (W.take i) j
      rw [List.length_take] at lwl
      refine ⟨a, _, rfl, SqT.of (s3 _ _ hte1), rfl, _, _, rfl, _, _, rfl, _, _, rfl, rfl, rfl, _, rfl, _, rfl, _, _, rfl, rfl, _, rfl, ite2 (fun g => ?_) (fun g => ?_)⟩
      · refine ⟨_, rfl, _, rfl, by show 2 ≤ sizeLine; decide, fun tp ntp => ?_⟩
        have s4 := same_new (o := .tup [.int e.c, .ref te]) ntp
        have hcs4 := s4 _ _ hcs
        refine ⟨_, hcs4, by rw [List.length_map]; exact small1000 (by omega), same_mut (s3.trans s4) hD, cs ++ [tp], ?_, ?_⟩
        · rw [upd_same, List.map_append]
          rfl
        · have tkl := tk_list (H' := upd (upd H3 tp (.tup [.int e.c, .ref te])) Dl (.lst (cs.map V.ref ++ [V.ref tp]))) hcs4 ((Kp.refl _ _).mut (.inl (List.mem_singleton.mpr rfl)))
          rw [← etake, wsome_snoc, if_pos (of_decide_eq_true g)]
          exact Paired.snoc ⟨te, tkl _ _ upd_same, (((hte2.tk (same_tk s3)).tk (same_tk s4)).tk tkl)⟩ (Paired.imp (fun a b z => ((z.tk (same_tk s4)).tk tkl)) hcP)
      · refine ⟨s3, cs, hcs, ?_⟩
        rw [← etake, wsome_snoc, if_neg (of_decide_eq_false (Bool.eq_false_iff.mpr g)), List.append_nil]
        exact hcP
    · rintro H3 ⟨s3, cs, hcs, hcP⟩
      rw [List.length_map, lws, List.take_length] at hcP
      have lcs := Paired.len hcP
      refine ⟨_, rfl, Dl, _, rfl, .inl (SqL.of hcs), _, _, rfl, rfl, _, rfl, ite2 (fun g => ?_) (fun g => ?_)⟩
      · have g1' : (0 : Int) < (((cs.map V.ref).length : Nat) : Int) := of_decide_eq_true g
        rw [List.length_map] at g1'
        have hne : wsome W j ≠ [] := fun e => by
          rw [e] at lcs
          rw [lcs] at g1'
          exact absurd g1' (by decide)
        have R3 := R'.same s3
        obtain ⟨⟨dx3, t3, b3, f1, f2, f3⟩, S3⟩ := id R3
        refine ⟨_, rfl, Dl, cs, wsome W j, rfl, SqL.of hcs, hcP, hne, fun pb pr hpb hpr hpm hpl => ?_⟩
        have epr := minP_eq hpm hpl
        obtain ⟨tp, hp1, hp2⟩ := hpr
        refine ⟨pb, _, rfl, SqT.of hp1, rfl, _, _, rfl, _, _, rfl, rfl, ?_⟩
        have hat : atI (E.map V.int) (j : Int) = some (V.int x) := atI_int (by omega) (by rw [List.getElem?_map, Int.toNat_natCast, hx]; rfl)
        refine ⟨_, rfl, r, CR, dx3, _, _, rfl, f1, T.clR, T.nR_task, rsF_task _ _ _ _ _ _, _, rfl, r, CR, dx3, _, _, rfl, f1, T.clR, T.nR_begins, rsF_begins _ _ _ _ _ _, _, rfl, b3, _, _, _, rfl, rfl, SqT.of f3, hat, _, rfl, t3, D', x, h0 + n, rfl, f2, hx0, by omega, by omega, ?_⟩
        refine ⟨_, rfl, r, dx3, _, rfl, f1, rsF_m1 _ _ _ _ _ _, _, rfl, _, _, rfl, rfl, _, rfl, _, rfl, r, kn, s, c, p, D', k, h0, E, begun, j + 1, h0 + n, h0 + n, rfl, R3, RP, by omega, by omega, by omega, by omega, fun H4 s4 => ⟨_, _, rfl, rfl, ?_⟩⟩
        rw [show (h0 + (n : Int) + 1 - (h0 + n)).toNat = 1 by omega]
        have hfl3 := s3 _ _ hfl'
        have hfl4 := s4 _ _ hfl3
        obtain ⟨w0, hw0, ew0⟩ := wsome_mem hpm
        obtain ⟨pw, _, lpw, epw, _⟩ := hWok.sound w0 hw0
        refine ⟨_, rfl, .inl ⟨rfl, _, SqL.of hfl4⟩, _, rfl, _, rfl, _, _, rfl, rfl, _, rfl, _, rfl, _, _, rfl, rfl, _, rfl, _, rfl, r, CR, dx3, _, _, rfl, s4 _ _ f1, T.clR, T.nR_begins, rsF_begins _ _ _ _ _ _, _, rfl, b3, _, _, _, rfl, rfl, SqT.of (s4 _ _ f3), hat, by show 1 ≤ sizeLine; decide, fun t1 nt1 => ?_⟩
        have s5 := same_new (o := .tup [.int x]) nt1
        refine catA_of (p := pr.2) (q := [x]) (s5 _ _ (s4 _ _ hp2)) upd_same (by rw [ew0, epw, List.length_append, lpw]; show _ + 1 ≤ 1000; omega) fun t5 H5 s6 ht5 => ?_
        refine ⟨by show 4 ≤ sizeLine; decide, fun tw ntw => ?_⟩
        have s7 := same_new (o := .tup [.int (h0 + n), .int ((j : Int) + 1), .int (pr.1 + (D'.w x (h0 + n) + eld D'.l (E.take (j + 1)) (h0 + n) 1)), .ref t5]) ntw
        have s37 := s4.trans (s5.trans (s6.trans s7))
        have hfl7 := s37 _ _ hfl3
        refine ⟨fl, _, _, rfl, rfl, hfl7, by rw [List.length_map]; exact small1000 (by omega), ?_⟩
        have tkl := tk_list (H' := upd (upd H5 tw (.tup [.int (h0 + n), .int ((j : Int) + 1), .int (pr.1 + (D'.w x (h0 + n) + eld D'.l (E.take (j + 1)) (h0 + n) 1)), .ref t5])) fl (.lst (bs.map V.ref ++ [V.ref tw]))) hfl7 ((Kp.refl _ _).mut (.inl (List.mem_singleton.mpr rfl)))
        refine ⟨_, _, _, _, _, _, rfl, (k'.trans (Kp.of (s3.trans s37))).mut (.inl (List.mem_singleton.mpr rfl)), bs ++ [tw], ?_, ?_⟩
        · rw [upd_same, List.map_append]
          rfl
        · have ew : wrOf D'.w D'.l E W (h0 + n) j = some ⟨h0 + n, j + 1, pr.1 + (D'.w x (h0 + n) + eld D'.l (E.take (j + 1)) (h0 + n) 1), pr.2 ++ [x]⟩ := by
            unfold wrOf
            rw [if_neg hne, hgx, ← epr]
          rw [erange, ew]
          exact Paired.snoc ⟨t5, tkl _ _ upd_same, (ht5.tk (same_tk s7)).tk tkl⟩ (Paired.imp (fun a b z => (z.tk (same_tk (s3.trans s37))).tk tkl) hP)
      · have ew : wrOf D'.w D'.l E W (h0 + n) j = none := by
          unfold wrOf
          rw [if_pos]
          cases hz : wsome W j with
          | nil => rfl
          | cons y ys =>
            exfalso
            apply g
            refine decide_eq_true ?_
            rw [List.length_map, lcs, hz, List.length_cons]
            omega
        refine ⟨_, _, _, _, _, _, rfl, k'.trans (Kp.of s3), bs, s3 _ _ hfl', ?_⟩
        rw [erange, ew, Option.toList_none, List.append_nil]
        exact Paired.imp (fun a b z => z.tk (same_tk s3)) hP
  · rintro σ H' ⟨v4, v5, v6, v7, v8, v9, rfl, k', bs, hfl', hP⟩
    have fl0 : H fl = none := k1.free nfl (S1.new nfl)
    exact ⟨_, rfl, q H' fl bs (kp_drop k1 ((Kp.of s2).trans (k'.mono fun b hb => by rw [List.mem_singleton.mp hb]; simp)) fl0) (S2.kpl hfl2 k') fl0 hfl' hP⟩
abbrev s_Rest_best : Stmt := inClass (top 38) 4
abbrev N_Rest_best : List Str := ["self", "hours", "hour", "many", "cost", "plan"]
theorem sc_Rest_best : FnScope N_Rest_best ["self"] (defScope s_Rest_best) := ⟨rfl, rfl, rfl, by decide +kernel, rfl, by decide +kernel, by decide +kernel⟩
theorem rd_best (D : MethAt K CR "best" "Rest.best" s_Rest_best ["self"]) (T : Txt K mg CT CS CR) (R_length_of : Rdy P w K mg base "length_of" ["task"] 1 (spLengthOf CT)) (R_ways_to : MRdy P w K mg base CR "ways_to" ["self", "hour"] 154 (spWays CT CS CR fm)) (R_written_at : MRdy P w K mg base CR "written_at" ["self", "hour"] 155 (spWritten CT CS CR fm)) :
    MRdy P w K mg base CR "best" ["self"] 156 (spBest CT CS CR fm) := by
  refine D.rdy sc_Rest_best (fun vs H Q E h => ?_) (fun f cdv A outer st H vs Q Ex hr h => ?_)
  · obtain ⟨r, kn, s, c, p, D', k, h0, E', begun, rfl, _⟩ := h; rfl
  obtain ⟨r, kn, s, c, p, D', k, h0, E, begun, rfl, R, RP, hkn, q⟩ := h
  have hN30 : D'.N ≤ 30 := by
    obtain ⟨⟨_, _, _, _, ⟨o, _⟩, _⟩, _⟩ := R
    exact o.le
  have hbl := RP.bl
  have hk30 := RP.k30
  have hel := RP.el
  have hlt := RP.lt
  refine ⟨_, (pss_cons (ps_set (i := 1) sc_Rest_best.nd rfl (Or.inl rfl) (pe_rdy R_length_of (hr.mono (by omega)) rfl (pa_cons (pe_fld (pv 0) rfl) pa_nil)))
    (pss_cons (ps_for PassesOwn.never rfl (pi_range2 rfl T.range (pa_cons (pe_fld (pv 0) rfl) (pa_cons (pv 1) pa_nil))) (pg_name (i := 2) sc_Rest_best.nd rfl (Or.inl rfl))
    (pss_one (ps_expr (pe_bm PySem.F.plainAttrs_list PySem.F.slot_list_extend PySem.F.type_list_extend mt_extend (pe_fld (pv 0) rfl) (pa_cons (pe_mrdy (pv 0) T.clR R_written_at (hr.mono (by omega)) (pa_cons (pv 2) pa_nil)) pa_nil)))))
    (pss_one (ps_ret (pe_callB (cr_minP rfl hr.units) rfl T.min (by decide +kernel) (pa_cons (pe_lc (own := [("many", 3), ("cost", 4), ("plan", 5)]) (g := gTup K 3 (gCons (gName 3) (gCons (gName 4) (gCons (gName 5) gNil)))) (tt := tYes) rfl sc_Rest_best.nd (pi_list (pe_mrdy (pv 0) T.clR R_ways_to (hr.mono (by omega)) (pa_cons (pv 1) pa_nil))) (blkOk_by (own := [("many", 3), ("cost", 4), ("plan", 5)]) (N := N_Rest_best) (sc := defScope s_Rest_best) (by decide +kernel)) (fun _ _ _ _ _ => (pg_tup rfl (pgs_cons (pg_name (i := 3) sc_Rest_best.nd rfl (Or.inl rfl)) (pgs_cons (pg_name (i := 4) sc_Rest_best.nd rfl (Or.inl rfl)) (pgs_cons (pg_name (i := 5) sc_Rest_best.nd rfl (Or.inl rfl)) pgs_nil))))) (fun _ _ _ _ _ => pts_nil) (fun _ _ _ _ _ => (pe_tup (pa_cons (pv 4) (pa_cons (pv 5) pa_nil))))) pa_nil)))))), ?_⟩
  obtain ⟨⟨dx0, t0, b0, z1, z2, z3⟩, S0⟩ := id R
  obtain ⟨as0, hkn0, hknP0⟩ := id hkn
  refine ⟨_, rfl, r, CR, dx0, _, _, rfl, z1, T.clR, T.nR_task, rsF_task _ _ _ _ _ _, t0, D', rfl, z2, ?_⟩
  refine ⟨_, rfl, r, CR, dx0, _, _, rfl, z1, T.clR, T.nR_first, rsF_first _ _ _ _ _ _, _, rfl, _, _, rfl, ⟨by omega, by omega, by omega, by omega⟩, for_range (lo := h0) (n := ((D'.N : Int) - h0).toNat)
    (fun j σ H' => ∃ v2 v3 v4 v5 : Option V, σ = [some (.ref r), some (.int (D'.N : Int)), v2, v3, v4, v5] ∧ Kp [c, p, kn] H H' ∧ SvAt CT CS fm D' H' s c p ∧ KnAt H' kn (knAt k D'.w D'.l E h0 begun j))
    ⟨none, none, none, none, rfl, Kp.refl _ _, S0, hkn⟩ ?_ ?_⟩
  · rintro j σ H' hj ⟨v2, v3, v4, v5, rfl, k', S', hk'⟩
    have R' := R.kp3 hkn0 k' S'
    obtain ⟨⟨dx', t', b', e1, e2, e3⟩, _⟩ := id R'
    obtain ⟨as, hkn1, hknP⟩ := id hk'
    have las := Paired.len hknP
    have lkn := knAt_lt (K := k) (W := D'.w) (L := D'.l) (E := E) (h0 := h0) (begun := begun) (n := j) (by omega) (by omega)
    refine ⟨_, rfl, r, CR, dx', _, _, rfl, e1, T.clR, T.nR_known, rsF_known _ _ _ _ _ _, .inl ⟨rfl, _, SqL.of hkn1⟩, _, rfl, r, dx', _, rfl, e1, rsF_m3 _ _ _ _ _ _, _, rfl,
      r, kn, s, c, p, D', k, h0, E, begun, j, knAt k D'.w D'.l E h0 begun j, rfl, R', RP, hk', kn_ok RP.k1 RP.gd j, by omega, by omega, fun H2 ql as2 k2 S2 ql0 hql hP2 => ?_⟩
    have hkn2 := k2 _ _ hkn1 (S'.out hkn1 fun kc z => by cases z)
    have lw := Paired.len hP2
    have lw2 : (wrote k D'.w D'.l E (ways k D'.w D'.l E (h0 + j) (knAt k D'.w D'.l E h0 begun j)) (h0 + j)).length ≤ 30 := by
      unfold wrote
      have z := List.length_filterMap_le (wrOf D'.w D'.l E (ways k D'.w D'.l E (h0 + j) (knAt k D'.w D'.l E h0 begun j)) (h0 + j)) (List.range (min E.length k.toNat))
      rw [List.length_range] at z
      omega
    refine ⟨kn, ql, _, _, rfl, rfl, hkn2, hql, by rw [List.length_map, List.length_map]; exact Nat.le_of_lt (small1000 (by omega)), ?_⟩
    have tkl := tk_list (H' := upd H2 kn (.lst (as.map V.ref ++ as2.map V.ref))) hkn2 ((Kp.refl _ _).mut (.inl (List.mem_singleton.mpr rfl)))
    refine ⟨_, _, _, _, rfl, (k'.trans (k2.mono mono2)).mut (.inl (by simp)), S2.setL hkn2, as ++ as2, ?_, ?_⟩
    · rw [upd_same, List.map_append]
    · exact Paired.app (Paired.imp (fun a b z => z.tk tkl) hP2) (Paired.imp (fun a b z => (z.tk (S'.tk k2)).tk tkl) hknP)
  · rintro σ H' ⟨v2, v3, v4, v5, rfl, k', S', hk'⟩
    have R' := R.kp3 hkn0 k' S'
    obtain ⟨⟨dx', t', b', e1, e2, e3⟩, _⟩ := id R'
    obtain ⟨m, hm⟩ : ∃ m, m = D'.N - begun.length := ⟨_, rfl⟩
    rw [show ((D'.N : Int) - h0).toNat = m by omega] at hk'
    rw [← hm] at q
    have eN : h0 + (m : Int) = (D'.N : Int) := by omega
    have lkn := knAt_lt (K := k) (W := D'.w) (L := D'.l) (E := E) (h0 := h0) (begun := begun) (n := m) (by omega) (by omega)
    have hrest := rest_best (W := D'.w) (L := D'.l) (E := E) (h0 := h0) (begun := begun) RP.k1 RP.gd m
    refine ⟨_, rfl, r, dx', _, rfl, e1, rsF_m2 _ _ _ _ _ _, _, rfl, r, kn, s, c, p, D', k, h0, E, begun, m, knAt k D'.w D'.l E h0 begun m, (by rw [eN]; rfl), R', RP, hk', kn_ok RP.k1 RP.gd m, by omega, by omega, fun H2 wy ws k2 S2 wy0 hwy hW => ?_⟩
    have hWl : (ways k D'.w D'.l E (h0 + m) (knAt k D'.w D'.l E h0 begun m)).length ≤ (knAt k D'.w D'.l E h0 begun m).length := List.length_filterMap_le _ _
    generalize ways k D'.w D'.l E (h0 + m) (knAt k D'.w D'.l E h0 begun m) = W at hW hWl hrest
    have lws := Paired.len hW
    refine ⟨wy, rfl, ⟨_, SqL.of hwy⟩, fun Dl hD => lc_list (K := K) (a := wy) (xs := ws.map V.ref)
      (fun i H3 => Same H2 H3 ∧ ∃ cs : List Addr, H3 Dl = some (.lst (cs.map V.ref)) ∧ Paired (PairI H3) cs ((W.take i).map fun w => (w.c, w.pl)))
      ⟨same_new hD, [], upd_same, .nil⟩ (fun i H3 _ ⟨s3, _⟩ => SqL.of (s3 _ _ hwy)) ?_ ?_⟩
    · rintro i y H3 hy ⟨s3, cs, hcs, hcP⟩
      rw [List.getElem?_map] at hy
      cases ha : ws[i]? with
      | none => rw [ha] at hy; cases hy
      | some a =>
      rw [ha] at hy
      have ey : V.ref a = y := Option.some.inj hy
      subst ey
      have hia := (List.getElem?_eq_some_iff.mp ha).1
      have hel : W[i]? = some (W[i]'(by omega)) := List.getElem?_eq_getElem (by omega)
      obtain ⟨e, he⟩ : ∃ e, W[i]? = some e := ⟨_, hel⟩
      obtain ⟨te, hte1, hte2⟩ := Paired.at_ hW ha he
      have etake := take_last he
      have lcs := Paired.len hcP
      rw [List.length_map, List.length_take] at lcs
      refine ⟨a, _, rfl, SqT.of (s3 _ _ hte1), rfl, _, _, rfl, _, _, rfl, _, _, rfl, rfl, rfl, ?_⟩
      refine ⟨_, rfl, _, rfl, by show 2 ≤ sizeLine; decide, fun tp ntp => ?_⟩
      have s4 := same_new (o := .tup [.int e.c, .ref te]) ntp
      have hcs4 := s4 _ _ hcs
      refine ⟨_, hcs4, by rw [List.length_map]; exact small1000 (by omega), same_mut (s3.trans s4) hD, cs ++ [tp], ?_, ?_⟩
      · rw [upd_same, List.map_append]
        rfl
      · have tkl := tk_list (H' := upd (upd H3 tp (.tup [.int e.c, .ref te])) Dl (.lst (cs.map V.ref ++ [V.ref tp]))) hcs4 ((Kp.refl _ _).mut (.inl (List.mem_singleton.mpr rfl)))
        rw [← etake, List.map_append]
        exact Paired.snoc ⟨te, tkl _ _ upd_same, (((hte2.tk (same_tk s3)).tk (same_tk s4)).tk tkl)⟩ (Paired.imp (fun a b z => ((z.tk (same_tk s4)).tk tkl)) hcP)
    · rintro H3 ⟨s3, cs, hcs, hcP⟩
      rw [List.length_map, lws, List.take_length] at hcP
      refine ⟨Dl, cs, _, rfl, SqL.of hcs, hcP, fun e => hrest.1 (List.map_eq_nil_iff.mp e), fun pb pr hpb hpr hpm hpl => ?_⟩
      exact q H3 pb pr (k'.trans ((k2.mono mono2).trans (Kp.of s3))) hpr (hrest.2 pr hpm hpl)
abbrev s_rest : Stmt := top 39
abbrev N_rest : List Str := ["task", "most", "begun"]
theorem sc_rest : FnScope N_rest ["task", "most", "begun"] (defScope s_rest) := ⟨rfl, rfl, rfl, by decide +kernel, rfl, by decide +kernel, by decide +kernel⟩
theorem rd_rest (D : DefAt K mg "rest" s_rest ["task", "most", "begun"]) (T : Txt K mg CT CS CR) (R_check_most : Rdy P w K mg base "check_most" ["most"] 4 spCheckMost) (R_check_begun : Rdy P w K mg base "check_begun" ["task", "thing"] 5 (spCheckBegun CT)) (R_Rest : CRdy P w K mg base "Rest" CR ["self", "task", "most", "begun"] 3 (spRestInit CT CS CR fm))
    (R_best : MRdy P w K mg base CR "best" ["self"] 156 (spBest CT CS CR fm)) :
    Rdy P w K mg base "rest" ["task", "most", "begun"] 157 (spRest CT) := by
  refine D.rdy sc_rest (fun vs H Q E h => ?_) (fun f cdv A outer st H vs Q E hr h => ?_)
  · obtain ⟨t, b, D', k, kk, begun, rfl, _⟩ := h; rfl
  obtain ⟨t, b, D', k, kk, begun, rfl, ht, hb, o, hl1, hl2, hk1, hk2, q⟩ := h
  have hN30 := ht.1.le
  refine ⟨_, (pss_cons (ps_expr (pe_rdy R_check_most (hr.mono (by omega)) rfl (pa_cons (pv 1) pa_nil)))
    (pss_cons (ps_expr (pe_rdy R_check_begun (hr.mono (by omega)) rfl (pa_cons (pv 0) (pa_cons (pv 2) pa_nil))))
    (pss_one (ps_ret (pe_mrdy0 (pe_crdy R_Rest (hr.mono (by omega)) rfl (pa_cons (pv 0) (pa_cons (pv 1) (pa_cons (pv 2) pa_nil)))) T.clR R_best (hr.mono (by omega))))))), ?_⟩
  refine ⟨_, rfl, k, rfl, hk1, hk2, ?_⟩
  refine ⟨_, rfl, _, rfl, t, b, D', begun, kk, rfl, ht, hb, o, hl1, hl2, fun H1 s1 => ?_⟩
  refine ⟨_, rfl, _, rfl, _, rfl, fun y dy ny ndy ney => ?_⟩
  have s2 : Same H1 (upd (upd H1 dy (.own y)) y (.ins CR dy [])) := (same_new ndy).trans (same_new (by rw [upd_ne ney.symm]; exact ny))
  have s12 := s1.trans s2
  refine ⟨y, dy, t, b, D', k, kk, begun, rfl, upd_same, ht.same s12, hb.tk (same_tk s12), o, hl1, hl2, hk1, hk2, fun H3 kn s c p k3' kn0 c0 p0 R3 hkn => ⟨rfl, ?_⟩⟩
  have s3 : Same H1 H3 := made_same ny ndy k3'
  obtain ⟨⟨dx3, t3, b3, f1, f2, f3⟩, S3⟩ := id R3
  have gd : Good (runs [] begun) (0 + (begun.length : Int)) := ok_good (Good.nil 0) o
  rw [Int.zero_add] at gd
  have rl := runs_len_le begun []
  have RP : RsP D' k begun.length (runs [] begun) begun := ⟨hk1, hk2, gd, fun z hz => runs_new o z hz, rfl, by omega, by rw [List.length_nil] at rl; omega⟩
  refine ⟨y, dx3, _, rfl, f1, rsF_m4 _ _ _ _ _ _, y, kn, s, c, p, D', k, begun.length, runs [] begun, begun, rfl, R3, RP, hkn, fun H4 qa pr k4 hpr hbest => ?_⟩
  obtain ⟨pp, e, hb'⟩ := hbest
  have s4 : Same H H4 := fun b o hb0 => by
    have h2 := s2 _ _ (s1 _ _ hb0)
    refine k4 _ _ (s3 _ _ (s1 _ _ hb0)) fun hm => ?_
    rcases List.mem_cons.mp hm with z | hm
    · rw [z, c0] at h2; cases h2
    · rcases List.mem_cons.mp hm with z | hm
      · rw [z, p0] at h2; cases h2
      · rw [List.mem_singleton.mp hm, kn0] at h2; cases h2
  refine q H4 qa pr.1 pp s4 ?_ hb'
  rw [← e]
  exact hpr
end
end Js

/-! JsL1: the law's own helpers: hand and draw. -/
namespace Js
open PySem PySem.Spec PyProof.Rows L2
/-- the hand: what is left of the cells, the place, the big one, the seed, the count -/
def HandAt (H : Hp) (hd ca : Addr) : Prop := ∃ (cells : List Int) (i big seed cnt : Int), H hd = some (.lst [.ref ca, .int i, .int big, .int seed, .int cnt]) ∧ H ca = some (.lst (cells.map V.int)) ∧ cells.length ≤ 63 ∧ (∀ x ∈ cells, 0 ≤ x) ∧ 0 ≤ i ∧ 0 ≤ big ∧ 0 ≤ seed ∧ seed < 2147483629 ∧ 0 ≤ cnt ∧ ca ≠ hd
theorem HandAt.same {H H' : Hp} {hd ca : Addr} (h : HandAt H hd ca) (s : Same H H') : HandAt H' hd ca := by
  obtain ⟨cells, i, big, seed, cnt, h1, h2, r⟩ := h
  exact ⟨cells, i, big, seed, cnt, s _ _ h1, s _ _ h2, r⟩
theorem seqI {ta tb : TS} {D : Ends} {σ : L2.St} {H : Hp} (I : L2.St → Hp → Prop) (h : ∀ nx : L2.St → Hp → Prop, (∀ σ H, I σ H → nx σ H) → ta { D with nx := nx } σ H) (h2 : ∀ σ' H', I σ' H' → tb D σ' H') : tSeq ta tb D σ H := h _ h2
theorem mod_in {a m : Int} (h : 0 < m) : 0 ≤ a % m ∧ a % m < m := ⟨Int.emod_nonneg _ (by omega), Int.emod_lt_of_pos _ h⟩
section
variable {P : Program} {w : World} {K : PySem.W.Frag} {mg : Str → Option Value} {base : Heap} {CT CS CR fm : Addr}
def spHand (K : PySem.W.Frag) : Sp := fun vs H Q _ => ∃ (a : Addr) (ns : List Int), vs = [.ref a] ∧ SqL K H a (ns.map V.int) ∧ ns.length ≤ 63 ∧
  ∀ H' hd ca, Same H H' → H hd = none → HandAt H' hd ca → Q (.ref hd) H'
def spDraw : Sp := fun vs H Q _ => ∃ (hd ca : Addr) (m : Int), vs = [.ref hd, .int m] ∧ HandAt H hd ca ∧ 1 ≤ m ∧ m ≤ 1000000001 ∧
  ∀ H' d, Kp [hd] H H' → HandAt H' hd ca → 0 ≤ d → d < m → Q (.int d) H'
abbrev s__law_hand : Stmt := top 41
abbrev N__law_hand : List Str := ["_law_script", "_law_cells", "_law_cell"]
theorem sc__law_hand : FnScope N__law_hand ["_law_script"] (defScope s__law_hand) := ⟨rfl, rfl, rfl, by decide +kernel, rfl, by decide +kernel, by decide +kernel⟩
theorem rd_law_hand (D : DefAt K mg "_law_hand" s__law_hand ["_law_script"]) (T : Txt K mg CT CS CR) : Rdy P w K mg base "_law_hand" ["_law_script"] 1 (spHand K) := by
  refine D.rdy sc__law_hand (fun vs H Q E h => ?_) (fun f cdv A outer st H vs Q E hr h => ?_)
  · obtain ⟨a, ns, rfl, _⟩ := h; rfl
  obtain ⟨a, ns, rfl, ha, hl, q⟩ := h
  refine ⟨_, (pss_cons (ps_setLc (i := 1) (own := [("_law_cell", 2)]) (g := gName 2) (tt := tYes) rfl sc__law_hand.nd rfl rfl (sw_true rfl rfl rfl (by decide +kernel)) (pi_list (pe_slice sl_list (pv 0) po_none (po_some pe_int))) (blkOk_by (own := [("_law_cell", 2)]) (N := N__law_hand) (sc := defScope s__law_hand) (by decide +kernel)) (fun _ _ _ _ _ => (pg_name (i := 2) sc__law_hand.nd rfl (Or.inl rfl))) (fun _ _ _ _ _ => pts_nil) (fun _ _ _ _ _ => (pe_callB call_abs rfl T.abs (by decide +kernel) (pa_cons (pe_callTy call_int1 rfl T.int (by decide +kernel) (pa_cons (pv 2) pa_nil)) pa_nil))))
    (pss_one (ps_ret (pe_lst (pa_cons (pv 1) (pa_cons pe_int (pa_cons pe_int (pa_cons (pe_op op_add pe_int (pe_callB call_len_seq rfl T.len PySem.boot_len (pa_cons (pv 1) pa_nil))) (pa_cons pe_int pa_nil))))))))), ?_⟩
  have ecut : ∃ ms : List Int, cutV (ns.map V.int) none (some 63) = ms.map V.int ∧ ms.length ≤ 63 := by
    refine ⟨ns.take 63, ?_, by rw [List.length_take]; omega⟩
    unfold cutV
    rw [HT.sIx_none, show (some (63 : Int)) = some ((63 : Nat) : Int) from rfl, HT.sIx_nat, List.drop_zero, Nat.sub_zero, List.length_map, ← List.map_take, Nat.min_eq_right hl]
    congr 1
    rw [List.take_of_length_le (Nat.le_refl _), List.take_of_length_le hl]
  obtain ⟨ms, ems, hms⟩ := ecut
  refine ⟨_, rfl, _, rfl, a, _, rfl, ha, fun b nb => ?_⟩
  rw [ems]
  have s1 := same_new (o := .lst (ms.map V.int)) nb
  have hb1 : upd H b (.lst (ms.map V.int)) b = some (.lst (ms.map V.int)) := upd_same
  generalize upd H b (.lst (ms.map V.int)) = H1 at s1 hb1
  refine ⟨b, rfl, ⟨_, SqL.of hb1⟩, fun Dl hD => lc_list (K := K) (a := b) (xs := ms.map V.int)
    (fun i H2 => Same H1 H2 ∧ H2 Dl = some (.lst (((ms.take i).map fun x => if x < 0 then -x else x).map V.int)))
    ⟨same_new hD, upd_same⟩ (fun i H2 _ ⟨s2, _⟩ => SqL.of (s2 _ _ hb1)) ?_ ?_⟩
  · rintro i y H2 hy ⟨s2, hl2⟩
    rw [List.getElem?_map] at hy
    cases hz : ms[i]? with
    | none => rw [hz] at hy; cases hy
    | some z =>
    rw [hz] at hy
    have ey : V.int z = y := Option.some.inj hy
    subst ey
    refine ⟨rfl, _, rfl, .inl ⟨_, rfl, _, rfl, ?_⟩⟩
    refine ⟨_, hl2, ?_, same_mut s2 hD, ?_⟩
    · rw [List.length_map, List.length_map, List.length_take]
      exact small1000 (by omega)
    · rw [upd_same, ← take_last hz, List.map_append, List.map_append]
      rfl
  · rintro H2 ⟨s2, hl2⟩
    rw [List.length_map, List.take_length] at hl2
    refine ⟨_, rfl, _, rfl, Dl, _, rfl, .inl (SqL.of hl2), _, _, rfl, rfl, by show 5 ≤ sizeLine; decide, fun hd nhd => ?_⟩
    have s3 := same_new (o := .lst [.ref Dl, .int 0, .int 0, .int (1 + (((ms.map fun x => if x < 0 then -x else x).map V.int).length : Nat)), .int 0]) nhd
    have s03 := s1.trans (s2.trans s3)
    have ne : Dl ≠ hd := ne_of_none hl2 nhd
    refine q _ hd Dl s03 (same_none (s1.trans s2) nhd) ⟨_, 0, 0, _, 0, upd_same, s3 _ _ hl2, ?_, ?_, by omega, by omega, by omega, ?_, by omega, ne⟩
    · rw [List.length_map]; exact hms
    · intro x hx
      obtain ⟨y, _, e⟩ := List.mem_map.mp hx
      rw [← e]
      by_cases h : y < 0
      · rw [if_pos h]; omega
      · rw [if_neg h]; omega
    · rw [List.length_map, List.length_map]; omega
abbrev s__law_draw : Stmt := top 42
abbrev N__law_draw : List Str := ["_law_hand_here", "_law_many", "_law_cell", "_law_digit", "_law_number"]
theorem sc__law_draw : FnScope N__law_draw ["_law_hand_here", "_law_many"] (defScope s__law_draw) := ⟨rfl, rfl, rfl, by decide +kernel, rfl, by decide +kernel, by decide +kernel⟩
theorem rd_law_draw (D : DefAt K mg "_law_draw" s__law_draw ["_law_hand_here", "_law_many"]) (T : Txt K mg CT CS CR) : Rdy P w K mg base "_law_draw" ["_law_hand_here", "_law_many"] 1 spDraw := by
  refine D.rdy sc__law_draw (fun vs H Q E h => ?_) (fun f cdv A outer st H vs Q E hr h => ?_)
  · obtain ⟨hd, ca, m, rfl, _⟩ := h; rfl
  obtain ⟨hd, ca, m, rfl, hh, hm1, hm2, q⟩ := h
  refine ⟨_, (pss_cons (ps_if (PW.pt (pw_and (pt_cmpR op_eq (pe_ix ix_list (pv 0) pe_int (fun _ _ => rfl)) pe_int (nomark _)) (pw_and1 (pt_cmpR op_lt (pe_ix ix_list (pv 0) pe_int (fun _ _ => rfl)) (pe_callB call_len_seq rfl T.len PySem.boot_len (pa_cons (pe_ix ix_list (pv 0) pe_int (fun _ _ => rfl)) pa_nil)) (nomark _)))))
    (pss_cons (ps_set (i := 2) sc__law_draw.nd rfl (Or.inl rfl) (pe_ix ix_list (pe_ix ix_list (pv 0) pe_int (fun _ _ => rfl)) (pe_ix ix_list (pv 0) pe_int (fun _ _ => rfl)) (fun _ _ => rfl)))
    (pss_cons (ps_asg (pe_op op_add (pe_ix ix_list (pv 0) pe_int (fun _ _ => rfl)) pe_int) (pg_sub (pv 0) pe_int set_list))
    (pss_cons (ps_asg (pe_op op_mod (pe_callTy call_int1 rfl T.int (by decide +kernel) (pa_cons (pe_op op_add (pe_op op_add (pe_op op_mul (pe_ix ix_list (pv 0) pe_int (fun _ _ => rfl)) pe_int) (pv 2)) pe_int) pa_nil)) pe_int) (pg_sub (pv 0) pe_int set_list))
    (pss_one (ps_if (pt_cmpR op_ge (pv 2) (pe_op op_pow pe_int pe_int) (nomark _))
    (pss_one (ps_asg (pv 2) (pg_sub (pv 0) pe_int set_list)))
    pss_nil)))))
    pss_nil)
    (pss_cons (ps_if (pt_cmpR op_gt (pe_ix ix_list (pv 0) pe_int (fun _ _ => rfl)) pe_int (nomark _))
    (pss_cons (ps_set (i := 3) sc__law_draw.nd rfl (Or.inl rfl) (pe_op op_mod (pe_callTy call_int1 rfl T.int (by decide +kernel) (pa_cons (pe_ix ix_list (pv 0) pe_int (fun _ _ => rfl)) pa_nil)) (pv 1)))
    (pss_cons (ps_asg (pe_op op_fdiv (pe_ix ix_list (pv 0) pe_int (fun _ _ => rfl)) (pv 1)) (pg_sub (pv 0) pe_int set_list))
    (pss_one (ps_ret (pv 3)))))
    pss_nil)
    (pss_cons (ps_asg (pe_op op_add (pe_ix ix_list (pv 0) pe_int (fun _ _ => rfl)) pe_int) (pg_sub (pv 0) pe_int set_list))
    (pss_cons (ps_set (i := 4) sc__law_draw.nd rfl (Or.inl rfl) (pe_op op_mod (pe_callTy call_int1 rfl T.int (by decide +kernel) (pa_cons (pe_op op_mul (pe_callTy call_int1 rfl T.int (by decide +kernel) (pa_cons (pe_op op_add (pe_ix ix_list (pv 0) pe_int (fun _ _ => rfl)) (pe_op op_mul pe_int (pe_ix ix_list (pv 0) pe_int (fun _ _ => rfl)))) pa_nil)) pe_int) pa_nil)) pe_int))
    (pss_cons (ps_set (i := 4) sc__law_draw.nd rfl (Or.inl rfl) (pe_op op_mod (pe_callTy call_int1 rfl T.int (by decide +kernel) (pa_cons (pe_op op_mul (pv 4) (pe_op op_add (pe_op op_fdiv (pv 4) pe_int) pe_int)) pa_nil)) pe_int))
    (pss_cons (ps_set (i := 4) sc__law_draw.nd rfl (Or.inl rfl) (pe_op op_mod (pe_callTy call_int1 rfl T.int (by decide +kernel) (pa_cons (pe_op op_mul (pv 4) (pe_op op_add (pe_op op_fdiv (pv 4) pe_int) pe_int)) pa_nil)) pe_int))
    (pss_one (ps_ret (pe_op op_mod (pe_callTy call_int1 rfl T.int (by decide +kernel) (pa_cons (pe_op op_fdiv (pv 4) pe_int) pa_nil)) (pv 1)))))))))), ?_⟩
  refine seqI (I := fun σ H' => ∃ v2 v3 v4 : Option V, σ = [some (.ref hd), some (.int m), v2, v3, v4] ∧ Kp [hd] H H' ∧ HandAt H' hd ca) (fun nx hnx => ?_) ?_
  · have hh' := hh
    obtain ⟨cells, i, big, seed, cnt, h1, h2, hl, hn, hi, hb, hs0, hs1, hc0, hne⟩ := hh
    refine ⟨_, rfl, hd, _, _, _, rfl, rfl, SqL.of h1, rfl, rfl, _, rfl, ite2 (fun g => ?_) (fun g => iteF (hnx _ _ ⟨_, _, _, rfl, Kp.refl _ _, hh'⟩))⟩
    refine ⟨_, rfl, hd, _, _, _, rfl, rfl, SqL.of h1, rfl, _, rfl, hd, _, _, _, rfl, rfl, SqL.of h1, rfl, ca, _, rfl, .inl (SqL.of h2), _, _, rfl, rfl, _, rfl, ite2 (fun g2 => ?_) (fun g2 => hnx _ _ ⟨_, _, _, rfl, Kp.refl _ _, hh'⟩)⟩
    have g2' : i < (((cells.map V.int).length : Nat) : Int) := of_decide_eq_true g2
    rw [List.length_map] at g2'
    have hil : i.toNat < cells.length := by omega
    obtain ⟨z, hz⟩ : ∃ z, cells[i.toNat]? = some z := ⟨_, List.getElem?_eq_getElem hil⟩
    have hz0 := hn z (List.mem_of_getElem? hz)
    refine ⟨_, rfl, hd, _, _, _, rfl, rfl, SqL.of h1, rfl, _, rfl, hd, _, _, _, rfl, rfl, SqL.of h1, rfl, ca, _, _, _, rfl, rfl, SqL.of h2, atI_int hi (by rw [List.getElem?_map, hz]; rfl), ?_⟩
    refine ⟨_, rfl, hd, _, _, _, rfl, rfl, SqL.of h1, rfl, _, _, rfl, rfl, _, rfl, hd, _, _, _, rfl, rfl, h1, rfl, ?_⟩
    generalize hH3 : upd H hd _ = H3
    have h3 : H3 hd = some (.lst [.ref ca, .int (i + 1), .int big, .int seed, .int cnt]) := by rw [← hH3]; exact upd_same
    have h4 : H3 ca = some (.lst (cells.map V.int)) := by rw [← hH3, upd_ne hne]; exact h2
    have k3 : Kp [hd] H H3 := by rw [← hH3]; exact (Kp.refl _ _).mut (.inl List.mem_cons_self)
    refine ⟨_, rfl, hd, _, _, _, rfl, rfl, SqL.of h3, rfl, _, _, rfl, rfl, .inr ⟨by omega, by omega⟩, _, rfl, _, _, rfl, rfl, _, _, rfl, rfl, .inl ⟨_, rfl, _, _, rfl, rfl, by omega, _, rfl, hd, _, _, _, rfl, rfl, h3, rfl, ?_⟩⟩
    have y := mod_in (a := seed * 69621 + z + 11) (m := 2147483629) (by omega)
    generalize hH5 : upd H3 hd _ = H5
    have h5 : H5 hd = some (.lst [.ref ca, .int (i + 1), .int big, .int ((seed * 69621 + z + 11) % 2147483629), .int cnt]) := by rw [← hH5]; exact upd_same
    have h6 : H5 ca = some (.lst (cells.map V.int)) := by rw [← hH5, upd_ne hne]; exact h4
    have k5 : Kp [hd] H H5 := by rw [← hH5]; exact k3.mut (.inl List.mem_cons_self)
    refine ⟨_, rfl, _, _, rfl, rfl, ⟨by omega, by omega, by decide⟩, _, _, rfl, rfl, _, rfl, ite2 (fun g3 => ?_) (fun g3 => hnx _ _ ⟨_, _, _, rfl, k5, cells, i + 1, big, _, cnt, h5, h6, hl, hn, by omega, hb, y.1, y.2, hc0, hne⟩)⟩
    refine ⟨_, rfl, _, rfl, hd, _, _, _, rfl, rfl, h5, rfl, hnx _ _ ⟨_, _, _, rfl, k5.mut (.inl List.mem_cons_self), cells, i + 1, z, _, cnt, upd_same, ?_, hl, hn, by omega, hz0, y.1, y.2, hc0, hne⟩⟩
    rw [upd_ne hne]; exact h6
  · rintro σ H1 ⟨v2, v3, v4, rfl, k1, cells, i, big, seed, cnt, h1, h2, hl, hn, hi, hb, hs0, hs1, hc0, hne⟩
    refine seqI (I := fun σ H' => σ = [some (.ref hd), some (.int m), v2, v3, v4] ∧ H' = H1) (fun nx hnx => ?_) ?_
    · refine ⟨_, rfl, hd, _, _, _, rfl, rfl, SqL.of h1, rfl, _, _, rfl, rfl, _, rfl, ite2 (fun g => ?_) (fun g => ?_)⟩
      · refine ⟨_, rfl, hd, _, _, _, rfl, rfl, SqL.of h1, rfl, .inl ⟨_, rfl, _, rfl, _, _, rfl, rfl, by omega, ?_⟩⟩
        refine ⟨_, rfl, hd, _, _, _, rfl, rfl, SqL.of h1, rfl, _, rfl, _, _, rfl, rfl, ⟨by omega, by omega⟩, _, rfl, hd, _, _, _, rfl, rfl, h1, rfl, ?_⟩
        have z := mod_in (a := big) (m := m) (by omega)
        refine ⟨_, rfl, q _ _ (k1.mut (.inl List.mem_cons_self)) ⟨cells, i, big / m, seed, cnt, upd_same, ?_, hl, hn, hi, Int.ediv_nonneg hb (by omega), hs0, hs1, hc0, hne⟩ z.1 z.2⟩
        rw [upd_ne hne]; exact h2
      · exact hnx _ _ ⟨rfl, rfl⟩
    · rintro σ H2 ⟨rfl, rfl⟩
      refine ⟨_, rfl, hd, _, _, _, rfl, rfl, SqL.of h1, rfl, _, _, rfl, rfl, _, rfl, hd, _, _, _, rfl, rfl, h1, rfl, ?_⟩
      generalize hH3 : upd H2 hd _ = H3
      have h3 : H3 hd = some (.lst [.ref ca, .int i, .int big, .int seed, .int (cnt + 1)]) := by rw [← hH3]; exact upd_same
      have h4 : H3 ca = some (.lst (cells.map V.int)) := by rw [← hH3, upd_ne hne]; exact h2
      have k3 : Kp [hd] H H3 := by rw [← hH3]; exact k1.mut (.inl List.mem_cons_self)
      have y1 := mod_in (a := (seed + 7919 * (cnt + 1)) * 48271) (m := 2147483647) (by omega)
      generalize hn1 : (seed + 7919 * (cnt + 1)) * 48271 % 2147483647 = n1 at y1
      have y2 := mod_in (a := n1 * (n1 / 1009 + 69621)) (m := 2147483647) (by omega)
      generalize hn2 : n1 * (n1 / 1009 + 69621) % 2147483647 = n2 at y2
      have y3 := mod_in (a := n2 * (n2 / 2003 + 40692)) (m := 2147483399) (by omega)
      generalize hn3 : n2 * (n2 / 2003 + 40692) % 2147483399 = n3 at y3
      have y4 := mod_in (a := n3 / 16) (m := m) (by omega)
      refine ⟨_, rfl, hd, _, _, _, rfl, rfl, SqL.of h3, rfl, _, rfl, hd, _, _, _, rfl, rfl, SqL.of h3, rfl, _, _, rfl, rfl, .inl ⟨by omega, by omega⟩, _, _, rfl, rfl, .inl ⟨_, rfl, _, _, rfl, rfl, .inr ⟨by omega, by omega⟩, .inl ⟨_, rfl, _, _, rfl, rfl, by omega, ?_⟩⟩⟩
      dsimp only
      rw [hn1]
      refine ⟨_, rfl, _, rfl, _, _, rfl, rfl, ⟨by omega, by omega⟩, _, _, rfl, rfl, _, _, rfl, rfl, .inl ⟨by omega, by omega⟩, .inl ⟨_, rfl, _, _, rfl, rfl, by omega, ?_⟩⟩
      dsimp only
      rw [hn2]
      refine ⟨_, rfl, _, rfl, _, _, rfl, rfl, ⟨by omega, by omega⟩, _, _, rfl, rfl, _, _, rfl, rfl, .inl ⟨by omega, by omega⟩, .inl ⟨_, rfl, _, _, rfl, rfl, by omega, ?_⟩⟩
      dsimp only
      rw [hn3]
      refine ⟨_, rfl, _, _, rfl, rfl, ⟨by omega, by omega⟩, .inl ⟨_, rfl, _, rfl, _, _, rfl, rfl, by omega, ?_⟩⟩
      exact q _ _ k3 ⟨cells, i, big, seed, cnt + 1, h3, h4, hl, hn, hi, hb, hs0, hs1, by omega, hne⟩ y4.1 y4.2
end
end Js

/-! JsL2: is, triangle, summed, prices. -/
namespace Js
open PySem PySem.Spec PyProof.Rows L2
/-- a triangle of numbers from 0 to mx -/
def TriAt (H : Hp) (q : Addr) (N : Nat) (mx : Int) (M : List (List Int)) : Prop := MatI H q M ∧ Tri N M ∧ ∀ r ∈ M, ∀ n ∈ r, 0 ≤ n ∧ n ≤ mx
theorem HandAt.tk {H H' : Hp} {hd ca : Addr} (h : HandAt H hd ca) (k : Kp [hd] H H') : Tk H H' := by
  obtain ⟨cells, i, big, seed, cnt, h1, _⟩ := h
  exact tk_list h1 k
theorem HandAt.ne {H : Hp} {hd ca b : Addr} (h : HandAt H hd ca) (n : H b = none) : b ≠ hd := fun e => by
  obtain ⟨cells, i, big, seed, cnt, h1, _⟩ := h
  rw [e, h1] at n
  cases n
theorem HandAt.nec {H : Hp} {hd ca b : Addr} (h : HandAt H hd ca) (n : H b = none) : b ≠ ca := fun e => by
  obtain ⟨cells, i, big, seed, cnt, h1, h2, _⟩ := h
  rw [e, h2] at n
  cases n
theorem HandAt.setL {H0 H : Hp} {hd ca b : Addr} {o : HO} (h : HandAt H hd ca) (h0 : HandAt H0 hd ca) (hb : H0 b = none) : HandAt (upd H b o) hd ca := by
  obtain ⟨cells, i, big, seed, cnt, h1, h2, r⟩ := h
  exact ⟨cells, i, big, seed, cnt, by rw [upd_ne (h0.ne hb).symm]; exact h1, by rw [upd_ne (h0.nec hb).symm]; exact h2, r⟩
theorem cut_ints (ns : List Int) (lo hi : Option Int) : ∃ ms : List Int, cutV (ns.map V.int) lo hi = ms.map V.int ∧ (∀ x ∈ ms, x ∈ ns) ∧ ms.length ≤ ns.length := by
  unfold cutV
  rw [← List.map_drop, ← List.map_take]
  refine ⟨_, rfl, fun x hx => List.mem_of_mem_drop (List.mem_of_mem_take hx), ?_⟩
  rw [List.length_take, List.length_drop]
  omega
theorem sum_in {b : Int} (hb : 0 ≤ b) : ∀ {ms : List Int}, (∀ x ∈ ms, 0 ≤ x ∧ x ≤ b) → 0 ≤ ms.sum ∧ ms.sum ≤ b * ms.length
  | [], _ => ⟨Int.le_refl _, by show (0 : Int) ≤ b * (0 : Nat); omega⟩
  | x :: ms, h => by
    have ih := sum_in hb fun y hy => h y (List.mem_cons_of_mem _ hy)
    have hx := h x List.mem_cons_self
    rw [List.sum_cons, List.length_cons, Int.natCast_add, Int.mul_add]
    omega
theorem TriAt.mono {H : Hp} {q : Addr} {N : Nat} {mx mx' : Int} {M : List (List Int)} (h : TriAt H q N mx M) (l : mx ≤ mx') : TriAt H q N mx' M := ⟨h.1, h.2.1, fun r hr n hn => ⟨(h.2.2 r hr n hn).1, Int.le_trans (h.2.2 r hr n hn).2 l⟩⟩
theorem TriAt.tk {H H' : Hp} {q : Addr} {N : Nat} {mx : Int} {M : List (List Int)} (h : TriAt H q N mx M) (s : Tk H H') : TriAt H' q N mx M := ⟨h.1.tk s, h.2.1, h.2.2⟩
theorem TriAt.same {H H' : Hp} {q : Addr} {N : Nat} {mx : Int} {M : List (List Int)} (h : TriAt H q N mx M) (s : Same H H') : TriAt H' q N mx M := h.tk (same_tk s)
/-- the rows of a triangle, one more -/
theorem tri_snoc {N i : Nat} {mx : Int} {M : List (List Int)} {ns : List Int} (hM1 : M.length = i) (hM2 : ∀ j r, M[j]? = some r → r.length + j = N) (hM3 : ∀ r ∈ M, ∀ n ∈ r, 0 ≤ n ∧ n ≤ mx) (h1 : ns.length + i = N) (h2 : ∀ n ∈ ns, 0 ≤ n ∧ n ≤ mx) :
    (M ++ [ns]).length = i + 1 ∧ (∀ j r, (M ++ [ns])[j]? = some r → r.length + j = N) ∧ ∀ r ∈ M ++ [ns], ∀ n ∈ r, 0 ≤ n ∧ n ≤ mx := by
  refine ⟨by rw [List.length_append, hM1]; rfl, ?_, ?_⟩
  · intro j r hr
    by_cases hj : j < M.length
    · rw [List.getElem?_append_left hj] at hr
      exact hM2 j r hr
    · rw [List.getElem?_append_right (by omega)] at hr
      cases hjj : j - M.length with
      | zero =>
        rw [hjj] at hr
        have e : ns = r := Option.some.inj hr
        rw [← e]
        omega
      | succ n => rw [hjj] at hr; simp at hr
  · intro r hr
    rcases List.mem_append.mp hr with z | z
    · exact hM3 r z
    · rw [List.mem_singleton.mp z]; exact h2
section
variable {P : Program} {w : World} {K : PySem.W.Frag} {mg : Str → Option Value} {base : Heap} {CT CS CR fm : Addr}
def spIs : Sp := fun vs H Q _ => ∃ i j : Int, vs = [.int i, .int j] ∧ ∀ H', Same H H' → Q (.bl (decide (i = j))) H'
def spTriangle : Sp := fun vs H Q _ => ∃ (hd ca : Addr) (N : Nat) (mx : Int), vs = [.ref hd, .int N, .int mx] ∧ HandAt H hd ca ∧ N ≤ 30 ∧ 0 ≤ mx ∧ mx ≤ 1000000000 ∧
  ∀ H' q M, Kp [hd] H H' → HandAt H' hd ca → TriAt H' q N mx M → Q (.ref q) H'
def spSummed : Sp := fun vs H Q _ => ∃ (s : Addr) (ns : List Int), vs = [.ref s] ∧ H s = some (.lst (ns.map V.int)) ∧ ns.length ≤ 30 ∧ (∀ n ∈ ns, 0 ≤ n ∧ n ≤ 5) ∧
  ∀ H' q M, Same H H' → TriAt H' q ns.length 1000000000 M → Q (.ref q) H'
def spPrices : Sp := fun vs H Q _ => ∃ (hd ca : Addr) (N : Nat), vs = [.ref hd, .int N] ∧ HandAt H hd ca ∧ N ≤ 30 ∧
  ∀ H' q a b W L, Kp [hd] H H' → HandAt H' hd ca → H' q = some (.tup [.ref a, .ref b]) → TriAt H' a N 1000000000 W → TriAt H' b N 1000000000 L → Q (.ref q) H'
abbrev s__law_is : Stmt := top 43
abbrev N__law_is : List Str := ["_law_got", "_law_due", "_law_one", "_law_two"]
theorem sc__law_is : FnScope N__law_is ["_law_got", "_law_due"] (defScope s__law_is) := ⟨rfl, rfl, rfl, by decide +kernel, rfl, by decide +kernel, by decide +kernel⟩
theorem rd_law_is (D : DefAt K mg "_law_is" s__law_is ["_law_got", "_law_due"]) (T : Txt K mg CT CS CR) : Rdy P w K mg base "_law_is" ["_law_got", "_law_due"] 2 spIs := by
  refine D.rdy sc__law_is (fun vs H Q E h => ?_) (fun f cdv A outer st H vs Q E hr h => ?_)
  · obtain ⟨i, j, rfl, _⟩ := h; rfl
  obtain ⟨i, j, rfl, q⟩ := h
  refine ⟨_, (pss_cons (ps_if (pt_val (pe_callB call_isiT rfl T.isinstance (by decide +kernel) (pa_cons (pv 1) (pa_cons (pe_tup (pa_cons (pe_bltn (v := .ty "tuple") rfl T.tuple (by decide +kernel) rfl) (pa_cons (pe_bltn (v := .ty "list") rfl T.list (by decide +kernel) rfl) pa_nil))) pa_nil))))
    pss_never
    pss_nil)
    (pss_one (ps_ret (pe_and (pe_cmpR op_eq (pe_callB cr_isA rfl T.isinstance (by decide +kernel) (pa_cons (pv 0) (pa_cons (pe_bltn (v := .ty "bool") rfl T.bool (by decide +kernel) rfl) pa_nil))) (pe_callB cr_isA rfl T.isinstance (by decide +kernel) (pa_cons (pv 1) (pa_cons (pe_bltn (v := .ty "bool") rfl T.bool (by decide +kernel) rfl) pa_nil))) (nomark _)) (pe_one (pe_cmpR op_eq (pv 0) (pv 1) (nomark _))))))), ?_⟩
  refine ⟨_, rfl, by show 2 ≤ sizeLine; decide, fun tp ntp => ?_⟩
  have s1 := same_new (o := .tup [.ty "tuple", .ty "list"]) ntp
  refine ⟨.int j, tp, _, .type "int", [.type "tuple", .type "list"], false, rfl, upd_same, .cons (.ty _) (.cons (.ty _) .nil), .base (.int j), kitAny_cons (kit_ty kit_it) (fun _ => kitAny_cons (kit_ty kit_il) (fun _ => rfl) (fun z => by cases z)) (fun z => by cases z), _, rfl, iteF ?_⟩
  refine ⟨_, rfl, _, _, _, rfl, .ib i, _, rfl, _, _, _, rfl, .ib j, rfl, ?_⟩
  have ed : decide (V.int i = V.int j) = decide (i = j) := by simp
  refine ⟨true, rfl, iteT ⟨_, rfl, _, rfl, rfl, ?_⟩⟩
  show Q (V.bl (decide (V.int i = V.int j))) _
  rw [ed]
  exact q _ s1
abbrev s__law_triangle : Stmt := top 44
abbrev N__law_triangle : List Str := ["_law_hand_here", "_law_hours", "_law_most", "_law_first", "_law_hour"]
theorem sc__law_triangle : FnScope N__law_triangle ["_law_hand_here", "_law_hours", "_law_most"] (defScope s__law_triangle) := ⟨rfl, rfl, rfl, by decide +kernel, rfl, by decide +kernel, by decide +kernel⟩
theorem rd_law_triangle (D : DefAt K mg "_law_triangle" s__law_triangle ["_law_hand_here", "_law_hours", "_law_most"]) (T : Txt K mg CT CS CR) (R_law_draw : Rdy P w K mg base "_law_draw" ["_law_hand_here", "_law_many"] 1 spDraw) : Rdy P w K mg base "_law_triangle" ["_law_hand_here", "_law_hours", "_law_most"] 2 spTriangle := by
  refine D.rdy sc__law_triangle (fun vs H Q E h => ?_) (fun f cdv A outer st H vs Q E hr h => ?_)
  · obtain ⟨hd, ca, N, mx, rfl, _⟩ := h; rfl
  obtain ⟨hd, ca, N, mx, rfl, hh, hN, hx0, hx1, q⟩ := h
  refine ⟨_, (pss_one (ps_ret (pe_callTy call_tuple_of rfl T.tuple (by decide +kernel) (pa_cons (pe_lc (own := [("_law_first", 3)]) (g := gName 3) (tt := tYes) rfl sc__law_triangle.nd (pi_range1 rfl T.range (pa_cons (pv 1) pa_nil)) (blkOk_by (own := [("_law_first", 3)]) (N := N__law_triangle) (sc := defScope s__law_triangle) (by decide +kernel)) (fun _ _ _ _ _ => (pg_name (i := 3) sc__law_triangle.nd rfl (Or.inl rfl))) (fun _ _ _ _ _ => pts_nil) (fun _ _ _ _ _ => (pe_callTy (r := rTupOf K) call_tuple_of rfl T.tuple (by decide +kernel) (pa_cons (pe_lc (own := [("_law_hour", 4)]) (g := gName 4) (tt := tYes) rfl sc__law_triangle.nd (pi_range2 rfl T.range (pa_cons (pv 3) (pa_cons (pv 1) pa_nil))) (blkOk_by (by kernel_rfl)) (fun _ _ _ _ _ => (pg_name (i := 4) sc__law_triangle.nd rfl (Or.inl rfl))) (fun _ _ _ _ _ => pts_nil) (fun _ _ _ _ _ => (pe_rdy R_law_draw (hr.mono (by omega)) rfl (pa_cons (pv 0) (pa_cons (pe_op op_add (pv 2) pe_int) pa_nil))))) pa_nil)))) pa_nil)))), ?_⟩
  refine ⟨_, rfl, _, rfl, by omega, by omega, fun Dl hD => lc_range (lo := 0) (n := N)
    (fun i H2 => Kp [hd] H H2 ∧ HandAt H2 hd ca ∧ ∃ (as : List Addr) (M : List (List Int)), H2 Dl = some (.lst (as.map V.ref)) ∧ Paired (TupI H2) as M ∧ M.length = i ∧ (∀ j r, M[j]? = some r → r.length + j = N) ∧ ∀ r ∈ M, ∀ n ∈ r, 0 ≤ n ∧ n ≤ mx)
    ⟨Kp.of (same_new hD), hh.same (same_new hD), [], [], upd_same, .nil, rfl, fun j r e => by simp at e, fun r e => by cases e⟩ ?_ ?_⟩
  · rintro i H2 hi ⟨k2, hh2, as, M, hl2, hP, hM1, hM2, hM3⟩
    rw [Int.zero_add]
    have las := Paired.len hP
    have neD : Dl ≠ hd := hh.ne hD
    refine ⟨rfl, _, rfl, _, rfl, (i : Int), (N : Int), rfl, ⟨by omega, by omega, by omega, by omega⟩, fun D2 hD2 => lc_range (lo := (i : Int)) (n := ((N : Int) - i).toNat)
      (fun j H3 => Kp [hd] H2 H3 ∧ HandAt H3 hd ca ∧ ∃ ns : List Int, H3 D2 = some (.lst (ns.map V.int)) ∧ ns.length = j ∧ ∀ n ∈ ns, 0 ≤ n ∧ n ≤ mx)
      ⟨Kp.of (same_new hD2), hh2.same (same_new hD2), [], upd_same, rfl, fun n e => by cases e⟩ ?_ ?_⟩
    · rintro j H3 hj ⟨k3, hh3, ns, hl3, hn1, hn2⟩
      refine ⟨rfl, _, rfl, _, rfl, _, _, rfl, rfl, hd, ca, mx + 1, rfl, hh3, by omega, by omega, fun H4 d k4 hh4 hd0 hd1 => ?_⟩
      have ne2 : D2 ≠ hd := hh2.ne hD2
      have hl4 := k4 _ _ hl3 (fun hm => ne2 (List.mem_singleton.mp hm))
      refine ⟨_, hl4, by rw [List.length_map]; exact small1000 (by omega), (k3.trans k4).mut (.inr hD2), hh4.setL hh2 hD2, ns ++ [d], ?_, by rw [List.length_append, hn1]; rfl, ?_⟩
      · rw [upd_same, List.map_append]; rfl
      · intro n hn
        rcases List.mem_append.mp hn with z | z
        · exact hn2 n z
        · rw [List.mem_singleton.mp z]; omega
    · rintro H3 ⟨k3, hh3, ns, hl3, hn1, hn2⟩
      refine ⟨D2, _, rfl, .inl ⟨SqL.of hl3, fun t nt => ?_⟩⟩
      have s4 := same_new (o := .tup (ns.map V.int)) nt
      have hl4 := s4 _ _ (k3 _ _ hl2 (fun hm => neD (List.mem_singleton.mp hm)))
      have tk4 : Tk H2 (upd H3 t (.tup (ns.map V.int))) := (hh2.tk k3).trans (same_tk s4)
      have tkl := tk_list (H' := upd (upd H3 t (.tup (ns.map V.int))) Dl (.lst (as.map V.ref ++ [V.ref t]))) hl4 ((Kp.refl _ _).mut (.inl (List.mem_singleton.mpr rfl)))
      refine ⟨_, hl4, by rw [List.length_map]; exact small1000 (by omega), (k2.trans (k3.trans (Kp.of s4))).mut (.inr hD), (hh3.same s4).setL hh hD, as ++ [t], M ++ [ns], ?_, Paired.snoc (show TupI _ t ns from tkl _ _ upd_same) (Paired.imp (fun a b z => (TupI.tk z tk4).tk tkl) hP), by rw [List.length_append, hM1]; rfl, ?_, ?_⟩
      · rw [upd_same, List.map_append]; rfl
      · intro j r hr
        by_cases hj : j < M.length
        · rw [List.getElem?_append_left hj] at hr
          exact hM2 j r hr
        · rw [List.getElem?_append_right (by omega)] at hr
          cases hjj : j - M.length with
          | zero =>
            rw [hjj] at hr
            have e : ns = r := Option.some.inj hr
            rw [← e, hn1]
            omega
          | succ n => rw [hjj] at hr; simp at hr
      · intro r hr
        rcases List.mem_append.mp hr with z | z
        · exact hM3 r z
        · rw [List.mem_singleton.mp z]; exact hn2
  · rintro H2 ⟨k2, hh2, as, M, hl2, hP, hM1, hM2, hM3⟩
    refine ⟨Dl, _, rfl, .inl ⟨SqL.of hl2, fun t nt => ?_⟩⟩
    have s3 := same_new (o := .tup (as.map V.ref)) nt
    exact q _ t M (k2.trans (Kp.of s3)) (hh2.same s3) ⟨⟨as, upd_same, Paired.imp (fun a b z => TupI.tk z (same_tk s3)) hP⟩, ⟨hM1, hM2⟩, hM3⟩
abbrev s__law_summed : Stmt := top 45
abbrev N__law_summed : List Str := ["_law_sizes", "_law_hours", "_law_first", "_law_hour"]
theorem sc__law_summed : FnScope N__law_summed ["_law_sizes"] (defScope s__law_summed) := ⟨rfl, rfl, rfl, by decide +kernel, rfl, by decide +kernel, by decide +kernel⟩
theorem rd_law_summed (D : DefAt K mg "_law_summed" s__law_summed ["_law_sizes"]) (T : Txt K mg CT CS CR) : Rdy P w K mg base "_law_summed" ["_law_sizes"] 1 spSummed := by
  refine D.rdy sc__law_summed (fun vs H Q E h => ?_) (fun f cdv A outer st H vs Q E hr h => ?_)
  · obtain ⟨sz, ns, rfl, _⟩ := h; rfl
  obtain ⟨sz, ns, rfl, hs, hN, hns, q⟩ := h
  refine ⟨_, (pss_cons (ps_set (i := 1) sc__law_summed.nd rfl (Or.inr rfl) (pe_callB call_len_seq rfl T.len PySem.boot_len (pa_cons (pv 0) pa_nil)))
    (pss_one (ps_ret (pe_callTy call_tuple_of rfl T.tuple (by decide +kernel) (pa_cons (pe_lc (own := [("_law_first", 2)]) (g := gName 2) (tt := tYes) rfl sc__law_summed.nd (pi_range1 rfl T.range (pa_cons (pv 1) pa_nil)) (blkOk_by (own := [("_law_first", 2)]) (N := N__law_summed) (sc := defScope s__law_summed) (by decide +kernel)) (fun _ _ _ _ _ => (pg_name (i := 2) sc__law_summed.nd rfl (Or.inr rfl))) (fun _ _ _ _ _ => pts_nil) (fun _ _ _ _ _ => (pe_callTy (r := rTupOf K) call_tuple_of rfl T.tuple (by decide +kernel) (pa_cons (pe_lc (own := [("_law_hour", 3)]) (g := gName 3) (tt := tYes) rfl sc__law_summed.nd (pi_range2 rfl T.range (pa_cons (pv 2) (pa_cons (pv 1) pa_nil))) (blkOk_by (by kernel_rfl)) (fun _ _ _ _ _ => (pg_name (i := 3) sc__law_summed.nd rfl (Or.inl rfl))) (fun _ _ _ _ _ => pts_nil) (fun _ _ _ _ _ => (pe_callB (r := rSum K) (cr_sum rfl) rfl T.sum (by decide +kernel) (pa_cons (pe_slice (r := rSlL K) sl_list (pv 0) (po_some (pv 2)) (po_some (pe_op op_add (pv 3) pe_int))) pa_nil)))) pa_nil)))) pa_nil))))), ?_⟩
  have el : (((ns.map V.int).length : Nat) : Int) = (ns.length : Int) := by rw [List.length_map]
  refine ⟨_, rfl, sz, _, rfl, .inl (SqL.of hs), ?_⟩
  rw [el]
  generalize hNn : ns.length = N at hN q
  refine ⟨_, rfl, _, rfl, by omega, by omega, fun Dl hD => lc_range (lo := 0) (n := N)
    (fun i H2 => Same H H2 ∧ ∃ (as : List Addr) (M : List (List Int)), H2 Dl = some (.lst (as.map V.ref)) ∧ Paired (TupI H2) as M ∧ M.length = i ∧ (∀ j r, M[j]? = some r → r.length + j = N) ∧ ∀ r ∈ M, ∀ n ∈ r, 0 ≤ n ∧ n ≤ 1000000000)
    ⟨same_new hD, [], [], upd_same, .nil, rfl, fun j r e => by simp at e, fun r e => by cases e⟩ ?_ ?_⟩
  · rintro i H2 hi ⟨s2, as, M, hl2, hP, hM1, hM2, hM3⟩
    rw [Int.zero_add]
    have las := Paired.len hP
    refine ⟨rfl, _, rfl, _, rfl, (i : Int), (N : Int), rfl, ⟨by omega, by omega, by omega, by omega⟩, fun D2 hD2 => lc_range (lo := (i : Int)) (n := ((N : Int) - i).toNat)
      (fun j H3 => Same H2 H3 ∧ ∃ rs : List Int, H3 D2 = some (.lst (rs.map V.int)) ∧ rs.length = j ∧ ∀ n ∈ rs, 0 ≤ n ∧ n ≤ 1000000000)
      ⟨same_new hD2, [], upd_same, rfl, fun n e => by cases e⟩ ?_ ?_⟩
    · rintro j H3 hj ⟨s3, rs, hl3, hn1, hn2⟩
      obtain ⟨ms, ems, hms1, hms2⟩ := cut_ints ns (some (i : Int)) (some ((i : Int) + j + 1))
      have hsum := sum_in (b := 5) (by omega) fun x hx => hns x (hms1 x hx)
      refine ⟨rfl, _, rfl, _, rfl, _, rfl, _, rfl, _, _, rfl, rfl, _, rfl, sz, _, rfl, SqL.of (s3 _ _ (s2 _ _ hs)), fun b nb => ?_⟩
      rw [ems]
      have s4 := same_new (o := .lst (ms.map V.int)) nb
      refine ⟨b, ms, rfl, SqL.of upd_same, ?_⟩
      have hl4 := s4 _ _ hl3
      refine ⟨_, hl4, by rw [List.length_map]; exact small1000 (by omega), same_mut (s3.trans s4) hD2, rs ++ [ms.sum], ?_, by rw [List.length_append, hn1]; rfl, ?_⟩
      · rw [upd_same, List.map_append]; rfl
      · intro n hn
        rcases List.mem_append.mp hn with z | z
        · exact hn2 n z
        · rw [List.mem_singleton.mp z]; omega
    · rintro H3 ⟨s3, rs, hl3, hn1, hn2⟩
      refine ⟨D2, _, rfl, .inl ⟨SqL.of hl3, fun t nt => ?_⟩⟩
      have s4 := s3.trans (same_new (o := .tup (rs.map V.int)) nt)
      have hl4 := s4 _ _ hl2
      have tkl := tk_list (H' := upd (upd H3 t (.tup (rs.map V.int))) Dl (.lst (as.map V.ref ++ [V.ref t]))) hl4 ((Kp.refl _ _).mut (.inl (List.mem_singleton.mpr rfl)))
      refine ⟨_, hl4, by rw [List.length_map]; exact small1000 (by omega), same_mut (s2.trans s4) hD, as ++ [t], M ++ [rs], ?_, Paired.snoc (show TupI _ t rs from tkl _ _ upd_same) (Paired.imp (fun a b z => (TupI.tk z (same_tk s4)).tk tkl) hP), tri_snoc hM1 hM2 hM3 (by omega) hn2⟩
      rw [upd_same, List.map_append]; rfl
  · rintro H2 ⟨s2, as, M, hl2, hP, hM1, hM2, hM3⟩
    refine ⟨Dl, _, rfl, .inl ⟨SqL.of hl2, fun t nt => ?_⟩⟩
    have s3 := same_new (o := .tup (as.map V.ref)) nt
    exact q _ t M (s2.trans s3) ⟨⟨as, upd_same, Paired.imp (fun a b z => TupI.tk z (same_tk s3)) hP⟩, ⟨hM1, hM2⟩, hM3⟩
abbrev s__law_prices : Stmt := top 46
abbrev N__law_prices : List Str := ["_law_hand_here", "_law_hours", "_law_kind", "_law_zeros", "_law_sizes", "_law_hour", "_law_most"]
theorem sc__law_prices : FnScope N__law_prices ["_law_hand_here", "_law_hours"] (defScope s__law_prices) := ⟨rfl, rfl, rfl, by decide +kernel, rfl, by decide +kernel, by decide +kernel⟩
theorem rd_law_prices (D : DefAt K mg "_law_prices" s__law_prices ["_law_hand_here", "_law_hours"]) (T : Txt K mg CT CS CR) (R_law_draw : Rdy P w K mg base "_law_draw" ["_law_hand_here", "_law_many"] 1 spDraw) (R_law_triangle : Rdy P w K mg base "_law_triangle" ["_law_hand_here", "_law_hours", "_law_most"] 2 spTriangle) (R_law_summed : Rdy P w K mg base "_law_summed" ["_law_sizes"] 1 spSummed) : Rdy P w K mg base "_law_prices" ["_law_hand_here", "_law_hours"] 3 spPrices := by
  refine D.rdy sc__law_prices (fun vs H Q E h => ?_) (fun f cdv A outer st H vs Q E hr h => ?_)
  · obtain ⟨hd, ca, N, rfl, _⟩ := h; rfl
  obtain ⟨hd, ca, N, rfl, hh, hN, q⟩ := h
  refine ⟨_, (pss_cons (ps_set (i := 2) sc__law_prices.nd rfl (Or.inl rfl) (pe_rdy R_law_draw (hr.mono (by omega)) rfl (pa_cons (pv 0) (pa_cons pe_int pa_nil))))
    (pss_cons (ps_if (pt_cmpR op_eq (pv 2) pe_int (nomark _))
    (pss_cons (ps_set (i := 3) sc__law_prices.nd rfl (Or.inl rfl) (pe_rdy R_law_triangle (hr.mono (by omega)) rfl (pa_cons (pv 0) (pa_cons (pv 1) (pa_cons pe_int pa_nil)))))
    (pss_one (ps_ret (pe_tup (pa_cons (pv 3) (pa_cons (pv 3) pa_nil))))))
    pss_nil)
    (pss_cons (ps_if (pt_cmpR op_lt (pv 2) pe_int (nomark _))
    (pss_cons (ps_setLc (i := 4) (own := [("_law_hour", 5)]) (g := gName 5) (tt := tYes) rfl sc__law_prices.nd rfl rfl (sw_true rfl rfl rfl (by decide +kernel)) (pi_range1 rfl T.range (pa_cons (pv 1) pa_nil)) (blkOk_by (own := [("_law_hour", 5)]) (N := N__law_prices) (sc := defScope s__law_prices) (by decide +kernel)) (fun _ _ _ _ _ => (pg_name (i := 5) sc__law_prices.nd rfl (Or.inl rfl))) (fun _ _ _ _ _ => pts_nil) (fun _ _ _ _ _ => (pe_rdy R_law_draw (hr.mono (by omega)) rfl (pa_cons (pv 0) (pa_cons pe_int pa_nil)))))
    (pss_one (ps_ret (pe_tup (pa_cons (pe_rdy R_law_summed (hr.mono (by omega)) rfl (pa_cons (pv 4) pa_nil)) (pa_cons (pe_rdy R_law_triangle (hr.mono (by omega)) rfl (pa_cons (pv 0) (pa_cons (pv 1) (pa_cons (pe_ix ix_list (pe_lst (pa_cons pe_int (pa_cons pe_int pa_nil))) (pe_op op_sub (pv 2) pe_int) (fun _ _ => rfl)) pa_nil)))) pa_nil))))))
    pss_nil)
    (pss_cons (ps_set (i := 6) sc__law_prices.nd rfl (Or.inl rfl) (pe_ix ix_list (pe_lst (pa_cons pe_int (pa_cons pe_int (pa_cons pe_int (pa_cons pe_int (pa_cons (pe_op op_pow pe_int pe_int) pa_nil)))))) (pe_op op_sub (pv 2) pe_int) (fun _ _ => rfl)))
    (pss_one (ps_ret (pe_tup (pa_cons (pe_rdy R_law_triangle (hr.mono (by omega)) rfl (pa_cons (pv 0) (pa_cons (pv 1) (pa_cons (pv 6) pa_nil)))) (pa_cons (pe_rdy R_law_triangle (hr.mono (by omega)) rfl (pa_cons (pv 0) (pa_cons (pv 1) (pa_cons (pe_ix ix_list (pe_lst (pa_cons pe_int (pa_cons pe_int (pa_cons pe_int (pa_cons pe_int (pa_cons (pe_op op_pow pe_int pe_int) pa_nil)))))) (pe_op op_sub (pv 2) pe_int) (fun _ _ => rfl)) pa_nil)))) pa_nil))))))))), ?_⟩
  refine ⟨_, rfl, hd, ca, 8, rfl, hh, by omega, by omega, fun H1 kd k1 hh1 hd0 hd1 => ?_⟩
  refine ⟨_, rfl, rfl, _, rfl, ite2 (fun g => ?_) (fun g => ?_)⟩
  · refine ⟨_, rfl, _, rfl, hd, ca, N, 0, rfl, hh1, hN, by omega, by omega, fun H2 z M k2 hh2 hM => ?_⟩
    refine ⟨_, rfl, _, rfl, by show 2 ≤ sizeLine; decide, fun t nt => ?_⟩
    have s3 := same_new (o := .tup [.ref z, .ref z]) nt
    have hM' := (hM.mono (mx' := 1000000000) (by omega)).same s3
    exact q _ t z z M M ((k1.trans k2).trans (Kp.of s3)) (hh2.same s3) upd_same hM' hM'
  have hk0 : kd ≠ 0 := fun e => g (by rw [e]; rfl)
  have fin : ∀ (H2 H3 H4 : Hp) (q1 q2 : Addr) (W L : List (List Int)), Kp [hd] H1 H2 → HandAt H3 hd ca → TriAt H2 q1 N 1000000000 W → Kp [hd] H2 H3 → Tk H2 H3 → TriAt H3 q2 N 1000000000 L → ∀ t, H3 t = none → Q (.ref t) (upd H3 t (.tup [.ref q1, .ref q2])) := fun H2 H3 H4 q1 q2 W L k2 hh3 hW k3 tk3 hL t nt => by
    have s4 := same_new (o := .tup [.ref q1, .ref q2]) nt
    exact q _ t q1 q2 W L ((k1.trans (k2.trans k3)).trans (Kp.of s4)) (hh3.same s4) upd_same ((hW.tk tk3).same s4) (hL.same s4)
  refine ⟨_, rfl, _, _, rfl, rfl, _, rfl, ite2 (fun g2 => ?_) (fun g2 => ?_)⟩
  · have hk3 : kd < 3 := of_decide_eq_true g2
    refine ⟨_, rfl, _, rfl, by omega, by omega, fun Dl hD => lc_range (lo := 0) (n := N)
      (fun i H2 => Kp [hd] H1 H2 ∧ HandAt H2 hd ca ∧ ∃ ns : List Int, H2 Dl = some (.lst (ns.map V.int)) ∧ ns.length = i ∧ ∀ n ∈ ns, 0 ≤ n ∧ n ≤ 5)
      ⟨Kp.of (same_new hD), hh1.same (same_new hD), [], upd_same, rfl, fun n e => by cases e⟩ ?_ ?_⟩
    · rintro i H2 hi ⟨k2, hh2, ns, hl2, hn1, hn2⟩
      refine ⟨rfl, _, rfl, hd, ca, 6, rfl, hh2, by omega, by omega, fun H4 d k4 hh4 hd0 hd1 => ?_⟩
      have hl4 := k4 _ _ hl2 (fun hm => hh1.ne hD (List.mem_singleton.mp hm))
      refine ⟨_, hl4, by rw [List.length_map]; exact small1000 (by omega), (k2.trans k4).mut (.inr hD), hh4.setL hh1 hD, ns ++ [d], ?_, by rw [List.length_append, hn1]; rfl, ?_⟩
      · rw [upd_same, List.map_append]; rfl
      · intro n hn
        rcases List.mem_append.mp hn with z | z
        · exact hn2 n z
        · rw [List.mem_singleton.mp z]; omega
    · rintro H2 ⟨k2, hh2, ns, hl2, hn1, hn2⟩
      have pick : ∃ v, atI [V.int 2, V.int 4] (kd - 1) = some (V.int v) ∧ 0 ≤ v ∧ v ≤ 1000000000 := by
        obtain rfl | rfl : kd = 1 ∨ kd = 2 := by omega
        · exact ⟨2, rfl, by omega, by omega⟩
        · exact ⟨4, rfl, by omega, by omega⟩
      obtain ⟨v, hv, hv0, hv1⟩ := pick
      refine ⟨_, rfl, Dl, ns, rfl, hl2, by omega, hn2, fun H3 q1 W s3 hW => ?_⟩
      rw [hn1] at hW
      refine ⟨_, rfl, _, rfl, by show 2 ≤ sizeLine; decide, fun tl ntl => ?_⟩
      have s4 := same_new (o := .lst [.int 2, .int 4]) ntl
      refine ⟨_, rfl, _, _, rfl, rfl, tl, _, _, _, rfl, rfl, SqL.of upd_same, hv, hd, ca, N, v, rfl, (hh2.same s3).same s4, hN, hv0, hv1, fun H5 q2 L k5 hh5 hL => ?_⟩
      exact ⟨by show 2 ≤ sizeLine; decide, fun t nt => fin H3 H5 H5 q1 q2 W L (k2.trans (Kp.of s3)) hh5 hW ((Kp.of s4).trans k5) ((same_tk s4).trans (((hh2.same s3).same s4).tk k5)) (hL.mono hv1) t nt⟩
  · have hk3 : ¬ kd < 3 := of_decide_eq_false (Bool.eq_false_iff.mpr g2)
    have pick1 : ∃ v, atI [V.int 1, V.int 3, V.int 9, V.int 60, V.int (10 ^ (9 : Int).toNat)] (kd - 3) = some (V.int v) ∧ 0 ≤ v ∧ v ≤ 1000000000 := by
      obtain rfl | rfl | rfl | rfl | rfl : kd = 3 ∨ kd = 4 ∨ kd = 5 ∨ kd = 6 ∨ kd = 7 := by omega
      · exact ⟨1, rfl, by omega, by omega⟩
      · exact ⟨3, rfl, by omega, by omega⟩
      · exact ⟨9, rfl, by omega, by omega⟩
      · exact ⟨60, rfl, by omega, by omega⟩
      · exact ⟨10 ^ (9 : Int).toNat, rfl, by decide, by decide⟩
    have pick2 : ∃ v, atI [V.int 1, V.int 2, V.int 9, V.int 20, V.int (10 ^ (9 : Int).toNat)] (kd - 3) = some (V.int v) ∧ 0 ≤ v ∧ v ≤ 1000000000 := by
      obtain rfl | rfl | rfl | rfl | rfl : kd = 3 ∨ kd = 4 ∨ kd = 5 ∨ kd = 6 ∨ kd = 7 := by omega
      · exact ⟨1, rfl, by omega, by omega⟩
      · exact ⟨2, rfl, by omega, by omega⟩
      · exact ⟨9, rfl, by omega, by omega⟩
      · exact ⟨20, rfl, by omega, by omega⟩
      · exact ⟨10 ^ (9 : Int).toNat, rfl, by decide, by decide⟩
    obtain ⟨v, hv, hv0, hv1⟩ := pick1
    obtain ⟨v2, hv2, hv20, hv21⟩ := pick2
    refine ⟨_, _, rfl, rfl, ⟨by omega, by omega, by decide⟩, by show 5 ≤ sizeLine; decide, fun tl ntl => ?_⟩
    have s2 := same_new (o := .lst [.int 1, .int 3, .int 9, .int 60, .int (10 ^ (9 : Int).toNat)]) ntl
    refine ⟨_, rfl, _, _, rfl, rfl, tl, _, _, _, rfl, rfl, SqL.of upd_same, hv, ?_⟩
    refine ⟨_, rfl, _, rfl, _, rfl, hd, ca, N, v, rfl, hh1.same s2, hN, hv0, hv1, fun H3 q1 W k3 hh3 hW => ?_⟩
    refine ⟨_, rfl, _, rfl, _, _, rfl, rfl, ⟨by omega, by omega, by decide⟩, by show 5 ≤ sizeLine; decide, fun tl2 ntl2 => ?_⟩
    have s4 := same_new (o := .lst [.int 1, .int 2, .int 9, .int 20, .int (10 ^ (9 : Int).toNat)]) ntl2
    refine ⟨_, rfl, _, _, rfl, rfl, tl2, _, _, _, rfl, rfl, SqL.of upd_same, hv2, hd, ca, N, v2, rfl, hh3.same s4, hN, hv20, hv21, fun H5 q2 L k5 hh5 hL => ?_⟩
    exact ⟨by show 2 ≤ sizeLine; decide, fun t nt => fin H3 H5 H5 q1 q2 W L ((Kp.of s2).trans k3) hh5 (hW.mono hv1) ((Kp.of s4).trans k5) ((same_tk s4).trans ((hh3.same s4).tk k5)) (hL.mono hv21) t nt⟩
end
end Js

/-! JsL3: begins, plan, hour_cost, later_cost, stands, goes_on. -/
namespace Js
open PySem PySem.Spec PyProof.Rows L2
/-! helpers -/
theorem slA_take {K : PySem.W.Frag} {H : Hp} {Q : VK} {a : Addr} {p : List Int} {j : Int} (h : TupI H a p) (hj : 0 ≤ j) (k : ∀ t H', Same H H' → TupI H' t (p.take j.toNat) → Q (.ref t) H') : rSlA K (.ref a) none (some j) H Q := by
  have e1 : HT.sIx (p.map V.int).length 0 none = 0 := HT.sIx_none _ _
  have e2 : HT.sIx (p.map V.int).length (p.map V.int).length (some j) = min j.toNat p.length := by
    rw [← Int.toNat_of_nonneg hj, HT.sIx_nat, List.length_map, Int.toNat_natCast]
  have e3 : cutV (p.map V.int) none (some j) = (p.take j.toNat).map V.int := by
    unfold cutV
    rw [e1, e2, List.drop_zero, Nat.sub_zero, ← List.map_take]
    congr 1
    by_cases c : j.toNat ≤ p.length
    · rw [Nat.min_eq_left c]
    · rw [Nat.min_eq_right (by omega), List.take_of_length_le (Nat.le_refl _), List.take_of_length_le (by omega)]
  refine ⟨a, _, rfl, SqT.of h, fun hw => ?_, fun hw t nt => ?_⟩
  · have h5 := hw.2
    rw [e2, List.length_map] at h5
    refine k a H (Same.refl H) ?_
    rw [List.take_of_length_le (by omega)]
    exact h
  · refine k t _ (same_new nt) ?_
    show upd H t _ t = _
    rw [upd_same]
    exact congrArg (fun z => some (HO.tup z)) e3
theorem last_at {S : List Int} {x : Int} : (nxt S x)[(nxt S x).length - 1]? = some x := by
  have h := nxt_last S x
  rw [List.getLast?_eq_getElem?] at h
  exact h
/-- a choice by its place -/
theorem pick_ok {S : List Int} {h x : Int} {d : Nat} (g : Good S h) (hx : (S ++ [h])[d]? = some x) : (x ∈ S ∨ x = h) ∧ nxt S x = (S ++ [h]).take (d + 1) := by
  by_cases c : d < S.length
  · rw [List.getElem?_append_left c] at hx
    refine ⟨.inl (List.mem_of_getElem? hx), ?_⟩
    rw [nxt_take g.asc hx, List.take_append_of_le_length (by omega)]
  · have hd := (List.getElem?_eq_some_iff.mp hx).1
    rw [List.length_append, List.length_singleton] at hd
    have e : d = S.length := by omega
    rw [e, List.getElem?_append_right (Nat.le_refl _), Nat.sub_self] at hx
    have ex : h = x := Option.some.inj hx
    subst ex
    refine ⟨.inr rfl, ?_⟩
    have z := nxt_hi (T := S) (R := []) (x := h) g.lt
    rw [List.append_nil] at z
    rw [z, List.take_of_length_le (by rw [List.length_append, List.length_singleton]; omega)]
    rfl
theorem can_ints : ∀ p : List Int, PyData.canLayAll0 (p.map PyData.int) = true
  | [] => by simp only [List.map_nil, PyData.canLayAll0]
  | x :: p => by simp only [List.map_cons, PyData.canLayAll0, PyData.canLay0, can_ints p, Bool.and_self]
theorem dep_ints : ∀ p : List Int, PyData.depthAll (p.map PyData.int) ≤ 1
  | [] => by simp [PyData.depthAll]
  | x :: p => by
    have := dep_ints p
    simp only [List.map_cons, PyData.depthAll, PyData.depth]
    omega
theorem can_tup (p : List Int) : (PyData.tuple (p.map PyData.int)).canLay0 = true := by simp only [PyData.canLay0, can_ints]
theorem can_pair (c : Int) (p : List Int) : (PyData.tuple [.int c, .tuple (p.map PyData.int)]).canLay0 = true := by simp only [PyData.canLay0, PyData.canLayAll0, can_ints, Bool.and_self]
theorem shaped_tup (p : List Int) : SeqAt.shaped (.tuple (p.map PyData.int)) = true := by
  have h : (PyData.tuple (p.map PyData.int)).depth ≤ 64 := by
    have := dep_ints p
    simp only [PyData.depth]
    omega
  unfold SeqAt.shaped
  rw [can_tup, decide_eq_true h]
  rfl
theorem shaped_pair (c : Int) (p : List Int) : SeqAt.shaped (.tuple [.int c, .tuple (p.map PyData.int)]) = true := by
  have h : (PyData.tuple [.int c, .tuple (p.map PyData.int)]).depth ≤ 64 := by
    have := dep_ints p
    simp only [PyData.depth, PyData.depthAll]
    omega
  unfold SeqAt.shaped
  rw [can_pair, decide_eq_true h]
  rfl
def spLPlan : Sp := fun vs H Q _ => ∃ (hd ca : Addr) (m : Nat) (k : Int), vs = [.ref hd, .int m, .int k] ∧ HandAt H hd ca ∧ m ≤ 30 ∧ 1 ≤ k ∧ k ≤ 30 ∧
  ∀ H' q p, Kp [hd] H H' → HandAt H' hd ca → TupI H' q p → ok k [] 0 p → p.length = m → Q (.ref q) H'
def spGoesOn : Sp := fun vs H Q _ => ∃ (hd ca b : Addr) (N : Nat) (k kk : Int) (begun : List Int), vs = [.ref hd, .ref b, .int N, .int k] ∧ HandAt H hd ca ∧ TupI H b begun ∧ ok kk [] 0 begun ∧ N ≤ 30 ∧ 1 ≤ begun.length ∧ begun.length ≤ N ∧ 1 ≤ k ∧ k ≤ 30 ∧
  ∀ H' q p, Kp [hd] H H' → HandAt H' hd ca → TupI H' q (begun ++ p) → ok k (runs [] begun) begun.length p → p.length = N - begun.length → Q (.ref q) H'
def spHourCost : Sp := fun vs H Q _ => ∃ (w l b : Addr) (D : TkD) (S : List Int) (x h : Int), vs = [.ref w, .ref l, .ref b, .int h] ∧ D.Ok ∧ MatI H w D.W ∧ MatI H l D.L ∧ TupI H b (nxt S x) ∧ (∀ y ∈ nxt S x, 0 ≤ y ∧ y ≤ h) ∧ (nxt S x).length ≤ 100 ∧ h < D.N ∧
  ∀ H', Same H H' → Q (.int (hc D.w D.l S x h)) H'
def spLaterCost : Sp := fun vs H Q _ => ∃ (w l b : Addr) (D : TkD) (p : List Int) (k : Int) (m : Nat), vs = [.ref w, .ref l, .ref b, .int m] ∧ D.Ok ∧ MatI H w D.W ∧ MatI H l D.L ∧ TupI H b p ∧ ok k [] 0 p ∧ m ≤ p.length ∧ p.length ≤ D.N ∧
  ∀ H', Same H H' → Q (.int (cst D.w D.l (runs [] (p.take m)) m (p.drop m))) H'
def spStands : Sp := fun vs H Q _ => ∃ (a b : Addr) (k kk : Int) (begun p : List Int), vs = [.ref a, .int k, .ref b] ∧ TupI H a (begun ++ p) ∧ TupI H b begun ∧ ok kk [] 0 begun ∧ ok k (runs [] begun) begun.length p ∧ (begun ++ p).length ≤ 30 ∧
  ∀ H', Same H H' → Q (.bl true) H'
section
variable {P : Program} {w : World} {K : PySem.W.Frag} {mg : Str → Option Value} {base : Heap} {CT CS CR fm : Addr}
abbrev s__law_begins : Stmt := top 47
abbrev N__law_begins : List Str := ["_law_plan_here", "_law_found", "_law_hour", "_law_begin", "_law_ahead", "_law_one"]
theorem sc__law_begins : FnScope N__law_begins ["_law_plan_here"] (defScope s__law_begins) := ⟨rfl, rfl, rfl, by decide +kernel, rfl, by decide +kernel, by decide +kernel⟩
theorem rd_law_begins (D : DefAt K mg "_law_begins" s__law_begins ["_law_plan_here"]) (T : Txt K mg CT CS CR) : Rdy P w K mg base "_law_begins" ["_law_plan_here"] 1 spBeginsBehind := by
  refine D.rdy sc__law_begins (fun vs H Q E h => ?_) (fun f cdv A outer st H vs Q E hr h => ?_)
  · obtain ⟨a, p, rfl, _⟩ := h; rfl
  obtain ⟨a, p, rfl, ha, hl, q⟩ := h
  refine ⟨_, (pss_cons (ps_set (i := 1) sc__law_begins.nd rfl (Or.inl rfl) (pe_lst pa_nil))
    (pss_cons (ps_for PassesOwn.never rfl (pi_enumT rfl T.enumerate (pa_cons (pv 0) pa_nil)) (pg_tup rfl (pgs_cons (pg_name (i := 2) sc__law_begins.nd rfl (Or.inl rfl)) (pgs_cons (pg_name (i := 3) sc__law_begins.nd rfl (Or.inr rfl)) pgs_nil)))
    (pss_cons (ps_set (i := 4) sc__law_begins.nd rfl (Or.inl rfl) (pe_ifExp (pt_cmpR op_gt (pv 2) pe_int (nomark _)) (pe_ix ix_list (pv 1) (pe_un un_neg pe_int) (fun _ _ => rfl)) (pe_tup pa_nil)))
    (pss_one (ps_expr (pe_bm PySem.F.plainAttrs_list PySem.F.slot_list_append PySem.F.type_list_append mt_append (pv 1) (pa_cons (pe_op op_catA (pe_callTy call_tuple_of rfl T.tuple (by decide +kernel) (pa_cons (pe_lc (own := [("_law_one", 5)]) (g := gName 5) rfl sc__law_begins.nd (pi_tup (pv 4)) (blkOk_by (own := [("_law_one", 5)]) (N := N__law_begins) (sc := defScope s__law_begins) (by decide +kernel)) (fun _ _ _ _ _ => (pg_name (i := 5) sc__law_begins.nd rfl (Or.inl rfl))) (fun _ _ _ _ _ => (pts_one (pt_cmpR op_lt (pv 5) (pv 3) (nomark _)))) (fun _ _ _ _ _ => (pv 5))) pa_nil)) (pe_tup (pa_cons (pv 3) pa_nil))) pa_nil))))))
    (pss_one (ps_ret (pv 1))))), ?_⟩
  refine ⟨by show 0 ≤ sizeLine; decide, fun fl nfl => ?_⟩
  refine ⟨_, rfl, a, _, rfl, SqT.of ((same_new nfl) _ _ ha), for_enumT (K := K) (a := a) (xs := p.map V.int) (fun i σ H' => ∃ (v2 v3 v4 v5 : Option V) (as : List Addr), σ = [some (.ref a), some (.ref fl), v2, v3, v4, v5] ∧ Same H H' ∧
      H' fl = some (.lst (as.map V.ref)) ∧ Paired (TupI H') as ((List.range i).map fun i => runs [] (p.take (i + 1))))
    ⟨none, none, none, none, [], rfl, same_new nfl, upd_same, .nil⟩ (fun i σ H' _ ⟨_, _, _, _, _, _, s1, _⟩ => SqT.of (s1 _ _ ha)) ?_ ?_⟩
  · rintro i x Ta σ H' hx ⟨v2, v3, v4, v5, as, rfl, s1, hfl, hP⟩ hTa
    rw [List.getElem?_map] at hx
    cases hz : p[i]? with
    | none => rw [hz] at hx; cases hx
    | some z =>
    rw [hz] at hx
    have ex : V.int z = x := Option.some.inj hx
    subst ex
    have hip := (List.getElem?_eq_some_iff.mp hz).1
    have hl2 := runs_len_le (p.take i) []
    rw [List.length_take] at hl2
    have las := Paired.len hP
    rw [List.length_map, List.length_range] at las
    have s2 : Same H' (upd H' Ta (.tup [.int (i : Nat), .int z])) := same_new hTa
    refine ⟨Ta, _, rfl, SqT.of upd_same, rfl, _, _, rfl, _, _, rfl, rfl, ?_⟩
    generalize upd H' Ta (.tup [.int (i : Nat), .int z]) = H2 at s2
    have hfl2 := s2 _ _ hfl
    refine seqI (I := fun σ H3 => ∃ ta, σ = [some (.ref a), some (.ref fl), some (.int (i : Nat)), some (.int z), some (.ref ta), v5] ∧ Same H2 H3 ∧ TupI H3 ta (runs [] (p.take i))) (fun nx hnx => ?_) ?_
    · refine ⟨_, rfl, _, _, rfl, rfl, _, rfl, ite2 (fun g => ?_) (fun g => ?_)⟩
      · have g' : (0 : Int) < (i : Int) := of_decide_eq_true g
        have hlast : i - 1 < as.length := by omega
        have hE : TupI H' as[i - 1] (runs [] (p.take i)) := Paired.at_ hP (List.getElem?_eq_getElem hlast) (by
          rw [List.getElem?_map, List.getElem?_range (by omega)]
          show some (runs [] (p.take (i - 1 + 1))) = _
          rw [show i - 1 + 1 = i by omega])
        exact ⟨_, rfl, _, rfl, fl, _, _, _, rfl, rfl, SqL.of hfl2, atI_neg1 (v := V.ref as[i - 1]) (by rw [List.length_map, List.getElem?_map, las, List.getElem?_eq_getElem hlast]; rfl), hnx _ _ ⟨_, rfl, Same.refl _, hE.tk (same_tk s2)⟩⟩
      · have g' : ¬ (0 : Int) < (i : Int) := of_decide_eq_false (Bool.eq_false_iff.mpr g)
        have e : i = 0 := by omega
        refine ⟨by show 0 ≤ sizeLine; decide, fun t nt => hnx _ _ ⟨t, rfl, same_new nt, ?_⟩⟩
        rw [e]
        exact upd_same
    · rintro σ H3 ⟨ta, rfl, s3, hta⟩
      have hfl3 := s3 _ _ hfl2
      generalize hS : runs [] (p.take i) = S at hta hl2
      refine ⟨_, rfl, .inl ⟨rfl, _, SqL.of hfl3⟩, _, rfl, ta, rfl, ⟨_, SqT.of hta⟩, fun Dl hD => lc_tup (K := K) (a := ta) (xs := S.map V.int) (fun i H' => Same H3 H' ∧ H' Dl = some (.lst (((S.take i).filter fun y => decide (y < z)).map V.int)))
        ⟨same_new hD, upd_same⟩ (fun i H' _ ⟨s', _⟩ => SqT.of (s' _ _ hta)) ?_ ?_⟩
      · rintro i' y H4 hy ⟨s', hl'⟩
        rw [List.getElem?_map] at hy
        cases hz2 : S[i']? with
        | none => rw [hz2] at hy; cases hy
        | some z2 =>
        rw [hz2] at hy
        have ey : V.int z2 = y := Option.some.inj hy
        subst ey
        have et := take_last hz2
        refine ⟨rfl, _, rfl, _, rfl, _, _, rfl, rfl, _, rfl, ite2 (fun g => ?_) (fun g => ?_)⟩
        · refine ⟨_, rfl, _, hl', ?_, same_mut s' hD, ?_⟩
          · have h3 := List.length_filter_le (fun y => decide (y < z)) (S.take i')
            rw [List.length_take] at h3
            rw [List.length_map]
            simp at hl2
            exact small1000 (by omega)
          · rw [upd_same, ← et, List.filter_append, List.filter_cons_of_pos (p := fun y => decide (y < z)) g, List.filter_nil, List.map_append]
            rfl
        · refine ⟨s', ?_⟩
          rw [← et, List.filter_append, List.filter_cons_of_neg (p := fun y => decide (y < z)) g, List.filter_nil, List.append_nil]
          exact hl'
      · rintro H4 ⟨s', hl'⟩
        rw [List.length_map, List.take_length] at hl'
        refine ⟨Dl, _, rfl, .inl ⟨SqL.of hl', fun t nt => ?_⟩⟩
        refine ⟨_, rfl, by show 1 ≤ sizeLine; decide, fun t2 nt2 => ?_⟩
        have h3 := List.length_filter_le (fun y => decide (y < z)) S
        refine catA_of (p := S.filter fun y => decide (y < z)) (q := [z]) ((same_new nt2) _ _ upd_same) upd_same (by simp at hl2; show _ + 1 ≤ 1000; omega) fun t3 H5 s5 ht3 => ?_
        have s35 : Same H3 H5 := s'.trans ((same_new nt).trans ((same_new nt2).trans s5))
        have hfl5 := s35 _ _ hfl3
        have tkl : Tk H5 (upd H5 fl (.lst (as.map V.ref ++ [V.ref t3]))) := tk_list hfl5 ((Kp.refl _ _).mut (.inl (List.mem_singleton.mpr rfl)))
        have s15 : Same H H5 := s1.trans (s2.trans (s3.trans s35))
        refine ⟨fl, _, _, rfl, rfl, hfl5, by rw [List.length_map]; exact small1000 (by omega), _, _, _, _, as ++ [t3], rfl, same_mut s15 nfl, ?_, ?_⟩
        · rw [upd_same, List.map_append]
          rfl
        · rw [List.range_succ, List.map_append]
          refine Paired.snoc ?_ (Paired.imp (fun a b z => (TupI.tk z (same_tk (s2.trans (s3.trans s35)))).tk tkl) hP)
          show TupI _ t3 (runs [] (p.take (i + 1)))
          rw [runs_take hz, hS]
          exact TupI.tk ht3 tkl
  · rintro σ H' ⟨v2, v3, v4, v5, as, rfl, s1, hfl, hP⟩
    rw [List.length_map] at hP
    exact ⟨_, rfl, q H' fl as s1 hfl hP⟩
abbrev s__law_plan : Stmt := top 48
abbrev N__law_plan : List Str := ["_law_hand_here", "_law_hours", "_law_most", "_law_found", "_law_begins_here", "_law_hour", "_law_stands_here", "_law_at"]
theorem sc__law_plan : FnScope N__law_plan ["_law_hand_here", "_law_hours", "_law_most"] (defScope s__law_plan) := ⟨rfl, rfl, rfl, by decide +kernel, rfl, by decide +kernel, by decide +kernel⟩
theorem rd_law_plan (D : DefAt K mg "_law_plan" s__law_plan ["_law_hand_here", "_law_hours", "_law_most"]) (T : Txt K mg CT CS CR) (R_law_draw : Rdy P w K mg base "_law_draw" ["_law_hand_here", "_law_many"] 1 spDraw) : Rdy P w K mg base "_law_plan" ["_law_hand_here", "_law_hours", "_law_most"] 2 spLPlan := by
  refine D.rdy sc__law_plan (fun vs H Q E h => ?_) (fun f cdv A outer st H vs Q E hr h => ?_)
  · obtain ⟨hd, ca, m, k, rfl, _⟩ := h; rfl
  obtain ⟨hd, ca, m, k, rfl, hh, hm, hk1, hk2, q⟩ := h
  refine ⟨_, (pss_cons (ps_set (i := 3) sc__law_plan.nd rfl (Or.inl rfl) (pe_tup pa_nil))
    (pss_cons (ps_set (i := 4) sc__law_plan.nd rfl (Or.inl rfl) (pe_tup pa_nil))
    (pss_cons (ps_for PassesOwn.never rfl (pi_range1 rfl T.range (pa_cons (pv 1) pa_nil)) (pg_name (i := 5) sc__law_plan.nd rfl (Or.inl rfl))
    (pss_cons (ps_set (i := 6) sc__law_plan.nd rfl (Or.inl rfl) (pe_op op_catA (pv 4) (pe_tup (pa_cons (pv 5) pa_nil))))
    (pss_cons (ps_set (i := 7) sc__law_plan.nd rfl (Or.inl rfl) (pe_rdy R_law_draw (hr.mono (by omega)) rfl (pa_cons (pv 0) (pa_cons (pe_callB (call_min2 rfl) rfl T.min (by decide +kernel) (pa_cons (pv 2) (pa_cons (pe_callB call_len_seq rfl T.len PySem.boot_len (pa_cons (pv 6) pa_nil)) pa_nil))) pa_nil))))
    (pss_cons (ps_set (i := 3) sc__law_plan.nd rfl (Or.inl rfl) (pe_op op_catA (pv 3) (pe_tup (pa_cons (pe_ix ix_tup (pv 6) (pv 7) (fun _ _ => rfl)) pa_nil))))
    (pss_one (ps_set (i := 4) sc__law_plan.nd rfl (Or.inl rfl) (pe_slice sl_tupA (pv 6) po_none (po_some (pe_op op_add (pv 7) pe_int)))))))))
    (pss_one (ps_ret (pv 3)))))), ?_⟩
  refine ⟨by show 0 ≤ sizeLine; decide, fun t0 nt0 => ?_⟩
  refine ⟨by show 0 ≤ sizeLine; decide, fun t1 nt1 => ?_⟩
  have s01 := (same_new (o := .tup []) nt0).trans (same_new (o := .tup []) nt1)
  have h0 : TupI (upd (upd H t0 (.tup [])) t1 (.tup [])) t0 [] := (same_new (o := .tup []) nt1) _ _ upd_same
  refine ⟨_, rfl, _, rfl, by omega, by omega, for_range (lo := 0) (n := m)
    (fun i σ H' => ∃ (f bb : Addr) (v5 v6 v7 : Option V) (p : List Int), σ = [some (.ref hd), some (.int m), some (.int k), some (.ref f), some (.ref bb), v5, v6, v7] ∧ Kp [hd] H H' ∧ HandAt H' hd ca ∧ TupI H' f p ∧ TupI H' bb (runs [] p) ∧ ok k [] 0 p ∧ p.length = i)
    ⟨t0, t1, none, none, none, [], rfl, Kp.of s01, hh.same s01, h0, upd_same, trivial, rfl⟩ ?_ ?_⟩
  · rintro i σ H' hi ⟨f, bb, v5, v6, v7, p, rfl, k', hh', hf, hbb, o, hp⟩
    rw [Int.zero_add]
    have gd : Good (runs [] p) (0 + (p.length : Int)) := ok_good (Good.nil 0) o
    rw [Int.zero_add, hp] at gd
    have hl2 := runs_len_le p []
    simp at hl2
    refine ⟨_, rfl, _, rfl, by show 1 ≤ sizeLine; decide, fun a1 na1 => ?_⟩
    have s2 := same_new (o := .tup [.int (i : Int)]) na1
    refine catA_of (p := runs [] p) (q := [(i : Int)]) (s2 _ _ hbb) upd_same (by show _ + 1 ≤ 1000; omega) fun ts H3 s3 hts => ?_
    have s23 := s2.trans s3
    have els : ((((runs [] p ++ [(i : Int)]).map V.int).length : Nat) : Int) = ((runs [] p).length : Int) + 1 := by rw [List.length_map, List.length_append]; rfl
    refine ⟨_, rfl, _, rfl, _, rfl, ts, _, rfl, .inr (SqT.of hts), _, _, rfl, ?_⟩
    rw [els]
    refine ⟨hd, ca, _, rfl, hh'.same s23, by split <;> omega, by split <;> omega, fun H4 d k4 hh4 hd0 hd1 => ?_⟩
    have hdk : d < k ∧ d < ((runs [] p).length : Int) + 1 := by
      split at hd1 <;> omega
    have hdn : d.toNat < (runs [] p ++ [(i : Int)]).length := by rw [List.length_append, List.length_singleton]; omega
    obtain ⟨x, hx⟩ : ∃ x, (runs [] p ++ [(i : Int)])[d.toNat]? = some x := ⟨_, List.getElem?_eq_getElem hdn⟩
    obtain ⟨px, pn⟩ := pick_ok gd hx
    have tk4 : Tk H' H4 := (same_tk s23).trans ((hh'.same s23).tk k4)
    have hts4 : TupI H4 ts (runs [] p ++ [(i : Int)]) := TupI.tk hts ((hh'.same s23).tk k4)
    have hat : atI ((runs [] p ++ [(i : Int)]).map V.int) d = some (V.int x) := atI_int hd0 (by rw [List.getElem?_map, hx]; rfl)
    refine ⟨_, rfl, _, rfl, _, rfl, ts, _, _, _, rfl, rfl, SqT.of hts4, hat, by show 1 ≤ sizeLine; decide, fun a5 na5 => ?_⟩
    have s5 := same_new (o := .tup [.int x]) na5
    refine catA_of (p := p) (q := [x]) (s5 _ _ (TupI.tk hf tk4)) upd_same (by show _ + 1 ≤ 1000; omega) fun f6 H6 s6 hf6 => ?_
    have s56 := s5.trans s6
    refine ⟨_, rfl, _, rfl, _, _, rfl, rfl, _, rfl, slA_take (s56 _ _ hts4) (by omega) fun b7 H7 s7 hb7 => ?_⟩
    have s57 := s56.trans s7
    refine ⟨f6, b7, _, _, _, p ++ [x], rfl, (k'.trans (Kp.of s23)).trans (k4.trans (Kp.of s57)), hh4.same s57, TupI.tk hf6 (same_tk s7), ?_, ok_snoc.mpr ⟨o, by rw [Int.zero_add, hp]; exact px, ?_⟩, by rw [List.length_append, hp]; rfl⟩
    · rw [runs_snoc, pn, ← show (d + 1).toNat = d.toNat + 1 by omega]
      exact hb7
    · rw [pn, List.length_take]
      omega
  · rintro σ H' ⟨f, bb, v5, v6, v7, p, rfl, k', hh', hf, hbb, o, hp⟩
    exact ⟨_, rfl, q H' f p k' hh' hf o hp⟩
abbrev s__law_hour_cost : Stmt := top 49
abbrev N__law_hour_cost : List Str := ["_law_writes", "_law_looks", "_law_begins_here", "_law_hour", "_law_one"]
theorem sc__law_hour_cost : FnScope N__law_hour_cost ["_law_writes", "_law_looks", "_law_begins_here", "_law_hour"] (defScope s__law_hour_cost) := ⟨rfl, rfl, rfl, by decide +kernel, rfl, by decide +kernel, by decide +kernel⟩
theorem rd_law_hour_cost (D : DefAt K mg "_law_hour_cost" s__law_hour_cost ["_law_writes", "_law_looks", "_law_begins_here", "_law_hour"]) (T : Txt K mg CT CS CR) : Rdy P w K mg base "_law_hour_cost" ["_law_writes", "_law_looks", "_law_begins_here", "_law_hour"] 1 spHourCost := by
  refine D.rdy sc__law_hour_cost (fun vs H Q E h => ?_) (fun f cdv A outer st H vs Q E hr h => ?_)
  · obtain ⟨w', l, b, D', S, x, hh, rfl, _⟩ := h; rfl
  obtain ⟨w', l, b, D', S, x, hh, rfl, ok', hw, hl, hb, hbd, hlen, hN, q⟩ := h
  refine ⟨_, (pss_one (ps_ret (pe_op op_add (pe_ix ix_tup (pe_ix ix_tup (pv 0) (pe_ix ix_tup (pv 2) (pe_un un_neg pe_int) (fun _ _ => rfl)) (fun _ _ => rfl)) (pe_op op_sub (pv 3) (pe_ix ix_tup (pv 2) (pe_un un_neg pe_int) (fun _ _ => rfl))) (fun _ _ => rfl)) (pe_callB (cr_sum rfl) rfl T.sum (by decide +kernel) (pa_cons (pe_lc (own := [("_law_one", 4)]) (g := gName 4) (tt := tYes) rfl sc__law_hour_cost.nd (pi_tup (pv 2)) (blkOk_by (own := [("_law_one", 4)]) (N := N__law_hour_cost) (sc := defScope s__law_hour_cost) (by decide +kernel)) (fun _ _ _ _ _ => (pg_name (i := 4) sc__law_hour_cost.nd rfl (Or.inl rfl))) (fun _ _ _ _ _ => pts_nil) (fun _ _ _ _ _ => (pe_ix (r := rIxT K) ix_tup (pe_ix (r := rIxT K) ix_tup (pv 1) (pv 4) (fun _ _ => rfl)) (pe_op op_sub (pv 3) (pv 4)) (fun _ _ => rfl)))) pa_nil))))), ?_⟩
  have hlast : atI ((nxt S x).map V.int) (-1) = some (V.int x) := atI_neg1 (by rw [List.length_map, List.getElem?_map, last_at]; rfl)
  have hx := hbd x (mem_nxt.mpr (.inr rfl))
  obtain ⟨rw1, hr1, hr2⟩ := ok'.w.at_ hx.1 hx.2 hN
  obtain ⟨xs1, c1, z1, z2, z3⟩ := hw.row hx.1 hr1
  refine ⟨_, rfl, _, rfl, _, rfl, b, _, _, _, rfl, rfl, SqT.of hb, hlast, w', _, _, _, rfl, rfl, SqT.of z1, z2, _, rfl, _, rfl, _, rfl, b, _, _, _, rfl, rfl, SqT.of hb, hlast, _, _, rfl, rfl, c1, _, _, _, rfl, rfl, SqT.of z3, atI_int (v := V.int (D'.w x hh)) (by omega) (by rw [List.getElem?_map, hr2]; rfl), ?_⟩
  refine ⟨_, rfl, b, rfl, ⟨_, SqT.of hb⟩, fun Dl hD => lc_tup (K := K) (a := b) (xs := (nxt S x).map V.int) (fun i H' => Same H H' ∧ H' Dl = some (.lst ((((nxt S x).take i).map fun e => D'.l e hh).map V.int)))
    ⟨same_new hD, upd_same⟩ (fun i H' _ ⟨s', _⟩ => SqT.of (s' _ _ hb)) ?_ ?_⟩
  · rintro i y H' hy ⟨s', hl'⟩
    rw [List.getElem?_map] at hy
    cases hz : (nxt S x)[i]? with
    | none => rw [hz] at hy; cases hy
    | some z =>
    rw [hz] at hy
    have ey : V.int z = y := Option.some.inj hy
    subst ey
    have hzb := hbd z (List.mem_of_getElem? hz)
    have hip := (List.getElem?_eq_some_iff.mp hz).1
    obtain ⟨rl, gr1, gr2⟩ := ok'.l.at_ hzb.1 hzb.2 hN
    obtain ⟨xs2, c2, y1, y2, y3⟩ := (hl.tk (same_tk s')).row hzb.1 gr1
    refine ⟨rfl, _, rfl, _, rfl, l, _, _, _, rfl, rfl, SqT.of y1, y2, _, rfl, _, rfl, _, _, rfl, rfl, c2, _, _, _, rfl, rfl, SqT.of y3, atI_int (v := V.int (D'.l z hh)) (by omega) (by rw [List.getElem?_map, gr2]; rfl), ?_⟩
    refine ⟨_, hl', ?_, same_mut s' hD, ?_⟩
    · rw [List.length_map, List.length_map, List.length_take]
      exact small1000 (by omega)
    · rw [upd_same, ← take_last hz, List.map_append, List.map_append]
      rfl
  · rintro H' ⟨s', hl'⟩
    rw [List.length_map, List.take_length] at hl'
    exact ⟨Dl, _, rfl, SqL.of hl', _, _, rfl, rfl, q H' s'⟩
abbrev s__law_later_cost : Stmt := top 50
abbrev N__law_later_cost : List Str := ["_law_writes", "_law_looks", "_law_plan_here", "_law_many", "_law_standing", "_law_hour"]
theorem sc__law_later_cost : FnScope N__law_later_cost ["_law_writes", "_law_looks", "_law_plan_here", "_law_many"] (defScope s__law_later_cost) := ⟨rfl, rfl, rfl, by decide +kernel, rfl, by decide +kernel, by decide +kernel⟩
theorem rd_law_later_cost (D : DefAt K mg "_law_later_cost" s__law_later_cost ["_law_writes", "_law_looks", "_law_plan_here", "_law_many"]) (T : Txt K mg CT CS CR) (R_law_begins : Rdy P w K mg base "_law_begins" ["_law_plan_here"] 1 spBeginsBehind) (R_law_hour_cost : Rdy P w K mg base "_law_hour_cost" ["_law_writes", "_law_looks", "_law_begins_here", "_law_hour"] 1 spHourCost) : Rdy P w K mg base "_law_later_cost" ["_law_writes", "_law_looks", "_law_plan_here", "_law_many"] 2 spLaterCost := by
  refine D.rdy sc__law_later_cost (fun vs H Q E h => ?_) (fun f cdv A outer st H vs Q E hr h => ?_)
  · obtain ⟨w', l, b, D', p, k, m, rfl, _⟩ := h; rfl
  obtain ⟨w', l, b, D', p, k, m, rfl, ok', hw, hl, hb, o, hm, hpN, q⟩ := h
  refine ⟨_, (pss_cons (ps_set (i := 4) sc__law_later_cost.nd rfl (Or.inr rfl) (pe_rdy R_law_begins (hr.mono (by omega)) rfl (pa_cons (pv 2) pa_nil)))
    (pss_one (ps_ret (pe_callB (cr_sum rfl) rfl T.sum (by decide +kernel) (pa_cons (pe_lc (own := [("_law_hour", 5)]) (g := gName 5) (tt := tYes) rfl sc__law_later_cost.nd (pi_range2 rfl T.range (pa_cons (pv 3) (pa_cons (pe_callB call_len_seq rfl T.len PySem.boot_len (pa_cons (pv 2) pa_nil)) pa_nil))) (blkOk_by (own := [("_law_hour", 5)]) (N := N__law_later_cost) (sc := defScope s__law_later_cost) (by decide +kernel)) (fun _ _ _ _ _ => (pg_name (i := 5) sc__law_later_cost.nd rfl (Or.inl rfl))) (fun _ _ _ _ _ => pts_nil) (fun _ _ _ _ _ => (pe_rdy R_law_hour_cost (hr.mono (by omega)) rfl (pa_cons (pv 0) (pa_cons (pv 1) (pa_cons (pe_ix (r := rIxL K) ix_list (pv 4) (pv 5) (fun _ _ => rfl)) (pa_cons (pv 5) pa_nil))))))) pa_nil))))), ?_⟩
  have hN30 := ok'.le
  have eb : (((p.map V.int).length : Nat) : Int) = (p.length : Int) := by rw [List.length_map]
  refine ⟨_, rfl, b, p, rfl, hb, by omega, fun H1 q1 as s1 hq1 hP => ?_⟩
  have las := Paired.len hP
  rw [List.length_map, List.length_range] at las
  refine ⟨_, rfl, _, rfl, b, _, rfl, .inr (SqT.of (s1 _ _ hb)), _, _, rfl, ?_⟩
  rw [eb]
  refine ⟨⟨by omega, by omega, by omega, by omega⟩, fun Dl hD => lc_range (lo := (m : Int)) (n := ((p.length : Int) - m).toNat)
    (fun i H2 => Same H1 H2 ∧ ∃ ns : List Int, H2 Dl = some (.lst (ns.map V.int)) ∧ ns.length = i ∧ ns.sum = cst D'.w D'.l (runs [] (p.take m)) m ((p.drop m).take i))
    ⟨same_new hD, [], upd_same, rfl, rfl⟩ ?_ ?_⟩
  · rintro i H2 hi ⟨s2, ns, hl2, hn1, hn2⟩
    have s12 := s1.trans s2
    have hlt : m + i < p.length := by omega
    obtain ⟨x, hx⟩ : ∃ x, p[m + i]? = some x := ⟨_, List.getElem?_eq_getElem hlt⟩
    have ha : m + i < as.length := by omega
    have hx2 : (p.drop m)[i]? = some x := by rw [List.getElem?_drop]; exact hx
    have oi := ok_take o (m + i)
    obtain ⟨o1, o2⟩ := ok_at o hx
    have hlt2 : (p.take (m + i)).length = m + i := by rw [List.length_take]; omega
    have gd : Good (runs [] (p.take (m + i))) (0 + ((p.take (m + i)).length : Int)) := ok_good (Good.nil 0) oi
    rw [hlt2] at gd
    have er : runs (runs [] (p.take m)) ((p.drop m).take i) = runs [] (p.take (m + i)) := by rw [← runs_append, ← List.take_add]
    have hrow : TupI H2 as[m + i] (nxt (runs [] (p.take (m + i))) x) := by
      have z : TupI H1 as[m + i] (runs [] (p.take (m + i + 1))) := Paired.at_ hP (List.getElem?_eq_getElem ha) (by rw [List.getElem?_map, List.getElem?_range (by omega)]; rfl)
      rw [runs_take hx] at z
      exact TupI.tk z (same_tk s2)
    have hbd : ∀ y ∈ nxt (runs [] (p.take (m + i))) x, 0 ≤ y ∧ y ≤ (m : Int) + i := fun y hy => by
      have l0 : ∀ y ∈ runs [] (p.take (m + i)), 0 ≤ y := runs_new oi
      have hx0 : 0 ≤ x ∧ x ≤ (m : Int) + i := by
        rcases o1 with z | z
        · have := l0 x z; have := gd.lt x z; omega
        · omega
      rcases mem_nxt.mp hy with ⟨z, _⟩ | z
      · have := l0 y z; have := gd.lt y z; omega
      · rw [z]; exact hx0
    have hl3 := runs_len_le (p.take (m + i)) []
    have hl4 := nxt_length_le (runs [] (p.take (m + i))) x
    rw [hlt2, List.length_nil] at hl3
    refine ⟨rfl, _, rfl, _, rfl, _, rfl, _, rfl, q1, _, _, _, rfl, rfl, SqL.of (s2 _ _ hq1), atI_int (v := V.ref as[m + i]) (by omega) (by rw [List.getElem?_map, show ((m : Int) + (i : Int)).toNat = m + i by omega, List.getElem?_eq_getElem ha]; rfl), _, rfl,
      w', l, as[m + i], D', runs [] (p.take (m + i)), x, (m : Int) + i, rfl, ok', hw.tk (same_tk s12), hl.tk (same_tk s12), hrow, hbd, by omega, by omega, fun H3 s3 => ?_⟩
    have hl5 := s3 _ _ hl2
    refine ⟨_, hl5, by rw [List.length_map]; exact small1000 (by omega), same_mut (s2.trans s3) hD, ns ++ [hc D'.w D'.l (runs [] (p.take (m + i))) x ((m : Int) + i)], ?_, by rw [List.length_append, hn1]; rfl, ?_⟩
    · rw [upd_same, List.map_append]; rfl
    · rw [List.sum_append, hn2, ← take_last hx2, cst_append, er]
      have hl6 : ((p.drop m).take i).length = i := by rw [List.length_take, List.length_drop]; omega
      rw [hl6]
      show _ + ([hc D'.w D'.l (runs [] (p.take (m + i))) x ((m : Int) + i)]).sum = _ + (hc D'.w D'.l (runs [] (p.take (m + i))) x ((m : Int) + i) + 0)
      simp
  · rintro H2 ⟨s2, ns, hl2, hn1, hn2⟩
    refine ⟨Dl, ns, rfl, SqL.of hl2, ?_⟩
    have et : (p.drop m).take ((p.length : Int) - m).toNat = p.drop m := List.take_of_length_le (by rw [List.length_drop]; omega)
    rw [hn2, et]
    exact q H2 (s1.trans s2)
abbrev s__law_stands : Stmt := top 51
abbrev N__law_stands : List Str := ["_law_plan_here", "_law_most", "_law_begun", "_law_begins_here", "_law_hour", "_law_begin", "_law_one"]
theorem sc__law_stands : FnScope N__law_stands ["_law_plan_here", "_law_most", "_law_begun"] (defScope s__law_stands) := ⟨rfl, rfl, rfl, by decide +kernel, rfl, by decide +kernel, by decide +kernel⟩
theorem rd_law_stands (D : DefAt K mg "_law_stands" s__law_stands ["_law_plan_here", "_law_most", "_law_begun"]) (T : Txt K mg CT CS CR) : Rdy P w K mg base "_law_stands" ["_law_plan_here", "_law_most", "_law_begun"] 1 spStands := by
  refine D.rdy sc__law_stands (fun vs H Q E h => ?_) (fun f cdv A outer st H vs Q E hr h => ?_)
  · obtain ⟨a, b, k, kk, begun, p, rfl, _⟩ := h; rfl
  obtain ⟨a, b, k, kk, begun, p, rfl, ha, hb, ob, op, hl, q⟩ := h
  refine ⟨_, (pss_cons (ps_if (PW.pt (pw_or (pt_not (pt_val (pe_callB cr_isA rfl T.isinstance (by decide +kernel) (pa_cons (pv 0) (pa_cons (pe_bltn (v := .ty "tuple") rfl T.tuple (by decide +kernel) rfl) pa_nil))))) (pw_or1 (pt_cmpR (op_neD hr.units) (pe_slice sl_tupA (pv 0) po_none (po_some (pe_callB call_len_seq rfl T.len PySem.boot_len (pa_cons (pv 2) pa_nil)))) (pv 2) (nomark _)))))
    (pss_one (ps_ret pe_bl))
    pss_nil)
    (pss_cons (ps_set (i := 3) sc__law_stands.nd rfl (Or.inl rfl) (pe_tup pa_nil))
    (pss_cons (ps_for PassesOwn.never rfl (pi_enumT rfl T.enumerate (pa_cons (pv 0) pa_nil)) (pg_tup rfl (pgs_cons (pg_name (i := 4) sc__law_stands.nd rfl (Or.inl rfl)) (pgs_cons (pg_name (i := 5) sc__law_stands.nd rfl (Or.inr rfl)) pgs_nil)))
    (pss_cons (ps_if (PW.pt (pw_or (pt_not (pt_val (pe_callB cr_isA rfl T.isinstance (by decide +kernel) (pa_cons (pv 5) (pa_cons (pe_bltn (v := .ty "int") rfl T.int (by decide +kernel) rfl) pa_nil))))) (pw_or (pt_val (pe_callB cr_isA rfl T.isinstance (by decide +kernel) (pa_cons (pv 5) (pa_cons (pe_bltn (v := .ty "bool") rfl T.bool (by decide +kernel) rfl) pa_nil)))) (pw_or1 (pt_cmpR op_notIn_seq (pv 5) (pe_op op_catA (pv 3) (pe_tup (pa_cons (pv 4) pa_nil))) (by rfl))))))
    (pss_one (ps_ret pe_bl))
    pss_nil)
    (pss_cons (ps_set (i := 3) sc__law_stands.nd rfl (Or.inl rfl) (pe_op op_catA (pe_callTy call_tuple_of rfl T.tuple (by decide +kernel) (pa_cons (pe_lc (own := [("_law_one", 6)]) (g := gName 6) rfl sc__law_stands.nd (pi_tup (pv 3)) (blkOk_by (own := [("_law_one", 6)]) (N := N__law_stands) (sc := defScope s__law_stands) (by decide +kernel)) (fun _ _ _ _ _ => (pg_name (i := 6) sc__law_stands.nd rfl (Or.inl rfl))) (fun _ _ _ _ _ => (pts_one (pt_cmpR op_lt (pv 6) (pv 5) (nomark _)))) (fun _ _ _ _ _ => (pv 6))) pa_nil)) (pe_tup (pa_cons (pv 5) pa_nil))))
    (pss_one (ps_if (PW.pt (pw_and (pt_cmpR op_ge (pv 4) (pe_callB call_len_seq rfl T.len PySem.boot_len (pa_cons (pv 2) pa_nil)) (nomark _)) (pw_and1 (pt_cmpR op_gt (pe_callB call_len_seq rfl T.len PySem.boot_len (pa_cons (pv 3) pa_nil)) (pv 1) (nomark _)))))
    (pss_one (ps_ret pe_bl))
    pss_nil)))))
    (pss_one (ps_ret pe_bl))))), ?_⟩
  have eb : (((begun.map V.int).length : Nat) : Int) = (begun.length : Int) := by rw [List.length_map]
  have o : ok (max kk k) [] 0 (begun ++ p) := ok_append.mpr ⟨ok_mono (Int.le_max_left _ _) ob, by rw [Int.zero_add]; exact ok_mono (Int.le_max_right _ _) op⟩
  refine seqI (I := fun σ H' => σ = [some (.ref a), some (.int k), some (.ref b), none, none, none, none] ∧ Same H H') (fun nx hnx => ?_) ?_
  · refine ⟨_, rfl, _, _, _, rfl, .tt ha, true, rfl, ?_⟩
    refine iteF ?_
    refine ⟨_, rfl, _, rfl, b, _, rfl, .inr (SqT.of hb), ?_⟩
    rw [eb]
    refine ⟨_, rfl, slA_take ha (by omega) fun t H1 s1 ht => ⟨_, rfl, ?_⟩⟩
    rw [Int.toNat_natCast, List.take_left] at ht
    refine ⟨_, _, dp_tup ht, dp_tup (TupI.tk hb (same_tk s1)), shaped_tup _, shaped_tup _, _, rfl, ?_⟩
    rw [SeqAt.eqv_refl _ (can_tup _)]
    exact iteF (hnx _ _ ⟨rfl, s1⟩)
  · rintro σ H1 ⟨rfl, s1⟩
    have ha1 := TupI.tk ha (same_tk s1)
    have hb1 := TupI.tk hb (same_tk s1)
    refine ⟨by show 0 ≤ sizeLine; decide, fun t nt => ?_⟩
    have s0 := same_new (o := .tup []) nt
    generalize hpl : begun ++ p = pl at ha1 o hl
    refine ⟨_, rfl, a, _, rfl, SqT.of (s0 _ _ ha1), for_enumT (K := K) (a := a) (xs := pl.map V.int) (fun i σ H' => ∃ (v4 v5 v6 : Option V) (tb : Addr), σ = [some (.ref a), some (.int k), some (.ref b), some (.ref tb), v4, v5, v6] ∧ Same H1 H' ∧ TupI H' tb (runs [] (pl.take i)))
      ⟨none, none, none, t, rfl, s0, upd_same⟩ (fun i σ H' _ ⟨_, _, _, _, _, s2, _⟩ => SqT.of (s2 _ _ ha1)) ?_ ?_⟩
    · rintro i x Ta σ H' hx ⟨v4, v5, v6, tb, rfl, s2, htb⟩ hTa
      rw [List.getElem?_map] at hx
      cases hz : pl[i]? with
      | none => rw [hz] at hx; cases hx
      | some z =>
      rw [hz] at hx
      have ex : V.int z = x := Option.some.inj hx
      subst ex
      have hip := (List.getElem?_eq_some_iff.mp hz).1
      have s3 : Same H' (upd H' Ta (.tup [.int (i : Nat), .int z])) := same_new hTa
      obtain ⟨o1, o2⟩ := ok_at o hz
      have hl2 := runs_len_le (pl.take i) []
      rw [List.length_take, List.length_nil] at hl2
      have hst : begun.length ≤ i → ((nxt (runs [] (pl.take i)) z).length : Int) ≤ k := fun hge => by
        have e1 : pl.take i = begun ++ p.take (i - begun.length) := by rw [← hpl, List.take_append, List.take_of_length_le hge]
        have hz2 : p[i - begun.length]? = some z := by rw [← hpl, List.getElem?_append_right hge] at hz; exact hz
        have z2 := (ok_at op hz2).2
        rw [e1, runs_append]
        exact z2
      refine ⟨Ta, _, rfl, SqT.of upd_same, rfl, _, _, rfl, _, _, rfl, rfl, ?_⟩
      generalize upd H' Ta (.tup [.int (i : Nat), .int z]) = H2 at s3
      have htb2 := TupI.tk htb (same_tk s3)
      generalize hS : runs [] (pl.take i) = S at htb2 o1 hl2 hst
      refine seqI (I := fun σ H3 => σ = [some (.ref a), some (.int k), some (.ref b), some (.ref tb), some (.int (i : Nat)), some (.int z), v6] ∧ Same H2 H3) (fun nx hnx => ?_) ?_
      · refine ⟨_, rfl, _, _, _, rfl, .ii z, true, rfl, ?_⟩
        refine iteF ?_
        refine ⟨_, rfl, _, _, _, rfl, .ib z, false, rfl, iteF ?_⟩
        refine ⟨_, rfl, _, rfl, _, rfl, by show 1 ≤ sizeLine; decide, fun a1 na1 => ?_⟩
        have s5 := same_new (o := .tup [.int (i : Int)]) na1
        refine catA_of (p := S) (q := [(i : Int)]) (s5 _ _ htb2) upd_same (by show _ + 1 ≤ 1000; omega) fun t6 H6 s6 ht6 => ?_
        refine ⟨t6, _, rfl, .inr (SqT.of ht6), rfl, flat_ints _, _, rfl, ?_⟩
        have hm : z ∈ S ++ [(i : Int)] := by
          rcases o1 with y | y
          · exact List.mem_append_left _ y
          · rw [Int.zero_add] at y
            exact List.mem_append_right _ (List.mem_singleton.mpr y)
        rw [inV_int, decide_eq_true hm]
        exact iteF (hnx _ _ ⟨rfl, s5.trans s6⟩)
      · rintro σ H3 ⟨rfl, s4⟩
        have htb3 := TupI.tk htb2 (same_tk s4)
        refine ⟨_, rfl, tb, rfl, ⟨_, SqT.of htb3⟩, fun Dl hD => lc_tup (K := K) (a := tb) (xs := S.map V.int) (fun i H' => Same H3 H' ∧ H' Dl = some (.lst (((S.take i).filter fun y => decide (y < z)).map V.int)))
          ⟨same_new hD, upd_same⟩ (fun i H' _ ⟨s', _⟩ => SqT.of (s' _ _ htb3)) ?_ ?_⟩
        · rintro i' y H4 hy ⟨s', hl'⟩
          rw [List.getElem?_map] at hy
          cases hz2 : S[i']? with
          | none => rw [hz2] at hy; cases hy
          | some z2 =>
          rw [hz2] at hy
          have ey : V.int z2 = y := Option.some.inj hy
          subst ey
          have et := take_last hz2
          refine ⟨rfl, _, rfl, _, rfl, _, _, rfl, rfl, _, rfl, ite2 (fun g => ?_) (fun g => ?_)⟩
          · refine ⟨_, rfl, _, hl', ?_, same_mut s' hD, ?_⟩
            · have h3 := List.length_filter_le (fun y => decide (y < z)) (S.take i')
              rw [List.length_take] at h3
              rw [List.length_map]
              exact small1000 (by omega)
            · rw [upd_same, ← et, List.filter_append, List.filter_cons_of_pos (p := fun y => decide (y < z)) g, List.filter_nil, List.map_append]
              rfl
          · refine ⟨s', ?_⟩
            rw [← et, List.filter_append, List.filter_cons_of_neg (p := fun y => decide (y < z)) g, List.filter_nil, List.append_nil]
            exact hl'
        · rintro H4 ⟨s', hl'⟩
          rw [List.length_map, List.take_length] at hl'
          refine ⟨Dl, _, rfl, .inl ⟨SqL.of hl', fun t nt => ?_⟩⟩
          refine ⟨_, rfl, by show 1 ≤ sizeLine; decide, fun t2 nt2 => ?_⟩
          have h3 := List.length_filter_le (fun y => decide (y < z)) S
          refine catA_of (p := S.filter fun y => decide (y < z)) (q := [z]) ((same_new nt2) _ _ upd_same) upd_same (by show _ + 1 ≤ 1000; omega) fun t3 H5 s5 ht3 => ?_
          have s35 : Same H3 H5 := s'.trans ((same_new nt).trans ((same_new nt2).trans s5))
          have s25 : Same H1 H5 := s2.trans (s3.trans (s4.trans s35))
          have fin : ∃ (u4 u5 u6 : Option V) (tb' : Addr), [some (V.ref a), some (V.int k), some (V.ref b), some (V.ref t3), some (V.int (i : Nat)), some (V.int z), v6] = [some (V.ref a), some (V.int k), some (V.ref b), some (V.ref tb'), u4, u5, u6] ∧ Same H1 H5 ∧ TupI H5 tb' (runs [] (pl.take (i + 1))) := by
            refine ⟨_, _, _, t3, rfl, s25, ?_⟩
            rw [runs_take hz, hS]
            exact ht3
          have hln : ((((nxt S z).map V.int).length : Nat) : Int) = ((nxt S z).length : Int) := by rw [List.length_map]
          refine ⟨_, rfl, _, rfl, b, _, rfl, .inr (SqT.of (TupI.tk hb1 (same_tk s25))), _, _, rfl, rfl, _, rfl, ite2 (fun g => ?_) (fun g => iteF fin)⟩
          have g' : (((begun.map V.int).length : Nat) : Int) ≤ (i : Int) := of_decide_eq_true g
          rw [eb] at g'
          have hst2 := hst (by omega)
          refine ⟨_, rfl, t3, (nxt S z).map V.int, rfl, .inr (SqT.of ht3), _, rfl, _, _, rfl, rfl, _, rfl, ite2 (fun g2 => ?_) (fun g2 => fin)⟩
          have g3 : k < ((((nxt S z).map V.int).length : Nat) : Int) := of_decide_eq_true g2
          rw [hln] at g3
          omega
    · rintro σ H' ⟨v4, v5, v6, tb, rfl, s2, htb⟩
      exact q H' (s1.trans s2)
abbrev s__law_goes_on : Stmt := top 53
abbrev N__law_goes_on : List Str := ["_law_hand_here", "_law_plan_here", "_law_hours", "_law_most", "_law_found", "_law_begins_here", "_law_hour", "_law_stands_here", "_law_at"]
theorem sc__law_goes_on : FnScope N__law_goes_on ["_law_hand_here", "_law_plan_here", "_law_hours", "_law_most"] (defScope s__law_goes_on) := ⟨rfl, rfl, rfl, by decide +kernel, rfl, by decide +kernel, by decide +kernel⟩
theorem rd_law_goes_on (D : DefAt K mg "_law_goes_on" s__law_goes_on ["_law_hand_here", "_law_plan_here", "_law_hours", "_law_most"]) (T : Txt K mg CT CS CR) (R_law_draw : Rdy P w K mg base "_law_draw" ["_law_hand_here", "_law_many"] 1 spDraw) (R_law_begins : Rdy P w K mg base "_law_begins" ["_law_plan_here"] 1 spBeginsBehind) : Rdy P w K mg base "_law_goes_on" ["_law_hand_here", "_law_plan_here", "_law_hours", "_law_most"] 2 spGoesOn := by
  refine D.rdy sc__law_goes_on (fun vs H Q E h => ?_) (fun f cdv A outer st H vs Q E hr h => ?_)
  · obtain ⟨hd, ca, b, N, k, kk, begun, rfl, _⟩ := h; rfl
  obtain ⟨hd, ca, b, N, k, kk, begun, rfl, hh, hb, ob, hN, hl1, hl2, hk1, hk2, q⟩ := h
  refine ⟨_, (pss_cons (ps_set (i := 4) sc__law_goes_on.nd rfl (Or.inl rfl) (pv 1))
    (pss_cons (ps_set (i := 5) sc__law_goes_on.nd rfl (Or.inl rfl) (pe_ix ix_list (pe_rdy R_law_begins (hr.mono (by omega)) rfl (pa_cons (pv 1) pa_nil)) (pe_un un_neg pe_int) (fun _ _ => rfl)))
    (pss_cons (ps_for PassesOwn.never rfl (pi_range2 rfl T.range (pa_cons (pe_callB call_len_seq rfl T.len PySem.boot_len (pa_cons (pv 1) pa_nil)) (pa_cons (pv 2) pa_nil))) (pg_name (i := 6) sc__law_goes_on.nd rfl (Or.inl rfl))
    (pss_cons (ps_set (i := 7) sc__law_goes_on.nd rfl (Or.inl rfl) (pe_op op_catA (pv 5) (pe_tup (pa_cons (pv 6) pa_nil))))
    (pss_cons (ps_set (i := 8) sc__law_goes_on.nd rfl (Or.inl rfl) (pe_rdy R_law_draw (hr.mono (by omega)) rfl (pa_cons (pv 0) (pa_cons (pe_callB (call_min2 rfl) rfl T.min (by decide +kernel) (pa_cons (pv 3) (pa_cons (pe_callB call_len_seq rfl T.len PySem.boot_len (pa_cons (pv 7) pa_nil)) pa_nil))) pa_nil))))
    (pss_cons (ps_set (i := 4) sc__law_goes_on.nd rfl (Or.inl rfl) (pe_op op_catA (pv 4) (pe_tup (pa_cons (pe_ix ix_tup (pv 7) (pv 8) (fun _ _ => rfl)) pa_nil))))
    (pss_one (ps_set (i := 5) sc__law_goes_on.nd rfl (Or.inl rfl) (pe_slice sl_tupA (pv 7) po_none (po_some (pe_op op_add (pv 8) pe_int)))))))))
    (pss_one (ps_ret (pv 4)))))), ?_⟩
  have eb : (((begun.map V.int).length : Nat) : Int) = (begun.length : Int) := by rw [List.length_map]
  refine ⟨_, rfl, _, rfl, b, begun, rfl, hb, by omega, fun H1 ql as s1 hql hP => ?_⟩
  have las := Paired.len hP
  rw [List.length_map, List.length_range] at las
  have hlast : as.length - 1 < as.length := by omega
  have hE : TupI H1 as[as.length - 1] (runs [] begun) := Paired.at_ hP (List.getElem?_eq_getElem hlast) (b := runs [] begun) (by
    rw [List.getElem?_map, List.getElem?_range (by omega), las]
    show some (runs [] (begun.take (begun.length - 1 + 1))) = _
    rw [show begun.length - 1 + 1 = begun.length by omega, List.take_length])
  have hlm : (as.map V.ref).length - 1 < (as.map V.ref).length := by rw [List.length_map]; exact hlast
  refine ⟨_, rfl, ql, _, _, _, rfl, rfl, SqL.of hql, atI_neg1 (v := V.ref as[as.length - 1]) (by rw [List.length_map, List.getElem?_map, List.getElem?_eq_getElem hlast]; rfl), ?_⟩
  have hb1 := TupI.tk hb (same_tk s1)
  refine ⟨_, rfl, b, _, rfl, .inr (SqT.of hb1), _, rfl, _, _, rfl, ?_⟩
  rw [eb]
  refine ⟨⟨by omega, by omega, by omega, by omega⟩, for_range (lo := (begun.length : Int)) (n := ((N : Int) - begun.length).toNat)
    (fun i σ H' => ∃ (f bb : Addr) (v6 v7 v8 : Option V) (p : List Int), σ = [some (.ref hd), some (.ref b), some (.int N), some (.int k), some (.ref f), some (.ref bb), v6, v7, v8] ∧ Kp [hd] H H' ∧ HandAt H' hd ca ∧ TupI H' f (begun ++ p) ∧ TupI H' bb (runs (runs [] begun) p) ∧ ok k (runs [] begun) begun.length p ∧ p.length = i)
    ⟨b, as[as.length - 1], none, none, none, [], rfl, Kp.of s1, hh.same s1, by rw [List.append_nil]; exact hb1, hE, trivial, rfl⟩ ?_ ?_⟩
  · rintro i σ H' hi ⟨f, bb, v6, v7, v8, p, rfl, k', hh', hf, hbb, o, hp⟩
    have gd0 : Good (runs [] begun) (0 + (begun.length : Int)) := ok_good (Good.nil 0) ob
    rw [Int.zero_add] at gd0
    have gd := ok_good gd0 o
    rw [hp] at gd
    have hl3 := runs_len_le p (runs [] begun)
    have hl4 := runs_len_le begun []
    simp at hl4
    generalize hS : runs (runs [] begun) p = S at hbb gd hl3
    refine ⟨_, rfl, _, rfl, by show 1 ≤ sizeLine; decide, fun a1 na1 => ?_⟩
    have s2 := same_new (o := .tup [.int ((begun.length : Int) + i)]) na1
    refine catA_of (p := S) (q := [(begun.length : Int) + i]) (s2 _ _ hbb) upd_same (by show _ + 1 ≤ 1000; omega) fun ts H3 s3 hts => ?_
    have s23 := s2.trans s3
    have els : ((((S ++ [(begun.length : Int) + i]).map V.int).length : Nat) : Int) = (S.length : Int) + 1 := by rw [List.length_map, List.length_append]; rfl
    refine ⟨_, rfl, _, rfl, _, rfl, ts, _, rfl, .inr (SqT.of hts), _, _, rfl, ?_⟩
    rw [els]
    refine ⟨hd, ca, _, rfl, hh'.same s23, by split <;> omega, by split <;> omega, fun H4 d k4 hh4 hd0 hd1 => ?_⟩
    have hdk : d < k ∧ d < (S.length : Int) + 1 := by
      split at hd1 <;> omega
    have hdn : d.toNat < (S ++ [(begun.length : Int) + i]).length := by rw [List.length_append, List.length_singleton]; omega
    obtain ⟨x, hx⟩ : ∃ x, (S ++ [(begun.length : Int) + i])[d.toNat]? = some x := ⟨_, List.getElem?_eq_getElem hdn⟩
    obtain ⟨px, pn⟩ := pick_ok gd hx
    have tk4 : Tk H' H4 := (same_tk s23).trans ((hh'.same s23).tk k4)
    have hts4 : TupI H4 ts (S ++ [(begun.length : Int) + i]) := TupI.tk hts ((hh'.same s23).tk k4)
    have hat : atI ((S ++ [(begun.length : Int) + i]).map V.int) d = some (V.int x) := atI_int hd0 (by rw [List.getElem?_map, hx]; rfl)
    refine ⟨_, rfl, _, rfl, _, rfl, ts, _, _, _, rfl, rfl, SqT.of hts4, hat, by show 1 ≤ sizeLine; decide, fun a5 na5 => ?_⟩
    have s5 := same_new (o := .tup [.int x]) na5
    refine catA_of (p := begun ++ p) (q := [x]) (s5 _ _ (TupI.tk hf tk4)) upd_same (by rw [List.length_append]; show _ + 1 ≤ 1000; omega) fun f6 H6 s6 hf6 => ?_
    have s56 := s5.trans s6
    refine ⟨_, rfl, _, rfl, _, _, rfl, rfl, _, rfl, slA_take (s56 _ _ hts4) (by omega) fun b7 H7 s7 hb7 => ?_⟩
    have s57 := s56.trans s7
    refine ⟨f6, b7, _, _, _, p ++ [x], rfl, (k'.trans (Kp.of s23)).trans (k4.trans (Kp.of s57)), hh4.same s57, ?_, ?_, ok_snoc.mpr ⟨o, by rw [hS, hp]; exact px, ?_⟩, by rw [List.length_append, hp]; rfl⟩
    · rw [← List.append_assoc]
      exact TupI.tk hf6 (same_tk s7)
    · rw [runs_snoc, hS, pn, ← show (d + 1).toNat = d.toNat + 1 by omega]
      exact hb7
    · rw [hS, pn, List.length_take]
      omega
  · rintro σ H' ⟨f, bb, v6, v7, v8, p, rfl, k', hh', hf, hbb, o, hp⟩
    exact ⟨_, rfl, q H' f p k' hh' hf o (by omega)⟩
end
end Js

/-! JsL4: step_right. -/
namespace Js
open PySem PySem.Spec PyProof.Rows L2
/-! the plain law: the step is the least over the next hour's choices -/
def stepPr (k : Int) (W L : Int → Int → Int) (begun S : List Int) (h : Int) (m : Nat) (x : Int) : Int × List Int := (hc W L S x h + (best k W L m (nxt S x) (h + 1)).1, begun ++ (x :: (best k W L m (nxt S x) (h + 1)).2))
def stepL (k : Int) (W L : Int → Int → Int) (begun S : List Int) (h : Int) (m : Nat) (J : Nat) : List (Int × List Int) := (List.range J).map fun j => stepPr k W L begun S h m ((S ++ [h]).getD j 0)
theorem le_pre {c c' : Int} {b p p' : List Int} (h : le (c :: p) (c' :: p')) : le (c :: (b ++ p)) (c' :: (b ++ p')) := by
  rw [le_cons] at h ⊢
  rcases h with h | ⟨h, h'⟩
  · exact .inl h
  · exact .inr ⟨h, le_append rfl (le_refl b) h'⟩
theorem step_min {k : Int} {W L : Int → Int → Int} {begun S : List Int} {h : Int} {m J : Nat} {c : Int} {p : List Int} (hK : 1 ≤ k) (g : Good S h) (a : IsBest k W L S h (m + 1) c p) (hJ : J = min (S.length + 1) k.toNat) :
    ∀ pr ∈ stepL k W L begun S h m J, (∀ q ∈ stepL k W L begun S h m J, le (en pr) (en q)) → pr = (c, begun ++ p) := by
  obtain ⟨⟨x0, q0, d0, hx0, hb0, hc0, hp0⟩, up⟩ := a.step hK g
  have low : ∀ j, j < J → le (c :: (begun ++ p)) (en (stepPr k W L begun S h m ((S ++ [h]).getD j 0))) := fun j hj => by
    have hjl : j < (S ++ [h]).length := by rw [List.length_append, List.length_singleton]; omega
    obtain ⟨x, hx⟩ : ∃ x, (S ++ [h])[j]? = some x := ⟨_, List.getElem?_eq_getElem hjl⟩
    obtain ⟨px, pn⟩ := pick_ok g hx
    have e : (S ++ [h]).getD j 0 = x := by rw [List.getD_eq_getElem?_getD, hx]; rfl
    rw [e]
    refine le_pre (up x _ _ (mem_choices.mpr ⟨px, ?_⟩) (best_is hK m (nxt S x) (h + 1) (g.nxt px)))
    rw [pn, List.length_take]
    omega
  have mem : (c, begun ++ p) ∈ stepL k W L begun S h m J := by
    obtain ⟨px, hlen⟩ := mem_choices.mp hx0
    have hm0 : x0 ∈ S ++ [h] := by
      rcases px with z | z
      · exact List.mem_append_left _ z
      · exact List.mem_append_right _ (List.mem_singleton.mpr z)
    obtain ⟨j, hj, ej⟩ := List.mem_iff_getElem.mp hm0
    have hx : (S ++ [h])[j]? = some x0 := by rw [List.getElem?_eq_getElem hj, ej]
    obtain ⟨_, pn⟩ := pick_ok g hx
    rw [pn, List.length_take] at hlen
    rw [List.length_append, List.length_singleton] at hj hlen
    refine List.mem_map.mpr ⟨j, List.mem_range.mpr (by omega), ?_⟩
    have e : (S ++ [h]).getD j 0 = x0 := by rw [List.getD_eq_getElem?_getD, hx]; rfl
    rw [e]
    obtain ⟨u1, u2⟩ := hb0.uniq (best_is hK m (nxt S x0) (h + 1) (g.nxt px))
    unfold stepPr
    rw [hc0, hp0, u1, u2]
  intro pr hpr hl
  refine en_inj (le_antisymm (hl _ mem) ?_)
  obtain ⟨j, hj, e⟩ := List.mem_map.mp hpr
  rw [← e]
  exact low j (List.mem_range.mp hj)
section
variable (CT : Addr)
def spStepRight : Sp := fun vs H Q _ => ∃ (t b ga : Addr) (D : TkD) (k kk : Int) (begun p : List Int) (c : Int), vs = [.ref t, .int k, .ref b, .ref ga] ∧ TkAt CT D H t ∧ TupI H b begun ∧ ok kk [] 0 begun ∧ 1 ≤ begun.length ∧ begun.length < D.N ∧ 1 ≤ k ∧ k ≤ 30 ∧
  PairI H ga (c, begun ++ p) ∧ IsBest k D.w D.l (runs [] begun) begun.length (D.N - begun.length) c p ∧ ∀ H', Same H H' → Q (.bl true) H'
end
section
variable {P : Program} {w : World} {K : PySem.W.Frag} {mg : Str → Option Value} {base : Heap} {CT CS CR fm : Addr}
abbrev s__law_step_right : Stmt := top 52
abbrev N__law_step_right : List Str := ["_law_task", "_law_most", "_law_begun", "_law_got", "_law_hour", "_law_stands_here", "_law_some", "_law_at", "_law_more", "_law_paid", "_law_behind"]
theorem sc__law_step_right : FnScope N__law_step_right ["_law_task", "_law_most", "_law_begun", "_law_got"] (defScope s__law_step_right) := ⟨rfl, rfl, rfl, by decide +kernel, rfl, by decide +kernel, by decide +kernel⟩
theorem rd_law_step_right (D : DefAt K mg "_law_step_right" s__law_step_right ["_law_task", "_law_most", "_law_begun", "_law_got"]) (T : Txt K mg CT CS CR) (R_law_begins : Rdy P w K mg base "_law_begins" ["_law_plan_here"] 1 spBeginsBehind) (R_law_hour_cost : Rdy P w K mg base "_law_hour_cost" ["_law_writes", "_law_looks", "_law_begins_here", "_law_hour"] 1 spHourCost) (R_rest : Rdy P w K mg base "rest" ["task", "most", "begun"] 157 (spRest CT)) : Rdy P w K mg base "_law_step_right" ["_law_task", "_law_most", "_law_begun", "_law_got"] 158 (spStepRight CT) := by
  refine D.rdy sc__law_step_right (fun vs H Q E h => ?_) (fun f cdv A outer st H vs Q E hr h => ?_)
  · obtain ⟨t, b, ga, D', k, kk, begun, p, c, rfl, _⟩ := h; rfl
  obtain ⟨t, b, ga, D', k, kk, begun, p, c, rfl, ht, hb, ob, hl1, hl2, hk1, hk2, hga, hbest, q⟩ := h
  refine ⟨_, (pss_cons (ps_set (i := 4) sc__law_step_right.nd rfl (Or.inl rfl) (pe_callB call_len_seq rfl T.len PySem.boot_len (pa_cons (pv 2) pa_nil)))
    (pss_cons (ps_set (i := 5) sc__law_step_right.nd rfl (Or.inl rfl) (pe_op op_catA (pe_ix ix_list (pe_rdy R_law_begins (hr.mono (by omega)) rfl (pa_cons (pv 2) pa_nil)) (pe_un un_neg pe_int) (fun _ _ => rfl)) (pe_tup (pa_cons (pv 4) pa_nil))))
    (pss_cons (ps_set (i := 6) sc__law_step_right.nd rfl (Or.inl rfl) (pe_lst pa_nil))
    (pss_cons (ps_for PassesOwn.never rfl (pi_range1 rfl T.range (pa_cons (pe_callB (call_min2 rfl) rfl T.min (by decide +kernel) (pa_cons (pv 1) (pa_cons (pe_callB call_len_seq rfl T.len PySem.boot_len (pa_cons (pv 5) pa_nil)) pa_nil))) pa_nil)) (pg_name (i := 7) sc__law_step_right.nd rfl (Or.inl rfl))
    (pss_cons (ps_set (i := 8) sc__law_step_right.nd rfl (Or.inl rfl) (pe_op op_catA (pv 2) (pe_tup (pa_cons (pe_ix ix_tup (pv 5) (pv 7) (fun _ _ => rfl)) pa_nil))))
    (pss_cons (ps_set (i := 9) sc__law_step_right.nd rfl (Or.inl rfl) (pe_rdy R_law_hour_cost (hr.mono (by omega)) rfl (pa_cons (pe_fld (pv 0) rfl) (pa_cons (pe_fld (pv 0) rfl) (pa_cons (pe_slice sl_tupA (pv 5) po_none (po_some (pe_op op_add (pv 7) pe_int))) (pa_cons (pv 4) pa_nil))))))
    (pss_one (ps_if (pt_cmpR op_eq (pe_op op_add (pv 4) pe_int) (pe_callB call_len_seq rfl T.len PySem.boot_len (pa_cons (pe_fld (pv 0) rfl) pa_nil)) (nomark _))
    (pss_one (ps_expr (pe_bm PySem.F.plainAttrs_list PySem.F.slot_list_append PySem.F.type_list_append mt_append (pv 6) (pa_cons (pe_tup (pa_cons (pv 9) (pa_cons (pv 8) pa_nil))) pa_nil))))
    (pss_cons (ps_set (i := 10) sc__law_step_right.nd rfl (Or.inl rfl) (pe_rdy R_rest (hr.mono (by omega)) rfl (pa_cons (pv 0) (pa_cons (pv 1) (pa_cons (pv 8) pa_nil)))))
    (pss_one (ps_expr (pe_bm PySem.F.plainAttrs_list PySem.F.slot_list_append PySem.F.type_list_append mt_append (pv 6) (pa_cons (pe_tup (pa_cons (pe_op op_add (pv 9) (pe_ix ix_tup (pv 10) pe_int (fun _ _ => rfl))) (pa_cons (pe_ix ix_tup (pv 10) pe_int (fun _ _ => rfl)) pa_nil))) pa_nil))))))))))
    (pss_one (ps_ret (pe_cmpR (op_eqD hr.units) (pv 3) (pe_callB (cr_minP rfl hr.units) rfl T.min (by decide +kernel) (pa_cons (pv 6) pa_nil)) (nomark _)))))))), ?_⟩
  obtain ⟨ok', dx, w', l, h1, h2, h3⟩ := id ht
  have hN30 := ok'.le
  have eb : (((begun.map V.int).length : Nat) : Int) = (begun.length : Int) := by rw [List.length_map]
  refine ⟨_, rfl, b, _, rfl, .inr (SqT.of hb), ?_⟩
  rw [eb]
  refine ⟨_, rfl, b, begun, rfl, hb, by omega, fun H1 ql as s1 hql hP => ?_⟩
  have las := Paired.len hP
  rw [List.length_map, List.length_range] at las
  have hlast : as.length - 1 < as.length := by omega
  have hE : TupI H1 as[as.length - 1] (runs [] begun) := Paired.at_ hP (List.getElem?_eq_getElem hlast) (b := runs [] begun) (by
    rw [List.getElem?_map, List.getElem?_range (by omega), las]
    show some (runs [] (begun.take (begun.length - 1 + 1))) = _
    rw [show begun.length - 1 + 1 = begun.length by omega, List.take_length])
  have gd : Good (runs [] begun) (0 + (begun.length : Int)) := ok_good (Good.nil 0) ob
  rw [Int.zero_add] at gd
  have hl4 := runs_len_le begun []
  simp at hl4
  have l0 : ∀ y ∈ runs [] begun, 0 ≤ y := runs_new ob
  obtain ⟨m, hm⟩ : ∃ m, D'.N - begun.length = m + 1 := ⟨D'.N - begun.length - 1, by omega⟩
  rw [hm] at hbest
  have smin := fun J hJ => step_min (begun := begun) (J := J) hk1 gd hbest hJ
  have erm : ∀ x, runs [] (begun ++ [x]) = nxt (runs [] begun) x := fun x => runs_snoc _ _ _
  generalize hS : runs [] begun = S at hE gd hl4 l0 hbest smin erm
  refine ⟨_, rfl, ql, _, _, _, rfl, rfl, SqL.of hql, atI_neg1 (v := V.ref as[as.length - 1]) (by rw [List.length_map, List.getElem?_map, List.getElem?_eq_getElem hlast]; rfl), ?_⟩
  refine ⟨_, rfl, by show 1 ≤ sizeLine; decide, fun a1 na1 => ?_⟩
  have s2 := same_new (o := .tup [.int (begun.length : Int)]) na1
  refine catA_of (p := S) (q := [(begun.length : Int)]) (s2 _ _ hE) upd_same (by show _ + 1 ≤ 1000; omega) fun ts H3 s3 hts => ?_
  have s13 := s1.trans (s2.trans s3)
  have els : ((((S ++ [(begun.length : Int)]).map V.int).length : Nat) : Int) = (S.length : Int) + 1 := by rw [List.length_map, List.length_append]; rfl
  refine ⟨by show 0 ≤ sizeLine; decide, fun fl nfl => ?_⟩
  have s4 := same_new (o := .lst []) nfl
  have hfl : upd H3 fl (.lst []) fl = some (.lst []) := upd_same
  generalize upd H3 fl (.lst []) = H4 at s4 hfl
  have s14 := s13.trans s4
  have hts4 := TupI.tk hts (same_tk s4)
  obtain ⟨J, hJ⟩ : ∃ J, J = min (S.length + 1) k.toNat := ⟨_, rfl⟩
  have emin : (if ((S.length : Int) + 1) < k then ((S.length : Int) + 1) else k) = (J : Int) := by
    by_cases h : (S.length : Int) + 1 < k
    · rw [if_pos h]; omega
    · rw [if_neg h]; omega
  refine ⟨_, rfl, _, rfl, ts, _, rfl, .inr (SqT.of hts4), _, _, rfl, ?_⟩
  rw [els, emin]
  refine ⟨_, rfl, by omega, by omega, for_range (lo := 0) (n := J)
    (fun j σ H' => ∃ v7 v8 v9 v10 : Option V, σ = [some (.ref t), some (.int k), some (.ref b), some (.ref ga), some (.int (begun.length : Int)), some (.ref ts), some (.ref fl), v7, v8, v9, v10] ∧ Kp [fl] H4 H' ∧
      ∃ bs : List Addr, H' fl = some (.lst (bs.map V.ref)) ∧ Paired (PairI H') bs (stepL k D'.w D'.l begun S begun.length m j))
    ⟨none, none, none, none, rfl, Kp.refl _ _, [], hfl, .nil⟩ ?_ ?_⟩
  · rintro j σ H' hj ⟨v7, v8, v9, v10, rfl, k', bs, hfl', hP'⟩
    rw [Int.zero_add]
    have tk' : Tk H4 H' := tk_list hfl k'
    have lbs := Paired.len hP'
    have lst : (stepL k D'.w D'.l begun S begun.length m j).length = j := by unfold stepL; rw [List.length_map, List.length_range]
    have hjl : j < (S ++ [(begun.length : Int)]).length := by rw [List.length_append, List.length_singleton]; omega
    obtain ⟨x, hx⟩ : ∃ x, (S ++ [(begun.length : Int)])[j]? = some x := ⟨_, List.getElem?_eq_getElem hjl⟩
    have ex : (S ++ [(begun.length : Int)]).getD j 0 = x := by rw [List.getD_eq_getElem?_getD, hx]; rfl
    obtain ⟨px, pn⟩ := pick_ok gd hx
    have hts' := TupI.tk hts4 tk'
    have hb' : TupI H' b begun := TupI.tk hb ((same_tk s14).trans tk')
    have ht' : TkAt CT D' H' t := (ht.same s14).kpl hfl k'
    have hga' : PairI H' ga (c, begun ++ p) := PairI.tk hga ((same_tk s14).trans tk')
    have hat : atI ((S ++ [(begun.length : Int)]).map V.int) (j : Int) = some (V.int x) := atI_int (by omega) (by rw [List.getElem?_map, Int.toNat_natCast, hx]; rfl)
    refine ⟨_, rfl, _, rfl, _, rfl, ts, _, _, _, rfl, rfl, SqT.of hts', hat, by show 1 ≤ sizeLine; decide, fun a5 na5 => ?_⟩
    have s5 := same_new (o := .tup [.int x]) na5
    refine catA_of (p := begun) (q := [x]) (s5 _ _ hb') upd_same (by show _ + 1 ≤ 1000; omega) fun mo H6 s6 hmo => ?_
    have s56 := s5.trans s6
    have ht6 := ht'.same s56
    obtain ⟨_, dx6, w6, l6, f1, f2, f3⟩ := id ht6
    obtain ⟨as6, g1, g2⟩ := id f2
    have las6 := Paired.len g2
    refine ⟨_, rfl, t, CT, dx6, _, _, rfl, f1, T.clT, T.nT_writes, tkF_writes _ _, _, rfl, t, CT, dx6, _, _, rfl, f1, T.clT, T.nT_looks, tkF_looks _ _, _, rfl, _, rfl, _, _, rfl, rfl, _, rfl, slA_take (s56 _ _ hts') (by omega) fun sb H7 s7 hsb => ?_⟩
    rw [show ((j : Int) + 1).toNat = j + 1 by omega, ← pn] at hsb
    have hx0 : 0 ≤ x ∧ x ≤ (begun.length : Int) := by
      rcases px with z | z
      · have := l0 x z; have := gd.lt x z; omega
      · omega
    have hnl := nxt_length_le S x
    refine ⟨_, rfl, w6, l6, sb, D', S, x, (begun.length : Int), rfl, ok', f2.tk (same_tk s7), f3.tk (same_tk s7), hsb, fun y hy => ?_, by omega, by omega, fun H8 s8 => ?_⟩
    · rcases mem_nxt.mp hy with ⟨z, _⟩ | z
      · have := l0 y z; have := gd.lt y z; omega
      · rw [z]; exact hx0
    have s78 := s7.trans s8
    have s58 := s56.trans s78
    have hmo8 := TupI.tk hmo (same_tk s78)
    have ht8 := ht6.same s78
    have eN : (((as6.map V.ref).length : Nat) : Int) = (D'.N : Int) := by rw [List.length_map, las6, ok'.w.len]
    have esucc : stepL k D'.w D'.l begun S begun.length m (j + 1) = stepL k D'.w D'.l begun S begun.length m j ++ [stepPr k D'.w D'.l begun S begun.length m x] := by
      unfold stepL
      rw [List.range_succ, List.map_append]
      show _ ++ [stepPr k D'.w D'.l begun S begun.length m ((S ++ [(begun.length : Int)]).getD j 0)] = _
      rw [ex]
    -- what is appended
    have fin : ∀ (H9 : Hp) (pa : Addr) (c' : Int) (pt : Addr) (v9 v10 : Option V), Same H' H9 → H9 pa = none → TupI H9 pt (stepPr k D'.w D'.l begun S begun.length m x).2 → c' = (stepPr k D'.w D'.l begun S begun.length m x).1 →
        rAppend (.ref fl) [.ref pa] (upd H9 pa (.tup [.int c', .ref pt])) fun x' H' => ∃ (u7 u8 u9 u10 : Option V), [some (V.ref t), some (V.int k), some (V.ref b), some (V.ref ga), some (V.int (begun.length : Int)), some (V.ref ts), some (V.ref fl), some (V.int (j : Int)), some (V.ref mo), v9, v10] = [some (V.ref t), some (V.int k), some (V.ref b), some (V.ref ga), some (V.int (begun.length : Int)), some (V.ref ts), some (V.ref fl), u7, u8, u9, u10] ∧ Kp [fl] H4 H' ∧
          ∃ bs : List Addr, H' fl = some (.lst (bs.map V.ref)) ∧ Paired (PairI H') bs (stepL k D'.w D'.l begun S begun.length m (j + 1)) := fun H9 pa c' pt v9 v10 s9 npa hpt ec => by
      have s10 := s9.trans (same_new (o := .tup [.int c', .ref pt]) npa)
      have hfl10 := s10 _ _ hfl'
      have tkl := tk_list (H' := upd (upd H9 pa (.tup [.int c', .ref pt])) fl (.lst (bs.map V.ref ++ [V.ref pa]))) hfl10 ((Kp.refl _ _).mut (.inl (List.mem_singleton.mpr rfl)))
      refine ⟨fl, _, _, rfl, rfl, hfl10, by rw [List.length_map]; exact small1000 (by omega), _, _, _, _, rfl, (k'.trans (Kp.of s10)).mut (.inl (List.mem_singleton.mpr rfl)), bs ++ [pa], ?_, ?_⟩
      · rw [upd_same, List.map_append]; rfl
      · rw [esucc]
        refine Paired.snoc ⟨pt, ?_, ?_⟩ (Paired.imp (fun a b z => (PairI.tk z (same_tk s10)).tk tkl) hP')
        · rw [← ec]
          exact tkl _ _ upd_same
        · exact (TupI.tk hpt (same_tk (same_new npa))).tk tkl
    refine ⟨_, rfl, _, _, rfl, rfl, _, rfl, t, CT, dx6, _, _, rfl, s78 _ _ f1, T.clT, T.nT_writes, tkF_writes _ _, w6, _, rfl, .inr (SqT.of (s78 _ _ g1)), rfl, _, rfl, ?_⟩
    have hfl8 := s58 _ _ hfl'
    by_cases hm0 : m = 0
    · subst hm0
      have ed : decide (V.int ((begun.length : Int) + 1) = V.int (((as6.map V.ref).length : Nat) : Int)) = true := decide_eq_true (by rw [eN]; congr 1; omega)
      rw [ed]
      refine iteT ⟨_, rfl, .inl ⟨rfl, _, SqL.of hfl8⟩, _, rfl, _, rfl, by show 2 ≤ sizeLine; decide, fun pa npa => fin H8 pa _ mo _ _ s58 npa hmo8 ?_⟩
      show hc D'.w D'.l S x begun.length = hc D'.w D'.l S x begun.length + 0
      omega
    · have ed : decide (V.int ((begun.length : Int) + 1) = V.int (((as6.map V.ref).length : Nat) : Int)) = false := decide_eq_false (by
        rw [eN]
        intro e
        injection e with e
        omega)
      rw [ed]
      refine iteF ?_
      have omore : ok (max kk k) [] 0 (begun ++ [x]) := ok_snoc.mpr ⟨ok_mono (Int.le_max_left _ _) ob, by rw [hS, Int.zero_add]; exact px, by
        rw [hS, pn, List.length_take]
        have := Int.le_max_right kk k
        omega⟩
      have lmore : (begun ++ [x]).length = begun.length + 1 := by rw [List.length_append]; rfl
      refine ⟨_, rfl, _, rfl, _, rfl, t, mo, D', k, max kk k, begun ++ [x], rfl, ht8, hmo8, omore, by omega, by omega, hk1, hk2, fun H9 qa c9 p9 s9 hpr hb9 => ?_⟩
      obtain ⟨pt9, hq1, hq2⟩ := hpr
      rw [erm, lmore, show D'.N - (begun.length + 1) = m by omega] at hb9
      obtain ⟨u1, u2⟩ := hb9.uniq (best_is hk1 m (nxt S x) ((begun.length : Int) + 1) (gd.nxt px))
      refine ⟨_, rfl, .inl ⟨rfl, _, SqL.of (s9 _ _ hfl8)⟩, _, rfl, _, rfl, qa, _, _, _, rfl, rfl, SqT.of hq1, rfl, _, _, rfl, rfl, _, rfl, qa, _, _, _, rfl, rfl, SqT.of hq1, rfl, by show 2 ≤ sizeLine; decide, fun pa npa => fin H9 pa _ pt9 _ _ (s58.trans s9) npa ?_ ?_⟩
      · have e : (begun ++ [x]) ++ p9 = (stepPr k D'.w D'.l begun S begun.length m x).2 := by
          unfold stepPr
          rw [u2, List.append_assoc]
          rfl
        rw [← e]
        exact hq2
      · unfold stepPr
        rw [u1]
  · rintro σ H' ⟨v7, v8, v9, v10, rfl, k', bs, hfl', hP'⟩
    have hga' : PairI H' ga (c, begun ++ p) := PairI.tk hga ((same_tk s14).trans (tk_list hfl k'))
    have lst : (stepL k D'.w D'.l begun S begun.length m J).length = J := by unfold stepL; rw [List.length_map, List.length_range]
    refine ⟨_, rfl, _, rfl, fl, bs, _, rfl, SqL.of hfl', hP', fun e => ?_, fun pb pr hpb hpr hpm hpl => ?_⟩
    · rw [e, List.length_nil] at lst
      omega
    have epr := smin J hJ pr hpm hpl
    subst epr
    refine ⟨_, _, dp_pair hga', dp_pair hpr, shaped_pair _ _, shaped_pair _ _, ?_⟩
    rw [SeqAt.eqv_refl _ (can_pair _ _)]
    have nfl0 : H fl = none := by
      have z := Kp.free (M := []) (Kp.of s13) nfl (fun h => by cases h)
      exact z
    exact q H' fun a o ha => k' _ _ (s14 _ _ ha) fun hm => by
      rw [List.mem_singleton.mp hm, nfl0] at ha
      cases ha
end
end Js

/-! JsL5: the law. -/
namespace Js
open PySem PySem.Spec PyProof.Rows L2
theorem gName_nx {i : Nat} {v : V} {σ : L2.St} {H : Hp} {Q : L2.St → Hp → Prop} (h : Q (σ.set i (some v)) H) : gName i v σ H Q := h
structure LawAt (CT : Addr) (D : TkD) (hd ca aw al y : Addr) (H : Hp) : Prop where
  hh : HandAt H hd ca
  ht : TkAt CT D H y
  hw : MatI H aw D.W
  hl : MatI H al D.L
theorem LawAt.same {CT : Addr} {D : TkD} {hd ca aw al y : Addr} {H H' : Hp} (h : LawAt CT D hd ca aw al y H) (s : Same H H') : LawAt CT D hd ca aw al y H' := ⟨h.hh.same s, h.ht.same s, h.hw.tk (same_tk s), h.hl.tk (same_tk s)⟩
theorem LawAt.kp {CT : Addr} {D : TkD} {hd ca aw al y : Addr} {H H' : Hp} (h : LawAt CT D hd ca aw al y H) (k : Kp [hd] H H') (hh : HandAt H' hd ca) : LawAt CT D hd ca aw al y H' := by
  have tk := h.hh.tk k
  obtain ⟨cells, i, big, seed, cnt, h1, _⟩ := h.hh
  exact ⟨hh, h.ht.kpl h1 k, h.hw.tk tk, h.hl.tk tk⟩
section
variable {P : Program} {w : World} {K : PySem.W.Frag} {mg : Str → Option Value} {base : Heap} {CT CS CR fm : Addr}
def spLaw (K : PySem.W.Frag) : Sp := fun vs H Q _ => ∃ (a : Addr) (ns : List Int), vs = [.ref a] ∧ SqL K H a (ns.map V.int) ∧ ns.length ≤ 63 ∧ ∀ H', Q (.bl true) H'
abbrev s_law : Stmt := top 54
abbrev N_law : List Str := ["_law_script", "_law_hand_here", "_law_hours", "_law_most", "_law_writes", "_law_looks", "_law_task", "_law_turn", "_law_many", "_law_begun", "_law_got", "_law_again", "_law_plan_here", "_law_left"]
theorem sc_law : FnScope N_law ["_law_script"] (defScope s_law) := ⟨rfl, rfl, rfl, by decide +kernel, rfl, by decide +kernel, by decide +kernel⟩
theorem rd_law {f : Addr} {fd : FuncData} (F : Fun K "law" "law" s_law f fd) (T : Txt K mg CT CS CR) (R_law_hand : Rdy P w K mg base "_law_hand" ["_law_script"] 1 (spHand K)) (R_law_draw : Rdy P w K mg base "_law_draw" ["_law_hand_here", "_law_many"] 1 spDraw) (R_law_is : Rdy P w K mg base "_law_is" ["_law_got", "_law_due"] 2 spIs) (R_law_prices : Rdy P w K mg base "_law_prices" ["_law_hand_here", "_law_hours"] 3 spPrices) (R_law_plan : Rdy P w K mg base "_law_plan" ["_law_hand_here", "_law_hours", "_law_most"] 2 spLPlan) (R_law_later_cost : Rdy P w K mg base "_law_later_cost" ["_law_writes", "_law_looks", "_law_plan_here", "_law_many"] 2 spLaterCost) (R_law_stands : Rdy P w K mg base "_law_stands" ["_law_plan_here", "_law_most", "_law_begun"] 1 spStands) (R_law_step_right : Rdy P w K mg base "_law_step_right" ["_law_task", "_law_most", "_law_begun", "_law_got"] 158 (spStepRight CT)) (R_law_goes_on : Rdy P w K mg base "_law_goes_on" ["_law_hand_here", "_law_plan_here", "_law_hours", "_law_most"] 2 spGoesOn) (R_rest : Rdy P w K mg base "rest" ["task", "most", "begun"] 157 (spRest CT)) (R_least_plan : Rdy P w K mg base "least_plan" ["task", "most"] 154 (spLeastPlan CT)) (R_least : Rdy P w K mg base "least" ["task", "most"] 124 (spLeast CT)) (R_Task : CRdy P w K mg base "Task" CT ["self", "writes", "looks"] 5 (spTaskInit CT)) 
    : FnOk P w K mg base CX0 159 f fd ["_law_script"] (spLaw K) := by
  refine F.ok (k := 158) sc_law (fun vs H Q E h => ?_) (fun cdv A outer st H vs Q E hr h => ?_)
  · obtain ⟨a, ns, rfl, _⟩ := h; rfl
  obtain ⟨a, ns, rfl, ha, hns, q⟩ := h
  refine ⟨_, (pss_cons (ps_set (i := 1) sc_law.nd rfl (Or.inl rfl) (pe_rdy R_law_hand (hr.mono (by omega)) rfl (pa_cons (pv 0) pa_nil)))
    (pss_cons (ps_set (i := 2) sc_law.nd rfl (Or.inl rfl) (pe_op op_add pe_int (pe_rdy R_law_draw (hr.mono (by omega)) rfl (pa_cons (pv 1) (pa_cons pe_int pa_nil)))))
    (pss_cons (ps_set (i := 3) sc_law.nd rfl (Or.inl rfl) (pe_op op_add pe_int (pe_rdy R_law_draw (hr.mono (by omega)) rfl (pa_cons (pv 1) (pa_cons pe_int pa_nil)))))
    (pss_cons (ps_if (pt_cmpR op_eq (pe_rdy R_law_draw (hr.mono (by omega)) rfl (pa_cons (pv 1) (pa_cons pe_int pa_nil))) pe_int (nomark _))
    (pss_cons (ps_set (i := 2) sc_law.nd rfl (Or.inl rfl) (pe_ix ix_list (pe_lst (pa_cons pe_int (pa_cons pe_int pa_nil))) (pe_rdy R_law_draw (hr.mono (by omega)) rfl (pa_cons (pv 1) (pa_cons pe_int pa_nil))) (fun _ _ => rfl)))
    (pss_one (ps_set (i := 3) sc_law.nd rfl (Or.inl rfl) (pe_op op_add pe_int (pe_rdy R_law_draw (hr.mono (by omega)) rfl (pa_cons (pv 1) (pa_cons pe_int pa_nil)))))))
    pss_nil)
    (pss_cons (ps_asg (pe_rdy R_law_prices (hr.mono (by omega)) rfl (pa_cons (pv 1) (pa_cons (pv 2) pa_nil))) (pg_tup rfl (pgs_cons (pg_name (i := 4) sc_law.nd rfl (Or.inl rfl)) (pgs_cons (pg_name (i := 5) sc_law.nd rfl (Or.inl rfl)) pgs_nil))))
    (pss_cons (ps_set (i := 6) sc_law.nd rfl (Or.inl rfl) (pe_crdy R_Task (hr.mono (by omega)) rfl (pa_cons (pv 4) (pa_cons (pv 5) pa_nil))))
    (pss_cons (ps_for PassesOwn.never rfl (pi_range1 rfl T.range (pa_cons pe_int pa_nil)) (pg_name (i := 7) sc_law.nd rfl (Or.inl rfl))
    (pss_cons (ps_set (i := 8) sc_law.nd rfl (Or.inl rfl) (pe_ix ix_list (pe_lst (pa_cons (pe_op op_add pe_int (pe_rdy R_law_draw (hr.mono (by omega)) rfl (pa_cons (pv 1) (pa_cons (pe_op op_sub (pv 2) pe_int) pa_nil)))) (pa_cons (pe_op op_sub (pe_op op_sub (pv 2) pe_int) (pe_rdy R_law_draw (hr.mono (by omega)) rfl (pa_cons (pv 1) (pa_cons pe_int pa_nil)))) pa_nil))) (pv 7) (fun _ _ => rfl)))
    (pss_cons (ps_set (i := 9) sc_law.nd rfl (Or.inl rfl) (pe_rdy R_law_plan (hr.mono (by omega)) rfl (pa_cons (pv 1) (pa_cons (pv 8) (pa_cons pe_int pa_nil)))))
    (pss_cons (ps_set (i := 10) sc_law.nd rfl (Or.inl rfl) (pe_rdy R_rest (hr.mono (by omega)) rfl (pa_cons (pv 6) (pa_cons (pv 3) (pa_cons (pv 9) pa_nil)))))
    (pss_cons (ps_if (PW.pt (pw_or (pt_not (pt_val (pe_callB cr_isA rfl T.isinstance (by decide +kernel) (pa_cons (pv 10) (pa_cons (pe_bltn (v := .ty "tuple") rfl T.tuple (by decide +kernel) rfl) pa_nil))))) (pw_or (pt_cmpR op_ne (pe_callB call_len_seq rfl T.len PySem.boot_len (pa_cons (pv 10) pa_nil)) pe_int (nomark _)) (pw_or (pt_not (pt_val (pe_rdy R_law_stands (hr.mono (by omega)) rfl (pa_cons (pe_ix ix_tup (pv 10) pe_int (fun _ _ => rfl)) (pa_cons (pv 3) (pa_cons (pv 9) pa_nil)))))) (pw_or1 (pt_cmpR op_ne (pe_callB call_len_seq rfl T.len PySem.boot_len (pa_cons (pe_ix ix_tup (pv 10) pe_int (fun _ _ => rfl)) pa_nil)) (pv 2) (nomark _)))))))
    (pss_one (ps_ret pe_bl))
    pss_nil)
    (pss_cons (ps_if (pt_not (pt_val (pe_rdy R_law_is (hr.mono (by omega)) rfl (pa_cons (pe_ix ix_tup (pv 10) pe_int (fun _ _ => rfl)) (pa_cons (pe_rdy R_law_later_cost (hr.mono (by omega)) rfl (pa_cons (pv 4) (pa_cons (pv 5) (pa_cons (pe_ix ix_tup (pv 10) pe_int (fun _ _ => rfl)) (pa_cons (pv 8) pa_nil))))) pa_nil)))))
    (pss_one (ps_ret pe_bl))
    pss_nil)
    (pss_cons (ps_if (pt_not (pt_val (pe_rdy R_law_step_right (hr.mono (by omega)) rfl (pa_cons (pv 6) (pa_cons (pv 3) (pa_cons (pv 9) (pa_cons (pv 10) pa_nil)))))))
    (pss_one (ps_ret pe_bl))
    pss_nil)
    (pss_one (ps_for PassesOwn.never rfl (pi_range1 rfl T.range (pa_cons pe_int pa_nil)) (pg_name (i := 11) sc_law.nd rfl (Or.inl rfl))
    (pss_one (ps_if (pt_cmpR op_lt (pe_rdy R_law_later_cost (hr.mono (by omega)) rfl (pa_cons (pv 4) (pa_cons (pv 5) (pa_cons (pe_rdy R_law_goes_on (hr.mono (by omega)) rfl (pa_cons (pv 1) (pa_cons (pv 9) (pa_cons (pv 2) (pa_cons (pv 3) pa_nil))))) (pa_cons (pv 8) pa_nil))))) (pe_ix ix_tup (pv 10) pe_int (fun _ _ => rfl)) (nomark _))
    (pss_one (ps_ret pe_bl))
    pss_nil)))))))))))
    (pss_cons (ps_set (i := 12) sc_law.nd rfl (Or.inl rfl) (pe_rdy R_least_plan (hr.mono (by omega)) rfl (pa_cons (pv 6) (pa_cons (pv 3) pa_nil))))
    (pss_cons (ps_set (i := 8) sc_law.nd rfl (Or.inl rfl) (pe_op op_add pe_int (pe_rdy R_law_draw (hr.mono (by omega)) rfl (pa_cons (pv 1) (pa_cons (pe_op op_sub (pv 2) pe_int) pa_nil)))))
    (pss_cons (ps_set (i := 13) sc_law.nd rfl (Or.inl rfl) (pe_rdy R_law_later_cost (hr.mono (by omega)) rfl (pa_cons (pv 4) (pa_cons (pv 5) (pa_cons (pv 12) (pa_cons (pv 8) pa_nil))))))
    (pss_one (ps_ret (pe_and (pe_cmpR (op_eqD hr.units) (pe_rdy R_rest (hr.mono (by omega)) rfl (pa_cons (pv 6) (pa_cons (pv 3) (pa_cons (pe_slice sl_tupA (pv 12) po_none (po_some (pv 8))) pa_nil)))) (pe_tup (pa_cons (pv 13) (pa_cons (pv 12) pa_nil))) (nomark _)) (pe_one (pe_cmpR op_eq (pe_rdy R_least (hr.mono (by omega)) rfl (pa_cons (pv 6) (pa_cons (pv 3) pa_nil))) (pe_rdy R_law_later_cost (hr.mono (by omega)) rfl (pa_cons (pv 4) (pa_cons (pv 5) (pa_cons (pv 12) (pa_cons pe_int pa_nil))))) (nomark _)))))))))))))))), ?_⟩
  refine ⟨_, rfl, a, ns, rfl, ha, hns, fun H1 hd ca s1 hd0 hh1 => ?_⟩
  refine ⟨_, rfl, hd, ca, 5, rfl, hh1, by omega, by omega, fun H2 d2 k2 hh2 hd20 hd21 => ⟨_, _, rfl, rfl, ?_⟩⟩
  refine ⟨_, rfl, hd, ca, 4, rfl, hh2, by omega, by omega, fun H3 d3 k3 hh3 hd30 hd31 => ⟨_, _, rfl, rfl, ?_⟩⟩
  refine gName_nx ?_
  dsimp only
  refine seqI (I := fun σ H' => ∃ N k : Int, σ = [some (.ref a), some (.ref hd), some (.int N), some (.int k), none, none, none, none, none, none, none, none, none, none] ∧ HandAt H' hd ca ∧ 8 ≤ N ∧ N ≤ 30 ∧ 1 ≤ k ∧ k ≤ 4) (fun nx hnx => ?_) ?_
  · refine ⟨_, rfl, hd, ca, 24, rfl, hh3, by omega, by omega, fun H4 d4 k4 hh4 hd40 hd41 => ⟨rfl, _, rfl, ite2 (fun g => ?_) (fun g => hnx _ _ ⟨_, _, rfl, hh4, by omega, by omega, by omega, by omega⟩)⟩⟩
    refine ⟨by show 2 ≤ sizeLine; decide, fun tl ntl => ?_⟩
    have s5 := same_new (o := .lst [.int 20, .int 30]) ntl
    refine ⟨_, rfl, hd, ca, 2, rfl, hh4.same s5, by omega, by omega, fun H6 d6 k6 hh6 hd60 hd61 => ?_⟩
    have htl : H6 tl = some (.lst [.int 20, .int 30]) := k6 _ _ upd_same (fun hm => hh4.ne ntl (List.mem_singleton.mp hm))
    have pick : ∃ v : Int, atI [V.int 20, V.int 30] d6 = some (V.int v) ∧ 8 ≤ v ∧ v ≤ 30 := by
      obtain rfl | rfl : d6 = 0 ∨ d6 = 1 := by omega
      · exact ⟨20, rfl, by omega, by omega⟩
      · exact ⟨30, rfl, by omega, by omega⟩
    obtain ⟨v, hv, hv0, hv1⟩ := pick
    refine ⟨tl, _, _, _, rfl, rfl, SqL.of htl, hv, ?_⟩
    exact ⟨_, rfl, hd, ca, 2, rfl, hh6, by omega, by omega, fun H7 d7 k7 hh7 hd70 hd71 => ⟨_, _, rfl, rfl, hnx _ _ ⟨v, 1 + d7, rfl, hh7, hv0, hv1, by omega, by omega⟩⟩⟩
  rintro σ H4 ⟨Ni, k, rfl, hh4, hN0, hN1, hk0, hk1⟩
  obtain ⟨N, rfl⟩ : ∃ N : Nat, Ni = (N : Int) := ⟨Ni.toNat, by omega⟩
  refine ⟨_, rfl, _, rfl, hd, ca, N, rfl, hh4, by omega, fun H5 q5 aw al W L k5 hh5 hq5 hW hL => ?_⟩
  refine ⟨q5, _, rfl, SqT.of hq5, rfl, _, _, rfl, _, _, rfl, rfl, ?_⟩
  have okD : TkD.Ok ⟨N, W, L⟩ := ⟨hW.2.1, hL.2.1, by show 1 ≤ N; omega, by show N ≤ 30; omega⟩
  generalize hD : (⟨N, W, L⟩ : TkD) = DD at okD
  have hDN : DD.N = N := by rw [← hD]
  have hDW : DD.W = W := by rw [← hD]
  have hDL : DD.L = L := by rw [← hD]
  refine ⟨_, rfl, _, rfl, fun y dy ny ndy ney => ?_⟩
  have s5 : Same H5 (upd (upd H5 dy (.own y)) y (.ins CT dy [])) := (same_new ndy).trans (same_new (by rw [upd_ne ney.symm]; exact ny))
  refine ⟨y, dy, aw, al, DD, rfl, upd_same, okD, by rw [hDW]; exact hW.1.tk (same_tk s5), by rw [hDL]; exact hL.1.tk (same_tk s5), by rw [hDW]; exact hW.2.2, by rw [hDL]; exact hL.2.2, fun H6 k6 ht6 => ⟨rfl, ?_⟩⟩
  have s56 : Same H5 H6 := made_same ny ndy k6
  have A6 : LawAt CT DD hd ca aw al y H6 := ⟨hh5.same s56, ht6, by rw [hDW]; exact hW.1.tk (same_tk s56), by rw [hDL]; exact hL.1.tk (same_tk s56)⟩
  clear hW hL hq5 ht6 k6 hh5 hh4 hh3 hh2 hh1
  refine ⟨_, rfl, by decide, by decide, for_range (lo := 0) (n := 2)
    (fun j σ H' => ∃ v7 v8 v9 v10 v11 v12 v13 : Option V, σ = [some (.ref a), some (.ref hd), some (.int N), some (.int k), some (.ref aw), some (.ref al), some (.ref y), v7, v8, v9, v10, v11, v12, v13] ∧ LawAt CT DD hd ca aw al y H')
    ⟨none, none, none, none, none, none, none, rfl, A6⟩ ?_ ?_⟩
  · rintro j σ H7 hj ⟨v7, v8, v9, v10, v11, v12, v13, rfl, A7⟩
    refine ⟨_, rfl, _, rfl, _, _, rfl, rfl, hd, ca, (N : Int) - 1, rfl, A7.hh, by omega, by omega, fun H8 d8 k8 hh8 hd80 hd81 => ⟨_, _, rfl, rfl, ?_⟩⟩
    refine ⟨_, rfl, _, _, rfl, rfl, _, rfl, hd, ca, 3, rfl, hh8, by omega, by omega, fun H9 d9 k9 hh9 hd90 hd91 => ⟨_, _, rfl, rfl, by show 2 ≤ sizeLine; decide, fun tl ntl => ?_⟩⟩
    have A9 := (A7.kp k8 hh8).kp k9 hh9
    have A10 := A9.same (same_new (o := .lst [.int (1 + d8), .int ((N : Int) - 1 - d9)]) ntl)
    have pick : ∃ many : Nat, atI [V.int (1 + d8), V.int ((N : Int) - 1 - d9)] (0 + (j : Int)) = some (V.int many) ∧ 1 ≤ many ∧ many < N := by
      obtain rfl | rfl : j = 0 ∨ j = 1 := by omega
      · exact ⟨(1 + d8).toNat, by rw [Int.toNat_of_nonneg (by omega)]; rfl, by omega, by omega⟩
      · exact ⟨((N : Int) - 1 - d9).toNat, by rw [Int.toNat_of_nonneg (by omega)]; rfl, by omega, by omega⟩
    obtain ⟨many, hmany, hm1, hm2⟩ := pick
    refine ⟨_, rfl, tl, _, _, _, rfl, rfl, SqL.of upd_same, hmany, ?_⟩
    generalize upd H9 tl (.lst [.int (1 + d8), .int ((N : Int) - 1 - d9)]) = H10 at A10
    refine ⟨_, rfl, _, rfl, hd, ca, many, 6, rfl, A10.hh, by omega, by omega, by omega, fun H11 b begun k11 hh11 hb ob lb => ?_⟩
    have A11 := A10.kp k11 hh11
    refine ⟨_, rfl, _, rfl, _, rfl, y, b, DD, k, 6, begun, rfl, A11.ht, hb, ob, by omega, by omega, by omega, by omega, fun H12 ga c p s12 hga hbest => ?_⟩
    have A12 := A11.same s12
    have hb12 := TupI.tk hb (same_tk s12)
    have hlen : (begun ++ p).length = N := by rw [List.length_append, hbest.len]; omega
    obtain ⟨gp, hga1, hgp⟩ := id hga
    -- the first check
    refine ⟨_, rfl, _, _, _, rfl, .tt hga1, true, rfl, iteF ?_⟩
    refine ⟨_, rfl, ga, _, rfl, .inr (SqT.of hga1), rfl, _, rfl, ?_⟩
    refine iteF ?_
    refine ⟨_, rfl, ga, _, _, _, rfl, rfl, SqT.of hga1, rfl, _, rfl, _, rfl, gp, b, k, 6, begun, p, rfl, hgp, hb12, ob, hbest.ok, by omega, fun H13 s13 => ⟨_, rfl, iteF ?_⟩⟩
    have A13 := A12.same s13
    have hgp13 := TupI.tk hgp (same_tk s13)
    have hga13 := PairI.tk hga (same_tk s13)
    have hb13 := TupI.tk hb12 (same_tk s13)
    have hga113 := s13 _ _ hga1
    refine ⟨_, rfl, ga, _, _, _, rfl, rfl, SqT.of hga113, rfl, gp, _, rfl, .inr (SqT.of hgp13), _, rfl, rfl, _, rfl, ?_⟩
    have elen : (!decide (V.int ((((begun ++ p).map V.int).length : Nat) : Int) = V.int (N : Int))) = false := by rw [List.length_map, hlen]; simp
    rw [elen]
    refine iteF ?_
    -- the cost
    have opl : ok (max 6 k) [] 0 (begun ++ p) := ok_append.mpr ⟨ok_mono (Int.le_max_left _ _) ob, by rw [Int.zero_add]; exact ok_mono (Int.le_max_right _ _) hbest.ok⟩
    have hcost : cst DD.w DD.l (runs [] ((begun ++ p).take many)) many ((begun ++ p).drop many) = c := by
      rw [← lb, List.take_left, List.drop_left]
      exact hbest.cost
    refine ⟨_, rfl, ga, _, _, _, rfl, rfl, SqT.of hga113, rfl, _, rfl, _, rfl, _, rfl, ga, _, _, _, rfl, rfl, SqT.of hga113, rfl, _, rfl, aw, al, gp, DD, begun ++ p, max 6 k, many, rfl, okD, A13.hw, A13.hl, hgp13, opl, by omega, by omega, fun H14 s14 => ?_⟩
    rw [hcost]
    refine ⟨c, c, rfl, fun H15 s15 => ⟨_, rfl, ?_⟩⟩
    rw [decide_eq_true (rfl : c = c)]
    refine iteF ?_
    have s1315 := s14.trans s15
    have A15 := A13.same s1315
    -- the step
    refine ⟨_, rfl, _, rfl, _, rfl, _, rfl, y, b, ga, DD, k, 6, begun, p, c, rfl, A15.ht, TupI.tk hb13 (same_tk s1315), ob, by omega, by omega, by omega, by omega, PairI.tk hga13 (same_tk s1315), hbest, fun H16 s16 => ⟨_, rfl, iteF ?_⟩⟩
    have s1316 := s1315.trans s16
    have A16 := A13.same s1316
    have hb16 := TupI.tk hb13 (same_tk s1316)
    have hga16 := PairI.tk hga13 (same_tk s1316)
    refine ⟨_, rfl, by decide, by decide, for_range (lo := 0) (n := 3)
      (fun i σ H' => ∃ v11 v12 v13 : Option V, σ = [some (.ref a), some (.ref hd), some (.int N), some (.int k), some (.ref aw), some (.ref al), some (.ref y), some (.int (0 + (j : Int))), some (.int many), some (.ref b), some (.ref ga), v11, v12, v13] ∧ LawAt CT DD hd ca aw al y H' ∧ TupI H' b begun ∧ PairI H' ga (c, begun ++ p))
      ⟨_, _, _, rfl, A16, hb16, hga16⟩ ?_ ?_⟩
    · rintro i σ H17 hi ⟨v11, v12, v13, rfl, A17, hb17, hga17⟩
      refine ⟨_, rfl, _, rfl, _, rfl, _, rfl, _, rfl, _, rfl, hd, ca, b, N, k, 6, begun, rfl, A17.hh, hb17, ob, by omega, by omega, by omega, by omega, by omega, fun H18 gq p' k18 hh18 hgq ok18 lp => ?_⟩
      have A18 := A17.kp k18 hh18
      have tk18 := A17.hh.tk k18
      have opl2 : ok (max 6 k) [] 0 (begun ++ p') := ok_append.mpr ⟨ok_mono (Int.le_max_left _ _) ob, by rw [Int.zero_add]; exact ok_mono (Int.le_max_right _ _) ok18⟩
      have hlen2 : (begun ++ p').length = N := by rw [List.length_append, lp]; omega
      have hcost2 : cst DD.w DD.l (runs [] ((begun ++ p').take many)) many ((begun ++ p').drop many) = cst DD.w DD.l (runs [] begun) begun.length p' := by
        rw [← lb, List.take_left, List.drop_left]
      refine ⟨_, rfl, aw, al, gq, DD, begun ++ p', max 6 k, many, rfl, okD, A18.hw, A18.hl, hgq, opl2, by omega, by omega, fun H19 s19 => ?_⟩
      rw [hcost2]
      have hga19 := PairI.tk (PairI.tk hga17 tk18) (same_tk s19)
      have hb19 := TupI.tk (TupI.tk hb17 tk18) (same_tk s19)
      have A19 := A18.same s19
      obtain ⟨gp', hga191, hgp'⟩ := id hga19
      have hle := hbest.least p' ok18 (by rw [lp, hDN])
      have hge : ¬ cst DD.w DD.l (runs [] begun) begun.length p' < c := by
        rcases le_cons.mp hle with z | ⟨z, _⟩ <;> omega
      refine ⟨_, rfl, ga, _, _, _, rfl, rfl, SqT.of hga191, rfl, _, _, rfl, rfl, _, rfl, ite2 (fun g => absurd (of_decide_eq_true g) hge) (fun _ => ?_)⟩
      exact ⟨_, _, _, rfl, A19, hb19, hga19⟩
    · rintro σ H17 ⟨v11, v12, v13, rfl, A17, hb17, hga17⟩
      exact ⟨_, _, _, _, _, _, _, rfl, A17⟩
  · rintro σ H7 ⟨v7, v8, v9, v10, v11, v12, v13, rfl, A7⟩
    have hplan : IsBest k DD.w DD.l [] 0 N (span k DD.w DD.l 0 N) (plan k DD.w DD.l 0 N) := span_is hk0 0 N
    have lplan := hplan.len
    refine ⟨_, rfl, _, rfl, y, DD, k, rfl, A7.ht, by omega, by omega, fun H8 pl s8 hpl => ?_⟩
    rw [hDN] at hpl
    have A8 := A7.same s8
    refine ⟨_, rfl, _, rfl, _, _, rfl, rfl, hd, ca, (N : Int) - 1, rfl, A8.hh, by omega, by omega, fun H9 d9 k9 hh9 hd90 hd91 => ⟨_, _, rfl, rfl, ?_⟩⟩
    have A9 := A8.kp k9 hh9
    have hpl9 := TupI.tk hpl (A8.hh.tk k9)
    obtain ⟨m, hm⟩ : ∃ m : Nat, 1 + d9 = (m : Int) := ⟨(1 + d9).toNat, by omega⟩
    dsimp only
    rw [hm]
    have hm1 : 1 ≤ m ∧ m < N := by omega
    generalize hPl : plan k DD.w DD.l 0 N = pn at hplan lplan hpl9
    refine ⟨_, rfl, _, rfl, _, rfl, _, rfl, aw, al, pl, DD, pn, k, m, rfl, okD, A9.hw, A9.hl, hpl9, hplan.ok, by omega, by omega, fun H10 s10 => ?_⟩
    have A10 := A9.same s10
    have hpl10 := TupI.tk hpl9 (same_tk s10)
    have ltake : (pn.take m).length = m := by rw [List.length_take]; omega
    have hdrop : IsBest k DD.w DD.l (runs [] (pn.take m)) m (N - m) (cst DD.w DD.l (runs [] (pn.take m)) m (pn.drop m)) (pn.drop m) := by
      have z : IsBest k DD.w DD.l [] 0 ((pn.take m).length + (N - m)) (span k DD.w DD.l 0 N) (pn.take m ++ pn.drop m) := by
        rw [List.take_append_drop, ltake, show m + (N - m) = N by omega]
        exact hplan
      have z2 := z.drop
      rw [ltake, Int.zero_add] at z2
      exact z2
    refine ⟨_, rfl, _, rfl, _, rfl, _, rfl, _, rfl, slA_take hpl10 (by omega) fun tb H11 s11 htb => ?_⟩
    rw [Int.toNat_natCast] at htb
    have A11 := A10.same s11
    refine ⟨y, tb, DD, k, k, pn.take m, rfl, A11.ht, htb, ok_take hplan.ok m, by omega, by omega, by omega, by omega, fun H12 q12 c p s12 hpr hb => ?_⟩
    rw [ltake, hDN] at hb
    obtain ⟨u1, u2⟩ := hb.uniq hdrop
    have A12 := A11.same s12
    have hpl12 := TupI.tk hpl10 (same_tk (s11.trans s12))
    refine ⟨_, rfl, _, rfl, by show 2 ≤ sizeLine; decide, fun t2 nt2 => ?_⟩
    have s13 := same_new (o := .tup [.int (cst DD.w DD.l (runs [] (pn.take m)) m (pn.drop m)), .ref pl]) nt2
    have hpr13 := PairI.tk hpr (same_tk s13)
    rw [u1, u2, List.take_append_drop] at hpr13
    have hpr2 : PairI (upd H12 t2 (.tup [.int (cst DD.w DD.l (runs [] (pn.take m)) m (pn.drop m)), .ref pl])) t2 (cst DD.w DD.l (runs [] (pn.take m)) m (pn.drop m), pn) := ⟨pl, upd_same, TupI.tk hpl12 (same_tk s13)⟩
    have A13 := A12.same s13
    have hpl13 := TupI.tk hpl12 (same_tk s13)
    refine ⟨_, _, dp_pair hpr13, dp_pair hpr2, shaped_pair _ _, shaped_pair _ _, ?_⟩
    rw [SeqAt.eqv_refl _ (can_pair _ _)]
    refine ⟨true, rfl, iteT ?_⟩
    refine ⟨_, rfl, _, rfl, y, DD, k, rfl, A13.ht, by omega, by omega, fun H14 s14 => ?_⟩
    have A14 := A13.same s14
    refine ⟨_, rfl, _, rfl, _, rfl, aw, al, pl, DD, pn, k, 0, rfl, okD, A14.hw, A14.hl, TupI.tk hpl13 (same_tk s14), hplan.ok, by omega, by omega, fun H15 s15 => ⟨rfl, ?_⟩⟩
    have ecost : decide (V.int (span k DD.w DD.l 0 DD.N) = V.int (cst DD.w DD.l (runs [] (pn.take 0)) (0 : Nat) (pn.drop 0))) = true := decide_eq_true (by
      rw [hDN]
      congr 1
      exact hplan.cost.symm)
    show Q (V.bl (decide (V.int (span k DD.w DD.l 0 DD.N) = V.int (cst DD.w DD.l (runs [] (pn.take 0)) (0 : Nat) (pn.drop 0))))) H15
    rw [ecost]
    exact q H15
end
end Js

/-! JsAll: the chain of all defs, what the top has written, and the row's theorem. -/
namespace Js
open PySem PySem.Spec PyProof.Rows L2
section
variable {P : Program} {w : World} {K : PySem.W.Frag} {mg : Str → Option Value} {base : Heap} {CT CS CR fm : Addr}
theorem chain (T : Txt K mg CT CS CR) (hfm : mg "may_all" = some (.ref fm))
    (D_is_integer : DefAt K mg "is_integer" s_is_integer ["thing"])
    (D_is_within : DefAt K mg "is_within" s_is_within ["thing", "least", "most"])
    (D_is_row : DefAt K mg "is_row" s_is_row ["thing", "size", "least", "most"])
    (D_first_wrong_row : DefAt K mg "first_wrong_row" s_first_wrong_row ["rows", "least", "most"])
    (D_check_number : DefAt K mg "check_number" s_check_number ["thing", "least", "most"])
    (D_length_of : DefAt K mg "length_of" s_length_of ["task"])
    (D_write_of : DefAt K mg "write_of" s_write_of ["task", "first", "last"])
    (D_look_sum : DefAt K mg "look_sum" s_look_sum ["task", "begin", "first", "last"])
    (D_check_most : DefAt K mg "check_most" s_check_most ["most"])
    (D_may_all : DefAt K mg "may_all" s_may_all ["hour", "begin"])
    (D_best_pair : DefAt K mg "best_pair" s_best_pair ["task", "most", "may"])
    (D_least_cost : DefAt K mg "least_cost" s_least_cost ["task", "most"])
    (D_least : DefAt K mg "least" s_least ["task", "most"])
    (D_least_plan : DefAt K mg "least_plan" s_least_plan ["task", "most"])
    (D_is_plan_of : DefAt K mg "is_plan_of" s_is_plan_of ["hours", "thing"])
    (D_begins_next : DefAt K mg "begins_next" s_begins_next ["begins", "begin"])
    (D_is_any_plan : DefAt K mg "is_any_plan" s_is_any_plan ["thing"])
    (D_begins_behind : DefAt K mg "begins_behind" s_begins_behind ["plan"])
    (D_between : DefAt K mg "between" s_between ["solver", "most", "first", "last"])
    (D_check_begun : DefAt K mg "check_begun" s_check_begun ["task", "thing"])
    (D_rest : DefAt K mg "rest" s_rest ["task", "most", "begun"])
    (D__law_hand : DefAt K mg "_law_hand" s__law_hand ["_law_script"])
    (D__law_draw : DefAt K mg "_law_draw" s__law_draw ["_law_hand_here", "_law_many"])
    (D__law_is : DefAt K mg "_law_is" s__law_is ["_law_got", "_law_due"])
    (D__law_triangle : DefAt K mg "_law_triangle" s__law_triangle ["_law_hand_here", "_law_hours", "_law_most"])
    (D__law_summed : DefAt K mg "_law_summed" s__law_summed ["_law_sizes"])
    (D__law_prices : DefAt K mg "_law_prices" s__law_prices ["_law_hand_here", "_law_hours"])
    (D__law_begins : DefAt K mg "_law_begins" s__law_begins ["_law_plan_here"])
    (D__law_plan : DefAt K mg "_law_plan" s__law_plan ["_law_hand_here", "_law_hours", "_law_most"])
    (D__law_hour_cost : DefAt K mg "_law_hour_cost" s__law_hour_cost ["_law_writes", "_law_looks", "_law_begins_here", "_law_hour"])
    (D__law_later_cost : DefAt K mg "_law_later_cost" s__law_later_cost ["_law_writes", "_law_looks", "_law_plan_here", "_law_many"])
    (D__law_stands : DefAt K mg "_law_stands" s__law_stands ["_law_plan_here", "_law_most", "_law_begun"])
    (D__law_step_right : DefAt K mg "_law_step_right" s__law_step_right ["_law_task", "_law_most", "_law_begun", "_law_got"])
    (D__law_goes_on : DefAt K mg "_law_goes_on" s__law_goes_on ["_law_hand_here", "_law_plan_here", "_law_hours", "_law_most"])
    (D_Task : InitAt K mg "Task" CT "Task.__init__" s_Task___init__ ["self", "writes", "looks"])
    (D_Solver : InitAt K mg "Solver" CS "Solver.__init__" s_Solver___init__ ["self", "task", "may"])
    (D_Rest : InitAt K mg "Rest" CR "Rest.__init__" s_Rest___init__ ["self", "task", "most", "begun"])
    (D_Solver_capped : MethAt K CS "capped" "Solver.capped" s_Solver_capped ["self", "most", "first", "last"])
    (D_Solver_ahead_cost : MethAt K CS "ahead_cost" "Solver.ahead_cost" s_Solver_ahead_cost ["self", "most", "first", "top"])
    (D_Solver_behind_cost : MethAt K CS "behind_cost" "Solver.behind_cost" s_Solver_behind_cost ["self", "most", "top", "last"])
    (D_Solver_top_cost : MethAt K CS "top_cost" "Solver.top_cost" s_Solver_top_cost ["self", "most", "first", "last", "top"])
    (D_Solver_own_cost : MethAt K CS "own_cost" "Solver.own_cost" s_Solver_own_cost ["self", "most", "first", "last"])
    (D_Solver_span_cost : MethAt K CS "span_cost" "Solver.span_cost" s_Solver_span_cost ["self", "most", "first", "last"])
    (D_Solver_tops : MethAt K CS "tops" "Solver.tops" s_Solver_tops ["self", "most", "first", "last"])
    (D_Solver_span_plan : MethAt K CS "span_plan" "Solver.span_plan" s_Solver_span_plan ["self", "most", "first", "last"])
    (D_Rest_elder_looks : MethAt K CR "elder_looks" "Rest.elder_looks" s_Rest_elder_looks ["self", "many", "first", "last"])
    (D_Rest_ways_to : MethAt K CR "ways_to" "Rest.ways_to" s_Rest_ways_to ["self", "hour"])
    (D_Rest_written_at : MethAt K CR "written_at" "Rest.written_at" s_Rest_written_at ["self", "hour"])
    (D_Rest_best : MethAt K CR "best" "Rest.best" s_Rest_best ["self"])
    {f : Addr} {fd : FuncData} (F_law : Fun K "law" "law" s_law f fd) : FnOk P w K mg base CX0 159 f fd ["_law_script"] (spLaw K) := by
  have R_is_integer := rd_is_integer (P := P) (w := w) (base := base) D_is_integer T
  have R_is_within := rd_is_within (P := P) (w := w) (base := base) D_is_within R_is_integer
  have R_is_row := rd_is_row (P := P) (w := w) (base := base) D_is_row T R_is_within
  have R_first_wrong_row := rd_first_wrong_row (P := P) (w := w) (base := base) D_first_wrong_row T R_is_row
  have R_check_number := rd_check_number (P := P) (w := w) (base := base) D_check_number R_is_within
  have R_length_of := rd_length_of (P := P) (w := w) (base := base) D_length_of T
  have R_write_of := rd_write_of (P := P) (w := w) (base := base) D_write_of T
  have R_look_sum := rd_look_sum (P := P) (w := w) (base := base) D_look_sum T
  have R_check_most := rd_check_most (P := P) (w := w) (base := base) D_check_most T R_check_number
  have R_may_all := rd_may_all (P := P) (w := w) (base := base) D_may_all
  have R_Task := rd_Task (P := P) (w := w) (base := base) D_Task T R_first_wrong_row
  have R_Solver := rd_Solver (P := P) (w := w) (base := base) (fm := fm) D_Solver T
  have R_capped := rd_capped (P := P) (w := w) (base := base) D_Solver_capped T
  have R_own_all := rd_costs (P := P) (w := w) (base := base) (fm := fm) D_Solver_ahead_cost D_Solver_behind_cost D_Solver_top_cost D_Solver_own_cost D_Solver_span_cost T R_capped R_may_all hfm R_write_of R_look_sum
  have R_own29 := R_own_all 29
  have R_own30 := R_own_all 30
  have R_span29 := rd_span (P := P) (w := w) (base := base) (n := 29) D_Solver_span_cost T R_look_sum R_own29
  have R_span30 := rd_span (P := P) (w := w) (base := base) (n := 30) D_Solver_span_cost T R_look_sum R_own30
  have R_ahead29 := rd_ahead (P := P) (w := w) (base := base) (n := 29) D_Solver_ahead_cost T R_may_all hfm R_write_of R_own29
  have R_behind29 := rd_behind (P := P) (w := w) (base := base) (n := 29) D_Solver_behind_cost T R_span29
  have R_top29 := rd_top (P := P) (w := w) (base := base) (n := 29) D_Solver_top_cost T R_ahead29 R_behind29
  have R_tops := rd_tops (P := P) (w := w) (base := base) D_Solver_tops T R_own30 R_top29
  have R_plan30 := rd_plans (P := P) (w := w) (base := base) D_Solver_span_plan T R_capped R_tops 30
  have R_best_pair := rd_best_pair (P := P) (w := w) (base := base) D_best_pair T R_Solver R_length_of R_span30 R_plan30
  have R_least_cost := rd_least_cost (P := P) (w := w) (base := base) D_least_cost T hfm R_Solver R_length_of R_span30
  have R_least := rd_least (P := P) (w := w) (base := base) D_least R_check_most R_least_cost
  have R_least_plan := rd_least_plan (P := P) (w := w) (base := base) D_least_plan hfm R_check_most R_best_pair
  have R_between := rd_between (P := P) (w := w) (base := base) D_between T R_span30 R_plan30
  have R_begins_next := rd_begins_next (P := P) (w := w) (base := base) D_begins_next T
  have R_is_plan_of := rd_is_plan_of (P := P) (w := w) (base := base) D_is_plan_of T R_is_within R_begins_next
  have R_is_any_plan := rd_is_any_plan (P := P) (w := w) (base := base) D_is_any_plan T R_is_plan_of
  have R_begins_behind := rd_begins_behind (P := P) (w := w) (base := base) D_begins_behind T R_begins_next
  have R_check_begun := rd_check_begun (P := P) (w := w) (base := base) D_check_begun T R_is_any_plan R_length_of
  have R_Rest := rd_Rest (P := P) (w := w) (base := base) D_Rest T hfm R_begins_behind R_Solver
  have R_elder_looks := rd_elder_looks (P := P) (w := w) (base := base) (fm := fm) (CS := CS) D_Rest_elder_looks T R_look_sum
  have R_ways_to := rd_ways_to (P := P) (w := w) (base := base) D_Rest_ways_to T R_between R_elder_looks
  have R_written_at := rd_written_at (P := P) (w := w) (base := base) D_Rest_written_at T R_write_of R_elder_looks R_ways_to
  have R_best := rd_best (P := P) (w := w) (base := base) D_Rest_best T R_length_of R_ways_to R_written_at
  have R_rest := rd_rest (P := P) (w := w) (base := base) D_rest T R_check_most R_check_begun R_Rest R_best
  have R_law_hand := rd_law_hand (P := P) (w := w) (base := base) D__law_hand T
  have R_law_draw := rd_law_draw (P := P) (w := w) (base := base) D__law_draw T
  have R_law_is := rd_law_is (P := P) (w := w) (base := base) D__law_is T
  have R_law_triangle := rd_law_triangle (P := P) (w := w) (base := base) D__law_triangle T R_law_draw
  have R_law_summed := rd_law_summed (P := P) (w := w) (base := base) D__law_summed T
  have R_law_prices := rd_law_prices (P := P) (w := w) (base := base) D__law_prices T R_law_draw R_law_triangle R_law_summed
  have R_law_begins := rd_law_begins (P := P) (w := w) (base := base) D__law_begins T
  have R_law_plan := rd_law_plan (P := P) (w := w) (base := base) D__law_plan T R_law_draw
  have R_law_hour_cost := rd_law_hour_cost (P := P) (w := w) (base := base) D__law_hour_cost T
  have R_law_later_cost := rd_law_later_cost (P := P) (w := w) (base := base) D__law_later_cost T R_law_begins R_law_hour_cost
  have R_law_stands := rd_law_stands (P := P) (w := w) (base := base) D__law_stands T
  have R_law_goes_on := rd_law_goes_on (P := P) (w := w) (base := base) D__law_goes_on T R_law_draw R_law_begins
  have R_law_step_right := rd_law_step_right (P := P) (w := w) (base := base) D__law_step_right T R_law_begins R_law_hour_cost R_rest
  exact rd_law F_law T R_law_hand R_law_draw R_law_is R_law_prices R_law_plan R_law_later_cost R_law_stands R_law_step_right R_law_goes_on R_rest R_least_plan R_least R_Task
end
theorem all_mk {l : PySem.W.OpenLaw} {w : World} {K : PySem.W.Frag} {h : Heap} {mg : Str → Option Value} {fa CT CS CR f0 f1 f2 f3 f4 f5 f6 f7 f8 f9 f10 f11 f12 f13 f14 f15 f16 f17 f18 f19 f20 f21 f22 f23 f24 f25 f26 f27 f28 f29 f30 f31 f32 f33 f34 f35 f36 f37 f38 f39 f40 f41 f42 f43 f44 f45 f46 f47 f48 f49 : Addr} (X : K.In h) (G : h.Ns mainGlobals mg) (hfa : mg "law" = some (.ref fa))
    {od0 an0 od1 an1 od2 an2 od3 an3 od4 an4 od5 an5 od6 an6 od7 an7 od8 an8 od9 an9 od10 an10 od11 an11 od12 an12 od13 an13 od14 an14 od15 an15 od16 an16 od17 an17 od18 an18 od19 an19 od20 an20 od21 an21 od22 an22 od23 an23 od24 an24 od25 an25 od26 an26 od27 an27 od28 an28 od29 an29 od30 an30 od31 an31 od32 an32 od33 an33 od34 an34 od35 an35 od36 an36 od37 an37 od38 an38 od39 an39 od40 an40 od41 an41 od42 an42 od43 an43 od44 an44 od45 an45 od46 an46 od47 an47 od48 an48 od49 an49 : Option Addr} {sl0 sl1 sl2 sl3 sl4 sl5 sl6 sl7 sl8 sl9 sl10 sl11 sl12 sl13 sl14 sl15 sl16 sl17 sl18 sl19 sl20 sl21 sl22 sl23 sl24 sl25 sl26 sl27 sl28 sl29 sl30 sl31 sl32 sl33 sl34 sl35 sl36 sl37 sl38 sl39 sl40 sl41 sl42 sl43 sl44 sl45 sl46 sl47 sl48 sl49 : Array (Option Value)} {oc0 kV0 dc0 pm0 cd0 ct0 oc1 kV1 dc1 pm1 cd1 ct1 oc2 kV2 dc2 pm2 cd2 ct2 oc3 kV3 dc3 pm3 cd3 ct3 oc4 kV4 dc4 pm4 cd4 ct4 oc5 kV5 dc5 pm5 cd5 ct5 oc6 kV6 dc6 pm6 cd6 ct6 oc7 kV7 dc7 pm7 cd7 ct7 oc8 kV8 dc8 pm8 cd8 ct8 oc9 kV9 dc9 pm9 cd9 ct9 oc10 kV10 dc10 pm10 cd10 ct10 oc11 kV11 dc11 pm11 cd11 ct11 oc12 kV12 dc12 pm12 cd12 ct12 oc13 kV13 dc13 pm13 cd13 ct13 oc14 kV14 dc14 pm14 cd14 ct14 oc15 kV15 dc15 pm15 cd15 ct15 oc16 kV16 dc16 pm16 cd16 ct16 oc17 kV17 dc17 pm17 cd17 ct17 oc18 kV18 dc18 pm18 cd18 ct18 oc19 kV19 dc19 pm19 cd19 ct19 oc20 kV20 dc20 pm20 cd20 ct20 oc21 kV21 dc21 pm21 cd21 ct21 oc22 kV22 dc22 pm22 cd22 ct22 oc23 kV23 dc23 pm23 cd23 ct23 oc24 kV24 dc24 pm24 cd24 ct24 oc25 kV25 dc25 pm25 cd25 ct25 oc26 kV26 dc26 pm26 cd26 ct26 oc27 kV27 dc27 pm27 cd27 ct27 oc28 kV28 dc28 pm28 cd28 ct28 oc29 kV29 dc29 pm29 cd29 ct29 oc30 kV30 dc30 pm30 cd30 ct30 oc31 kV31 dc31 pm31 cd31 ct31 oc32 kV32 dc32 pm32 cd32 ct32 oc33 kV33 dc33 pm33 cd33 ct33 oc34 kV34 dc34 pm34 cd34 ct34 oc35 kV35 dc35 pm35 cd35 ct35 oc36 kV36 dc36 pm36 cd36 ct36 oc37 kV37 dc37 pm37 cd37 ct37 oc38 kV38 dc38 pm38 cd38 ct38 oc39 kV39 dc39 pm39 cd39 ct39 oc40 kV40 dc40 pm40 cd40 ct40 oc41 kV41 dc41 pm41 cd41 ct41 oc42 kV42 dc42 pm42 cd42 ct42 oc43 kV43 dc43 pm43 cd43 ct43 oc44 kV44 dc44 pm44 cd44 ct44 oc45 kV45 dc45 pm45 cd45 ct45 oc46 kV46 dc46 pm46 cd46 ct46 oc47 kV47 dc47 pm47 cd47 ct47 oc48 kV48 dc48 pm48 cd48 ct48 oc49 kV49 dc49 pm49 cd49 ct49 : Value} {tMOST_RUNS tMOST_HOURS_tasks tMOST_HOURS_plans tMOST_PRICE : _}
    (a0 : PySem.W.nsIn K mainGlobals "is_integer" = some (some (.ref f0)))
    (l0 : K.lookup f0 = some ⟨oc0, od0, .func (PySem.W.fnOf "is_integer" "is_integer" (defArgs s_is_integer) (defBody s_is_integer) (defScope s_is_integer) .none kV0 dc0 pm0 an0 cd0 ct0), sl0⟩)
    (c0 : PySem.W.codeIn K cd0 "is_integer" = true)
    (k0 : PySem.W.keepIn K (.ref f0) = true)
    (a1 : PySem.W.nsIn K mainGlobals "is_within" = some (some (.ref f1)))
    (l1 : K.lookup f1 = some ⟨oc1, od1, .func (PySem.W.fnOf "is_within" "is_within" (defArgs s_is_within) (defBody s_is_within) (defScope s_is_within) .none kV1 dc1 pm1 an1 cd1 ct1), sl1⟩)
    (c1 : PySem.W.codeIn K cd1 "is_within" = true)
    (k1 : PySem.W.keepIn K (.ref f1) = true)
    (a2 : PySem.W.nsIn K mainGlobals "is_row" = some (some (.ref f2)))
    (l2 : K.lookup f2 = some ⟨oc2, od2, .func (PySem.W.fnOf "is_row" "is_row" (defArgs s_is_row) (defBody s_is_row) (defScope s_is_row) .none kV2 dc2 pm2 an2 cd2 ct2), sl2⟩)
    (c2 : PySem.W.codeIn K cd2 "is_row" = true)
    (k2 : PySem.W.keepIn K (.ref f2) = true)
    (a3 : PySem.W.nsIn K mainGlobals "first_wrong_row" = some (some (.ref f3)))
    (l3 : K.lookup f3 = some ⟨oc3, od3, .func (PySem.W.fnOf "first_wrong_row" "first_wrong_row" (defArgs s_first_wrong_row) (defBody s_first_wrong_row) (defScope s_first_wrong_row) .none kV3 dc3 pm3 an3 cd3 ct3), sl3⟩)
    (c3 : PySem.W.codeIn K cd3 "first_wrong_row" = true)
    (k3 : PySem.W.keepIn K (.ref f3) = true)
    (a4 : PySem.W.nsIn K mainGlobals "check_number" = some (some (.ref f4)))
    (l4 : K.lookup f4 = some ⟨oc4, od4, .func (PySem.W.fnOf "check_number" "check_number" (defArgs s_check_number) (defBody s_check_number) (defScope s_check_number) .none kV4 dc4 pm4 an4 cd4 ct4), sl4⟩)
    (c4 : PySem.W.codeIn K cd4 "check_number" = true)
    (k4 : PySem.W.keepIn K (.ref f4) = true)
    (a5 : PySem.W.nsIn K mainGlobals "length_of" = some (some (.ref f5)))
    (l5 : K.lookup f5 = some ⟨oc5, od5, .func (PySem.W.fnOf "length_of" "length_of" (defArgs s_length_of) (defBody s_length_of) (defScope s_length_of) .none kV5 dc5 pm5 an5 cd5 ct5), sl5⟩)
    (c5 : PySem.W.codeIn K cd5 "length_of" = true)
    (k5 : PySem.W.keepIn K (.ref f5) = true)
    (a6 : PySem.W.nsIn K mainGlobals "write_of" = some (some (.ref f6)))
    (l6 : K.lookup f6 = some ⟨oc6, od6, .func (PySem.W.fnOf "write_of" "write_of" (defArgs s_write_of) (defBody s_write_of) (defScope s_write_of) .none kV6 dc6 pm6 an6 cd6 ct6), sl6⟩)
    (c6 : PySem.W.codeIn K cd6 "write_of" = true)
    (k6 : PySem.W.keepIn K (.ref f6) = true)
    (a7 : PySem.W.nsIn K mainGlobals "look_sum" = some (some (.ref f7)))
    (l7 : K.lookup f7 = some ⟨oc7, od7, .func (PySem.W.fnOf "look_sum" "look_sum" (defArgs s_look_sum) (defBody s_look_sum) (defScope s_look_sum) .none kV7 dc7 pm7 an7 cd7 ct7), sl7⟩)
    (c7 : PySem.W.codeIn K cd7 "look_sum" = true)
    (k7 : PySem.W.keepIn K (.ref f7) = true)
    (a8 : PySem.W.nsIn K mainGlobals "check_most" = some (some (.ref f8)))
    (l8 : K.lookup f8 = some ⟨oc8, od8, .func (PySem.W.fnOf "check_most" "check_most" (defArgs s_check_most) (defBody s_check_most) (defScope s_check_most) .none kV8 dc8 pm8 an8 cd8 ct8), sl8⟩)
    (c8 : PySem.W.codeIn K cd8 "check_most" = true)
    (k8 : PySem.W.keepIn K (.ref f8) = true)
    (a9 : PySem.W.nsIn K mainGlobals "may_all" = some (some (.ref f9)))
    (l9 : K.lookup f9 = some ⟨oc9, od9, .func (PySem.W.fnOf "may_all" "may_all" (defArgs s_may_all) (defBody s_may_all) (defScope s_may_all) .none kV9 dc9 pm9 an9 cd9 ct9), sl9⟩)
    (c9 : PySem.W.codeIn K cd9 "may_all" = true)
    (k9 : PySem.W.keepIn K (.ref f9) = true)
    (a10 : PySem.W.nsIn K mainGlobals "best_pair" = some (some (.ref f10)))
    (l10 : K.lookup f10 = some ⟨oc10, od10, .func (PySem.W.fnOf "best_pair" "best_pair" (defArgs s_best_pair) (defBody s_best_pair) (defScope s_best_pair) .none kV10 dc10 pm10 an10 cd10 ct10), sl10⟩)
    (c10 : PySem.W.codeIn K cd10 "best_pair" = true)
    (k10 : PySem.W.keepIn K (.ref f10) = true)
    (a11 : PySem.W.nsIn K mainGlobals "least_cost" = some (some (.ref f11)))
    (l11 : K.lookup f11 = some ⟨oc11, od11, .func (PySem.W.fnOf "least_cost" "least_cost" (defArgs s_least_cost) (defBody s_least_cost) (defScope s_least_cost) .none kV11 dc11 pm11 an11 cd11 ct11), sl11⟩)
    (c11 : PySem.W.codeIn K cd11 "least_cost" = true)
    (k11 : PySem.W.keepIn K (.ref f11) = true)
    (a12 : PySem.W.nsIn K mainGlobals "least" = some (some (.ref f12)))
    (l12 : K.lookup f12 = some ⟨oc12, od12, .func (PySem.W.fnOf "least" "least" (defArgs s_least) (defBody s_least) (defScope s_least) .none kV12 dc12 pm12 an12 cd12 ct12), sl12⟩)
    (c12 : PySem.W.codeIn K cd12 "least" = true)
    (k12 : PySem.W.keepIn K (.ref f12) = true)
    (a13 : PySem.W.nsIn K mainGlobals "least_plan" = some (some (.ref f13)))
    (l13 : K.lookup f13 = some ⟨oc13, od13, .func (PySem.W.fnOf "least_plan" "least_plan" (defArgs s_least_plan) (defBody s_least_plan) (defScope s_least_plan) .none kV13 dc13 pm13 an13 cd13 ct13), sl13⟩)
    (c13 : PySem.W.codeIn K cd13 "least_plan" = true)
    (k13 : PySem.W.keepIn K (.ref f13) = true)
    (a14 : PySem.W.nsIn K mainGlobals "is_plan_of" = some (some (.ref f14)))
    (l14 : K.lookup f14 = some ⟨oc14, od14, .func (PySem.W.fnOf "is_plan_of" "is_plan_of" (defArgs s_is_plan_of) (defBody s_is_plan_of) (defScope s_is_plan_of) .none kV14 dc14 pm14 an14 cd14 ct14), sl14⟩)
    (c14 : PySem.W.codeIn K cd14 "is_plan_of" = true)
    (k14 : PySem.W.keepIn K (.ref f14) = true)
    (a15 : PySem.W.nsIn K mainGlobals "begins_next" = some (some (.ref f15)))
    (l15 : K.lookup f15 = some ⟨oc15, od15, .func (PySem.W.fnOf "begins_next" "begins_next" (defArgs s_begins_next) (defBody s_begins_next) (defScope s_begins_next) .none kV15 dc15 pm15 an15 cd15 ct15), sl15⟩)
    (c15 : PySem.W.codeIn K cd15 "begins_next" = true)
    (k15 : PySem.W.keepIn K (.ref f15) = true)
    (a16 : PySem.W.nsIn K mainGlobals "is_any_plan" = some (some (.ref f16)))
    (l16 : K.lookup f16 = some ⟨oc16, od16, .func (PySem.W.fnOf "is_any_plan" "is_any_plan" (defArgs s_is_any_plan) (defBody s_is_any_plan) (defScope s_is_any_plan) .none kV16 dc16 pm16 an16 cd16 ct16), sl16⟩)
    (c16 : PySem.W.codeIn K cd16 "is_any_plan" = true)
    (k16 : PySem.W.keepIn K (.ref f16) = true)
    (a17 : PySem.W.nsIn K mainGlobals "begins_behind" = some (some (.ref f17)))
    (l17 : K.lookup f17 = some ⟨oc17, od17, .func (PySem.W.fnOf "begins_behind" "begins_behind" (defArgs s_begins_behind) (defBody s_begins_behind) (defScope s_begins_behind) .none kV17 dc17 pm17 an17 cd17 ct17), sl17⟩)
    (c17 : PySem.W.codeIn K cd17 "begins_behind" = true)
    (k17 : PySem.W.keepIn K (.ref f17) = true)
    (a18 : PySem.W.nsIn K mainGlobals "between" = some (some (.ref f18)))
    (l18 : K.lookup f18 = some ⟨oc18, od18, .func (PySem.W.fnOf "between" "between" (defArgs s_between) (defBody s_between) (defScope s_between) .none kV18 dc18 pm18 an18 cd18 ct18), sl18⟩)
    (c18 : PySem.W.codeIn K cd18 "between" = true)
    (k18 : PySem.W.keepIn K (.ref f18) = true)
    (a19 : PySem.W.nsIn K mainGlobals "check_begun" = some (some (.ref f19)))
    (l19 : K.lookup f19 = some ⟨oc19, od19, .func (PySem.W.fnOf "check_begun" "check_begun" (defArgs s_check_begun) (defBody s_check_begun) (defScope s_check_begun) .none kV19 dc19 pm19 an19 cd19 ct19), sl19⟩)
    (c19 : PySem.W.codeIn K cd19 "check_begun" = true)
    (k19 : PySem.W.keepIn K (.ref f19) = true)
    (a20 : PySem.W.nsIn K mainGlobals "rest" = some (some (.ref f20)))
    (l20 : K.lookup f20 = some ⟨oc20, od20, .func (PySem.W.fnOf "rest" "rest" (defArgs s_rest) (defBody s_rest) (defScope s_rest) .none kV20 dc20 pm20 an20 cd20 ct20), sl20⟩)
    (c20 : PySem.W.codeIn K cd20 "rest" = true)
    (k20 : PySem.W.keepIn K (.ref f20) = true)
    (a21 : PySem.W.nsIn K mainGlobals "_law_hand" = some (some (.ref f21)))
    (l21 : K.lookup f21 = some ⟨oc21, od21, .func (PySem.W.fnOf "_law_hand" "_law_hand" (defArgs s__law_hand) (defBody s__law_hand) (defScope s__law_hand) .none kV21 dc21 pm21 an21 cd21 ct21), sl21⟩)
    (c21 : PySem.W.codeIn K cd21 "_law_hand" = true)
    (k21 : PySem.W.keepIn K (.ref f21) = true)
    (a22 : PySem.W.nsIn K mainGlobals "_law_draw" = some (some (.ref f22)))
    (l22 : K.lookup f22 = some ⟨oc22, od22, .func (PySem.W.fnOf "_law_draw" "_law_draw" (defArgs s__law_draw) (defBody s__law_draw) (defScope s__law_draw) .none kV22 dc22 pm22 an22 cd22 ct22), sl22⟩)
    (c22 : PySem.W.codeIn K cd22 "_law_draw" = true)
    (k22 : PySem.W.keepIn K (.ref f22) = true)
    (a23 : PySem.W.nsIn K mainGlobals "_law_is" = some (some (.ref f23)))
    (l23 : K.lookup f23 = some ⟨oc23, od23, .func (PySem.W.fnOf "_law_is" "_law_is" (defArgs s__law_is) (defBody s__law_is) (defScope s__law_is) .none kV23 dc23 pm23 an23 cd23 ct23), sl23⟩)
    (c23 : PySem.W.codeIn K cd23 "_law_is" = true)
    (k23 : PySem.W.keepIn K (.ref f23) = true)
    (a24 : PySem.W.nsIn K mainGlobals "_law_triangle" = some (some (.ref f24)))
    (l24 : K.lookup f24 = some ⟨oc24, od24, .func (PySem.W.fnOf "_law_triangle" "_law_triangle" (defArgs s__law_triangle) (defBody s__law_triangle) (defScope s__law_triangle) .none kV24 dc24 pm24 an24 cd24 ct24), sl24⟩)
    (c24 : PySem.W.codeIn K cd24 "_law_triangle" = true)
    (k24 : PySem.W.keepIn K (.ref f24) = true)
    (a25 : PySem.W.nsIn K mainGlobals "_law_summed" = some (some (.ref f25)))
    (l25 : K.lookup f25 = some ⟨oc25, od25, .func (PySem.W.fnOf "_law_summed" "_law_summed" (defArgs s__law_summed) (defBody s__law_summed) (defScope s__law_summed) .none kV25 dc25 pm25 an25 cd25 ct25), sl25⟩)
    (c25 : PySem.W.codeIn K cd25 "_law_summed" = true)
    (k25 : PySem.W.keepIn K (.ref f25) = true)
    (a26 : PySem.W.nsIn K mainGlobals "_law_prices" = some (some (.ref f26)))
    (l26 : K.lookup f26 = some ⟨oc26, od26, .func (PySem.W.fnOf "_law_prices" "_law_prices" (defArgs s__law_prices) (defBody s__law_prices) (defScope s__law_prices) .none kV26 dc26 pm26 an26 cd26 ct26), sl26⟩)
    (c26 : PySem.W.codeIn K cd26 "_law_prices" = true)
    (k26 : PySem.W.keepIn K (.ref f26) = true)
    (a27 : PySem.W.nsIn K mainGlobals "_law_begins" = some (some (.ref f27)))
    (l27 : K.lookup f27 = some ⟨oc27, od27, .func (PySem.W.fnOf "_law_begins" "_law_begins" (defArgs s__law_begins) (defBody s__law_begins) (defScope s__law_begins) .none kV27 dc27 pm27 an27 cd27 ct27), sl27⟩)
    (c27 : PySem.W.codeIn K cd27 "_law_begins" = true)
    (k27 : PySem.W.keepIn K (.ref f27) = true)
    (a28 : PySem.W.nsIn K mainGlobals "_law_plan" = some (some (.ref f28)))
    (l28 : K.lookup f28 = some ⟨oc28, od28, .func (PySem.W.fnOf "_law_plan" "_law_plan" (defArgs s__law_plan) (defBody s__law_plan) (defScope s__law_plan) .none kV28 dc28 pm28 an28 cd28 ct28), sl28⟩)
    (c28 : PySem.W.codeIn K cd28 "_law_plan" = true)
    (k28 : PySem.W.keepIn K (.ref f28) = true)
    (a29 : PySem.W.nsIn K mainGlobals "_law_hour_cost" = some (some (.ref f29)))
    (l29 : K.lookup f29 = some ⟨oc29, od29, .func (PySem.W.fnOf "_law_hour_cost" "_law_hour_cost" (defArgs s__law_hour_cost) (defBody s__law_hour_cost) (defScope s__law_hour_cost) .none kV29 dc29 pm29 an29 cd29 ct29), sl29⟩)
    (c29 : PySem.W.codeIn K cd29 "_law_hour_cost" = true)
    (k29 : PySem.W.keepIn K (.ref f29) = true)
    (a30 : PySem.W.nsIn K mainGlobals "_law_later_cost" = some (some (.ref f30)))
    (l30 : K.lookup f30 = some ⟨oc30, od30, .func (PySem.W.fnOf "_law_later_cost" "_law_later_cost" (defArgs s__law_later_cost) (defBody s__law_later_cost) (defScope s__law_later_cost) .none kV30 dc30 pm30 an30 cd30 ct30), sl30⟩)
    (c30 : PySem.W.codeIn K cd30 "_law_later_cost" = true)
    (k30 : PySem.W.keepIn K (.ref f30) = true)
    (a31 : PySem.W.nsIn K mainGlobals "_law_stands" = some (some (.ref f31)))
    (l31 : K.lookup f31 = some ⟨oc31, od31, .func (PySem.W.fnOf "_law_stands" "_law_stands" (defArgs s__law_stands) (defBody s__law_stands) (defScope s__law_stands) .none kV31 dc31 pm31 an31 cd31 ct31), sl31⟩)
    (c31 : PySem.W.codeIn K cd31 "_law_stands" = true)
    (k31 : PySem.W.keepIn K (.ref f31) = true)
    (a32 : PySem.W.nsIn K mainGlobals "_law_step_right" = some (some (.ref f32)))
    (l32 : K.lookup f32 = some ⟨oc32, od32, .func (PySem.W.fnOf "_law_step_right" "_law_step_right" (defArgs s__law_step_right) (defBody s__law_step_right) (defScope s__law_step_right) .none kV32 dc32 pm32 an32 cd32 ct32), sl32⟩)
    (c32 : PySem.W.codeIn K cd32 "_law_step_right" = true)
    (k32 : PySem.W.keepIn K (.ref f32) = true)
    (a33 : PySem.W.nsIn K mainGlobals "_law_goes_on" = some (some (.ref f33)))
    (l33 : K.lookup f33 = some ⟨oc33, od33, .func (PySem.W.fnOf "_law_goes_on" "_law_goes_on" (defArgs s__law_goes_on) (defBody s__law_goes_on) (defScope s__law_goes_on) .none kV33 dc33 pm33 an33 cd33 ct33), sl33⟩)
    (c33 : PySem.W.codeIn K cd33 "_law_goes_on" = true)
    (k33 : PySem.W.keepIn K (.ref f33) = true)
    (a34 : PySem.W.nsIn K mainGlobals "law" = some (some (.ref f34)))
    (l34 : K.lookup f34 = some ⟨oc34, od34, .func (PySem.W.fnOf "law" "law" (defArgs s_law) (defBody s_law) (defScope s_law) .none kV34 dc34 pm34 an34 cd34 ct34), sl34⟩)
    (c34 : PySem.W.codeIn K cd34 "law" = true)
    (k34 : PySem.W.keepIn K (.ref f34) = true)
    (aCCT : PySem.W.nsIn K mainGlobals "Task" = some (some (.ref CT)))
    (a35 : PySem.W.findIn K (.ref CT) "__init__" = some (some (.ref f35)))
    (i35 : PySem.W.isFn K (.ref f35) = true)
    (l35 : K.lookup f35 = some ⟨oc35, od35, .func (PySem.W.fnOf "__init__" "Task.__init__" (defArgs s_Task___init__) (defBody s_Task___init__) (defScope s_Task___init__) .none kV35 dc35 pm35 an35 cd35 ct35), sl35⟩)
    (c35 : PySem.W.codeIn K cd35 "Task.__init__" = true)
    (k35 : PySem.W.keepIn K (.ref f35) = true)
    (aCCS : PySem.W.nsIn K mainGlobals "Solver" = some (some (.ref CS)))
    (a36 : PySem.W.findIn K (.ref CS) "__init__" = some (some (.ref f36)))
    (i36 : PySem.W.isFn K (.ref f36) = true)
    (l36 : K.lookup f36 = some ⟨oc36, od36, .func (PySem.W.fnOf "__init__" "Solver.__init__" (defArgs s_Solver___init__) (defBody s_Solver___init__) (defScope s_Solver___init__) .none kV36 dc36 pm36 an36 cd36 ct36), sl36⟩)
    (c36 : PySem.W.codeIn K cd36 "Solver.__init__" = true)
    (k36 : PySem.W.keepIn K (.ref f36) = true)
    (aCCR : PySem.W.nsIn K mainGlobals "Rest" = some (some (.ref CR)))
    (a37 : PySem.W.findIn K (.ref CR) "__init__" = some (some (.ref f37)))
    (i37 : PySem.W.isFn K (.ref f37) = true)
    (l37 : K.lookup f37 = some ⟨oc37, od37, .func (PySem.W.fnOf "__init__" "Rest.__init__" (defArgs s_Rest___init__) (defBody s_Rest___init__) (defScope s_Rest___init__) .none kV37 dc37 pm37 an37 cd37 ct37), sl37⟩)
    (c37 : PySem.W.codeIn K cd37 "Rest.__init__" = true)
    (k37 : PySem.W.keepIn K (.ref f37) = true)
    (a38 : PySem.W.findIn K (.ref CS) "capped" = some (some (.ref f38)))
    (i38 : PySem.W.isFn K (.ref f38) = true)
    (l38 : K.lookup f38 = some ⟨oc38, od38, .func (PySem.W.fnOf "capped" "Solver.capped" (defArgs s_Solver_capped) (defBody s_Solver_capped) (defScope s_Solver_capped) .none kV38 dc38 pm38 an38 cd38 ct38), sl38⟩)
    (c38 : PySem.W.codeIn K cd38 "Solver.capped" = true)
    (k38 : PySem.W.keepIn K (.ref f38) = true)
    (a39 : PySem.W.findIn K (.ref CS) "ahead_cost" = some (some (.ref f39)))
    (i39 : PySem.W.isFn K (.ref f39) = true)
    (l39 : K.lookup f39 = some ⟨oc39, od39, .func (PySem.W.fnOf "ahead_cost" "Solver.ahead_cost" (defArgs s_Solver_ahead_cost) (defBody s_Solver_ahead_cost) (defScope s_Solver_ahead_cost) .none kV39 dc39 pm39 an39 cd39 ct39), sl39⟩)
    (c39 : PySem.W.codeIn K cd39 "Solver.ahead_cost" = true)
    (k39 : PySem.W.keepIn K (.ref f39) = true)
    (a40 : PySem.W.findIn K (.ref CS) "behind_cost" = some (some (.ref f40)))
    (i40 : PySem.W.isFn K (.ref f40) = true)
    (l40 : K.lookup f40 = some ⟨oc40, od40, .func (PySem.W.fnOf "behind_cost" "Solver.behind_cost" (defArgs s_Solver_behind_cost) (defBody s_Solver_behind_cost) (defScope s_Solver_behind_cost) .none kV40 dc40 pm40 an40 cd40 ct40), sl40⟩)
    (c40 : PySem.W.codeIn K cd40 "Solver.behind_cost" = true)
    (k40 : PySem.W.keepIn K (.ref f40) = true)
    (a41 : PySem.W.findIn K (.ref CS) "top_cost" = some (some (.ref f41)))
    (i41 : PySem.W.isFn K (.ref f41) = true)
    (l41 : K.lookup f41 = some ⟨oc41, od41, .func (PySem.W.fnOf "top_cost" "Solver.top_cost" (defArgs s_Solver_top_cost) (defBody s_Solver_top_cost) (defScope s_Solver_top_cost) .none kV41 dc41 pm41 an41 cd41 ct41), sl41⟩)
    (c41 : PySem.W.codeIn K cd41 "Solver.top_cost" = true)
    (k41 : PySem.W.keepIn K (.ref f41) = true)
    (a42 : PySem.W.findIn K (.ref CS) "own_cost" = some (some (.ref f42)))
    (i42 : PySem.W.isFn K (.ref f42) = true)
    (l42 : K.lookup f42 = some ⟨oc42, od42, .func (PySem.W.fnOf "own_cost" "Solver.own_cost" (defArgs s_Solver_own_cost) (defBody s_Solver_own_cost) (defScope s_Solver_own_cost) .none kV42 dc42 pm42 an42 cd42 ct42), sl42⟩)
    (c42 : PySem.W.codeIn K cd42 "Solver.own_cost" = true)
    (k42 : PySem.W.keepIn K (.ref f42) = true)
    (a43 : PySem.W.findIn K (.ref CS) "span_cost" = some (some (.ref f43)))
    (i43 : PySem.W.isFn K (.ref f43) = true)
    (l43 : K.lookup f43 = some ⟨oc43, od43, .func (PySem.W.fnOf "span_cost" "Solver.span_cost" (defArgs s_Solver_span_cost) (defBody s_Solver_span_cost) (defScope s_Solver_span_cost) .none kV43 dc43 pm43 an43 cd43 ct43), sl43⟩)
    (c43 : PySem.W.codeIn K cd43 "Solver.span_cost" = true)
    (k43 : PySem.W.keepIn K (.ref f43) = true)
    (a44 : PySem.W.findIn K (.ref CS) "tops" = some (some (.ref f44)))
    (i44 : PySem.W.isFn K (.ref f44) = true)
    (l44 : K.lookup f44 = some ⟨oc44, od44, .func (PySem.W.fnOf "tops" "Solver.tops" (defArgs s_Solver_tops) (defBody s_Solver_tops) (defScope s_Solver_tops) .none kV44 dc44 pm44 an44 cd44 ct44), sl44⟩)
    (c44 : PySem.W.codeIn K cd44 "Solver.tops" = true)
    (k44 : PySem.W.keepIn K (.ref f44) = true)
    (a45 : PySem.W.findIn K (.ref CS) "span_plan" = some (some (.ref f45)))
    (i45 : PySem.W.isFn K (.ref f45) = true)
    (l45 : K.lookup f45 = some ⟨oc45, od45, .func (PySem.W.fnOf "span_plan" "Solver.span_plan" (defArgs s_Solver_span_plan) (defBody s_Solver_span_plan) (defScope s_Solver_span_plan) .none kV45 dc45 pm45 an45 cd45 ct45), sl45⟩)
    (c45 : PySem.W.codeIn K cd45 "Solver.span_plan" = true)
    (k45 : PySem.W.keepIn K (.ref f45) = true)
    (a46 : PySem.W.findIn K (.ref CR) "elder_looks" = some (some (.ref f46)))
    (i46 : PySem.W.isFn K (.ref f46) = true)
    (l46 : K.lookup f46 = some ⟨oc46, od46, .func (PySem.W.fnOf "elder_looks" "Rest.elder_looks" (defArgs s_Rest_elder_looks) (defBody s_Rest_elder_looks) (defScope s_Rest_elder_looks) .none kV46 dc46 pm46 an46 cd46 ct46), sl46⟩)
    (c46 : PySem.W.codeIn K cd46 "Rest.elder_looks" = true)
    (k46 : PySem.W.keepIn K (.ref f46) = true)
    (a47 : PySem.W.findIn K (.ref CR) "ways_to" = some (some (.ref f47)))
    (i47 : PySem.W.isFn K (.ref f47) = true)
    (l47 : K.lookup f47 = some ⟨oc47, od47, .func (PySem.W.fnOf "ways_to" "Rest.ways_to" (defArgs s_Rest_ways_to) (defBody s_Rest_ways_to) (defScope s_Rest_ways_to) .none kV47 dc47 pm47 an47 cd47 ct47), sl47⟩)
    (c47 : PySem.W.codeIn K cd47 "Rest.ways_to" = true)
    (k47 : PySem.W.keepIn K (.ref f47) = true)
    (a48 : PySem.W.findIn K (.ref CR) "written_at" = some (some (.ref f48)))
    (i48 : PySem.W.isFn K (.ref f48) = true)
    (l48 : K.lookup f48 = some ⟨oc48, od48, .func (PySem.W.fnOf "written_at" "Rest.written_at" (defArgs s_Rest_written_at) (defBody s_Rest_written_at) (defScope s_Rest_written_at) .none kV48 dc48 pm48 an48 cd48 ct48), sl48⟩)
    (c48 : PySem.W.codeIn K cd48 "Rest.written_at" = true)
    (k48 : PySem.W.keepIn K (.ref f48) = true)
    (a49 : PySem.W.findIn K (.ref CR) "best" = some (some (.ref f49)))
    (i49 : PySem.W.isFn K (.ref f49) = true)
    (l49 : K.lookup f49 = some ⟨oc49, od49, .func (PySem.W.fnOf "best" "Rest.best" (defArgs s_Rest_best) (defBody s_Rest_best) (defScope s_Rest_best) .none kV49 dc49 pm49 an49 cd49 ct49), sl49⟩)
    (c49 : PySem.W.codeIn K cd49 "Rest.best" = true)
    (k49 : PySem.W.keepIn K (.ref f49) = true)
    (pgCT : PySem.W.plainGet K CT Str.empty = true)
    (hdCT : PySem.W.hasDictIn K CT = true)
    (poCT : PySem.W.plainOver K CT = true)
    (saCT : PySem.W.findIn K (.ref CT) "__setattr__" = some (some (.builtin "object.__setattr__")))
    (mkCT : PySem.W.makesIn K CT = true)
    (kcCT : PySem.W.keepIn K (.ref CT) = true)
    (pgCS : PySem.W.plainGet K CS Str.empty = true)
    (hdCS : PySem.W.hasDictIn K CS = true)
    (poCS : PySem.W.plainOver K CS = true)
    (saCS : PySem.W.findIn K (.ref CS) "__setattr__" = some (some (.builtin "object.__setattr__")))
    (mkCS : PySem.W.makesIn K CS = true)
    (kcCS : PySem.W.keepIn K (.ref CS) = true)
    (pgCR : PySem.W.plainGet K CR Str.empty = true)
    (hdCR : PySem.W.hasDictIn K CR = true)
    (poCR : PySem.W.plainOver K CR = true)
    (saCR : PySem.W.findIn K (.ref CR) "__setattr__" = some (some (.builtin "object.__setattr__")))
    (mkCR : PySem.W.makesIn K CR = true)
    (kcCR : PySem.W.keepIn K (.ref CR) = true)
    (nCTwrites : PySem.W.findIn K (.ref CT) "writes" = some none)
    (nCTlooks : PySem.W.findIn K (.ref CT) "looks" = some none)
    (nCStask : PySem.W.findIn K (.ref CS) "task" = some none)
    (nCSmay : PySem.W.findIn K (.ref CS) "may" = some none)
    (nCScosts : PySem.W.findIn K (.ref CS) "costs" = some none)
    (nCSplans : PySem.W.findIn K (.ref CS) "plans" = some none)
    (nCScounts : PySem.W.findIn K (.ref CS) "counts" = some none)
    (nCRtask : PySem.W.findIn K (.ref CR) "task" = some none)
    (nCRmost : PySem.W.findIn K (.ref CR) "most" = some none)
    (nCRfirst : PySem.W.findIn K (.ref CR) "first" = some none)
    (nCRbegins : PySem.W.findIn K (.ref CR) "begins" = some none)
    (nCRsolver : PySem.W.findIn K (.ref CR) "solver" = some none)
    (nCRknown : PySem.W.findIn K (.ref CR) "known" = some none)
    (zlen : PySem.W.nsIn K mainGlobals "len" = some none)
    (zrange : PySem.W.nsIn K mainGlobals "range" = some none)
    (ztuple : PySem.W.nsIn K mainGlobals "tuple" = some none)
    (zisinstance : PySem.W.nsIn K mainGlobals "isinstance" = some none)
    (zint : PySem.W.nsIn K mainGlobals "int" = some none)
    (zbool : PySem.W.nsIn K mainGlobals "bool" = some none)
    (zlist : PySem.W.nsIn K mainGlobals "list" = some none)
    (zall : PySem.W.nsIn K mainGlobals "all" = some none)
    (zenumerate : PySem.W.nsIn K mainGlobals "enumerate" = some none)
    (zmin : PySem.W.nsIn K mainGlobals "min" = some none)
    (zsum : PySem.W.nsIn K mainGlobals "sum" = some none)
    (zabs : PySem.W.nsIn K mainGlobals "abs" = some none)
    (vMOST_RUNS : PySem.W.nsIn K mainGlobals "MOST_RUNS" = some (some (.int 30 tMOST_RUNS)))
    (vMOST_HOURS_tasks : PySem.W.nsIn K mainGlobals "MOST_HOURS_tasks" = some (some (.int 30 tMOST_HOURS_tasks)))
    (vMOST_HOURS_plans : PySem.W.nsIn K mainGlobals "MOST_HOURS_plans" = some (some (.int 40 tMOST_HOURS_plans)))
    (vMOST_PRICE : PySem.W.nsIn K mainGlobals "MOST_PRICE" = some (some (.int 1000000000 tMOST_PRICE)))
    : ∃ fd : FuncData, (∀ (s : Shared) (v : Value), BindsTo s fd ⟨[v], []⟩ [("_law_script", v)]) ∧ ∀ base : Heap, K.In base → base.Ns mainGlobals mg → FnOk l.prog w K mg base CX0 159 fa fd ["_law_script"] (spLaw K) := by
  have e := hfa.symm.trans (PySem.W.mg_of X G a34)
  cases e
  have T : Txt K mg CT CS CR := ⟨PySem.W.mg_none_of X G zlen, PySem.W.mg_none_of X G zrange, PySem.W.mg_none_of X G ztuple, PySem.W.mg_none_of X G zisinstance, PySem.W.mg_none_of X G zint, PySem.W.mg_none_of X G zbool, PySem.W.mg_none_of X G zlist, PySem.W.mg_none_of X G zall, PySem.W.mg_none_of X G zenumerate, PySem.W.mg_none_of X G zmin, PySem.W.mg_none_of X G zsum, PySem.W.mg_none_of X G zabs, ⟨_, PySem.W.mg_of X G vMOST_RUNS⟩, ⟨_, PySem.W.mg_of X G vMOST_HOURS_tasks⟩, ⟨_, PySem.W.mg_of X G vMOST_HOURS_plans⟩, ⟨_, PySem.W.mg_of X G vMOST_PRICE⟩, ⟨pgCT, hdCT, poCT, saCT⟩, nCTwrites, nCTlooks, ⟨pgCS, hdCS, poCS, saCS⟩, nCStask, nCSmay, nCScosts, nCSplans, nCScounts, ⟨pgCR, hdCR, poCR, saCR⟩, nCRtask, nCRmost, nCRfirst, nCRbegins, nCRsolver, nCRknown⟩
  have F0 := fun_mk (st := s_is_integer) l0 c0 k0
  have b0 := F0.binds (ps := ["thing"]) fun _ _ _ _ _ _ us hl => match us, hl with | [_], _ => rfl
  have D0 := (⟨⟨_, _, F0, PySem.W.mg_of X G a0, b0⟩⟩ : DefAt K mg "is_integer" s_is_integer ["thing"])
  have F1 := fun_mk (st := s_is_within) l1 c1 k1
  have b1 := F1.binds (ps := ["thing", "least", "most"]) fun _ _ _ _ _ _ us hl => match us, hl with | [_, _, _], _ => rfl
  have D1 := (⟨⟨_, _, F1, PySem.W.mg_of X G a1, b1⟩⟩ : DefAt K mg "is_within" s_is_within ["thing", "least", "most"])
  have F2 := fun_mk (st := s_is_row) l2 c2 k2
  have b2 := F2.binds (ps := ["thing", "size", "least", "most"]) fun _ _ _ _ _ _ us hl => match us, hl with | [_, _, _, _], _ => rfl
  have D2 := (⟨⟨_, _, F2, PySem.W.mg_of X G a2, b2⟩⟩ : DefAt K mg "is_row" s_is_row ["thing", "size", "least", "most"])
  have F3 := fun_mk (st := s_first_wrong_row) l3 c3 k3
  have b3 := F3.binds (ps := ["rows", "least", "most"]) fun _ _ _ _ _ _ us hl => match us, hl with | [_, _, _], _ => rfl
  have D3 := (⟨⟨_, _, F3, PySem.W.mg_of X G a3, b3⟩⟩ : DefAt K mg "first_wrong_row" s_first_wrong_row ["rows", "least", "most"])
  have F4 := fun_mk (st := s_check_number) l4 c4 k4
  have b4 := F4.binds (ps := ["thing", "least", "most"]) fun _ _ _ _ _ _ us hl => match us, hl with | [_, _, _], _ => rfl
  have D4 := (⟨⟨_, _, F4, PySem.W.mg_of X G a4, b4⟩⟩ : DefAt K mg "check_number" s_check_number ["thing", "least", "most"])
  have F5 := fun_mk (st := s_length_of) l5 c5 k5
  have b5 := F5.binds (ps := ["task"]) fun _ _ _ _ _ _ us hl => match us, hl with | [_], _ => rfl
  have D5 := (⟨⟨_, _, F5, PySem.W.mg_of X G a5, b5⟩⟩ : DefAt K mg "length_of" s_length_of ["task"])
  have F6 := fun_mk (st := s_write_of) l6 c6 k6
  have b6 := F6.binds (ps := ["task", "first", "last"]) fun _ _ _ _ _ _ us hl => match us, hl with | [_, _, _], _ => rfl
  have D6 := (⟨⟨_, _, F6, PySem.W.mg_of X G a6, b6⟩⟩ : DefAt K mg "write_of" s_write_of ["task", "first", "last"])
  have F7 := fun_mk (st := s_look_sum) l7 c7 k7
  have b7 := F7.binds (ps := ["task", "begin", "first", "last"]) fun _ _ _ _ _ _ us hl => match us, hl with | [_, _, _, _], _ => rfl
  have D7 := (⟨⟨_, _, F7, PySem.W.mg_of X G a7, b7⟩⟩ : DefAt K mg "look_sum" s_look_sum ["task", "begin", "first", "last"])
  have F8 := fun_mk (st := s_check_most) l8 c8 k8
  have b8 := F8.binds (ps := ["most"]) fun _ _ _ _ _ _ us hl => match us, hl with | [_], _ => rfl
  have D8 := (⟨⟨_, _, F8, PySem.W.mg_of X G a8, b8⟩⟩ : DefAt K mg "check_most" s_check_most ["most"])
  have F9 := fun_mk (st := s_may_all) l9 c9 k9
  have b9 := F9.binds (ps := ["hour", "begin"]) fun _ _ _ _ _ _ us hl => match us, hl with | [_, _], _ => rfl
  have D9 := (⟨⟨_, _, F9, PySem.W.mg_of X G a9, b9⟩⟩ : DefAt K mg "may_all" s_may_all ["hour", "begin"])
  have F10 := fun_mk (st := s_best_pair) l10 c10 k10
  have b10 := F10.binds (ps := ["task", "most", "may"]) fun _ _ _ _ _ _ us hl => match us, hl with | [_, _, _], _ => rfl
  have D10 := (⟨⟨_, _, F10, PySem.W.mg_of X G a10, b10⟩⟩ : DefAt K mg "best_pair" s_best_pair ["task", "most", "may"])
  have F11 := fun_mk (st := s_least_cost) l11 c11 k11
  have b11 := F11.binds (ps := ["task", "most"]) fun _ _ _ _ _ _ us hl => match us, hl with | [_, _], _ => rfl
  have D11 := (⟨⟨_, _, F11, PySem.W.mg_of X G a11, b11⟩⟩ : DefAt K mg "least_cost" s_least_cost ["task", "most"])
  have F12 := fun_mk (st := s_least) l12 c12 k12
  have b12 := F12.binds (ps := ["task", "most"]) fun _ _ _ _ _ _ us hl => match us, hl with | [_, _], _ => rfl
  have D12 := (⟨⟨_, _, F12, PySem.W.mg_of X G a12, b12⟩⟩ : DefAt K mg "least" s_least ["task", "most"])
  have F13 := fun_mk (st := s_least_plan) l13 c13 k13
  have b13 := F13.binds (ps := ["task", "most"]) fun _ _ _ _ _ _ us hl => match us, hl with | [_, _], _ => rfl
  have D13 := (⟨⟨_, _, F13, PySem.W.mg_of X G a13, b13⟩⟩ : DefAt K mg "least_plan" s_least_plan ["task", "most"])
  have F14 := fun_mk (st := s_is_plan_of) l14 c14 k14
  have b14 := F14.binds (ps := ["hours", "thing"]) fun _ _ _ _ _ _ us hl => match us, hl with | [_, _], _ => rfl
  have D14 := (⟨⟨_, _, F14, PySem.W.mg_of X G a14, b14⟩⟩ : DefAt K mg "is_plan_of" s_is_plan_of ["hours", "thing"])
  have F15 := fun_mk (st := s_begins_next) l15 c15 k15
  have b15 := F15.binds (ps := ["begins", "begin"]) fun _ _ _ _ _ _ us hl => match us, hl with | [_, _], _ => rfl
  have D15 := (⟨⟨_, _, F15, PySem.W.mg_of X G a15, b15⟩⟩ : DefAt K mg "begins_next" s_begins_next ["begins", "begin"])
  have F16 := fun_mk (st := s_is_any_plan) l16 c16 k16
  have b16 := F16.binds (ps := ["thing"]) fun _ _ _ _ _ _ us hl => match us, hl with | [_], _ => rfl
  have D16 := (⟨⟨_, _, F16, PySem.W.mg_of X G a16, b16⟩⟩ : DefAt K mg "is_any_plan" s_is_any_plan ["thing"])
  have F17 := fun_mk (st := s_begins_behind) l17 c17 k17
  have b17 := F17.binds (ps := ["plan"]) fun _ _ _ _ _ _ us hl => match us, hl with | [_], _ => rfl
  have D17 := (⟨⟨_, _, F17, PySem.W.mg_of X G a17, b17⟩⟩ : DefAt K mg "begins_behind" s_begins_behind ["plan"])
  have F18 := fun_mk (st := s_between) l18 c18 k18
  have b18 := F18.binds (ps := ["solver", "most", "first", "last"]) fun _ _ _ _ _ _ us hl => match us, hl with | [_, _, _, _], _ => rfl
  have D18 := (⟨⟨_, _, F18, PySem.W.mg_of X G a18, b18⟩⟩ : DefAt K mg "between" s_between ["solver", "most", "first", "last"])
  have F19 := fun_mk (st := s_check_begun) l19 c19 k19
  have b19 := F19.binds (ps := ["task", "thing"]) fun _ _ _ _ _ _ us hl => match us, hl with | [_, _], _ => rfl
  have D19 := (⟨⟨_, _, F19, PySem.W.mg_of X G a19, b19⟩⟩ : DefAt K mg "check_begun" s_check_begun ["task", "thing"])
  have F20 := fun_mk (st := s_rest) l20 c20 k20
  have b20 := F20.binds (ps := ["task", "most", "begun"]) fun _ _ _ _ _ _ us hl => match us, hl with | [_, _, _], _ => rfl
  have D20 := (⟨⟨_, _, F20, PySem.W.mg_of X G a20, b20⟩⟩ : DefAt K mg "rest" s_rest ["task", "most", "begun"])
  have F21 := fun_mk (st := s__law_hand) l21 c21 k21
  have b21 := F21.binds (ps := ["_law_script"]) fun _ _ _ _ _ _ us hl => match us, hl with | [_], _ => rfl
  have D21 := (⟨⟨_, _, F21, PySem.W.mg_of X G a21, b21⟩⟩ : DefAt K mg "_law_hand" s__law_hand ["_law_script"])
  have F22 := fun_mk (st := s__law_draw) l22 c22 k22
  have b22 := F22.binds (ps := ["_law_hand_here", "_law_many"]) fun _ _ _ _ _ _ us hl => match us, hl with | [_, _], _ => rfl
  have D22 := (⟨⟨_, _, F22, PySem.W.mg_of X G a22, b22⟩⟩ : DefAt K mg "_law_draw" s__law_draw ["_law_hand_here", "_law_many"])
  have F23 := fun_mk (st := s__law_is) l23 c23 k23
  have b23 := F23.binds (ps := ["_law_got", "_law_due"]) fun _ _ _ _ _ _ us hl => match us, hl with | [_, _], _ => rfl
  have D23 := (⟨⟨_, _, F23, PySem.W.mg_of X G a23, b23⟩⟩ : DefAt K mg "_law_is" s__law_is ["_law_got", "_law_due"])
  have F24 := fun_mk (st := s__law_triangle) l24 c24 k24
  have b24 := F24.binds (ps := ["_law_hand_here", "_law_hours", "_law_most"]) fun _ _ _ _ _ _ us hl => match us, hl with | [_, _, _], _ => rfl
  have D24 := (⟨⟨_, _, F24, PySem.W.mg_of X G a24, b24⟩⟩ : DefAt K mg "_law_triangle" s__law_triangle ["_law_hand_here", "_law_hours", "_law_most"])
  have F25 := fun_mk (st := s__law_summed) l25 c25 k25
  have b25 := F25.binds (ps := ["_law_sizes"]) fun _ _ _ _ _ _ us hl => match us, hl with | [_], _ => rfl
  have D25 := (⟨⟨_, _, F25, PySem.W.mg_of X G a25, b25⟩⟩ : DefAt K mg "_law_summed" s__law_summed ["_law_sizes"])
  have F26 := fun_mk (st := s__law_prices) l26 c26 k26
  have b26 := F26.binds (ps := ["_law_hand_here", "_law_hours"]) fun _ _ _ _ _ _ us hl => match us, hl with | [_, _], _ => rfl
  have D26 := (⟨⟨_, _, F26, PySem.W.mg_of X G a26, b26⟩⟩ : DefAt K mg "_law_prices" s__law_prices ["_law_hand_here", "_law_hours"])
  have F27 := fun_mk (st := s__law_begins) l27 c27 k27
  have b27 := F27.binds (ps := ["_law_plan_here"]) fun _ _ _ _ _ _ us hl => match us, hl with | [_], _ => rfl
  have D27 := (⟨⟨_, _, F27, PySem.W.mg_of X G a27, b27⟩⟩ : DefAt K mg "_law_begins" s__law_begins ["_law_plan_here"])
  have F28 := fun_mk (st := s__law_plan) l28 c28 k28
  have b28 := F28.binds (ps := ["_law_hand_here", "_law_hours", "_law_most"]) fun _ _ _ _ _ _ us hl => match us, hl with | [_, _, _], _ => rfl
  have D28 := (⟨⟨_, _, F28, PySem.W.mg_of X G a28, b28⟩⟩ : DefAt K mg "_law_plan" s__law_plan ["_law_hand_here", "_law_hours", "_law_most"])
  have F29 := fun_mk (st := s__law_hour_cost) l29 c29 k29
  have b29 := F29.binds (ps := ["_law_writes", "_law_looks", "_law_begins_here", "_law_hour"]) fun _ _ _ _ _ _ us hl => match us, hl with | [_, _, _, _], _ => rfl
  have D29 := (⟨⟨_, _, F29, PySem.W.mg_of X G a29, b29⟩⟩ : DefAt K mg "_law_hour_cost" s__law_hour_cost ["_law_writes", "_law_looks", "_law_begins_here", "_law_hour"])
  have F30 := fun_mk (st := s__law_later_cost) l30 c30 k30
  have b30 := F30.binds (ps := ["_law_writes", "_law_looks", "_law_plan_here", "_law_many"]) fun _ _ _ _ _ _ us hl => match us, hl with | [_, _, _, _], _ => rfl
  have D30 := (⟨⟨_, _, F30, PySem.W.mg_of X G a30, b30⟩⟩ : DefAt K mg "_law_later_cost" s__law_later_cost ["_law_writes", "_law_looks", "_law_plan_here", "_law_many"])
  have F31 := fun_mk (st := s__law_stands) l31 c31 k31
  have b31 := F31.binds (ps := ["_law_plan_here", "_law_most", "_law_begun"]) fun _ _ _ _ _ _ us hl => match us, hl with | [_, _, _], _ => rfl
  have D31 := (⟨⟨_, _, F31, PySem.W.mg_of X G a31, b31⟩⟩ : DefAt K mg "_law_stands" s__law_stands ["_law_plan_here", "_law_most", "_law_begun"])
  have F32 := fun_mk (st := s__law_step_right) l32 c32 k32
  have b32 := F32.binds (ps := ["_law_task", "_law_most", "_law_begun", "_law_got"]) fun _ _ _ _ _ _ us hl => match us, hl with | [_, _, _, _], _ => rfl
  have D32 := (⟨⟨_, _, F32, PySem.W.mg_of X G a32, b32⟩⟩ : DefAt K mg "_law_step_right" s__law_step_right ["_law_task", "_law_most", "_law_begun", "_law_got"])
  have F33 := fun_mk (st := s__law_goes_on) l33 c33 k33
  have b33 := F33.binds (ps := ["_law_hand_here", "_law_plan_here", "_law_hours", "_law_most"]) fun _ _ _ _ _ _ us hl => match us, hl with | [_, _, _, _], _ => rfl
  have D33 := (⟨⟨_, _, F33, PySem.W.mg_of X G a33, b33⟩⟩ : DefAt K mg "_law_goes_on" s__law_goes_on ["_law_hand_here", "_law_plan_here", "_law_hours", "_law_most"])
  have F34 := fun_mk (st := s_law) l34 c34 k34
  have b34 := F34.binds (ps := ["_law_script"]) fun _ _ _ _ _ _ us hl => match us, hl with | [_], _ => rfl
  have F35 := fun_mk (st := s_Task___init__) l35 c35 k35
  have b35 := F35.binds (ps := ["self", "writes", "looks"]) fun _ _ _ _ _ _ us hl => match us, hl with | [_, _, _], _ => rfl
  have D35 := (⟨⟨_, _, F35, ⟨mkCT, a35, i35, kcCT⟩, PySem.W.mg_of X G aCCT, b35⟩⟩ : InitAt K mg "Task" CT "Task.__init__" s_Task___init__ ["self", "writes", "looks"])
  have F36 := fun_mk (st := s_Solver___init__) l36 c36 k36
  have b36 := F36.binds (ps := ["self", "task", "may"]) fun _ _ _ _ _ _ us hl => match us, hl with | [_, _, _], _ => rfl
  have D36 := (⟨⟨_, _, F36, ⟨mkCS, a36, i36, kcCS⟩, PySem.W.mg_of X G aCCS, b36⟩⟩ : InitAt K mg "Solver" CS "Solver.__init__" s_Solver___init__ ["self", "task", "may"])
  have F37 := fun_mk (st := s_Rest___init__) l37 c37 k37
  have b37 := F37.binds (ps := ["self", "task", "most", "begun"]) fun _ _ _ _ _ _ us hl => match us, hl with | [_, _, _, _], _ => rfl
  have D37 := (⟨⟨_, _, F37, ⟨mkCR, a37, i37, kcCR⟩, PySem.W.mg_of X G aCCR, b37⟩⟩ : InitAt K mg "Rest" CR "Rest.__init__" s_Rest___init__ ["self", "task", "most", "begun"])
  have F38 := fun_mk (st := s_Solver_capped) l38 c38 k38
  have b38 := F38.binds (ps := ["self", "most", "first", "last"]) fun _ _ _ _ _ _ us hl => match us, hl with | [_, _, _, _], _ => rfl
  have D38 := (⟨⟨_, _, F38, ⟨a38, i38, k38⟩, b38⟩⟩ : MethAt K CS "capped" "Solver.capped" s_Solver_capped ["self", "most", "first", "last"])
  have F39 := fun_mk (st := s_Solver_ahead_cost) l39 c39 k39
  have b39 := F39.binds (ps := ["self", "most", "first", "top"]) fun _ _ _ _ _ _ us hl => match us, hl with | [_, _, _, _], _ => rfl
  have D39 := (⟨⟨_, _, F39, ⟨a39, i39, k39⟩, b39⟩⟩ : MethAt K CS "ahead_cost" "Solver.ahead_cost" s_Solver_ahead_cost ["self", "most", "first", "top"])
  have F40 := fun_mk (st := s_Solver_behind_cost) l40 c40 k40
  have b40 := F40.binds (ps := ["self", "most", "top", "last"]) fun _ _ _ _ _ _ us hl => match us, hl with | [_, _, _, _], _ => rfl
  have D40 := (⟨⟨_, _, F40, ⟨a40, i40, k40⟩, b40⟩⟩ : MethAt K CS "behind_cost" "Solver.behind_cost" s_Solver_behind_cost ["self", "most", "top", "last"])
  have F41 := fun_mk (st := s_Solver_top_cost) l41 c41 k41
  have b41 := F41.binds (ps := ["self", "most", "first", "last", "top"]) fun _ _ _ _ _ _ us hl => match us, hl with | [_, _, _, _, _], _ => rfl
  have D41 := (⟨⟨_, _, F41, ⟨a41, i41, k41⟩, b41⟩⟩ : MethAt K CS "top_cost" "Solver.top_cost" s_Solver_top_cost ["self", "most", "first", "last", "top"])
  have F42 := fun_mk (st := s_Solver_own_cost) l42 c42 k42
  have b42 := F42.binds (ps := ["self", "most", "first", "last"]) fun _ _ _ _ _ _ us hl => match us, hl with | [_, _, _, _], _ => rfl
  have D42 := (⟨⟨_, _, F42, ⟨a42, i42, k42⟩, b42⟩⟩ : MethAt K CS "own_cost" "Solver.own_cost" s_Solver_own_cost ["self", "most", "first", "last"])
  have F43 := fun_mk (st := s_Solver_span_cost) l43 c43 k43
  have b43 := F43.binds (ps := ["self", "most", "first", "last"]) fun _ _ _ _ _ _ us hl => match us, hl with | [_, _, _, _], _ => rfl
  have D43 := (⟨⟨_, _, F43, ⟨a43, i43, k43⟩, b43⟩⟩ : MethAt K CS "span_cost" "Solver.span_cost" s_Solver_span_cost ["self", "most", "first", "last"])
  have F44 := fun_mk (st := s_Solver_tops) l44 c44 k44
  have b44 := F44.binds (ps := ["self", "most", "first", "last"]) fun _ _ _ _ _ _ us hl => match us, hl with | [_, _, _, _], _ => rfl
  have D44 := (⟨⟨_, _, F44, ⟨a44, i44, k44⟩, b44⟩⟩ : MethAt K CS "tops" "Solver.tops" s_Solver_tops ["self", "most", "first", "last"])
  have F45 := fun_mk (st := s_Solver_span_plan) l45 c45 k45
  have b45 := F45.binds (ps := ["self", "most", "first", "last"]) fun _ _ _ _ _ _ us hl => match us, hl with | [_, _, _, _], _ => rfl
  have D45 := (⟨⟨_, _, F45, ⟨a45, i45, k45⟩, b45⟩⟩ : MethAt K CS "span_plan" "Solver.span_plan" s_Solver_span_plan ["self", "most", "first", "last"])
  have F46 := fun_mk (st := s_Rest_elder_looks) l46 c46 k46
  have b46 := F46.binds (ps := ["self", "many", "first", "last"]) fun _ _ _ _ _ _ us hl => match us, hl with | [_, _, _, _], _ => rfl
  have D46 := (⟨⟨_, _, F46, ⟨a46, i46, k46⟩, b46⟩⟩ : MethAt K CR "elder_looks" "Rest.elder_looks" s_Rest_elder_looks ["self", "many", "first", "last"])
  have F47 := fun_mk (st := s_Rest_ways_to) l47 c47 k47
  have b47 := F47.binds (ps := ["self", "hour"]) fun _ _ _ _ _ _ us hl => match us, hl with | [_, _], _ => rfl
  have D47 := (⟨⟨_, _, F47, ⟨a47, i47, k47⟩, b47⟩⟩ : MethAt K CR "ways_to" "Rest.ways_to" s_Rest_ways_to ["self", "hour"])
  have F48 := fun_mk (st := s_Rest_written_at) l48 c48 k48
  have b48 := F48.binds (ps := ["self", "hour"]) fun _ _ _ _ _ _ us hl => match us, hl with | [_, _], _ => rfl
  have D48 := (⟨⟨_, _, F48, ⟨a48, i48, k48⟩, b48⟩⟩ : MethAt K CR "written_at" "Rest.written_at" s_Rest_written_at ["self", "hour"])
  have F49 := fun_mk (st := s_Rest_best) l49 c49 k49
  have b49 := F49.binds (ps := ["self"]) fun _ _ _ _ _ _ us hl => match us, hl with | [_], _ => rfl
  have D49 := (⟨⟨_, _, F49, ⟨a49, i49, k49⟩, b49⟩⟩ : MethAt K CR "best" "Rest.best" s_Rest_best ["self"])
  have R := fun base => chain (P := l.prog) (w := w) (base := base) T (PySem.W.mg_of X G a9) D0 D1 D2 D3 D4 D5 D6 D7 D8 D9 D10 D11 D12 D13 D14 D15 D16 D17 D18 D19 D20 D21 D22 D23 D24 D25 D26 D27 D28 D29 D30 D31 D32 D33 D35 D36 D37 D38 D39 D40 D41 D42 D43 D44 D45 D46 D47 D48 D49 F34
  refine ⟨PySem.W.fnOf "law" "law" (defArgs s_law) (defBody s_law) (defScope s_law) .none kV34 dc34 pm34 an34 cd34 ct34, fun s v => .of_eq rfl, fun base _ _ => ?_⟩
  exact R base
theorem walk {l : PySem.W.OpenLaw} {q : Program} {loose : List Str} {XP : (Str → Option Value) → Heap → Prop} {YP : World → Heap → Prop} {d : DefRec} {K : Params → PySem.W.Frag} (hn : l.most = some 63) (hdf : d.params.defaults = [])
    (hY : ∀ (w : World) (h : Heap), YP w h → (K w.params).In h)
    (F : ∀ (w : World) (mg : Str → Option Value) (fa : Addr) (h : Heap), (K w.params).In h → h.Ns mainGlobals mg → mg d.name = some (.ref fa) →
      ∃ fd : FuncData, (∀ (s : Shared) (u : Value), BindsTo s fd ⟨[u], []⟩ [("_law_script", u)]) ∧ ∀ base : Heap, (K w.params).In base → base.Ns mainGlobals mg → FnOk l.prog w (K w.params) mg base CX0 159 fa fd ["_law_script"] (spLaw (K w.params))) :
    PySem.W.WalkO q loose XP YP l.row.toRowW d [] (fun f vs => PySem.call f vs) :=
  L2.walk_of (n := 63) (k := 159) (x := "_law_script") (CX := fun _ => CX0) (sp := fun w => spLaw (K w.params)) hn (by decide) hdf ⟨rfl, by decide, by decide⟩ hY F (fun _ _ a ns hl _ hS => ⟨a, ns, rfl, hS, hl, fun _ => rfl⟩) fun _ _ _ _ _ z => z
end Js
open PySem PySem.W PyProof.Rows
set_option maxRecDepth 100000 in
set_option maxHeartbeats 0 in
theorem PySem.Challenge.cw_joinshelf_k59_whole_rests_of_great_tasks_holds : PySem.Challenge.rw_joinshelf_k59_whole_rests_of_great_tasks.Holds := by
  w_on; o_law; k_head; (case hw => w_witness2)
  k_fill
  refine Js.walk (l := PySem.Challenge.rw_joinshelf_k59_whole_rests_of_great_tasks) rfl rfl (fun w h Y => PySem.W.kIn_of Y) ?F
  case F =>
    intro w mg fa h KX G hmg
    refine' Js.all_mk KX G hmg ?a0 ?l0 ?c0 ?k0 ?a1 ?l1 ?c1 ?k1 ?a2 ?l2 ?c2 ?k2 ?a3 ?l3 ?c3 ?k3 ?a4 ?l4 ?c4 ?k4 ?a5 ?l5 ?c5 ?k5 ?a6 ?l6 ?c6 ?k6 ?a7 ?l7 ?c7 ?k7 ?a8 ?l8 ?c8 ?k8 ?a9 ?l9 ?c9 ?k9 ?a10 ?l10 ?c10 ?k10 ?a11 ?l11 ?c11 ?k11 ?a12 ?l12 ?c12 ?k12 ?a13 ?l13 ?c13 ?k13 ?a14 ?l14 ?c14 ?k14 ?a15 ?l15 ?c15 ?k15 ?a16 ?l16 ?c16 ?k16 ?a17 ?l17 ?c17 ?k17 ?a18 ?l18 ?c18 ?k18 ?a19 ?l19 ?c19 ?k19 ?a20 ?l20 ?c20 ?k20 ?a21 ?l21 ?c21 ?k21 ?a22 ?l22 ?c22 ?k22 ?a23 ?l23 ?c23 ?k23 ?a24 ?l24 ?c24 ?k24 ?a25 ?l25 ?c25 ?k25 ?a26 ?l26 ?c26 ?k26 ?a27 ?l27 ?c27 ?k27 ?a28 ?l28 ?c28 ?k28 ?a29 ?l29 ?c29 ?k29 ?a30 ?l30 ?c30 ?k30 ?a31 ?l31 ?c31 ?k31 ?a32 ?l32 ?c32 ?k32 ?a33 ?l33 ?c33 ?k33 ?a34 ?l34 ?c34 ?k34 ?aCCT ?a35 ?i35 ?l35 ?c35 ?k35 ?aCCS ?a36 ?i36 ?l36 ?c36 ?k36 ?aCCR ?a37 ?i37 ?l37 ?c37 ?k37 ?a38 ?i38 ?l38 ?c38 ?k38 ?a39 ?i39 ?l39 ?c39 ?k39 ?a40 ?i40 ?l40 ?c40 ?k40 ?a41 ?i41 ?l41 ?c41 ?k41 ?a42 ?i42 ?l42 ?c42 ?k42 ?a43 ?i43 ?l43 ?c43 ?k43 ?a44 ?i44 ?l44 ?c44 ?k44 ?a45 ?i45 ?l45 ?c45 ?k45 ?a46 ?i46 ?l46 ?c46 ?k46 ?a47 ?i47 ?l47 ?c47 ?k47 ?a48 ?i48 ?l48 ?c48 ?k48 ?a49 ?i49 ?l49 ?c49 ?k49 ?pgCT ?hdCT ?poCT ?saCT ?mkCT ?kcCT ?pgCS ?hdCS ?poCS ?saCS ?mkCS ?kcCS ?pgCR ?hdCR ?poCR ?saCR ?mkCR ?kcCR ?nCTwrites ?nCTlooks ?nCStask ?nCSmay ?nCScosts ?nCSplans ?nCScounts ?nCRtask ?nCRmost ?nCRfirst ?nCRbegins ?nCRsolver ?nCRknown ?zlen ?zrange ?ztuple ?zisinstance ?zint ?zbool ?zlist ?zall ?zenumerate ?zmin ?zsum ?zabs ?vMOST_RUNS ?vMOST_HOURS_tasks ?vMOST_HOURS_plans ?vMOST_PRICE
    (case a0 => k_is)
    (case l0 => k_is)
    (case c0 => k_is)
    (case k0 => k_is)
    (case a1 => k_is)
    (case l1 => k_is)
    (case c1 => k_is)
    (case k1 => k_is)
    (case a2 => k_is)
    (case l2 => k_is)
    (case c2 => k_is)
    (case k2 => k_is)
    (case a3 => k_is)
    (case l3 => k_is)
    (case c3 => k_is)
    (case k3 => k_is)
    (case a4 => k_is)
    (case l4 => k_is)
    (case c4 => k_is)
    (case k4 => k_is)
    (case a5 => k_is)
    (case l5 => k_is)
    (case c5 => k_is)
    (case k5 => k_is)
    (case a6 => k_is)
    (case l6 => k_is)
    (case c6 => k_is)
    (case k6 => k_is)
    (case a7 => k_is)
    (case l7 => k_is)
    (case c7 => k_is)
    (case k7 => k_is)
    (case a8 => k_is)
    (case l8 => k_is)
    (case c8 => k_is)
    (case k8 => k_is)
    (case a9 => k_is)
    (case l9 => k_is)
    (case c9 => k_is)
    (case k9 => k_is)
    (case a10 => k_is)
    (case l10 => k_is)
    (case c10 => k_is)
    (case k10 => k_is)
    (case a11 => k_is)
    (case l11 => k_is)
    (case c11 => k_is)
    (case k11 => k_is)
    (case a12 => k_is)
    (case l12 => k_is)
    (case c12 => k_is)
    (case k12 => k_is)
    (case a13 => k_is)
    (case l13 => k_is)
    (case c13 => k_is)
    (case k13 => k_is)
    (case a14 => k_is)
    (case l14 => k_is)
    (case c14 => k_is)
    (case k14 => k_is)
    (case a15 => k_is)
    (case l15 => k_is)
    (case c15 => k_is)
    (case k15 => k_is)
    (case a16 => k_is)
    (case l16 => k_is)
    (case c16 => k_is)
    (case k16 => k_is)
    (case a17 => k_is)
    (case l17 => k_is)
    (case c17 => k_is)
    (case k17 => k_is)
    (case a18 => k_is)
    (case l18 => k_is)
    (case c18 => k_is)
    (case k18 => k_is)
    (case a19 => k_is)
    (case l19 => k_is)
    (case c19 => k_is)
    (case k19 => k_is)
    (case a20 => k_is)
    (case l20 => k_is)
    (case c20 => k_is)
    (case k20 => k_is)
    (case a21 => k_is)
    (case l21 => k_is)
    (case c21 => k_is)
    (case k21 => k_is)
    (case a22 => k_is)
    (case l22 => k_is)
    (case c22 => k_is)
    (case k22 => k_is)
    (case a23 => k_is)
    (case l23 => k_is)
    (case c23 => k_is)
    (case k23 => k_is)
    (case a24 => k_is)
    (case l24 => k_is)
    (case c24 => k_is)
    (case k24 => k_is)
    (case a25 => k_is)
    (case l25 => k_is)
    (case c25 => k_is)
    (case k25 => k_is)
    (case a26 => k_is)
    (case l26 => k_is)
    (case c26 => k_is)
    (case k26 => k_is)
    (case a27 => k_is)
    (case l27 => k_is)
    (case c27 => k_is)
    (case k27 => k_is)
    (case a28 => k_is)
    (case l28 => k_is)
    (case c28 => k_is)
    (case k28 => k_is)
    (case a29 => k_is)
    (case l29 => k_is)
    (case c29 => k_is)
    (case k29 => k_is)
    (case a30 => k_is)
    (case l30 => k_is)
    (case c30 => k_is)
    (case k30 => k_is)
    (case a31 => k_is)
    (case l31 => k_is)
    (case c31 => k_is)
    (case k31 => k_is)
    (case a32 => k_is)
    (case l32 => k_is)
    (case c32 => k_is)
    (case k32 => k_is)
    (case a33 => k_is)
    (case l33 => k_is)
    (case c33 => k_is)
    (case k33 => k_is)
    (case a34 => k_is)
    (case l34 => k_is)
    (case c34 => k_is)
    (case k34 => k_is)
    (case aCCT => k_is)
    (case a35 => k_is)
    (case i35 => k_is)
    (case l35 => k_is)
    (case c35 => k_is)
    (case k35 => k_is)
    (case aCCS => k_is)
    (case a36 => k_is)
    (case i36 => k_is)
    (case l36 => k_is)
    (case c36 => k_is)
    (case k36 => k_is)
    (case aCCR => k_is)
    (case a37 => k_is)
    (case i37 => k_is)
    (case l37 => k_is)
    (case c37 => k_is)
    (case k37 => k_is)
    (case a38 => k_is)
    (case i38 => k_is)
    (case l38 => k_is)
    (case c38 => k_is)
    (case k38 => k_is)
    (case a39 => k_is)
    (case i39 => k_is)
    (case l39 => k_is)
    (case c39 => k_is)
    (case k39 => k_is)
    (case a40 => k_is)
    (case i40 => k_is)
    (case l40 => k_is)
    (case c40 => k_is)
    (case k40 => k_is)
    (case a41 => k_is)
    (case i41 => k_is)
    (case l41 => k_is)
    (case c41 => k_is)
    (case k41 => k_is)
    (case a42 => k_is)
    (case i42 => k_is)
    (case l42 => k_is)
    (case c42 => k_is)
    (case k42 => k_is)
    (case a43 => k_is)
    (case i43 => k_is)
    (case l43 => k_is)
    (case c43 => k_is)
    (case k43 => k_is)
    (case a44 => k_is)
    (case i44 => k_is)
    (case l44 => k_is)
    (case c44 => k_is)
    (case k44 => k_is)
    (case a45 => k_is)
    (case i45 => k_is)
    (case l45 => k_is)
    (case c45 => k_is)
    (case k45 => k_is)
    (case a46 => k_is)
    (case i46 => k_is)
    (case l46 => k_is)
    (case c46 => k_is)
    (case k46 => k_is)
    (case a47 => k_is)
    (case i47 => k_is)
    (case l47 => k_is)
    (case c47 => k_is)
    (case k47 => k_is)
    (case a48 => k_is)
    (case i48 => k_is)
    (case l48 => k_is)
    (case c48 => k_is)
    (case k48 => k_is)
    (case a49 => k_is)
    (case i49 => k_is)
    (case l49 => k_is)
    (case c49 => k_is)
    (case k49 => k_is)
    (case pgCT => k_is)
    (case hdCT => k_is)
    (case poCT => k_is)
    (case saCT => k_is)
    (case mkCT => k_is)
    (case kcCT => k_is)
    (case pgCS => k_is)
    (case hdCS => k_is)
    (case poCS => k_is)
    (case saCS => k_is)
    (case mkCS => k_is)
    (case kcCS => k_is)
    (case pgCR => k_is)
    (case hdCR => k_is)
    (case poCR => k_is)
    (case saCR => k_is)
    (case mkCR => k_is)
    (case kcCR => k_is)
    (case nCTwrites => k_is)
    (case nCTlooks => k_is)
    (case nCStask => k_is)
    (case nCSmay => k_is)
    (case nCScosts => k_is)
    (case nCSplans => k_is)
    (case nCScounts => k_is)
    (case nCRtask => k_is)
    (case nCRmost => k_is)
    (case nCRfirst => k_is)
    (case nCRbegins => k_is)
    (case nCRsolver => k_is)
    (case nCRknown => k_is)
    (case zlen => k_is)
    (case zrange => k_is)
    (case ztuple => k_is)
    (case zisinstance => k_is)
    (case zint => k_is)
    (case zbool => k_is)
    (case zlist => k_is)
    (case zall => k_is)
    (case zenumerate => k_is)
    (case zmin => k_is)
    (case zsum => k_is)
    (case zabs => k_is)
    (case vMOST_RUNS => k_is)
    (case vMOST_HOURS_tasks => k_is)
    (case vMOST_HOURS_plans => k_is)
    (case vMOST_PRICE => k_is)
