import PyProof.Rows.All
import Wide.All
import OpenK.AllK
import Wide.FinOn
import HandS.ForMost
import HandS.Exc
import HandS.ExcSuper
import HandS.Defaults
import KE.KExcSuper
import HandS.ExcOwn
import HandS.ExcValue
import HandS.ExcIs
import HandS.ExcField
import HandS.WordsExc
import KE.KIsAll
import KE.KTryMore
import HandS.IsInst
import KE.KDictDisplayH
import HandS.Style
import HandS.Conv
import HandS.DictComp
import HandS.TryOnly
import PyProof.ReprRoads
import PyProof.ReprBulk
import HandS.Ends
import HandS.Wide
import HandS.WideBits
import HandS.WordsList
import HandS.WordsDict
import HandS.OwnEq
import HandS.Walk
import HandS.Codes
import PySem.Challenge.RW_gapswaps_k28_whole_nobody_comes_back_in
set_option Elab.async false
set_option linter.all false
set_option maxRecDepth 100000
set_option maxHeartbeats 4000000
/-! The mathematics of rows and deeds, in plain Lean: no program in sight. -/
namespace Gs
/-- which counts let a deed -/
abbrev Let := Int → Bool
def pos (D : Let) : Prop := ∀ c, D c = true → 0 < c
/-- what stands behind a deed in the place of two neighbours -/
def pairOf (D : Let) (a b : Int) : Option (Int × Int) :=
  if D (b - a - 1) = true then some (b - 1, a) else if D (a - b) = true then some (b, a + 1) else none
theorem pairOf_back {D : Let} (hD : pos D) {a b x y : Int} (h : pairOf D a b = some (x, y)) : pairOf D x y = some (a, b) := by
  unfold pairOf at h
  by_cases h1 : D (b - a - 1) = true
  · rw [if_pos h1] at h
    injection h with h
    injection h with hx hy
    subst hx hy
    have p := hD _ h1
    unfold pairOf
    have n1 : ¬ D (a - (b - 1) - 1) = true := fun q => by have := hD _ q; omega
    have e : b - 1 - a = b - a - 1 := by omega
    rw [if_neg n1, e, if_pos h1]
    have e2 : b - 1 + 1 = b := by omega
    rw [e2]
  · rw [if_neg h1] at h
    by_cases h2 : D (a - b) = true
    · rw [if_pos h2] at h
      injection h with h
      injection h with hx hy
      subst hx hy
      unfold pairOf
      have e : a + 1 - b - 1 = a - b := by omega
      rw [e, if_pos h2]
      have e2 : a + 1 - 1 = a := by omega
      rw [e2]
    · rw [if_neg h2] at h
      cases h
/-! ### decoding: each item inserted by how many lesser ones stand ahead -/
def up (c x : Int) : Int := if c ≤ x then x + 1 else x
theorem up_inj {c x y : Int} (h : up c x = up c y) : x = y := by
  unfold up at h
  split at h <;> split at h <;> omega
theorem up_ne (c x : Int) : up c x ≠ c := by
  unfold up
  split <;> omega
def ins (acc : List Int) (c : Int) : List Int := acc.map (up c) ++ [c]
def dec (l : List Int) : List Int := l.foldl ins []
theorem ins_length (acc : List Int) (c : Int) : (ins acc c).length = acc.length + 1 := by simp [ins]
theorem foldl_ins_length : ∀ (l acc : List Int), (l.foldl ins acc).length = acc.length + l.length
  | [], acc => rfl
  | c :: l, acc => by
    rw [List.foldl_cons, foldl_ins_length l, ins_length, List.length_cons]
    omega
theorem dec_length (l : List Int) : (dec l).length = l.length := by
  unfold dec
  rw [foldl_ins_length]
  simp
theorem nodup_map_up (c : Int) : ∀ {l : List Int}, l.Nodup → (l.map (up c)).Nodup
  | [], _ => by simp
  | x :: l, h => by
    rw [List.nodup_cons] at h
    rw [List.map_cons, List.nodup_cons]
    refine ⟨fun m => ?_, nodup_map_up c h.2⟩
    obtain ⟨y, hy, e⟩ := List.mem_map.mp m
    have := up_inj e
    subst this
    exact h.1 hy
theorem ins_nodup {acc : List Int} (c : Int) (h : acc.Nodup) : (ins acc c).Nodup := by
  unfold ins
  rw [List.nodup_append]
  refine ⟨nodup_map_up c h, by simp, fun a ha b hb e => ?_⟩
  obtain ⟨y, _, q⟩ := List.mem_map.mp ha
  have hb' : b = c := by simpa using hb
  rw [e, hb'] at q
  exact up_ne c y q
theorem foldl_nodup : ∀ (l acc : List Int), acc.Nodup → (l.foldl ins acc).Nodup
  | [], _, h => h
  | c :: l, acc, h => foldl_nodup l _ (ins_nodup c h)
theorem dec_nodup (l : List Int) : (dec l).Nodup := foldl_nodup l [] (by simp)

/-! ### two neighbours of a list change places -/
def swapAt {α : Type} (l : List α) (i : Nat) : List α := match l.drop i with
  | a :: b :: r => l.take i ++ b :: a :: r
  | _ => l
theorem swapAt_zero {α : Type} (a b : α) (r : List α) : swapAt (a :: b :: r) 0 = b :: a :: r := rfl
theorem swapAt_succ {α : Type} (a : α) (l : List α) (i : Nat) : swapAt (a :: l) (i + 1) = a :: swapAt l i := by
  unfold swapAt
  rw [List.drop_succ_cons]
  split
  · rfl
  · rfl
theorem swapAt_nil {α : Type} (i : Nat) : swapAt ([] : List α) i = [] := by
  unfold swapAt
  rw [List.drop_nil]
theorem swapAt_one {α : Type} (a : α) (i : Nat) : swapAt [a] i = [a] := by
  cases i with
  | zero => rfl
  | succ i => rw [swapAt_succ, swapAt_nil]
theorem swapAt_length {α : Type} : ∀ (l : List α) (i : Nat), (swapAt l i).length = l.length
  | [], i => by rw [swapAt_nil]
  | [a], i => by rw [swapAt_one]
  | a :: b :: r, 0 => rfl
  | a :: b :: r, i + 1 => by
    rw [swapAt_succ, List.length_cons, swapAt_length (b :: r) i]
    rfl
theorem swapAt_map {α β : Type} (f : α → β) : ∀ (l : List α) (i : Nat), swapAt (l.map f) i = (swapAt l i).map f
  | [], i => by simp [swapAt_nil]
  | [a], i => by simp [swapAt_one]
  | a :: b :: r, 0 => rfl
  | a :: b :: r, i + 1 => by
    rw [List.map_cons, swapAt_succ, swapAt_succ, swapAt_map f (b :: r) i, List.map_cons]
theorem swapAt_twice {α : Type} : ∀ (l : List α) (i : Nat), swapAt (swapAt l i) i = l
  | [], i => by simp [swapAt_nil]
  | [a], i => by simp [swapAt_one]
  | a :: b :: r, 0 => rfl
  | a :: b :: r, i + 1 => by rw [swapAt_succ, swapAt_succ, swapAt_twice (b :: r) i]
theorem swapAt_append {α : Type} : ∀ (l m : List α) (i : Nat), i + 1 < l.length → swapAt (l ++ m) i = swapAt l i ++ m
  | [], m, i, h => by simp at h
  | [a], m, i, h => by simp at h
  | a :: b :: r, m, 0, h => rfl
  | a :: b :: r, m, i + 1, h => by
    have h' : i + 1 < (b :: r).length := by
      have : (a :: b :: r).length = (b :: r).length + 1 := rfl
      omega
    rw [List.cons_append, swapAt_succ, swapAt_succ, swapAt_append (b :: r) m i h']
    rfl
theorem swapAt_perm {α : Type} : ∀ (l : List α) (i : Nat), (swapAt l i).Perm l
  | [], i => by rw [swapAt_nil]
  | [a], i => by rw [swapAt_one]
  | a :: b :: r, 0 => List.Perm.swap a b r
  | a :: b :: r, i + 1 => by
    rw [swapAt_succ]
    exact (swapAt_perm (b :: r) i).cons a
/-- the form that the programs use -/
theorem swapAt_form {α : Type} : ∀ (l : List α) (i : Nat) (x y : α), l[i]? = some x → l[i + 1]? = some y → swapAt l i = l.take i ++ [y, x] ++ l.drop (i + 2)
  | [], i, x, y, h, _ => by simp at h
  | [a], i, x, y, _, h => by simp at h
  | a :: b :: r, 0, x, y, h, h2 => by
    have e1 : a = x := Option.some.inj h
    have e2 : b = y := Option.some.inj h2
    subst e1 e2
    rfl
  | a :: b :: r, i + 1, x, y, h, h2 => by
    rw [swapAt_succ, swapAt_form (b :: r) i x y h h2]
    rfl

/-! ### deeds of a row -/
def deed (D : Let) : List Int → Nat → Option (List Int)
  | a :: b :: r, 0 => (pairOf D a b).map fun p => p.1 :: p.2 :: r
  | a :: b :: r, i + 1 => (deed D (b :: r) i).map (a :: ·)
  | _, _ => none
theorem deed_length {D : Let} : ∀ {l : List Int} {i : Nat} {l' : List Int}, deed D l i = some l' → l'.length = l.length
  | [], i, l', h => by simp [deed] at h
  | [a], i, l', h => by cases i <;> simp [deed] at h
  | a :: b :: r, 0, l', h => by
    simp only [deed, Option.map_eq_some_iff] at h
    obtain ⟨p, _, e⟩ := h
    rw [← e]
    rfl
  | a :: b :: r, i + 1, l', h => by
    simp only [deed, Option.map_eq_some_iff] at h
    obtain ⟨p, hp, e⟩ := h
    rw [← e, List.length_cons, deed_length hp]
    rfl
theorem deed_lt {D : Let} : ∀ {l : List Int} {i : Nat} {l' : List Int}, deed D l i = some l' → i + 1 < l.length
  | [], i, l', h => by simp [deed] at h
  | [a], i, l', h => by cases i <;> simp [deed] at h
  | a :: b :: r, 0, l', h => by simp
  | a :: b :: r, i + 1, l', h => by
    simp only [deed, Option.map_eq_some_iff] at h
    obtain ⟨p, hp, e⟩ := h
    have := deed_lt hp
    have e2 : (a :: b :: r).length = (b :: r).length + 1 := rfl
    omega
theorem deed_back {D : Let} (hD : pos D) : ∀ {l : List Int} {i : Nat} {l' : List Int}, deed D l i = some l' → deed D l' i = some l
  | [], i, l', h => by simp [deed] at h
  | [a], i, l', h => by cases i <;> simp [deed] at h
  | a :: b :: r, 0, l', h => by
    simp only [deed, Option.map_eq_some_iff] at h
    obtain ⟨p, hp, e⟩ := h
    rw [← e]
    simp only [deed]
    rw [pairOf_back hD (x := p.1) (y := p.2) hp]
    rfl
  | a :: b :: r, i + 1, l', h => by
    simp only [deed, Option.map_eq_some_iff] at h
    obtain ⟨p, hp, e⟩ := h
    have ih := deed_back hD hp
    have hl := deed_length hp
    cases p with
    | nil => simp at hl
    | cons x p =>
      rw [← e]
      simp only [deed]
      cases p with
      | nil =>
        have := deed_lt ih
        simp at this
      | cons y p =>
        rw [ih]
        rfl
/-- the form that the programs use -/
theorem deed_form {D : Let} : ∀ {l : List Int} {i : Nat} {x y : Int}, l[i]? = some x → l[i + 1]? = some y →
    deed D l i = (pairOf D x y).map fun p => l.take i ++ [p.1, p.2] ++ l.drop (i + 2)
  | [], i, x, y, h, _ => by simp at h
  | [a], i, x, y, _, h => by simp at h
  | a :: b :: r, 0, x, y, h, h2 => by
    have e1 : a = x := Option.some.inj h
    have e2 : b = y := Option.some.inj h2
    subst e1 e2
    rfl
  | a :: b :: r, i + 1, x, y, h, h2 => by
    simp only [deed]
    rw [deed_form (l := b :: r) (i := i) h h2, Option.map_map]
    rfl
theorem deed_none {D : Let} {l : List Int} {i : Nat} (h : l.length ≤ i + 1) : deed D l i = none := by
  cases e : deed D l i with
  | none => rfl
  | some l' =>
    have := deed_lt e
    omega
/-- the decoded list of the row behind a deed -/
theorem up_up {a b x : Int} (h : a < b) : up b (up a x) = up a (up (b - 1) x) := by
  unfold up
  by_cases h1 : a ≤ x
  · by_cases h2 : b - 1 ≤ x
    · rw [if_pos h1, if_pos h2, if_pos (by omega), if_pos (by omega)]
    · rw [if_pos h1, if_neg h2, if_neg (by omega), if_pos (by omega)]
  · rw [if_neg h1, if_neg (show ¬ b ≤ x by omega), if_neg (show ¬ b - 1 ≤ x by omega), if_neg h1]
theorem pair_ins {D : Let} (hD : pos D) {a b x y : Int} (h : pairOf D a b = some (x, y)) (acc : List Int) :
    ∃ (m : List Int) (u v : Int), m.length = acc.length ∧ ins (ins acc a) b = m ++ [u, v] ∧ ins (ins acc x) y = m ++ [v, u] := by
  unfold pairOf at h
  by_cases h1 : D (b - a - 1) = true
  · rw [if_pos h1] at h
    injection h with h
    injection h with hx hy
    subst hx hy
    have p := hD _ h1
    refine ⟨(acc.map (up a)).map (up b), a, b, by simp, ?_, ?_⟩
    · unfold ins
      rw [List.map_append, List.append_assoc]
      have e : up b a = a := by unfold up; rw [if_neg (by omega)]
      simp [e]
    · unfold ins
      rw [List.map_append, List.append_assoc]
      have e : up a (b - 1) = b := by unfold up; rw [if_pos (by omega)]; omega
      have e2 : (acc.map (up (b - 1))).map (up a) = (acc.map (up a)).map (up b) := by
        rw [List.map_map, List.map_map]
        apply List.map_congr_left
        intro z _
        exact (up_up (by omega)).symm
      rw [e2]
      simp [e]
  · rw [if_neg h1] at h
    by_cases h2 : D (a - b) = true
    · rw [if_pos h2] at h
      injection h with h
      injection h with hx hy
      subst hx hy
      have p := hD _ h2
      refine ⟨(acc.map (up a)).map (up b), a + 1, b, by simp, ?_, ?_⟩
      · unfold ins
        rw [List.map_append, List.append_assoc]
        have e : up b a = a + 1 := by unfold up; rw [if_pos (by omega)]
        simp [e]
      · unfold ins
        rw [List.map_append, List.append_assoc]
        have e : up (a + 1) b = b := by unfold up; rw [if_neg (by omega)]
        have e2 : (acc.map (up b)).map (up (a + 1)) = (acc.map (up a)).map (up b) := by
          rw [List.map_map, List.map_map]
          apply List.map_congr_left
          intro z _
          have q := up_up (a := b) (b := a + 1) (x := z) (by omega)
          have e3 : a + 1 - 1 = a := by omega
          rw [e3] at q
          exact q
        rw [e2]
        simp [e]
    · rw [if_neg h2] at h
      cases h
theorem swap_ins (m : List Int) (c : Int) (i : Nat) (h : i + 1 < m.length) : swapAt (ins m c) i = ins (swapAt m i) c := by
  unfold ins
  rw [swapAt_append _ _ _ (by simpa using h), swapAt_map]
theorem swap_foldl : ∀ (l m : List Int) (i : Nat), i + 1 < m.length → swapAt (l.foldl ins m) i = l.foldl ins (swapAt m i)
  | [], m, i, h => rfl
  | c :: l, m, i, h => by
    rw [List.foldl_cons, List.foldl_cons, swap_foldl l (ins m c) i (by rw [ins_length]; omega), swap_ins m c i h]
theorem swapAt_end {α : Type} (u v : α) : ∀ (m : List α), swapAt (m ++ [u, v]) m.length = m ++ [v, u]
  | [] => rfl
  | a :: m => by
    rw [List.cons_append, List.length_cons, swapAt_succ, swapAt_end u v m]
    rfl
theorem deed_foldl {D : Let} (hD : pos D) : ∀ {l : List Int} {i : Nat} {l' : List Int} (acc : List Int), deed D l i = some l' → l'.foldl ins acc = swapAt (l.foldl ins acc) (acc.length + i)
  | [], i, l', acc, h => by simp [deed] at h
  | [a], i, l', acc, h => by cases i <;> simp [deed] at h
  | a :: b :: r, 0, l', acc, h => by
    simp only [deed, Option.map_eq_some_iff] at h
    obtain ⟨p, hp, e⟩ := h
    obtain ⟨m, u, v, hm, h1, h2⟩ := pair_ins hD (x := p.1) (y := p.2) hp acc
    rw [← e]
    simp only [List.foldl_cons]
    rw [h2, h1, swap_foldl r (m ++ [u, v]) (acc.length + 0) (by simp [hm]), Nat.add_zero, ← hm, swapAt_end]
  | a :: b :: r, i + 1, l', acc, h => by
    simp only [deed, Option.map_eq_some_iff] at h
    obtain ⟨p, hp, e⟩ := h
    rw [← e, List.foldl_cons, List.foldl_cons, deed_foldl hD (ins acc a) hp, ins_length]
    have e2 : acc.length + 1 + i = acc.length + (i + 1) := by omega
    rw [e2]
theorem deed_dec {D : Let} (hD : pos D) {l l' : List Int} {i : Nat} (h : deed D l i = some l') : dec l' = swapAt (dec l) i := by
  have e := deed_foldl hD [] h
  rw [List.length_nil, Nat.zero_add] at e
  exact e

/-! ### lists of deeds -/
def led (D : Let) : List Int → List Nat → Option (List Int)
  | l, [] => some l
  | l, i :: is => (deed D l i).bind fun l' => led D l' is
def swaps {α : Type} (l : List α) (is : List Nat) : List α := is.foldl swapAt l
theorem swaps_nil {α : Type} (l : List α) : swaps l [] = l := rfl
theorem swaps_cons {α : Type} (l : List α) (i : Nat) (is : List Nat) : swaps l (i :: is) = swaps (swapAt l i) is := rfl
theorem swaps_append {α : Type} (l : List α) (is js : List Nat) : swaps l (is ++ js) = swaps (swaps l is) js := by
  unfold swaps
  rw [List.foldl_append]
theorem swaps_snoc {α : Type} (l : List α) (is : List Nat) (i : Nat) : swaps l (is ++ [i]) = swapAt (swaps l is) i := by
  rw [swaps_append]
  rfl
theorem swaps_length {α : Type} : ∀ (is : List Nat) (l : List α), (swaps l is).length = l.length
  | [], l => rfl
  | i :: is, l => by rw [swaps_cons, swaps_length is, swapAt_length]
theorem swaps_map {α β : Type} (f : α → β) : ∀ (is : List Nat) (l : List α), swaps (l.map f) is = (swaps l is).map f
  | [], l => rfl
  | i :: is, l => by rw [swaps_cons, swaps_cons, swapAt_map, swaps_map f is]
theorem swaps_perm {α : Type} : ∀ (is : List Nat) (l : List α), (swaps l is).Perm l
  | [], l => List.Perm.refl l
  | i :: is, l => (swaps_perm is (swapAt l i)).trans (swapAt_perm l i)
theorem swaps_rev {α : Type} : ∀ (is : List Nat) (l : List α), swaps (swaps l is) is.reverse = l
  | [], l => rfl
  | i :: is, l => by rw [swaps_cons, List.reverse_cons, swaps_append, swaps_rev is (swapAt l i), swaps_cons, swaps_nil, swapAt_twice]
theorem led_append {D : Let} : ∀ (is js : List Nat) (l : List Int), led D l (is ++ js) = (led D l is).bind fun l' => led D l' js
  | [], js, l => rfl
  | i :: is, js, l => by
    rw [List.cons_append]
    simp only [led]
    cases h : deed D l i with
    | none => rfl
    | some l' =>
      simp only [Option.bind_some]
      exact led_append is js l'
theorem led_snoc {D : Let} {l l1 l2 : List Int} {is : List Nat} {i : Nat} (h : led D l is = some l1) (h2 : deed D l1 i = some l2) : led D l (is ++ [i]) = some l2 := by
  rw [led_append, h, Option.bind_some]
  simp only [led, h2, Option.bind_some]
theorem led_length {D : Let} : ∀ {is : List Nat} {l l' : List Int}, led D l is = some l' → l'.length = l.length
  | [], l, l', h => by
    injection h with h
    rw [h]
  | i :: is, l, l', h => by
    simp only [led] at h
    cases hd : deed D l i with
    | none => rw [hd] at h; cases h
    | some l1 =>
      rw [hd, Option.bind_some] at h
      rw [led_length h, deed_length hd]
theorem led_rev {D : Let} (hD : pos D) : ∀ {is : List Nat} {l l' : List Int}, led D l is = some l' → led D l' is.reverse = some l
  | [], l, l', h => by
    injection h with h
    rw [h]
    rfl
  | i :: is, l, l', h => by
    simp only [led] at h
    cases hd : deed D l i with
    | none => rw [hd] at h; cases h
    | some l1 =>
      rw [hd, Option.bind_some] at h
      rw [List.reverse_cons]
      exact led_snoc (led_rev hD h) (deed_back hD hd)
theorem led_there {D : Let} (hD : pos D) {is : List Nat} {l l' : List Int} (h : led D l is = some l') : led D l (is ++ is.reverse) = some l := by
  rw [led_append, h, Option.bind_some]
  exact led_rev hD h
theorem led_dec {D : Let} (hD : pos D) : ∀ {is : List Nat} {l l' : List Int}, led D l is = some l' → dec l' = swaps (dec l) is
  | [], l, l', h => by
    injection h with h
    rw [h]
    rfl
  | i :: is, l, l', h => by
    simp only [led] at h
    cases hd : deed D l i with
    | none => rw [hd] at h; cases h
    | some l1 =>
      rw [hd, Option.bind_some] at h
      rw [led_dec hD h, deed_dec hD hd]
      rfl

/-! ### what follows the items -/
def ids (n : Nat) : List Nat := List.range n
theorem ids_length (n : Nat) : (ids n).length = n := by simp [ids]
/-- ν tells, for the row r, the numbers that its items had in the row r0 -/
def Tells (r0 r : List Int) (nu : List Nat) : Prop := nu.length = r0.length ∧ (∀ k ∈ nu, k < r0.length) ∧ dec r = nu.map fun k => (dec r0).getD k 0
theorem range_map_getD {α : Type} (l : List α) (d : α) : (List.range l.length).map (fun k => l.getD k d) = l := by
  apply List.ext_getElem
  · simp
  · intro i h1 h2
    simp [List.getD_eq_getElem?_getD, List.getElem?_eq_getElem h2]
theorem ids_map_getD (l : List Int) : (ids l.length).map (fun k => l.getD k 0) = l := by
  apply List.ext_getElem
  · simp [ids]
  · intro i h1 h2
    simp [ids, List.getD_eq_getElem?_getD, List.getElem?_eq_getElem h2]
theorem tells_self (r : List Int) : Tells r r (ids r.length) := by
  refine ⟨ids_length _, fun k hk => by simpa [ids] using hk, ?_⟩
  have e := ids_map_getD (dec r)
  rw [dec_length] at e
  exact e.symm
theorem tells_deed {D : Let} (hD : pos D) {r0 r r' : List Int} {nu : List Nat} {i : Nat} (h : Tells r0 r nu) (hd : deed D r i = some r') : Tells r0 r' (swapAt nu i) := by
  obtain ⟨h1, h2, h3⟩ := h
  refine ⟨by rw [swapAt_length]; exact h1, fun k hk => h2 k ((swapAt_perm nu i).mem_iff.mp hk), ?_⟩
  rw [deed_dec hD hd, h3, swapAt_map]
theorem tells_led {D : Let} (hD : pos D) {r0 r' : List Int} {is : List Nat} (h : led D r0 is = some r') : Tells r0 r' (swaps (ids r0.length) is) := by
  refine ⟨by rw [swaps_length, ids_length], fun k hk => by simpa [ids] using (swaps_perm is (ids r0.length)).mem_iff.mp hk, ?_⟩
  have e := (tells_self r0).2.2
  rw [led_dec hD h, ← swaps_map, ← e]
theorem nodup_get {l : List Int} (hl : l.Nodup) {i j : Nat} (hi : i < l.length) (hj : j < l.length) (e : l.getD i 0 = l.getD j 0) : i = j := by
  rw [List.getD_eq_getElem?_getD, List.getD_eq_getElem?_getD, List.getElem?_eq_getElem hi, List.getElem?_eq_getElem hj] at e
  simp only [Option.getD_some] at e
  exact (List.getElem_inj hl).mp e
theorem map_get_inj {l : List Int} (hl : l.Nodup) : ∀ {a b : List Nat}, (∀ k ∈ a, k < l.length) → (∀ k ∈ b, k < l.length) → a.map (fun k => l.getD k 0) = b.map (fun k => l.getD k 0) → a = b
  | [], [], _, _, _ => rfl
  | [], y :: b, _, _, e => by simp at e
  | x :: a, [], _, _, e => by simp at e
  | x :: a, y :: b, ha, hb, e => by
    rw [List.map_cons, List.map_cons] at e
    injection e with e1 e2
    rw [nodup_get hl (ha x List.mem_cons_self) (hb y List.mem_cons_self) e1, map_get_inj hl (fun k hk => ha k (List.mem_cons_of_mem _ hk)) (fun k hk => hb k (List.mem_cons_of_mem _ hk)) e2]
/-- whatever the way: the same row, the same numbers -/
theorem tells_one {r0 r : List Int} {nu mu : List Nat} (h : Tells r0 r nu) (h' : Tells r0 r mu) : nu = mu := by
  refine map_get_inj (dec_nodup r0) (fun k hk => ?_) (fun k hk => ?_) (h.2.2.symm.trans h'.2.2)
  · rw [dec_length]
    exact h.2.1 k hk
  · rw [dec_length]
    exact h'.2.1 k hk
/-- the way back tells where each number stands -/
theorem swaps_at {is : List Nat} {n k : Nat} (hk : k < n) : ∃ j, (swaps (ids n) is.reverse)[k]? = some j ∧ j < n ∧ (swaps (ids n) is)[j]? = some k := by
  have hl1 : (swaps (ids n) is.reverse).length = n := by rw [swaps_length, ids_length]
  have hl2 : (swaps (ids n) is).length = n := by rw [swaps_length, ids_length]
  have hj : (swaps (ids n) is.reverse)[k]? = some ((swaps (ids n) is.reverse)[k]'(by omega)) := List.getElem?_eq_getElem _
  generalize hjj : (swaps (ids n) is.reverse)[k]'(by omega) = j at hj
  have hjn : j < n := by
    have m := List.mem_of_getElem? hj
    simpa [ids] using (swaps_perm is.reverse (ids n)).mem_iff.mp m
  refine ⟨j, hj, hjn, ?_⟩
  have e := swaps_rev is (ids n)
  have e2 : (swaps (ids n) is) = (ids n).map fun j => (swaps (ids n) is).getD j 0 := by
    have q := range_map_getD (swaps (ids n) is) 0
    rw [hl2] at q
    exact q.symm
  rw [e2, swaps_map] at e
  have e3 : ((swaps (ids n) is.reverse).map fun j => (swaps (ids n) is).getD j 0)[k]? = (ids n)[k]? := by rw [e]
  rw [List.getElem?_map, hj] at e3
  have e4 : (ids n)[k]? = some k := by simp [ids, hk]
  rw [e4] at e3
  have e5 : (swaps (ids n) is).getD j 0 = k := Option.some.inj e3
  rw [List.getElem?_eq_getElem (by omega)]
  rw [List.getD_eq_getElem?_getD, List.getElem?_eq_getElem (by omega)] at e5
  exact congrArg some e5
theorem swaps_nodup (is : List Nat) (n : Nat) : (swaps (ids n) is).Nodup := (swaps_perm is (ids n)).nodup_iff.mpr (List.nodup_range)
/-! ### the places at which there are deeds -/
def near (D : Let) (l : List Int) : List (Nat × List Int) := (List.range (l.length - 1)).filterMap fun i => (deed D l i).map fun r => (i, r)
theorem near_mem {D : Let} {l r : List Int} {i : Nat} : (i, r) ∈ near D l ↔ deed D l i = some r := by
  unfold near
  rw [List.mem_filterMap]
  constructor
  · rintro ⟨j, _, h⟩
    rw [Option.map_eq_some_iff] at h
    obtain ⟨x, hx, e⟩ := h
    injection e with e1 e2
    subst e1 e2
    exact hx
  · intro h
    refine ⟨i, ?_, by rw [h]; rfl⟩
    have := deed_lt h
    rw [List.mem_range]
    omega
end Gs


/-! An own error over an own base over ValueError, whose __init__ says super().__init__(value) and keeps the value: how it is made. -/
namespace Gx
open PySem PySem.W PySem.Calls PyProof.Rows PySem.HandSPX
def iA (p1 p2 p3 : Pos) : Arguments := { posonlyargs := [], args := [{ arg := "self", annotation := none, pos := p1 }, { arg := "value", annotation := none, pos := p2 }], vararg := none, kwonlyargs := [], kw_defaults := [], kwarg := none, defaults := [.Constant .none 0 p3] }
def iB (q0 q1 q2 q3 q4 q5 r1 r2 r3 r4 : Pos) : List Stmt := [.Expr (.Call (.Attribute (.Call (.Name "super" q0) [] [] q1) "__init__" q2) [.Name "value" q3] [] q4) q5, .Assign [.Attribute (.Name "self" r1) "value" r2] (.Name "value" r3) r4]
def iS : Scope := { kind := .function, names := [(PySem.Str.ofString "self", .local), (PySem.Str.ofString "value", .local), (PySem.Str.ofString "__class__", .free), (PySem.Str.ofString "super", .globalImplicit)], isGenerator := false, isCoroutine := false, more := [] }
/-- what the written part says of an error class at C and of its __init__ -/
structure Txt (P : Program) (K : Frag) (mg : Str → Option Value) (x q : Str) (C fI cda cc : Addr) : Prop where
  gC : mg x = some (.ref C)
  cls : ∃ nm q N bs bm sn sub ab col dd k0 k1 k2 k3 k5, K.lookup C = some (excClassObj nm q C N bs bm true sn sub ab col dd k0 k1 k2 k3 k5 "ValueError.__new__") ∧ refsVE bm = true
  sa : findIn K (.ref C) "__setattr__" = some (some (.builtin "object.__setattr__"))
  ga : findIn K (.ref C) "__getattribute__" = some (some (.builtin "BaseException.__getattribute__"))
  gg : findIn K (.ref C) "__getattr__" = some none
  noV : findIn K (.ref C) "value" = some none
  iC : findIn K (.ref C) "__init__" = some (some (.ref fI))
  tC : typeIn K (.ref fI) = some (.type "function")
  kC : keepIn K (.ref C) = true
  exC : subIn K (.ref C) (.type "BaseException") = some true
  veC : subIn K (.ref C) (.type "ValueError") = some true
  tyC : typeIn K (.ref C) = some (.type "type")
  hdC : hasDictIn K C = true
  ha : findIn K (.ref C) "__class__" = some (some (.builtin "object.__class__"))
  hn : specialIn K (.builtin "object.__class__") "__get__" = some (some (.builtin "getset_descriptor.__get__"))
  ht : takesIn K (.builtin "object.__class__") = some true
  hm : mroIn K C (.type "object") = some true
  mroS : mroIn K C (.ref C) = some true
  fn : ∃ (oc : Value) (od : Option Addr) (T : Addr) (kV doc pm ct : Value) (an : Option Addr) (osl : Array (Option Value)) (p1 p2 p3 q0 q1 q2 q3 q4 q5 r1 r2 r3 r4 : Pos),
    K.lookup fI = some ⟨oc, od, .func (ksFn "__init__" q (iA p1 p2 p3) (iB q0 q1 q2 q3 q4 q5 r1 r2 r3 r4) iS (.ref T) kV doc pm an (.ref cda) ct cc), osl⟩ ∧ codeIn K (.ref cda) q = true ∧ (q2.endLine == q4.line) = true ∧
    ∃ (oT : Obj) (nT : Nat), K.lookup T = some oT ∧ oT.data = .seq #[.none] nT
  code : ∃ (ccl : Value) (cdd : Option Addr) (vs : Array Value) (ccs : Array (Option Value)) (file : Str) (tf : Tok), K.lookup cda = some ⟨ccl, cdd, .fields vs, ccs⟩ ∧ vs[2]? = some (.str file tf) ∧ (P.main.file == file) = true
  cell : ∃ (cl : Value) (cld : Option Addr) (csl : Array (Option Value)), K.lookup cc = some ⟨cl, cld, .cell (some (.ref C)), csl⟩
  sup : ks_superIn K C C "__init__" = some (some (.builtin "ValueError.__init__"))
  opq : nsIn K cStatics "thirdparty.any" = some none
  gS : mg "super" = none
  top : (P.main.scope.names.lookup ("super" : Str)).isSome = false
/-- what __init__ leaves of a fresh error at x -/
structure InitEnd (h h' : Heap) (x C dx : Addr) (v : Value) : Prop where
  keep : ∀ b o, b ≠ x → h.get? b = some o → h'.get? b = some o
  obj : ∃ t1 : Addr, h'.get? x = some { cls := .ref C, dict := some dx, data := .fields #[.ref t1, .none, .none, .none, .bool false, .none] }
  dbig : h.objs.size ≤ dx
  dne : dx ≠ x
  ns : h'.Ns1 dx (fun y => if y = "value" then some v else none)
/-- a made error -/
structure Made (h h' : Heap) (e C d : Addr) (v : Value) : Prop where
  keep : ∀ b o, h.get? b = some o → h'.get? b = some o
  new : h.objs.size ≤ e
  obj : ∃ oe vs, h'.get? e = some oe ∧ oe.cls = .ref C ∧ oe.dict = some d ∧ oe.data = .fields vs ∧ vs[1]? = some .none
  dbig : h.objs.size ≤ d
  dne : d ≠ e
  ns : h'.Ns1 d (fun y => if y = "value" then some v else none)
theorem one_size (v : Value) : [v].length ≤ sizeLine := by
  rw [sizeLine_eq]
  exact (by decide : 1 ≤ 16777216)
section
variable {prog : Program} {w : World} {A : Around} {E : Value → Shared → Prop} {h : Heap} {g : Array GenState} {d : Drawn} {t : Nat} {os : OsState}
variable {nm q : Str} {C N : Addr} {bs bm : List Value} {hdct : Bool} {sn : List Str} {sub : List Value} {ab : Bool} {col : Option Bool} {dd : Option Addr} {k0 k1 k2 k3 k5 : Option Value}
/-- the bound ValueError.__init__ is called -/
theorem call_mw {u e t0 : Addr} {rest : List Value} {Q : Value → Shared → Prop}
    (hC : h.get? C = some (excClassObj nm q C N bs bm hdct sn sub ab col dd k0 k1 k2 k3 k5 "ValueError.__new__")) (he : h.get? e = some (excO C t0)) (hu : h.get? u = some (kxs_mw "ValueError.__init__" e)) (hrest : rest.length ≤ sizeLine)
    (hq : ∀ h' t1, (∀ b o, b ≠ e → h.get? b = some o → h'.get? b = some o) → h'.get? e = some (excO C t1) → Q .none ⟨h', g, d, t, os⟩) :
    wpAny (model prog w) A (call (.ref u) rest) Q E ⟨h, g, d, t, os⟩ := by
  have mwt : (Value.type "method-wrapper" == Value.type "method" || Value.type "method-wrapper" == Value.type "builtin_function_or_method" || Value.type "method-wrapper" == Value.type "method-wrapper") = true := by decide
  refine wpAny_call (codeAny_of_tree ?_)
  show wpAny _ A.in1 (callAny (.ref u) ⟨rest, []⟩) _ _ _
  simp only [callAny]
  refine wpAny_bind (wpAny_load hu ?_)
  simp only [mwt, if_true]
  refine KFB.if_so (by decide) ?_
  refine wpAny_bind (ESX.check_bound F.excBase_ValueError hC he rfl ?_)
  refine wpAny_bind (wpAny_pure (wpAny_pure ?_))
  refine ⟨Code.quiet_builtin _ (by decide +kernel), codeAny_builtin F.excBase_ValueError.initEntry ?_⟩
  rw [Around.under_plainId F.excBase_ValueError.init.plain _]
  wp_walk
  refine hq _ h.objs.size (fun b o hb ho => ?_) ?_
  · rw [Heap.get?_update_other _ _ (Ne.symm hb)]
    exact Heap.get?_push_of_some _ ho
  · rw [Heap.get?_update_self _ (Heap.get?_push_of_some _ he) rfl]
    rfl
end
section
variable {prog : Program} {w : World} {A : Around} {E : Value → Shared → Prop} {R : Result → Shared → Prop} {s : Shared} {K : Frag} {mg mb : Str → Option Value} {x0 q0' : Str} {C fI cda cc : Addr}
theorem ex_init (T : Txt prog K mg x0 q0' C fI cda cc) {x t0 : Addr} {v : Value} (X : K.In s.heap) (G : s.heap.Ns mainGlobals mg) (B : s.heap.Ns builtinsNs mb) (hB : ∀ x : Str, x ≠ "__name__" → mb x = bootBuiltins x) (hlim : s.heap.NoLimit)
    (hx : s.heap.get? x = some (excO C t0)) (hnx : K.lookup x = none) (hroom : A.depth < recursionLimit) (hq : ∀ h' tk dx, InitEnd s.heap h' x C dx v → R (.ok (.ret .none)) { s with heap := h', toks := tk }) :
    codeAny (model prog w) A (.call (.ref fI) ⟨[.ref x, v], []⟩) R s := by
  obtain ⟨oc, od, Td, kV, doc, pm, ct, an, osl, p1, p2, p3, q0, q1, q2, q3, q4, q5, r1, r2, r3, r4, ho, hcd, hpos, oT, nT, hT, hTd⟩ := T.fn
  obtain ⟨nm, q, N, bs, bm, sn, sub, ab, col, dd, k0, k1, k2, k3, k5, hC, hbm⟩ := T.cls
  obtain ⟨ccl, cdd, cvs, ccs, file, tf, hcda, hcv, hfile⟩ := T.code
  obtain ⟨cl, cld, csl, hcc⟩ := T.cell
  have hcl : clsIn K C = some { name := nm, bases := bs, mro := .ref C :: bm, ns := N, qualname := q, hasDict := true, slotNames := sn, subclasses := sub, abstract := ab, collection := col, hasDel := false } := by unfold clsIn; rw [hC] <;> rfl
  have hbind : BindsTo s (ksFn "__init__" q0' (iA p1 p2 p3) (iB q0 q1 q2 q3 q4 q5 r1 r2 r3 r4) iS (.ref Td) kV doc pm an (.ref cda) ct cc) ⟨[.ref x, v], []⟩ [("self", .ref x), ("value", v)] := by
    refine L2.BindsTo.of_looks fun M => ?_
    have e : ∃ k, bindArgs (ksFn "__init__" q0' (iA p1 p2 p3) (iB q0 q1 q2 q3 q4 q5 r1 r2 r3 r4) iS (.ref Td) kV doc pm an (.ref cda) ct cc) ⟨[.ref x, v], []⟩ = seqItems? (.ref Td) >>= k ∧ k (some #[.none]) = pure ([("self", .ref x), ("value", v)] : List (Str × Value)) := ⟨_, rfl, by first | rfl | with_unfolding_all rfl | kernel_rfl⟩
    obtain ⟨k, e1, e2⟩ := e
    rw [e1]
    exact L2.looks_items X hT hTd (.of_pure e2)
  refine ks_codeAny_call_defAt (fd := ksFn "__init__" q0' (iA p1 p2 p3) (iB q0 q1 q2 q3 q4 q5 r1 r2 r3 r4) iS (.ref Td) kV doc pm an (.ref cda) ct cc) (body := iB q0 q1 q2 q3 q4 q5 r1 r2 r3 r4) (binds := [("self", .ref x), ("value", v)]) hroom (X _ _ ho) rfl hlim (codeRec_of X hcd) rfl hbind
    (fun y hy => ?hcell) (fun y hy => ?hloc) (fun h1 hns k => ?_) rfl rfl rfl
  case hcell =>
    have e : ∀ y ∈ iS.names, y.2 ≠ .cell := by decide +kernel
    exact e y hy
  case hloc =>
    rcases List.mem_cons.mp hy with e | hy
    · rw [e]; rfl
    rcases List.mem_cons.mp hy with e | hy
    · rw [e]; rfl
    · cases hy
  have X1 : K.In h1 := X.keeps k
  have hx1 := k _ _ hx
  have hLx : s.heap.objs.size ≠ x := Nat.ne_of_gt (Heap.lt_size hx)
  have hsz : s.heap.objs.size < h1.objs.size := hns.lt
  have hC1 := X1 _ _ hC
  show _root_.PySem.wpAt (model prog w) _ (.func (iB q0 q1 q2 q3 q4 q5 r1 r2 r3 r4) (ksEnv q0' iS s.heap.objs.size fI (.ref cda) cc)) (execs (iB q0 q1 q2 q3 q4 q5 r1 r2 r3 r4) (ksEnv q0' iS s.heap.objs.size fI (.ref cda) cc)) _ _ _
  generalize A.deeper (callEnv (ksFn "__init__" q0' (iA p1 p2 p3) (iB q0 q1 q2 q3 q4 q5 r1 r2 r3 r4) iS (.ref Td) kV doc pm an (.ref cda) ct cc) s.heap.objs.size fI) = A1
  unfold iB
  have he : ∃ pl : Sem Bool, eval (.Call (.Attribute (.Call (.Name "super" q0) [] [] q1) "__init__" q2) [.Name "value" q3] [] q4) (ksEnv q0' iS s.heap.objs.size fI (.ref cda) cc) = (do
      let ov ← attributeBase (.Call (.Name "super" q0) [] [] q1) "__init__" (ksEnv q0' iS s.heap.objs.size fI (.ref cda) cc) (eval (.Call (.Name "super" q0) [] [] q1) (ksEnv q0' iS s.heap.objs.size fI (.ref cda) cc))
      standAt q2.atName
      let (f, first) ← holding [ov] (getMethod ov "__init__" pl)
      callWith q4 f first (backTo q4 (starEach [.Name "value" q3] (ksEnv q0' iS s.heap.objs.size fI (.ref cda) cc))) []) := by
    have hp : methodCallPos true (.Call (.Name "super" q0) [] [] q1) (ksEnv q0' iS s.heap.objs.size fI (.ref cda) cc) q2 q4 = pure q4 := by
      unfold methodCallPos
      rw [hpos]
      rfl
    refine ⟨(do return (← importBound (.Call (.Name "super" q0) [] [] q1) (ksEnv q0' iS s.heap.objs.size fI (.ref cda) cc)).getD true), ?_⟩
    conv => lhs; unfold eval
    unfold methodCall
    rw [show methodCallForm ([Expr.Name (Str.ofString "value") q3].length + ([] : List Keyword).length) (backTo q4 (starEach [.Name "value" q3] (ksEnv q0' iS s.heap.objs.size fI (.ref cda) cc))) (backToKw q4 (keywordEach [] (ksEnv q0' iS s.heap.objs.size fI (.ref cda) cc))) = true from rfl, hp]
    simp only [pure_bind]
    rfl
  obtain ⟨pl, he⟩ := he
  refine ks_wpAt_execs_cons (ks_wpAt_Expr_any (ks_wpAt_MethodCall (he := he) ?_))
  have vself : (([("self", Value.ref x), ("value", v)] : List (Str × Value)).reverse.lookup ("self" : Str)) = some (Value.ref x) := by rfl
  have vval : (([("self", Value.ref x), ("value", v)] : List (Str × Value)).reverse.lookup ("value" : Str)) = some v := by rfl
  refine ks_wpAt_super_base (env := ksEnv q0' iS s.heap.objs.size fI (.ref cda) cc) rfl rfl (by decide) rfl (X1 _ _ ho) rfl rfl rfl (X1 _ _ hcda) rfl hcv hfile T.top ?_
  refine ks_loadName_global rfl rfl (loadGlobal_builtin (env := ksEnv q0' iS s.heap.objs.size fI (.ref cda) cc) (G.keeps k) T.gS (B.keeps k) ((hB _ (by decide +kernel)).trans (by first | boot_by_name | rfl | kernel_rfl)) ⟨rfl, ?_⟩)
  refine wpAny_loadName_free rfl rfl rfl ⟨_, X1 _ _ hcc, rfl⟩ ?_
  refine wpAny_loadName_local rfl rfl hns vself ?_
  refine ks_wpAny_isType_cls hC1 rfl ⟨rfl, ?_⟩
  have I1 : InstAt h1 x (excO C t0) C none := ⟨hx1, rfl, rfl, trivial⟩
  refine ks_wpAny_call_super hC1 rfl hx1 rfl (fun c e => nomatch e) (looks_mroIn X1 T.mroS) (fun h2 hso k2 => ?_)
  have X2 : K.In h2 := X1.keeps k2
  have hx2 := k2 _ _ hx1
  have hC2 := X2 _ _ hC
  have I2 : InstAt h2 x (excO C t0) C none := ⟨hx2, rfl, rfl, trivial⟩
  have hI2 : Looks (model prog w) h2 (isInstance (.ref x) (.type "ValueError")) true := I2.type.andThen (looks_subIn X2 T.veC)
  have hsup : alongIn K "__init__" (((Value.ref C :: bm).dropWhile (· != .ref C)).drop 1) = some (some (.builtin "ValueError.__init__")) := by
    have e := T.sup
    unfold ks_superIn at e
    rw [hcl] at e
    exact e
  refine kxs_getMethod kxs_ValueError hso (looks_opaque X2 T.opq) (l₀ := .ref C :: bm) (l := ((Value.ref C :: bm).dropWhile (· != .ref C)).drop 1) (fun A Q E s k q => wpAny_bind ((looks_clsIn X2 hcl) A _ E s k (wpAny_pure q))) rfl X2 hsup hI2 (ks_ne X2 I2 hcl) (by decide) ?_
  dsimp only
  have k3 : ∀ b o, h2.get? b = some o → (h2.push (kxs_mw "ValueError.__init__" x)).get? b = some o := fun b o e => Heap.get?_push_of_some _ e
  have hu3 : (h2.push (kxs_mw "ValueError.__init__" x)).get? h2.objs.size = some (kxs_mw "ValueError.__init__" x) := Heap.get?_push_at rfl rfl
  generalize h2.push (kxs_mw "ValueError.__init__" x) = h3 at k3 hu3 ⊢
  have k03 : ∀ b o, s.heap.get? b = some o → h3.get? b = some o := fun b o e => k3 b o (k2 b o (k b o e))
  have hns3 : h3.Ns s.heap.objs.size (fun y => ([("self", Value.ref x), ("value", v)] : List (Str × Value)).reverse.lookup y) := (hns.keeps k2).keeps k3
  refine kxs_callWith (i := "ValueError.__init__") (x := x) (by rfl) (evalArgs_plain ?_)
  refine Calls.spliced_cons (wpAny_Name (wpAny_loadName_local rfl rfl hns3 vval ?_) (by decide))
  refine Calls.spliced_nil ⟨hu3, ?_⟩
  show wpAny _ _ (call (.ref h2.objs.size) [v]) _ _ _
  refine call_mw (k3 _ _ (k2 _ _ hC1)) (k3 _ _ hx2) hu3 (one_size v) (fun h4 t1 k4 hx4 => ?_)
  show _root_.PySem.wpAt (model prog w) _ _ (execs [.Assign [.Attribute (.Name "self" r1) "value" r2] (.Name "value" r3) r4] (ksEnv q0' iS s.heap.objs.size fI (.ref cda) cc)) _ _ _
  have X4 : K.In h4 := fun b o e => k4 b o (fun z => by rw [z, hnx] at e; cases e) (k03 b o (X b o e))
  have hns4 : h4.Ns s.heap.objs.size (fun y => ([("self", Value.ref x), ("value", v)] : List (Str × Value)).reverse.lookup y) := by
    obtain ⟨oL, es, ep, hL, r⟩ := hns3
    exact ⟨oL, es, ep, k4 _ _ hLx hL, r⟩
  refine ks_wpAt_execs_cons (ks_wpAt_Assign_Attr (wpAt_of_wpAny (wpAny_Name (wpAny_loadName_local rfl rfl hns4 vval ?_) (by decide))))
  refine wpAny_Name (wpAny_loadName_local rfl rfl hns4 vself ?_) (by decide)
  refine set_plain X4 (ox := excO C t1) (od := none) ⟨hx4, rfl, rfl, trivial⟩ T.sa ?_
  refine exc_osa X4 hx4 hcl (show refsVE (.ref C :: bm) = true from hbm) rfl T.noV (fun h5 tk5 dx k5' dn dne hx5 hn5 => ?_)
  show _root_.PySem.wpAt (model prog w) _ _ (execs [] _) _ _ _
  have big : ∀ b o, s.heap.get? b = some o → b < h4.objs.size := fun b o e => by
    by_cases hb : b = x
    · rw [hb]
      exact Heap.lt_size hx4
    · exact Heap.lt_size (k4 b o hb (k03 b o e))
  have sz : s.heap.objs.size ≤ h4.objs.size := Nat.le_of_lt hns4.lt
  exact wpAt_of_wpAny (wpAny_execs_nil (hq h5 tk5 dx ⟨fun b o hb e => k5' b o hb (k4 b o hb (k03 b o e)), ⟨t1, hx5⟩, Nat.le_trans sz dn, dne, hn5⟩))
/-- the class is called with the value -/
theorem ex_made (T : Txt prog K mg x0 q0' C fI cda cc) {v : Value} (X : K.In s.heap) (G : s.heap.Ns mainGlobals mg) (B : s.heap.Ns builtinsNs mb) (hB : ∀ x : Str, x ≠ "__name__" → mb x = bootBuiltins x) (hlim : s.heap.NoLimit)
    (hroom : A.depth + 1 < recursionLimit) (hq : ∀ h' tk e d, Made s.heap h' e C d v → R (.ok (.ret (.ref e))) { s with heap := h', toks := tk }) :
    codeAny (model prog w) A (.call (.ref C) ⟨[v], []⟩) R s := by
  obtain ⟨nm, q, N, bs, bm, sn, sub, ab, col, dd, k0, k1, k2, k3, k5, hC, hbm⟩ := T.cls
  obtain ⟨hp, g, dr, tk, os⟩ := s
  have k : ∀ b o, hp.get? b = some o → ((hp.push (kdv_tup [v])).push (excO C hp.objs.size)).get? b = some o := fun b o e => Heap.get?_push_of_some _ (Heap.get?_push_of_some _ e)
  have hget : ((hp.push (kdv_tup [v])).push (excO C hp.objs.size)).get? (hp.objs.size + 1) = some (excO C hp.objs.size) := by heap_get
  have hnx : K.lookup (hp.objs.size + 1) = none := by
    cases e : K.lookup (hp.objs.size + 1) with
    | none => rfl
    | some o =>
      have z : hp.get? (hp.objs.size + 1) = some o := X _ _ e
      exact absurd (Nat.lt_of_succ_lt (Heap.lt_size z)) (Nat.lt_irrefl _)
  refine call_own F.excBase_ValueError (fun X => refsVE_contains X bm hbm) (X _ _ hC) (looks_findIn X T.iC) (fun self => bind_fn X self T.tC) (one_size v) ?_
  refine ex_init (s := ⟨(hp.push (kdv_tup [v])).push (excO C hp.objs.size), g, dr, tk, os⟩) T (X.keeps k) (G.keeps k) (B.keeps k) hB (hlim.keeps k) hget hnx ?_ fun h' tk' dx M => ?_
  · show A.depth + 1 < recursionLimit
    exact hroom
  · obtain ⟨k', ⟨t1, hx⟩, dn, dne, hns⟩ := M
    have old : ∀ b o, hp.get? b = some o → h'.get? b = some o := fun b o e => k' b o (Nat.ne_of_lt (Nat.lt_succ_of_lt (Heap.lt_size e))) (k b o e)
    have z : hp.objs.size + 1 + 1 ≤ dx := by
      first
        | (simpa only [Heap.size_push] using dn)
        | exact dn
        | (have q := dn; rw [Heap.size_push, Heap.size_push] at q; exact q)
    exact ⟨rfl, hq h' tk' (hp.objs.size + 1) dx ⟨old, Nat.le_succ _, ⟨_, _, hx, rfl, rfl, rfl, rfl⟩, Nat.le_trans (Nat.le_trans (Nat.le_succ _) (Nat.le_succ _)) z, dne, hns⟩⟩
end
end Gx


/-! Such an error raised; caught and kept under another name behind the suite; asked for its class and its value there. -/
namespace Gx
open PySem PySem.Spec PyProof.Rows L2
theorem relO_value {v : V} {v' : Value} (r : RelV v v') (f : Str) : RelO (List.lookup f [(("value" : Str), v)]) (if f = "value" then some v' else none) := by
  by_cases hw : f = "value"
  · subst hw
    rw [if_pos rfl]
    have q : List.lookup ("value" : Str) [(("value" : Str), v)] = some v := by simp [List.lookup]
    rw [q]
    exact r
  · rw [if_neg hw]
    have q2 : List.lookup f [(("value" : Str), v)] = none := by
      have qw : (f == ("value" : Str)) = false := by simpa using hw
      simp [List.lookup, qw]
    rw [q2]
    trivial
/-- C(e): the error's own dict is new, and holds the value -/
def tMkV (C : Addr) (ta : TA) : L2.St → Hp → XK → Prop := fun σ H Q => ta σ H fun vs H1 => ∃ v, vs = [v] ∧ ∀ d, H1 d = none → Q (.ref C) (some d) (upd H1 d (.xd [(("value" : Str), v)]))
section
variable {X : Cx} {x q : Str} {C fI cda cc : Addr}
theorem pmk_val {a : Expr} {ta : TA} {p pos : Pos} {k : Nat} (T : Txt X.prog X.K X.mg x q C fI cda cc) (hr : Room k X.A) (ha : PA X [a] ta) (hg : Gl X x := by rfl) (hdb : (x == ("__debug__" : Str)) = false := by decide)
    (he : starEach (a :: []) X.env = (false, eval a X.env) :: starEach [] X.env := by rfl) (hpl : (backTo pos (starEach [] X.env)).any (·.1) = false := by rfl) :
    PMk X (.Call (.Name x p) [a] [] pos) (tMkV C ta) := by
  intro pins s σ H Q I h
  refine wpAny_Call_Name_kw (ld_glob I hg T.gC ?_ hdb)
  refine PySem.W.callWith_K (h₀ := X.base) I.ok.mod.kin T.kC (thn (ha.run pos pins s σ H _ I h) fun us s1 hh => ?_) he hpl
  obtain ⟨vs, H1, I1, r1, v, ev, q1⟩ := hh
  subst ev
  refine ⟨I1.kIn, ?_⟩
  cases r1 with
  | cons rv rn =>
    rename_i v' us'
    cases rn
    show wpAny _ _ (call (.ref C) [v']) _ _ _
    obtain ⟨mb, hb1, hb2⟩ := I1.ok.mod.blt
    have hG := I1.ok.mod.glob.keeps I1.bk
    have hBl := hb1.keeps I1.bk
    have hlim := I1.nolimit
    obtain ⟨hp, g, dr, tk, os⟩ := s1
    refine wpAny_call (ex_made T I1.kIn hG hBl hb2 hlim (by have := hr.dp; omega) fun h' tk' e d M => ?_)
    show MkP X pins σ Q (.ref e) ⟨h', g, dr, tk', os⟩
    obtain ⟨oe, fv, hoe, hc, hd, hdat, h1⟩ := M.obj
    have hns := M.ns
    obtain ⟨G', g1, g2⟩ := restrict h' fun b => decide (b ≠ e)
    have gk : ∀ b, b ≠ e → G'.get? b = h'.get? b := fun b hb => g1 b (decide_eq_true hb)
    have ge : G'.get? e = none := g2 e (by simp)
    have old : ∀ b o, hp.get? b = some o → G'.get? b = some o := fun b o z => (gk b (Nat.ne_of_lt (Nat.lt_of_lt_of_le (Heap.lt_size z) M.new))).trans (M.keep b o z)
    have ob : ObjOk X.prog X.w (upd H1 d (.xd [(("value" : Str), v)])) G' d (.xd [(("value" : Str), v)]) :=
      ⟨_, hns.at (fun o z => (gk d M.dne).trans z), fun f => relO_value rv f⟩
    have J : L2.Inv X pins σ (upd H1 d (.xd [(("value" : Str), v)])) ⟨G', g, dr, tk', os⟩ := I1.laid (t' := tk') old M.dbig ob
    refine ⟨e, oe, fv, ⟨G', g, dr, tk', os⟩, _, .ref C, some d, rfl, J, fun b o z => ?_, ge, hoe, ⟨hc, hd⟩, hdat, h1, ?_, rfl, I1.bare, raises_own T.exC T.tyC, q1 d (I1.hok.fresh M.dbig)⟩
    · by_cases hb : b = e
      · have z' : G'.get? b = some o := z
        rw [hb, ge] at z'; cases z'
      · exact (gk b hb).symm.trans z
    · rw [upd_ne (Ne.symm M.dne)]
      exact I1.hok.fresh M.new
/-- raise C(e) -/
def tRaiseV (C : Addr) (W : WX) (ta : TA) : TS := fun _ σ H => tMkV C ta σ H fun cls d H' => W cls d σ H'
theorem ps_raiseV {a : Expr} {ta : TA} {W : WX} {p pos pos2 : Pos} {k : Nat} (hc : X.calm = true) (T : Txt X.prog X.K X.mg x q C fI cda cc) (hr : Room k X.A) (tk : Takes X W) (ha : PA X [a] ta) (hg : Gl X x := by rfl) (hdb : (x == ("__debug__" : Str)) = false := by decide)
    (he : starEach (a :: []) X.env = (false, eval a X.env) :: starEach [] X.env := by rfl) (hpl : (backTo pos (starEach [] X.env)).any (·.1) = false := by rfl) :
    PS X (.Raise (some (.Call (.Name x p) [a] [] pos)) none pos2) (tRaiseV C W ta) := ps_raise hc tk (pmk_val T hr ha hg hdb he hpl)
end

/-! ### kept behind the suite -/
/-- an error that was caught: its class, its own dict -/
def XcO (cls : Value) (d : Option Addr) (a : Addr) : HO := .ext fun h => ∃ (oe : Obj) (vs : Array Value), h.get? a = some oe ∧ Zc cls d oe ∧ oe.data = .fields vs
theorem xcO_ok {P : Program} {w : World} {H : Hp} {h : Heap} {a : Addr} {cls : Value} {d : Option Addr} {oe : Obj} (e : h.get? a = some oe) (z : Zc cls d oe) (hf : ∃ vs, oe.data = .fields vs) : ObjOk P w H h a (XcO cls d a) := by
  obtain ⟨vs, hv⟩ := hf
  exact ⟨⟨oe, vs, e, z, hv⟩, ⟨oe, e⟩, fun _ _ ⟨o, v, q, r⟩ k => ⟨o, v, k o q, r⟩⟩
section
variable {X : Cx} {pins : List (Addr × Obj)} {σ : L2.St} {H : Hp} {s : Shared}
theorem track {a : Addr} {oe : Obj} {o : HO} (I : L2.Inv X ((a, oe) :: pins) σ H s) (h0 : X.s_0.heap.get? a = none) (hp : ∀ p ∈ X.pn ++ pins, p.1 ≠ a) (ok : ObjOk X.prog X.w (upd H a o) s.heap a o) : L2.Inv X pins σ (upd H a o) s := by
  obtain ⟨ha, na, nL, nF, nc⟩ := I.pin (a, oe) (List.mem_append_right _ List.mem_cons_self)
  have ne0 : ∀ b o, X.s_0.heap.get? b = some o → b ≠ a := fun b o e z => by
    rw [z, h0] at e
    cases e
  refine ⟨I.ok, I.os, I.bare, ⟨I.base.keep, I.base.slot, fun b o e n hx => ?_, I.base.there, fun b xs e => ?_, fun b o u e => ?_, fun b ps e => ?_⟩, I.loc, I.cell, ?_, fun y c e => ?_, fun p hpp => ?_, fun b ob e => ?_, I.len⟩
  · rw [upd_ne (ne0 b o e)]
    exact I.base.free b o e n hx
  · have z := I.base.tups b xs e
    rw [upd_ne (ne_of_none z na)]
    exact z
  · have z := I.base.frzs b o u e
    rw [upd_ne (ne_of_none z na)]
    exact z
  · obtain ⟨m, z⟩ := I.base.tbls b ps e
    exact ⟨m, by rw [upd_ne (ne_of_none z na)]; exact z⟩
  · rw [upd_ne (Ne.symm nL)]
    exact I.free
  · have hca : c ≠ a := fun z => by
      obtain ⟨v, o', ho', hd'⟩ := I.cell y c e
      rw [z] at ho'
      have z2 : some o' = some oe := ho'.symm.trans ha
      cases z2
      exact nc v hd'
    rw [upd_ne hca]
    exact I.freeC y c e
  · have q : p ∈ X.pn ++ (a, oe) :: pins := by
      rcases List.mem_append.mp hpp with z | z
      · exact List.mem_append_left _ z
      · exact List.mem_append_right _ (List.mem_cons_of_mem _ z)
    obtain ⟨e1, e2, e3, e4, e5⟩ := I.pin p q
    exact ⟨e1, by rw [upd_ne (hp p hpp)]; exact e2, e3, e4, e5⟩
  · by_cases hb : b = a
    · rw [hb, upd_same] at e
      cases e
      rw [hb]
      exact ok
    · rw [upd_ne hb] at e
      exact (I.hok b ob e).stay (fun c v _ z => z) (fun c z => by rw [upd_ne (ne_of_none z na)]; exact z) fun c xs z => by rw [upd_ne (ne_of_none z na)]; exact z
/-- what «except x as n: y = n» wishes -/
def wKeep (K : PySem.W.Frag) (c : Value) (i j : Nat) (D : Ends) : WX := fun cls d σ H => PySem.W.exmOne K cls c = some true ∧ ∀ a, H a = none → D.nx (((σ.set i (some (.ref a))).set j (some (.ref a))).set i none) (upd H a (XcO cls d a))
theorem ps_try_keep {x n y : Str} {c : Value} {i j : Nat} {body : List Stmt} {np pn pa py pos pos' : Pos} {tb : WX → TS} (hs : X.stack = X.env :: X.outer) (hf : X.env.frame = some X.env.locals) (hex : X.ex = []) (hN : X.N.Nodup) (hi : X.N[i]? = some n) (hj : X.N[j]? = some y)
    (hln : X.env.kindOf n = some .local) (hly : X.env.kindOf y = some .local) (hc : Names X x c) (hdn : (n == ("__debug__" : Str)) = false) (hcn : (n == ("__classdict__" : Str)) = false)
    (hb : ∀ (W : WX) (pn : List (Addr × Obj)) (xe : Value → Shared → Prop), Takes (X.tr pn xe) W → PassesOwn (model X.prog X.w) X.A X.env xe → PSs (X.tr pn xe) body (tb W)) :
    PS X (.Try body [.ExceptHandler (some (.Name x np)) (some n) [.Assign [.Name y py] (.Name n pn) pa] pos'] [] [] pos) (fun D σ H => tb (wKeep X.K c i j D) D σ H) := by
  refine ⟨fun pins s σ H D I h => ?_⟩
  have ok := I.ok
  have hfr : X.A.frames = some (X.env :: X.outer) := by rw [ok.frames, hs]
  have hloc : Loc X.env.scope n := .inl hln
  refine wpAny_Try_except ?_
  refine wpAny_mono ((hb (wKeep X.K c i j D) (X.pn ++ pins) (fun e s1 => wpAny (model X.prog X.w) X.A (noteFrame e X.env) (fun _ s2 => wpAny (model X.prog X.w) X.A (setFlight e none) (fun _ s3 =>
    wpAny (model X.prog X.w) X.A (handleBy e X.env [.ExceptHandler (some (.Name x np)) (some n) [.Assign [.Name y py] (.Name n pn) pa] pos']) (SP X pins D) X.xe s3) X.xe s2) X.xe s1) (fun u s' xx => ?_) PassesOwn.looking).run [] s σ H D (I.toTry _) h) (fun f s1 hsp => ?_) (fun e s1 he => he)
  · obtain ⟨a, B, sI, pins', σ', H', cls, d, rfl, J', nb, up, sky, na, os, ag, hb1, hyes⟩ := xx
    have J : L2.Inv X pins σ' H' sI := J'.ofTry ok
    have sky' : Sky B (X.env :: X.outer) a (Zc cls d) X.env.locals s'.heap := by rw [← hs]; exact sky
    show wpAny (model X.prog X.w) X.A (noteFrame (.ref a) X.env) _ _ _
    refine Sky.land Zc.steady hfr hf sky' fun h3 fl3 up3 => ?_
    have J3 : L2.Inv X pins σ' H' { s' with heap := h3 } := J.landed nb fl3.1 (up.trans up3) os ag
    obtain ⟨oe3, vs3, he3, hz3, hd3⟩ := fl3.there
    have notFr : ∀ {h : Heap} {o : Obj} {vs : Array Value}, h.FunFrames B (X.env :: X.outer) → h.get? a = some o → o.data = .fields vs → a ∉ frs (X.env :: X.outer) := fun {h o vs} ff e dd hm => by
      obtain ⟨_, o', e', hnf⟩ := ff.mem hm
      rw [e] at e'; cases e'
      exact hnf _ dd
    have nfr := notFr fl3.2.2.1 he3 hd3
    have nL : a ≠ X.env.locals := fun z => nfr (List.mem_filterMap.mpr ⟨X.env, List.mem_cons_self, by rw [hf, z]⟩)
    have nF : a ∉ X.fs := fun hm => by
      obtain ⟨e, he, q⟩ := List.mem_filterMap.mp hm
      exact nfr (List.mem_filterMap.mpr ⟨e, List.mem_cons_of_mem _ he, q⟩)
    -- the error was not there ahead of the try
    have nI : sI.heap.get? a = none := by
      cases e : sI.heap.get? a with
      | none => rfl
      | some o =>
        have z := nb a o e (by rw [hs]; exact nfr)
        rw [fl3.2.1] at z
        cases z
    have n0 : X.s_0.heap.get? a = none := by
      cases e : X.s_0.heap.get? a with
      | none => rfl
      | some o =>
        obtain ⟨o', z⟩ := J.base.there a o e (by rw [hex]; exact fun z => nomatch z)
        rw [nI] at z
        cases z
    have np' : ∀ p ∈ X.pn ++ pins, p.1 ≠ a := fun p hp z => by
      have e := (J.pin p hp).1
      rw [z, nI] at e
      cases e
    have S3 := J3.suite he3 hd3 na nL nF
    refine wpAny_handleBy_cons (codeAny_handlers_test ?_) (by intro q; cases q)
    have LT : PySem.W.Looks (model X.prog X.w) h3 (typeOf (.ref a)) cls := fun A Q E s k q => wpAny_typeOf_ref (k _ _ he3) (by rw [hz3.1]; exact q)
    have LM := PySem.W.exm_one (M := model X.prog X.w) (J3.kIn) LT hb1
    have test : ∀ {Q : Value → Shared → Prop} {E : Value → Shared → Prop}, Q c { s' with heap := h3 } → wpAny (model X.prog X.w) (X.A.mark (some (.ref a))) (eval (.Name x np) X.env) Q E { s' with heap := h3 } := fun {Q E} q => by
      obtain ⟨hg, hdbg, hm | ⟨hm, hv, hnn⟩⟩ := hc
      · exact ld_glob (X := X.suite a ((a, oe3) :: (X.pn ++ pins))) S3 hg hm q hdbg
      · exact ld_blt (X := X.suite a ((a, oe3) :: (X.pn ++ pins))) S3 hg hm hv q hnn hdbg
    refine test (LM.here ?_)
    refine codeAny_handlers_suite_as ?_
    refine HandSPX.lands_againZ fl3 fun h4 fl4 up4 => ?_
    have J4 : L2.Inv X pins σ' H' { s' with heap := h4 } := J.landed nb fl4.1 ((up.trans up3).trans up4) os ag
    obtain ⟨oe4, vs4, he4, hz4, hd4⟩ := fl4.there
    have S4 := J4.suite he4 hd4 na nL nF
    refine store_ok (X := X.suite a ((a, oe4) :: (X.pn ++ pins))) (v := .ref a) S4 hN hi hloc rfl (fun s5 S5 => ?_) (.inr hln)
    have suite : PSs (X.suite a ((a, oe4) :: (X.pn ++ pins))) [.Assign [.Name y py] (.Name n pn) pa] (tAsg (tVar i) (gName j)) :=
      pss_one (ps_set (i := j) hN hj (.inl hly) (pe_var hi (.inl hln) hdn hcn) rfl (.inr hly))
    have hlen : i < (σ'.length) := by
      rw [J.len]
      exact (List.getElem?_eq_some_iff.mp hi).1
    refine wpAny_mono (suite.run [] s5 _ H' { nx := fun σ2 H2 => σ2 = (σ'.set i (some (.ref a))).set j (some (.ref a)) ∧ H2 = H', rt := fun _ _ => False } S5 ⟨.ref a, by rw [List.getElem?_set_self hlen], rfl, rfl⟩) (fun f s6 hsp => ?_) (fun _ _ z => False.elim z)
    cases f with
    | next =>
      obtain ⟨σ6, H6, S6, e6, e7⟩ := hsp
      subst e6 e7
      have I6 : L2.Inv X ((a, oe4) :: pins) ((σ'.set i (some (.ref a))).set j (some (.ref a))) H6 s6 :=
        ⟨ok, S6.os, S6.bare, S6.base, S6.loc, S6.cell, S6.free, S6.freeC, fun p hp => S6.pin p (by
          refine List.mem_append_left _ ?_
          rcases List.mem_append.mp hp with z | z
          · exact List.mem_cons_of_mem _ (List.mem_append_left _ z)
          · rcases List.mem_cons.mp z with z | z
            · rw [z]; exact List.mem_cons_self
            · exact List.mem_cons_of_mem _ (List.mem_append_right _ z)), S6.hok, S6.len⟩
      show wpAny (model X.prog X.w) X.A (do bindName X.env n .none; unbindBehindTheSuite X.env n pos') _ X.xe s6
      refine gone_ok I6 hN hi hln fun s7 I7 => ?_
      obtain ⟨ha7, _⟩ := I7.pin (a, oe4) (List.mem_append_right _ List.mem_cons_self)
      exact ⟨_, _, track I7 n0 np' (xcO_ok ha7 hz4 ⟨_, hd4⟩), hyes a na⟩
    | brk =>
      obtain ⟨_, _, _, z⟩ := hsp
      exact z.elim
    | cont =>
      obtain ⟨_, _, _, z⟩ := hsp
      exact z.elim
    | ret u =>
      obtain ⟨_, _, _, _, _, z⟩ := hsp
      exact z.elim
  · cases f with
    | next =>
      obtain ⟨σ', H', J', q⟩ := hsp
      exact wpAny_execs_nil ⟨σ', H', J'.ofTry ok, q⟩
    | brk =>
      obtain ⟨σ', H', J', q⟩ := hsp
      exact ⟨σ', H', J'.ofTry ok, q⟩
    | cont =>
      obtain ⟨σ', H', J', q⟩ := hsp
      exact ⟨σ', H', J'.ofTry ok, q⟩
    | ret u =>
      obtain ⟨v, σ', H', J', r, q⟩ := hsp
      exact ⟨v, σ', H', J'.ofTry ok, r, q⟩
end
end Gx


/-! isinstance of a kept error; its value. -/
namespace Gx
open PySem PySem.W PySem.Spec PySem.Calls PyProof.Rows
section
variable {prog : Program} {w : World} {A : Around} {E : Value → Shared → Prop} {s : Shared} {P : Program} {K : Frag} {mg : Str → Option Value} {x0 q0 : Str} {x D fI cda cc : Addr} {ox od : Obj}
theorem class_of (T : Txt P K mg x0 q0 D fI cda cc) {Q : Option Value → Shared → Prop} (X : K.In s.heap) (I : InstAt s.heap x ox D (some od)) (h : Q (some (.ref D)) { s with toks := s.toks + 1 }) : wpAny (model prog w) A (getAttr? (.ref x) "__class__") Q E s := by
  have hf : findObj K D (some od) "__class__" = some (.bind (.builtin "getset_descriptor.__get__") (.builtin "object.__class__")) := findObj_data (by obtain ⟨cd, hc, _⟩ := any_some T.hdC; rw [hc]; rfl) T.ha T.hn T.ht
  obtain ⟨hp, g, d, t, os⟩ := s
  have L0 := I.type (M := model prog w)
  have L1 := looks_findIn (M := model prog w) X T.ga
  have L2 := looks_findIn (M := model prog w) X T.gg
  have L3 := looks_find (M := model prog w) X I hf
  have sub : Looks (model prog w) hp (isInstance (.ref x) (.type "BaseException")) true := L0.andThen (looks_subIn X T.exC)
  have n0 : (false && onTheHeap (Value.builtin "BaseException.__getattribute__")) = false := rfl
  have n1 : (onTheHeap (Value.ref D) && Value.builtin "BaseException.__getattribute__" == Value.builtin "object.__getattribute__") = false := by
    rw [show (Value.builtin "BaseException.__getattribute__" == Value.builtin "object.__getattribute__") = false by decide +kernel]
    rfl
  unfold getAttr? getAttrBy? getAttrBy
  refine wpAny_bind (wpAny_mkText (wpAny_bind (wpAny_attempt (wpAny_holding (wpAny_bind (L0.at (wpAny_bind (L1.at ?_))))))))
  show wpAny _ _ (if (onTheHeap (Value.ref D) && Value.builtin "BaseException.__getattribute__" == Value.builtin "object.__getattribute__") = true then _ else _) _ _ _
  rw [n1, if_neg Bool.false_ne_true]
  unfold getAttrByItsOwn hookBefore
  refine wpAny_bind ?_
  rw [if_pos (show onTheHeap (Value.ref D) = true from rfl)]
  refine L2.at ?_
  refine wpAny_bind (wpAny_attempt (wpAny_holding ?_))
  unfold callGetattribute
  rw [n0, if_neg Bool.false_ne_true]
  unfold boundAndCalled
  rw [PySem.F.excAttr_ValueError.ga.bind (.ref x)]
  refine wpAny_bind (wpAny_pure ?_)
  show wpAny _ _ (call (.builtin "BaseException.__getattribute__") [.ref x, .str "__class__" t]) _ _ _
  refine wpAny_call (codeAny_call_builtin PySem.F.excAttr_ValueError.ga.plain PySem.F.entry_bexc_ga ?_)
  refine @check_slot (model prog w) _ _ ⟨hp, g, d, t + 1, os⟩ "BaseException.__getattribute__" "BaseException" "__getattribute__" (.ref x) [.str "__class__" t] [] _ (by decide +kernel) (by decide +kernel) sub (PySem.F.args_bexc_ga (.ref x) (.str "__class__" t)) ?_
  unfold Builtin.«object.__getattribute__»
  refine wpAny_bind (wpAny_of_eq (a := ((Value.ref x : Value), [Value.str "__class__" t])) (by first | rfl | (simp only [slotArgs]; rfl)) ?_)
  refine wpAny_bind (wpAny_pure (wpAny_bind (L0.at (wpAny_bind (L3.at ?_)))))
  show wpAny _ _ (holding [Value.builtin "object.__class__"] (call (.builtin "getset_descriptor.__get__") [.builtin "object.__class__", .ref x, .ref D]) >>= ret) _ _ _
  refine wpAny_bind (wpAny_holding (wpAny_call (class_get (s := ⟨hp, g, d, t + 1, os⟩) (ox := ox) (od := some od) X I T.hm ?_)))
  refine wpAny_pure ?_
  show wpAny _ _ (handedOut (.ref D)) _ _ _
  rw [handedOut_of (v := .ref D) rfl]
  first
    | exact wpAny_pure (wpAny_pure h)
    | exact wpAny_pure h
    | exact wpAny_pure (wpAny_bind (wpAny_pure (wpAny_pure h)))
theorem kit_err (T : Txt P K mg x0 q0 D fI cda cc) : KitX K (.ref x) (.ref D) (fun h => InstAt h x ox D (some od)) where
  ty := fun _ _ _ I => I.type
  it := fun _ _ X _ => by
    obtain ⟨cdD, hcD, _⟩ := any_some T.hdC
    unfold clsIn at hcD
    split at hcD
    · rename_i c' d' cd' sl' ho
      intro A' Q' E' s' k q
      unfold isType loadHead
      exact wpAny_bind (wpAny_loadPart (k _ _ (X _ _ ho)) (wpAny_pure q))
    · cases hcD
  ne := fun h tp dd its n sl X htp => by
    obtain ⟨cdD, hcD, _⟩ := any_some T.hdC
    refine Bool.eq_false_iff.mpr fun q => ?_
    have e : D = tp := Value.ref.inj (beq_iff_eq.mp q)
    subst e
    unfold clsIn at hcD
    split at hcD
    · rename_i c' d' cd' sl' ho
      have z := (X _ _ ho).symm.trans htp
      cases z
    · cases hcD
  ca := fun X I k => class_of T X I k
theorem kit_self (T : Txt P K mg x0 q0 D fI cda cc) : kitOne K (.ref D) (.ref D) = some true := by
  unfold kitOne
  rw [if_pos (beq_self_eq_true _)]
theorem kit_other {C : Addr} {b : Bool} (hdct : hasDictIn K C = true) (ht : typeIn K (.ref C) = some (.type "type")) (hne : subIn K (.ref D) (.ref D) = some true) (h : subIn K (.ref D) (.ref C) = some false) : kitOne K (.ref D) (.ref C) = some false := by
  obtain ⟨cd, hc, _⟩ := any_some hdct
  have n : ¬ ((Value.ref D == Value.ref C) = true) := fun q => by
    have e : D = C := Value.ref.inj (beq_iff_eq.mp q)
    rw [e] at hne h
    rw [hne] at h
    cases h
  unfold kitOne
  rw [if_neg n]
  show (if ((clsIn K C).isSome && typeIn K (.ref C) == some (.type "type")) = true then subIn K (.ref D) (.ref C) else none) = some false
  have e2 : ((clsIn K C).isSome && typeIn K (.ref C) == some (.type "type")) = true := by rw [hc, ht] <;> rfl
  rw [if_pos e2, h]
end
end Gx
namespace Gx
open PySem PySem.Spec PyProof.Rows L2
/-- isinstance(e, c), e an error that was kept -/
def rIsX (K : PySem.W.Frag) : List V → Hp → VK → Prop := fun xs H Q => ∃ (a D C : Addr) (d : Addr) (fs : List (Str × V)) (b : Bool), xs = [.ref a, .ref C] ∧ H a = some (XcO (.ref D) (some d) a) ∧ H d = some (.xd fs) ∧ PySem.W.kitOne K (.ref D) (.ref C) = some b ∧
  (∃ (P : Program) (mg : Str → Option Value) (x0 q0 : Str) (fI cda cc : Addr), Txt P K mg x0 q0 D fI cda cc) ∧ Q (.bl b) H
section
variable {X : Cx} {pins : List (Addr × Obj)} {σ : L2.St} {H : Hp} {s : Shared}
theorem inst_of {a D d : Addr} {fs : List (Str × V)} (I : L2.Inv X pins σ H s) (ea : H a = some (XcO (.ref D) (some d) a)) (ed : H d = some (.xd fs)) :
    ∃ (oe od : Obj) (mA : Str → Option Value), PySem.W.InstAt s.heap a oe D (some od) ∧ s.heap.Ns1 d mA ∧ (∀ f, RelO (fs.lookup f) (mA f)) ∧ ∀ f, PySem.W.lookIn f od = some (mA f) := by
  obtain ⟨⟨oe, vs, he, hz, hv⟩, _, _⟩ := I.hok a _ ea
  obtain ⟨mA, hns, hr⟩ := (show ObjOk X.prog X.w H s.heap d (.xd fs) from I.hok d _ ed)
  obtain ⟨od, ho, hl⟩ := lookIn_ns hns
  exact ⟨oe, od, mA, ⟨he, hz.1, by unfold PySem.W.notCls; rw [hv] <;> rfl, by rw [hz.2]; exact ho⟩, hns, hr, hl⟩
theorem call_isX : CallR X (.builtin "isinstance") (rIsX X.K) := by
  intro pins s σ H xs us Q I r h
  obtain ⟨a, D, C, d, fs, b, rfl, ea, ed, e, ⟨P, mg, x0, q0, fI, cda, cc, T⟩, q⟩ := h
  obtain ⟨u1, u2, rfl, r1, r2⟩ := vals2 r
  cases (show u1 = Value.ref a from r1)
  cases (show u2 = Value.ref C from r2)
  obtain ⟨oe, od, mA, J, _⟩ := inst_of I ea ed
  exact PySem.W.kia_one (kit_err T) I.kIn J e (fun z => nomatch z) fun tk => ⟨.bl b, H, I.kept (t' := tk) fun _ _ z => z, rfl, q⟩
/-- e.value, e an error that was kept -/
def tXv (K : PySem.W.Frag) (n : Str) (te : TE) : TE := fun σ H Q => te σ H fun x H1 => ∃ (a D d : Addr) (fs : List (Str × V)) (v : V), x = .ref a ∧ H1 a = some (XcO (.ref D) (some d) a) ∧ H1 d = some (.xd fs) ∧
  (∃ (P : Program) (mg : Str → Option Value) (x0 q0 : Str) (fI cda cc : Addr), Txt P K mg x0 q0 D fI cda cc) ∧ PySem.W.findIn K (.ref D) n = some none ∧ fs.lookup n = some v ∧ Q v H1
theorem pe_xv {e : Expr} {te : TE} {pos : Pos} {n : Str} (he : PE X e te) (hb : attributeBase e n X.env (eval e X.env) = eval e X.env := by rfl) : PE X (.Attribute e n pos) (tXv X.K n te) := by
  refine ⟨fun pins s σ H Q I h => ?_⟩
  refine attr_of hb (thn (he.run pins s σ H _ I h) fun u s1 hh => ?_)
  obtain ⟨x, H1, I1, rx, a, D, d, fs, v, ex, ea, ed, ⟨P, mg, x0, q0, fI, cda, cc, T⟩, hno, l, q⟩ := hh
  subst ex
  obtain rfl : u = Value.ref a := rx
  obtain ⟨oe, od, mA, J, _, hr, hl⟩ := inst_of I1 ea ed
  obtain ⟨u, hu, ru⟩ := RelO.some_of (v := v) (o := mA n) (by rw [← l]; exact hr n)
  exact HandSPX.exc_get I1.kIn J T.ga T.gg T.exC (PySem.W.findObj_own T.hdC hno rfl (by rw [hl, hu])) (handed_of ru) ⟨v, H1, I1.tok _, ru, q⟩
end
end Gx


/-! Rules that the layer lacks: an own __contains__, a field as a target, a whole list replaced by a slice, a power of a great number, a display with one tuple as its key, a dict comprehension given to a local name, a call by keywords alone. -/
namespace Gr
open PySem PySem.Spec PyProof.Rows L2
section
variable {X : Cx}
/-! ### x in o, by the class's own __contains__ -/
def rInOwn (C : Addr) (sp : Sp) (E : XK) : R2 := fun x y H Q => ∃ a dx fs, y = .ref a ∧ H a = some (.ins C dx fs) ∧ sp [.ref a, x] H (fun v H' => ∃ k, v = .bl k ∧ Q (.bl k) H') E
theorem op_inOwn {CX : CXT} {C g : Addr} {k : Nat} {fd : FuncData} {ps : List Str} {sp : Sp} {E : XK} (hs : PySem.W.findIn X.K (.ref C) "__contains__" = some (some (.ref g))) (hf : PySem.W.isFn X.K (.ref g) = true)
    (F : FnOk X.prog X.w X.K X.mg X.base CX k g fd ps sp) (hr : Room k X.A) (hb : Binds X.K fd ps []) (hx : Passes CX X E) : OpR X (compareOp .In) (rInOwn C sp E) := by
  intro pins s σ H x y v u Q I rx ry h
  obtain ⟨a, dx, fs, rfl, ea, q⟩ := h
  cases (show u = Value.ref a from ry)
  obtain ⟨mA, O, _⟩ := ins_get I.hok ea
  obtain ⟨od, J, _⟩ := O.look
  obtain ⟨m, hF⟩ := I.fr
  refine PySem.W.in_K hF I.ok.mod.kin J hs hf ?_
  refine wpAny_mono (run_fn (us := [.ref a, v]) (vs := [.ref a, x]) F hr hb .nil hx I (.cons rfl (.cons rx .nil)) q) (fun w s' z => ?_) fun _ _ z => z
  obtain ⟨z', H', I', rz, b, ez, qz⟩ := z
  subst ez
  cases (show w = Value.bool b from rz)
  exact wpAny_pure ⟨V.bl b, H', I', rfl, qz⟩
/-! ### o.f as a target among others -/
def gFld (K : PySem.W.Frag) (to : TE) (f : Str) : TG := fun v σ H Q => to σ H fun x H1 => ∃ a C dx fs, x = .ref a ∧ H1 a = some (.ins C dx fs) ∧ Cls K C ∧ NoAttr K C f ∧ fs.length < 1000 ∧ Q σ (upd H1 a (.ins C dx (putF f v fs)))
theorem pg_fld {o : Expr} {f : Str} {pos : Pos} {to : TE} (ho : PE X o to) : PG X (.Attribute o f pos) (gFld X.K to f) := by
  refine ⟨fun pins s σ H v u Q I r hw => ?_⟩
  rw [assign_Attribute]
  refine wpAny_bind (wpAny_holding (thn (ho.run pins s σ H _ I hw) fun ov s1 ⟨x, H1, I1, rx, a, C, dx, fs, ex, ea, c, n, l, q⟩ => ?_))
  subst ex
  obtain rfl : ov = Value.ref a := rx
  exact wpAny_bind (wpAny_standAt (wpAny_bind (wpAny_holding (setattr_ok I1 ea c n l r fun s3 I3 => wpAny_release ⟨σ, _, I3, q⟩))))
end
/-! ### xs[:] = ys -/
section
variable {prog : Program} {w : World} {A : Around} {E : Value → Shared → Prop} {s : Shared}
theorem bounds_all (n : Nat) : sliceBounds none none none n = ((0 : Int), (n : Int), 1) := by
  simp [sliceBounds]
theorem setItem_all {l b sl : Addr} {items new : Array Value} {n n2 : Nat} {Q : Unit → Shared → Prop}
    (e : s.heap.get? l = some { cls := .type "list", data := .seq items n }) (e2 : s.heap.get? b = some { cls := .type "list", data := .seq new n2 }) (hne : l ≠ b) (hs : s.heap.IsSliceOf sl .none .none .none)
    (hsz : items.size + new.size ≤ sizeLine) (h : Q () { s with heap := s.heap.update l (Obj.mapSeq fun xs => xs.extract 0 0 ++ new ++ xs.extract items.size xs.size) }) : wpAny (model prog w) A (setItem (.ref l) (.ref sl) (.ref b)) Q E s := by
  have hl : s.heap.IsList l items := PySem.IsL.isList e
  have hb : s.heap.IsList b new := PySem.IsL.isList e2
  obtain ⟨os, hos, hcs, hds⟩ := id hs
  have hTs : s.TypeIs (.ref sl) "slice" := ⟨os, hos, hcs⟩
  have hstep : ¬ ((rawPart none == rawInt 0) = true) := Bool.false_ne_true
  have hsame : Builtin.List.listSameRef (.ref l) (.ref b) = false := by
    unfold Builtin.List.listSameRef
    exact beq_eq_false_iff_ne.mpr hne
  have hmax : (max (0 : Int) (items.size : Int)).toNat = items.size := by omega
  have hz' : ((fun xs : Array Value => xs.extract 0 0 ++ new ++ xs.extract items.size xs.size) items).size ≤ sizeLine + 1 := by
    simp only [Array.size_append, Array.size_extract]
    omega
  unfold setItem
  try with_reducible refine wpAny_holding ?_
  first | refine wpAny_bind (wpAny_pure ?_) | skip
  refine wpAny_bind (wpAny_sequenceKey hl.typeIs (by decide) ?_)
  refine wpAny_bind (wpAny_callSpecial?_slot (name := Str.ofString "__setitem__") hl.typeIs slot_list_setitem
    (wpAny_call_entry slot_list_setitem hl.typeIs entry_list_setitem ?_ (args_list_setitem _ _ _)))
  show wpAny _ _ (Builtin.List.listSubscript? (.ref sl) >>= _) _ _ s
  refine wpAny_bind ?_
  unfold Builtin.List.listSubscript?
  refine wpAny_bind (wpAny_specialOf hTs slice_no_index ?_)
  simp only [Option.isNone_none, if_true]
  refine wpAny_pure ?_
  show wpAny _ _ (typeOf (.ref sl) >>= _) _ _ s
  refine wpAny_bind (wpAny_typeOf hTs ?_)
  first
    | rw [if_neg (by decide)]
    | refine PySem.W.KFB.if_not (by decide) ?_
  rw [listSliceParts_eq]
  refine wpAny_bind (wpAny_bind (wpAny_field hos hds (x := .none) rfl (wpAny_bind (wpAny_listPart .none ?_))))
  rw [if_neg hstep]
  refine wpAny_bind (wpAny_field hos hds (x := .none) rfl (wpAny_bind (wpAny_listPart .none ?_)))
  refine wpAny_bind (wpAny_field hos hds (x := .none) rfl (wpAny_bind (wpAny_listPart .none (wpAny_pure ?_))))
  first
    | simp only [hsame, Bool.false_eq_true, if_false]
    | refine PySem.W.KFB.if_not hsame ?_
    | (dsimp only
       rw [if_neg (by rw [hsame]; exact Bool.false_ne_true)])
  refine wpAny_bind (m := Builtin.List.listAllItems (.ref b) "must assign iterable to extended slice") ?_
  unfold Builtin.List.listAllItems
  refine wpAny_bind (wpAny_typeOf hb.typeIs ?_)
  first
    | refine PySem.W.KFB.if_so (by decide) ?_
    | rw [if_pos (by decide)]
    | simp only [beq_self_eq_true, Bool.true_or, if_true]
  unfold Builtin.List.listItems
  refine wpAny_bind (wpAny_seqItems e2 rfl (wpAny_pure ?_))
  refine wpAny_bind (wpAny_bind (wpAny_seqItems e rfl (wpAny_pure ?_)))
  refine wpAny_bind (wpAny_of_eq ((sliceIndices_raw none none none items.size (by simp)).trans (congrArg (pure : Int × Int × Int → Sem (Int × Int × Int)) (bounds_all items.size))) ?_)
  show wpAny _ _ (if ((1 : Int) == 1) = true then _ else _) _ _ s
  rw [if_pos (by decide)]
  refine wpAny_bind (wpAny_rule ?_)
  first
    | simp only [notLongL hsz, Bool.false_eq_true, if_false]
    | refine PySem.W.KFB.if_not (notLongL hsz) ?_
  first | refine wpAny_bind (wpAny_pure ?_) | skip
  show wpAny _ _ (updateSeq l (fun xs => xs.extract 0 ((0 : Int)).toNat ++ new ++ xs.extract (max (0 : Int) (items.size : Int)).toNat xs.size) >>= _) _ _ s
  rw [hmax, Int.toNat_zero]
  refine wpAny_bind (wpAny_updateSeq (hz := Nat.le_trans (Nat.le_add_right _ _) hsz) (_hz' := hz') e rfl ?_)
  refine wpAny_bind (wpAny_letGo ?_)
  first
    | exact wpAny_bind (wpAny_pure (wpAny_pure ⟨.none, rfl, wpAny_pure h⟩))
    | exact wpAny_pure ⟨.none, rfl, wpAny_pure h⟩
end
section
variable {X : Cx}
def gAll (to : TE) : TG := fun v σ H Q => to σ H fun x H1 => ∃ l b xs ys, x = .ref l ∧ v = .ref b ∧ H1 l = some (.lst xs) ∧ H1 b = some (.lst ys) ∧ l ≠ b ∧ xs.length + ys.length ≤ sizeLine ∧ Q σ (upd H1 l (.lst ys))
theorem pg_all {o : Expr} {p pos : Pos} {to : TE} (ho : PE X o to) : PG X (.Subscript o (.Slice none none none p) pos) (gAll to) := by
  refine ⟨fun pins s σ H v u Q I r hw => ?_⟩
  rw [assign_Subscript]
  refine wpAny_bind (wpAny_holding (thn (ho.run pins s σ H _ I hw) fun ov s1 ⟨x, H1, I1, rx, l, b, xs, ys, ex, ev, el, eb, ne, z, q⟩ => ?_))
  subst ex ev
  obtain rfl : ov = Value.ref l := rx
  obtain rfl : u = Value.ref b := r
  refine wpAny_bind (wpAny_holding ?_)
  rw [arm_eval_Slice]
  refine wpAny_bind (wpAny_pure (wpAny_bind (wpAny_holding (wpAny_pure (wpAny_bind (wpAny_holding (wpAny_pure ?_)))))))
  refine wpAny_newObj_type ?_
  have I2 : L2.Inv X pins σ H1 { s1 with heap := s1.heap.push { cls := .type "slice", data := .fields #[.none, .none, .none] } } := I1.kept (t' := s1.toks) fun _ _ e => Heap.get?_push_of_some _ e
  have hsl : (s1.heap.push { cls := .type "slice", data := .fields #[.none, .none, .none] }).IsSliceOf s1.heap.objs.size .none .none .none := Heap.IsSliceOf.new _ _ _ _
  obtain ⟨z1, its, n, r1, hl1, e1⟩ := I2.lstM el
  obtain ⟨z2, its2, n2, r2, hl2, e2⟩ := I2.lstM eb
  refine wpAny_bind (wpAny_standAt (wpAny_bind (wpAny_holding (setItem_all e1 e2 ne hsl (by rw [List.size_toArray, List.size_toArray]; omega) ?_))))
  refine wpAny_release ⟨σ, _, I2.lset (its' := its2) (t' := s1.toks) el e1 ?_ r2 z2, q⟩
  simp
/-! ### a power of a great number -/
theorem op_powW : OpR X (binaryOp .Pow) (rI (fun i j => 0 ≤ j ∧ (Builtin.Int.intBits i : Int) * j ≤ 2 ^ 27) fun i j => .int (i ^ j.toNat)) := opI fun _ _ _ _ _ _ _ hc q => pow_int hc.1 hc.2 q
/-! ### {t: v}, t a tuple -/
def tDispT (tk tv : TE) : TE := fun σ H Q => ∀ p, H p = none → tk σ (upd H p (.dT [])) fun x H1 => tv σ H1 fun y H2 => H2 p = some (.dT []) ∧ ∃ (b : Addr) (k : List Key), x = .ref b ∧ H2 b = some (.tup (k.map kV)) ∧ Q (.ref p) (upd H2 p (.dT [(k, y)]))
theorem pe_dispT {k v : Expr} {tk tv : TE} {pos : Pos} (hu : X.A.units + 1 < cLine) (hk : PE X k tk) (hv : PE X v tv) : PE X (.Dict [some k] [v] pos) (tDispT tk tv) := by
  refine ⟨fun pins s σ H Q I q => ?_⟩
  have hn := I.hok.fresh (Nat.le_refl s.heap.objs.size)
  have I1 := I.laid (a := s.heap.objs.size) (o := .dT []) (h' := s.heap.push { cls := .type "dict", data := .dict #[] }) (t' := s.toks) (fun _ _ q => Heap.get?_push_of_some _ q) (Nat.le_refl _) (dt_empty s.heap I.big)
  have hp := pairTrees_length [some k] [v] X.env pos rfl rfl
  rw [arm_eval_Dict, zip_pairTrees [some k] [v] X.env pos rfl rfl, dictDisplay_pairs (pairTrees [some k] [v] X.env pos) (fun z => by rw [z] at hp; cases hp) (by rw [hp]; show 1 < 17; omega)]
  refine wpAny_bind (wpAny_standAt (wpAny_bind (wpAny_subDictH (knd := tupleKind (mixKind X.prog X.w)) (show X.A.units < cLine by omega) (by rw [hp]; show 1 ≤ 15; omega) ?_)))
  refine pairTrees_cons_walk (thn (hk.run pins _ σ _ _ I1 (q _ hn)) fun u s1 ⟨x, H1, I2, rx, q1⟩ => thn (hv.run pins s1 σ H1 _ I2 q1) fun w2 s2 ⟨y, H2, I3, ry, e, b, ks, ex, eb, q2⟩ => pairTrees_nil_walk ?_)
  subst ex
  obtain rfl : u = Value.ref b := rx
  obtain ⟨z, hd, xs0, r0, dd⟩ := dt_of I3.hok e
  cases r0
  refine ⟨[(ks, b, w2)], ⟨rfl, rfl, key_of I3.hok eb, trivial⟩, dd, fun h' tk dd' hs => wpAny_pure ?_⟩
  obtain ⟨ob, es, ep, hq, h2, h3, h4, _, h5⟩ := dd'
  have rel : KT H2 [(ks, y)] (storedAllH [] [(ks, b, w2)]) := KT.put (kvs := []) .nil ks eb ry
  refine ⟨.ref s.heap.objs.size, _, d_write (ob := .dT [(ks, y)]) I3 (by rw [e]; exact True.intro) hs ⟨ob, hq⟩ ⟨by show 1 ≤ sizeLine; decide, hd, _, rel.keeps fun c ys ec => ?_, ob, es, ep, hq, h2, h3, h4, h5⟩, rfl, q2⟩
  rw [upd_ne (ne_of ec e (fun z => nomatch z))]
  exact ec
end
end Gr


/-! Further rules: a dict comprehension given to a local name; a call by keywords alone; defs that are called where no repr is under way (their calls, their bodies, the law's end); repr of data. -/
namespace Gr
open PySem PySem.Spec PyProof.Rows L2
section
variable {X : Cx}
/-! ### y = {k: v for ..} -/
theorem ps_setDc {i : Nat} {y : Str} {py : Pos} {kx vx tg iter : Expr} {ifs : List Expr} {scope : Scope} {own : List (Str × Nat)} {pos spos : Pos} {wi : TI} {g : TG} {tt : TT} {tk tv : TE} (hc : X.calm = true) (hN : X.N.Nodup) (hy : X.N[i]? = some y) (hyl : X.env.scope.names.lookup y = some .local)
    (hsw : swapsWith (.DictComp kx vx [⟨tg, iter, ifs, 0⟩] scope pos) (some (.Name y py)) spos.line X.env = pure true) (hi : PI X tg iter wi) (ok : BlkOk X.N X.env.scope scope own)
    (hg : ∀ (s : Shared) (H : Hp) (C : Addr) (cl : List (Str × Addr)) (fp : List Addr), PG (X.blk s H scope (compEnvC scope cl C X.env) fp) tg g) (ht : ∀ (s : Shared) (H : Hp) (C : Addr) (cl : List (Str × Addr)) (fp : List Addr), PTs (X.blk s H scope (compEnvC scope cl C X.env) fp) ifs tt)
    (hk : ∀ (s : Shared) (H : Hp) (C : Addr) (cl : List (Str × Addr)) (fp : List Addr), PE (X.blk s H scope (compEnvC scope cl C X.env) fp) kx tk)
    (he : ∀ (s : Shared) (H : Hp) (C : Addr) (cl : List (Str × Addr)) (fp : List Addr), PE (X.blk s H scope (compEnvC scope cl C X.env) fp) vx tv) (hs : ∀ x, foldedSetIterable iter X.env x = pure x := by intro _; rfl) :
    PS X (.Assign [.Name y py] (.DictComp kx vx [⟨tg, iter, ifs, 0⟩] scope pos) spos) (tAsg (tDc wi g tt tk tv (own.map (·.2))) (gName i)) := by
  refine ⟨fun pins s σ H D I h => ?_⟩
  rw [exec_Assign_Name_used _ _ _ _ hsw]
  refine wpAny_bind (wpAny_standAt (wpAny_bind ?_))
  show wpAny _ X.A (do let _ ← comprehension (.DictComp kx vx [⟨tg, iter, ifs, 0⟩] scope pos) scope X.env (firstIterPos [⟨tg, iter, ifs, 0⟩] pos) newDict false (eval iter X.env) (some (assign (.Name y py) X.env))) _ _ s
  have h : tDc wi g tt tk tv (own.map (·.2)) σ H (fun x H1 => gName i x σ H1 D.nx) := h
  refine wpAny_bind (thn (dc_core (Qf := fun _ s' => SP X pins D .next s') hc hN I hi ok hg ht hk he hs h fun L C s' m H' I' q hn f => ?_) fun _ s' hq => wpAny_pure (wpAny_pure hq))
  show wpAny _ _ (assign (.Name y py) X.env (.ref L)) _ _ _
  refine wpAny_assign_Name (store_ok2 (v := V.ref L) I' hN hy (.inl hyl) rfl (fun s2 I2 ⟨a, sb, ha⟩ => ?_) (.inr hyl))
  obtain ⟨f0, f1, f2, f3, f4, f5⟩ := f
  have haC : C ≠ a := by
    rcases ha with z | z
    · rw [z]; exact f1
    · exact fun e => f4 y a z e.symm
  refine ⟨m, hn.sameBut sb haC, fun h3 sb3 => ?_⟩
  exact ⟨_, H', I2.turned (t' := s2.toks) (fun b o hb e => (sb3.2 b hb).trans e) f0 f1 f3 f4 f5, q⟩
theorem sw_trueD {kx vx : Expr} {gs : List Comprehension} {scope : Scope} {pos py : Pos} {y : Str} {l : Nat} {env : Env} (hk : env.scope.kind = .function) (hy : env.scope.names.lookup y = some .local) (hl : (py.line == pos.line) = true)
    (ha : (scope.names.any fun (n, k) => n == y && (k == .local || k == .cell)) = false) : swapsWith (.DictComp kx vx gs scope pos) (some (.Name y py)) l env = pure true := by
  have ky : env.kindOf y = some .local := hy
  have hb : env.blockKind = .function := by unfold Env.blockKind; rw [hk]; rfl
  unfold swapsWith
  simp only [hb, ky, ha, Expr.pos, hl]
  rfl
/-- over a list that stays -/
theorem dc_list {K : PySem.W.Frag} {a : Addr} {xs : List V} {g : TG} {tt : TT} {tk tv : TE} {vs : List Nat} {σ : L2.St} {H1 : Hp} {D : Addr} {Qd : Hp → Prop} (Pv : Nat → Hp → Prop) (h0 : Pv 0 (upd H1 D (.dK []))) (hl : ∀ i H, i ≤ xs.length → Pv i H → SqL K H a xs)
    (hs : ∀ i x H, xs[i]? = some x → Pv i H → g x (wipe σ vs) H fun σ2 H2 => wipe σ2 vs = wipe σ vs ∧ tt σ2 H2 fun b H3 =>
      if b = true then tk σ2 H3 fun y H4 => tv σ2 H4 fun z H5 => ∃ kvs k, y = kV k ∧ H5 D = some (.dK kvs) ∧ kvs.length < sizeLine ∧ Pv (i + 1) (upd H5 D (.dK (putK kvs k z))) else Pv (i + 1) H3) (hd : ∀ H, Pv xs.length H → Qd H) :
    ∃ W : Nat → Nat → Hp → Prop, (∃ m, W 0 m (upd H1 D (.dK []))) ∧ ∀ i m H, W i m H →
      ((Itl K a).stop i H ∧ Qd H) ∨ ((Itl K a).go i H ∧ ∃ Nx : Hp → Prop, (∀ H', Nx H' → ∃ m', m' < m ∧ W (i + 1) m' H') ∧ ∀ x H', (Itl K a).yld i H x H' → g x (wipe σ vs) H' fun σ2 H2 => wipe σ2 vs = wipe σ vs ∧ tt σ2 H2 fun b H3 =>
        if b = true then tk σ2 H3 fun y H4 => tv σ2 H4 fun z H5 => ∃ kvs k, y = kV k ∧ H5 D = some (.dK kvs) ∧ kvs.length < sizeLine ∧ Nx (upd H5 D (.dK (putK kvs k z))) else Nx H3) := by
  refine ⟨fun i m H => m = xs.length - i ∧ i ≤ xs.length ∧ Pv i H, ⟨xs.length, by simp, Nat.zero_le _, h0⟩, ?_⟩
  rintro i m H ⟨rfl, hi, p⟩
  have q := hl i H hi p
  by_cases hlt : i < xs.length
  · refine .inr ⟨⟨xs, xs[i], q, by simp [hlt]⟩, Pv (i + 1), fun H' p' => ⟨xs.length - (i + 1), by omega, rfl, hlt, p'⟩, fun x H' y => ?_⟩
    obtain ⟨e, y⟩ := y
    subst e
    exact hs i x _ (y xs q) p
  · have e : i = xs.length := by omega
    subst e
    exact .inl ⟨⟨xs, q, Nat.le_refl _⟩, hd H p⟩
/-! ### f(k = v, ..) -/
theorem pe_callK0 {CX : CXT} {k : Nat} {f : Addr} {fd : FuncData} {ps ks : List Str} {sp : Sp} {E : XK} {x : Str} {p pos : Pos} {kws : List Keyword} {tk : TA} {g : List Value → List Value → List Value} {gV : List V → List V → List V}
    (F : FnOk X.prog X.w X.K X.mg X.base CX k f fd ps sp) (hr : Room k X.A) (hg : Gl X x) (hm : X.mg x = some (.ref f)) (hk : PySem.W.keepIn X.K (.ref f) = true) (hb : KBinds X.K fd ps ks g gV) (hx : Passes CX X E)
    (hkw : PK X kws tk) (hall : (backToKw pos (keywordEach kws X.env)).all (·.1.isSome) = true := by rfl) (hks : (backToKw pos (keywordEach kws X.env)).filterMap (·.1) = ks := by rfl)
    (hdb : (x == ("__debug__" : Str)) = false := by decide)
    (hpl : ((backTo pos (starEach [] X.env)).any (·.1) || (backToKw pos (keywordEach kws X.env)).any (·.1.isNone)) = false := by rfl) :
    PE X (.Call (.Name x p) [] kws pos) (tCallK sp gV E tNil tk) := by
  refine ⟨fun pins s σ H Q I h => ?_⟩
  refine wpAny_Call_Name_kw (ld_glob I hg hm ?_ hdb)
  refine PySem.W.callWith_KW0 (h₀ := X.base) I.ok.mod.kin hk hall ?_ hpl
  refine thn (hkw.run pos pins s σ H _ I h) fun ws s2 ⟨zs, H2, I2, rz, q2⟩ => ⟨I2.kIn, ?_⟩
  rw [hks]
  exact run_fnk (us := []) (vs := []) F hr hb hx I2 .nil rz q2
end
/-! ### defs called where no repr is under way -/
structure FnG (P : Program) (w : World) (K : PySem.W.Frag) (mg : Str → Option Value) (base : Heap) (CX : CXT) (k : Nat) (f : Addr) (fd : FuncData) (ps : List Str) (sp : Sp) : Prop where
  len : ∀ vs H Q E, sp vs H Q E → vs.length = ps.length
  run : ∀ (A : Around) (outer : List Env) (s : Shared) (H : Hp) (args : Args) (us : List Value) (vs : List V) (Q : VK) (E : XK), A.guards = some [] → Room k A → Env0 P w K mg base A outer s H → BindsTo s fd args (ps.zip us) → Vals vs us → sp vs H Q E →
    codeAny (model P w) A (.call (.ref f) args) (CR CX outer P w H s Q E) s
/-- a body is under the same word -/
theorem fn_ofG {CX : CXT} {P : Program} {w : World} {K : PySem.W.Frag} {mg : Str → Option Value} {base : Heap} {k : Nat} {f : Addr} {name qual : Str} {params : Arguments} {body : List Stmt} {scope : Scope} {dV kV doc pm cdv ct oc : Value} {an od : Option Addr}
    {osl : Array (Option Value)} {N ps : List Str} {sp : Sp} (lk : K.lookup f = some ⟨oc, od, .func (PySem.W.fnOf name qual params body scope dV kV doc pm an cdv ct), osl⟩) (hcd : PySem.W.codeIn K cdv qual = true) (S : FnScope N ps scope)
    (len : ∀ vs H Q E, sp vs H Q E → vs.length = ps.length)
    (hbody : ∀ (A : Around) (outer : List Env) (s : Shared) (H : Hp) (vs : List V) (Q : VK) (E : XK), A.guards = some [] → Room k (A.deeper (envOfC qual scope s.heap.objs.size f cdv)) → sp vs H Q E →
      ∃ t, PSs (cxOf CX P w K mg base N qual scope f cdv A outer s H E) body t ∧ t { nx := fun _ H' => Q .non H', rt := Q } (start N vs) H) :
    FnG P w K mg base CX (k + 1) f (PySem.W.fnOf name qual params body scope dV kV doc pm an cdv ct) ps sp := by
  refine ⟨len, fun A outer s H args us vs Q E hgd hr e0 hb r hsp => ?_⟩
  have hl := len _ _ _ _ hsp
  have KX : K.In s.heap := e0.mod.kin.keeps fun b o e => (e0.bs b o e).1
  have lim : s.heap.NoLimit := e0.mod.nolimit.keeps fun b o e => (e0.bs b o e).1
  have hkind : ∀ y ∈ ps.zip us, scope.names.lookup y.1 = some .local ∨ (scope.names.lookup y.1 = some .cell ∧ ((cellsFrom (s.heap.objs.size + 1) scope.names []).lookup y.1).isSome = true) := fun ⟨n, v⟩ hy => by
    rcases S.par n (List.of_mem_zip hy).1 with q | q
    · exact .inl q
    · exact .inr ⟨q, PySem.W.cellsFrom_some _ _ _ (.inl q)⟩
  refine codeAny_call_function hr.depth (KX _ _ lk) rfl S.co S.gen rfl (PySem.W.codeRec_of KX hcd) (hb _ _ _ _ ?_)
  refine wpAny_newFunctionEnv_cells S.kind hkind fun env he s1 x => ?_
  subst he
  refine ⟨lim.keeps x.toInCall.keep, codeAny_func ?_⟩
  obtain ⟨t, ht, hq⟩ := hbody A outer s H vs Q E hgd (hr.deeper _) hsp
  have I : Inv (cxOf CX P w K mg base N qual scope f cdv A outer s H E) [] (start N vs) H s1 := inv_start S hr.hd e0 hl r x
  refine wpAny_mono (ht.run [] s1 (start N vs) H _ I hq) (fun fl s' hs => ?_) fun e s' hs => hs
  have fin : ∀ {σ' : L2.St} {H' : Hp} {v : V} {u : Value}, Inv (cxOf CX P w K mg base N qual scope f cdv A outer s H E) [] σ' H' s' → RelV v u → Q v H' → CE outer P w H s Q u s' :=
    fun {σ' H' v u} J rv q => ⟨v, H', J.os, J.bare, J.base, J.hok, rv, q⟩
  cases fl with
  | ret u =>
    obtain ⟨v, σ', H', J, rv, q⟩ := hs
    exact fin J rv q
  | next =>
    obtain ⟨σ', H', J, q⟩ := hs
    exact fin (v := V.non) (u := Value.none) J rfl q
  | brk =>
    obtain ⟨_, _, _, q⟩ := hs
    exact False.elim q
  | cont =>
    obtain ⟨_, _, _, q⟩ := hs
    exact False.elim q
section
variable {P : Program} {w : World} {K : PySem.W.Frag} {mg : Str → Option Value} {base : Heap}
theorem okG {x qual : Str} {st : Stmt} {f : Addr} {fd : FuncData} {N ps : List Str} {k : Nat} {sp : Sp} (F : Fun K x qual st f fd) (S : FnScope N ps (defScope st)) (len : ∀ vs H Q E, sp vs H Q E → vs.length = ps.length)
    (hbody : ∀ (cdv : Value) (A : Around) (outer : List Env) (s : Shared) (H : Hp) (vs : List V) (Q : VK) (E : XK), A.guards = some [] → Room k (A.deeper (envOfC qual (defScope st) s.heap.objs.size f cdv)) → sp vs H Q E →
      ∃ t, PSs (cxOf (L2.CX P w) P w K mg base N qual (defScope st) f cdv A outer s H E) (defBody st) t ∧ t { nx := fun _ H' => Q .non H', rt := Q } (start N vs) H) : FnG P w K mg base (L2.CX P w) (k + 1) f fd ps sp := by
  obtain ⟨oc, od, kV, doc, pm, an, cdv, ct, osl, rfl, lk, hcd⟩ := F.ex
  exact fn_ofG lk hcd S len fun A outer s H vs Q E hg hr hsp => hbody cdv A outer s H vs Q E hg hr hsp
/-- .. of which nothing leaves -/
theorem okG0 {x qual : Str} {st : Stmt} {f : Addr} {fd : FuncData} {N ps : List Str} {k : Nat} {sp : Sp} (F : Fun K x qual st f fd) (S : FnScope N ps (defScope st)) (len : ∀ vs H Q E, sp vs H Q E → vs.length = ps.length)
    (hbody : ∀ (cdv : Value) (A : Around) (outer : List Env) (s : Shared) (H : Hp) (vs : List V) (Q : VK) (E : XK), A.guards = some [] → Room k (A.deeper (envOfC qual (defScope st) s.heap.objs.size f cdv)) → sp vs H Q E →
      ∃ t, PSs (cxOf CX0 P w K mg base N qual (defScope st) f cdv A outer s H E).nox (defBody st) t ∧ t { nx := fun _ H' => Q .non H', rt := Q } (start N vs) H) : FnG P w K mg base CX0 (k + 1) f fd ps sp := by
  obtain ⟨oc, od, kV, doc, pm, an, cdv, ct, osl, rfl, lk, hcd⟩ := F.ex
  refine fn_ofG lk hcd S len fun A outer s H vs Q E hg hr hsp => ?_
  obtain ⟨t, h, q⟩ := hbody cdv A outer s H vs Q E hg hr hsp
  exact ⟨t, h.nox, q⟩
end
section
variable {X : Cx} {CX : CXT} {k : Nat} {f : Addr} {fd : FuncData} {ps : List Str} {sp : Sp} {E : XK} {x : Str} {p pos : Pos} {e : Expr} {es : List Expr} {t : TA}
theorem pe_callG (F : FnG X.prog X.w X.K X.mg X.base CX k f fd ps sp) (gd : X.A.guards = some []) (hr : Room k X.A) (hg : Gl X x) (hm : X.mg x = some (.ref f)) (hk : PySem.W.keepIn X.K (.ref f) = true) (hb : Binds X.K fd ps []) (hx : Passes CX X E)
    (ha : PA X (e :: es) t) (hdb : (x == ("__debug__" : Str)) = false := by decide) (he : starEach (e :: es) X.env = (false, eval e X.env) :: starEach es X.env := by rfl) (hpl : (backTo pos (starEach es X.env)).any (·.1) = false := by rfl) :
    PE X (.Call (.Name x p) (e :: es) [] pos) (tCall sp [] E t) := by
  refine ⟨fun pins s σ H Q I h => ?_⟩
  refine wpAny_Call_Name_kw (ld_glob I hg hm ?_ hdb)
  refine PySem.W.callWith_K (h₀ := X.base) I.ok.mod.kin hk (thn (ha.run pos pins s σ H _ I h) fun us s1 ⟨vs, H1, I1, r, q⟩ => ⟨I1.kIn, ?_⟩) he hpl
  have q' : sp vs H1 Q E := by have z : sp (vs ++ []) H1 Q E := q; rw [List.append_nil] at z; exact z
  have hl : us.length = ps.length := by rw [← r.length]; exact F.len _ _ _ _ q'
  have b := hb s1 us I1.kIn (by rw [List.append_nil]; exact hl)
  rw [List.append_nil] at b
  refine wpAny_call (codeAny_mono (F.run X.A X.stack s1 H1 ⟨us, []⟩ us vs Q E gd hr I1.env0 b r q') fun r s' hq => ?_)
  cases r with
  | error e => exact hx pins σ H1 s1 e s' I1 hq
  | ok fl =>
    cases fl with
    | ret u => exact I1.after hq
    | next => exact False.elim hq
    | brk => exact False.elim hq
    | cont => exact False.elim hq
end
/-! ### repr(x) of data -/
/-- the text of a value: data that == reads, or an empty dict -/
inductive Tx (K : PySem.W.Frag) (H : Hp) : V → Str → Prop
  | int {i : Int} (h : i.natAbs.log2 < 1920) : Tx K H (.int i) (toString i)
  | non : Tx K H .non "None"
  | bl (b : Bool) : Tx K H (.bl b) (if b then "True" else "False")
  | str {x : Str} (h : (reprText x).length ≤ sizeLine) : Tx K H (.str x) (reprText x)
  | dat {a : Addr} {d : PyData} (h : Dp K H (.ref a) d) (hs : d.showable = true) (hd : d.hasDict = false) (hp : d.depth ≤ 8) (hl : d.shown.length ≤ sizeLine) : Tx K H (.ref a) d.shown
  | emp {a : Addr} (h : H a = some (.dK [])) : Tx K H (.ref a) "{}"
def rTx (K : PySem.W.Frag) : List V → Hp → VK → Prop := fun xs H Q => ∃ v t, xs = [v] ∧ Tx K H v t ∧ Q (.str t) H
theorem call_tx {X : Cx} (gd : X.A.guards = some []) (hu : X.A.units + 12 < cLine) : CallR X (.builtin "repr") (rTx X.K) := by
  intro pins s σ H xs us Q I r h
  obtain ⟨v, t, rfl, T, q⟩ := h
  obtain ⟨u, rfl, ru⟩ := vals1 r
  cases T with
  | @int i h => obtain ⟨tk, rfl⟩ := ru; exact PySem.P.repr_of_int h ⟨.str _, H, I.tok _, ⟨_, rfl⟩, q⟩
  | non => cases ru; exact PySem.P.repr_of_none ⟨.str _, H, I.tok _, ⟨_, rfl⟩, q⟩
  | bl b =>
    cases ru
    refine PySem.P.repr_of_bool ⟨.str _, H, I.tok _, ⟨_, rfl⟩, ?_⟩
    exact q
  | @str x h => obtain ⟨tk, rfl⟩ := ru; exact PySem.P.repr_of_str ⟨.str _, H, I.tok _, ⟨_, rfl⟩, q⟩ h
  | @dat a d h hs hd hp hl =>
    cases ru
    obtain ⟨as, rd⟩ := Dp.reads I d _ _ h rfl
    exact PySem.repr_of_reads' rd hs (fun z => by rw [hd] at z; cases z) gd (by omega) (fun b o e => e) (fun h' u tk hk => ⟨.str _, H, I.kept hk, ⟨_, rfl⟩, q⟩) hl
  | @emp a h =>
    cases ru
    obtain ⟨_, hne, vs, kv, o, es, ep, h1, h2, h3, h4, h5, h6⟩ := (show ObjOk X.prog X.w H s.heap a (.dK []) from I.hok a _ h)
    cases kv
    have e0 : es.toList = [] := by
      cases hh : es.toList with
      | nil => rfl
      | cons x r => rw [hh] at h5; cases h5
    have rd : Reads s.heap (.ref a) (.dict []) (a :: [] ++ []) := Reads.dict h1 h2.1 h3 (by rw [e0]; exact .nil) (by rw [e0]; exact .nil)
    have hdp : (PyData.dict []).depth ≤ 8 := by decide
    refine PySem.repr_of_reads' rd (by decide) (fun _ z => ?_) gd (by omega) (fun b o e => e) (fun h' u tk hk => ⟨.str _, H, I.kept hk, ⟨_, rfl⟩, q⟩) (by decide)
    have z2 : sysModules = a := by simpa using z
    rw [← z2] at hne
    exact absurd hne (by decide)
end Gr


/-! The law's end where its def is promised only where no repr is under way. -/
namespace Gr
open PySem PySem.Spec PyProof.Rows L2
theorem law_callG {P : Program} {w : World} {K : PySem.W.Frag} {mg mb : Str → Option Value} {CX : CXT} {k : Nat} {fa a : Addr} {fd : FuncData} {x : Str} {sp : Sp} {s1 : Shared} {vs : List Value} {ns : List Int}
    (KX : K.In s1.heap) (hns : s1.heap.Ns mainGlobals mg) (hb : s1.heap.Ns builtinsNs mb) (hbb : ∀ x : Str, x ≠ "__name__" → mb x = bootBuiltins x) (hlim : s1.heap.NoLimit) (hg : s1.gens = #[])
    (ha : s1.heap.get? a = some { cls := .type "list", data := .seq vs.toArray }) (hi : IntsAre vs ns) (hl : ns.length ≤ sizeLine) (hr : Room k callerA)
    (F : ∀ base : Heap, K.In base → base.Ns mainGlobals mg → FnG P w K mg base CX k fa fd [x] sp) (hbind : ∀ (s : Shared) (u : Value), BindsTo s fd ⟨[u], []⟩ [(x, u)])
    (hsp : ∀ H : Hp, Only H → SqL K H a (ns.map V.int) → sp [.ref a] H (fun v _ => v = .bl true) fun _ _ _ => False)
    (hCX : ∀ H e s', CX [] H s1 (fun _ _ _ => False) e s' → False) :
    codeAny (model P w) callerA (.call (.ref fa) ⟨[.ref a], []⟩) (fun r s' => r = .ok (.ret (.bool true)) ∧ OldK s1.heap s'.heap ∧ s'.os = s1.os ∧ AllBare s'.gens) s1 := by
  have rv := vals_ints hi
  have lenV := hi.length
  -- H: what is told of the heap at the start: the script at most
  have core : ∀ H : Hp, Only H → SqL K H a (ns.map V.int) → HOk P w H s1.heap → (∀ b, H b ≠ none → b = a) → (H a ≠ none → K.lookup a = none) →
      codeAny (model P w) callerA (.call (.ref fa) ⟨[.ref a], []⟩) (fun r s' => r = .ok (.ret (.bool true)) ∧ OldK s1.heap s'.heap ∧ s'.os = s1.os ∧ AllBare s'.gens) s1 := by
    intro H hO hS hok hA hK
    have told : ∀ {b : Addr}, H b ≠ none → s1.heap.get? b = some { cls := .type "list", data := .seq vs.toArray } ∧ K.lookup b = none := fun {b} z => by
      obtain rfl := hA b z
      exact ⟨ha, hK z⟩
    have noD : ∀ {b : Addr} {o : Obj} {es : Array DictEntry} {ep : Nat}, s1.heap.get? b = some o → o.data = .dict es ep → H b = none := fun {b o es ep} e d => by
      refine Classical.byContradiction fun z => ?_
      rw [(told z).1] at e
      cases e
      cases (show Data.seq vs.toArray _ = Data.dict es ep from d)
    have keepN : ∀ {b : Addr} {m : Str → Option Value}, s1.heap.Ns b m → (hidT s1.heap H).Ns b m := fun {b m} ⟨o, es, ep, e, d, r⟩ => ⟨o, es, ep, hidT_get e (noD e d), d, r⟩
    have inB : K.In (hidT s1.heap H) := fun b o e => hidT_get (KX b o e) (Classical.byContradiction fun z => by rw [(told z).2] at e; cases e)
    have md : Mod K mg (hidT s1.heap H) := ⟨inB, keepN hns, ⟨mb, keepN hb, hbb⟩, let ⟨mc, h1, h2⟩ := hlim; ⟨mc, keepN h1, h2⟩⟩
    have e0 : Env0 P w K mg (hidT s1.heap H) callerA [] s1 H := ⟨rfl, md, fun b o e => of_hidT e, Nat.le_of_eq (hidT_size _ _), trivial, fun b z => absurd (show b ∈ ([] : List Addr) from z) (by simp), hok, .of_eq hg⟩
    refine codeAny_mono ((F _ inB (keepN hns)).run callerA [] s1 H ⟨[.ref a], []⟩ [.ref a] [.ref a] _ _ rfl hr e0 (hbind s1 (.ref a)) (.cons rfl .nil) (hsp H hO hS)) fun r s' h => ?_
    match r, h with
    | .error e, h => exact (hCX H e s' h).elim
    | .ok .next, h => exact False.elim h
    | .ok .brk, h => exact False.elim h
    | .ok .cont, h => exact False.elim h
    | .ok (.ret u), ⟨v, H', os, bare, un, hok', r', q⟩ =>
      have q' : v = .bl true := q
      subst q'
      obtain rfl : u = Value.bool true := r'
      refine ⟨rfl, OldK.of_keep fun b o e => ?_, os, bare⟩
      cases q : H b with
      | none => exact un.keep b o e q (fun z => absurd (show b ∈ ([] : List Addr) from z) (by simp)) (by simp)
      | some u =>
        rcases hO b with z | ⟨ob, xs, z⟩
        · rw [q] at z; cases z
        · obtain ⟨e1, _⟩ := hok b _ z
          obtain ⟨e2, _⟩ := hok' b _ (un.frzs b ob _ z)
          rw [e] at e1; cases e1
          exact e2
  have lenM : (ns.map V.int).length ≤ sizeLine := by rw [List.length_map]; exact hl
  cases hk : K.lookup a with
  | some o =>
    have e := KX a o hk
    rw [ha] at e
    cases e
    refine core (fun _ => none) (fun _ => .inl rfl) (.inr ⟨_, vs.toArray, _, hk, rfl, rfl, rfl, by rw [List.size_toArray, lenV]; exact hl, by simpa using rv⟩) (fun b u z => by cases (show (none : Option HO) = some u from z)) (fun b z => absurd rfl z) fun z => absurd rfl z
  | none =>
    refine core (fun b => if b = a then some (.frz { cls := .type "list", data := .seq vs.toArray } (.lst (ns.map V.int))) else none) (fun b => ?_) (.inl (.inr ⟨_, if_pos rfl⟩)) (fun b u z => ?_) (fun b z => Classical.byContradiction fun hb => z (if_neg hb)) fun _ => hk
    · by_cases hb : b = a
      · exact .inr ⟨_, _, if_pos hb⟩
      · exact .inl (if_neg hb)
    · by_cases hb : b = a
      · cases (if_pos hb).symm.trans z
        subst hb
        exact ⟨ha, lenM, vs, _, rv, ha⟩
      · cases (if_neg hb).symm.trans z
theorem walk_ofG {l : PySem.W.OpenLaw} {n k : Nat} {q : Program} {loose : List Str} {XP : (Str → Option Value) → Heap → Prop} {YP : World → Heap → Prop} {d : DefRec} {K : Params → PySem.W.Frag} {CX : World → CXT} {sp : World → Sp} {x : Str}
    (hn : l.most = some n) (hn2 : n ≤ sizeLine) (hdf : d.params.defaults = []) (hr : Room k callerA)
    (hY : ∀ (w : World) (h : Heap), YP w h → (K w.params).In h)
    (F : ∀ (w : World) (mg : Str → Option Value) (fa : Addr) (h : Heap), (K w.params).In h → h.Ns mainGlobals mg → mg d.name = some (.ref fa) →
      ∃ fd : FuncData, (∀ (s : Shared) (u : Value), BindsTo s fd ⟨[u], []⟩ [(x, u)]) ∧
        ∀ base : Heap, (K w.params).In base → base.Ns mainGlobals mg → FnG l.prog w (K w.params) mg base (CX w) k fa fd [x] (sp w))
    (hsp : ∀ (w : World) (H : Hp) (a : Addr) (ns : List Int), ns.length ≤ n → Only H → SqL (K w.params) H a (ns.map V.int) → sp w [.ref a] H (fun v _ => v = .bl true) fun _ _ _ => False)
    (hCX : ∀ (w : World) (H : Hp) (s : Shared) (e : Value) (s' : Shared), CX w [] H s (fun _ _ _ => False) e s' → False) :
    PySem.W.WalkO q loose XP YP l.row.toRowW d [] (fun f vs => PySem.call f vs) := by
  refine Att.attach_call hn hdf fun w s₀ s1 mg mb fa o pm cd doc a vs ns G Y ho hd hcd hmg hobj hints hlen hg => ?_
  have KX := hY w _ Y
  obtain ⟨fd, hb, hF⟩ := F w mg fa _ KX G.T.g hmg
  exact law_callG KX G.T.g G.T.b G.T.builtins G.T.nolimit hg hobj hints (Nat.le_trans hlen hn2) hr hF hb (fun H hO hS => hsp w H a ns hlen hO hS) fun H e s' => hCX w H s1 e s'
end Gr


/-! The text, its names, calls by name, kinds of values, data. -/
namespace Gs
open PySem PySem.Spec PyProof.Rows L2
def top (i : Nat) : Stmt := PySem.Challenge.pw_gapswaps_k28_whole_nobody_comes_back_in.main.body.getD i (.Pass ⟨0, 0, 0, 0⟩)
theorem bt_isinstance : bootBuiltins "isinstance" = some (.builtin "isinstance") := by decide +kernel
theorem bt_len : bootBuiltins "len" = some (.builtin "len") := by decide +kernel
theorem bt_sorted : bootBuiltins "sorted" = some (.builtin "sorted") := by decide +kernel
theorem bt_sum : bootBuiltins "sum" = some (.builtin "sum") := by decide +kernel
theorem bt_max : bootBuiltins "max" = some (.builtin "max") := by decide +kernel
theorem bt_repr : bootBuiltins "repr" = some (.builtin "repr") := by decide +kernel
theorem bt_int : bootBuiltins "int" = some (.type "int") := by decide +kernel
theorem bt_bool : bootBuiltins "bool" = some (.type "bool") := by decide +kernel
theorem bt_list : bootBuiltins "list" = some (.type "list") := by decide +kernel
theorem bt_tuple : bootBuiltins "tuple" = some (.type "tuple") := by decide +kernel
theorem bt_dict : bootBuiltins "dict" = some (.type "dict") := by decide +kernel
/-- the module hides none of the built-in names that are asked for -/
structure Bns (mg : Str → Option Value) : Prop where
  isinstance : mg "isinstance" = none
  len : mg "len" = none
  sorted : mg "sorted" = none
  sum : mg "sum" = none
  max : mg "max" = none
  repr : mg "repr" = none
  int : mg "int" = none
  bool : mg "bool" = none
  list : mg "list" = none
  tuple : mg "tuple" = none
  dict : mg "dict" = none
  range : mg "range" = none
  enumerate : mg "enumerate" = none
/-- a count of the module -/
def Cn (mg : Str → Option Value) (x : Str) (i : Int) : Prop := ∃ u, mg x = some u ∧ RelV (.int i) u
theorem pe_cn {X : Cx} {x : Str} {i : Int} {pos : Pos} (hg : Gl X x) (h : Cn X.mg x i) (hd : (x == ("__debug__" : Str)) = false := by decide) : PE X (.Name x pos) (tC (.int i)) := by
  obtain ⟨u, hm, r⟩ := h
  exact pe_glob hg hm r hd
/-- a def of the module behind its name -/
structure De (K : PySem.W.Frag) (mg : Str → Option Value) (x : Str) (st : Stmt) : Prop where
  ex : ∃ f fd, Fun K x x st f fd ∧ mg x = some (.ref f)
/-- a def that may be called by its name -/
structure Cl (P : Program) (w : World) (K : PySem.W.Frag) (mg : Str → Option Value) (base : Heap) (CX : CXT) (k : Nat) (x : Str) (sp : Sp) : Prop where
  ex : ∃ f fd ps, FnOk P w K mg base CX k f fd ps sp ∧ mg x = some (.ref f) ∧ PySem.W.keepIn K (.ref f) = true ∧ Binds K fd ps []
/-- .. where no repr is under way -/
structure ClG (P : Program) (w : World) (K : PySem.W.Frag) (mg : Str → Option Value) (base : Heap) (CX : CXT) (k : Nat) (x : Str) (sp : Sp) : Prop where
  ex : ∃ f fd ps, Gr.FnG P w K mg base CX k f fd ps sp ∧ mg x = some (.ref f) ∧ PySem.W.keepIn K (.ref f) = true ∧ Binds K fd ps []
section
variable {P : Program} {w : World} {K : PySem.W.Frag} {mg : Str → Option Value} {base : Heap} {x : Str} {st : Stmt} {N ps : List Str} {k : Nat} {sp : Sp}
theorem cl0 (D : De K mg x st) (S : FnScope N ps (defScope st)) (len : ∀ vs H Q E, sp vs H Q E → vs.length = ps.length)
    (hbind : ∀ (kV doc pm : Value) (an : Option Addr) (cdv ct : Value) (us : List Value), us.length = ps.length → bindArgs (PySem.W.fnOf x x (defArgs st) (defBody st) (defScope st) .none kV doc pm an cdv ct) ⟨us, []⟩ = pure (ps.zip us))
    (hbody : ∀ (f : Addr) (cdv : Value) (A : Around) (outer : List Env) (s : Shared) (H : Hp) (vs : List V) (Q : VK) (E : XK), Room k (A.deeper (envOfC x (defScope st) s.heap.objs.size f cdv)) → sp vs H Q E →
      ∃ t, PSs (cxOf CX0 P w K mg base N x (defScope st) f cdv A outer s H E).nox (defBody st) t ∧ t { nx := fun _ H' => Q .non H', rt := Q } (start N vs) H) : Cl P w K mg base CX0 (k + 1) x sp := by
  obtain ⟨f, fd, F, hm⟩ := D.ex
  exact ⟨f, fd, ps, F.ok S len (hbody f), hm, F.kp, F.binds hbind⟩
theorem clX (D : De K mg x st) (S : FnScope N ps (defScope st)) (len : ∀ vs H Q E, sp vs H Q E → vs.length = ps.length)
    (hbind : ∀ (kV doc pm : Value) (an : Option Addr) (cdv ct : Value) (us : List Value), us.length = ps.length → bindArgs (PySem.W.fnOf x x (defArgs st) (defBody st) (defScope st) .none kV doc pm an cdv ct) ⟨us, []⟩ = pure (ps.zip us))
    (hbody : ∀ (f : Addr) (cdv : Value) (A : Around) (outer : List Env) (s : Shared) (H : Hp) (vs : List V) (Q : VK) (E : XK), Room k (A.deeper (envOfC x (defScope st) s.heap.objs.size f cdv)) → sp vs H Q E →
      ∃ t, PSs (cxOf (L2.CX P w) P w K mg base N x (defScope st) f cdv A outer s H E) (defBody st) t ∧ t { nx := fun _ H' => Q .non H', rt := Q } (start N vs) H) : Cl P w K mg base (L2.CX P w) (k + 1) x sp := by
  obtain ⟨f, fd, F, hm⟩ := D.ex
  exact ⟨f, fd, ps, F.okX S len (hbody f), hm, F.kp, F.binds hbind⟩
theorem clG (D : De K mg x st) (S : FnScope N ps (defScope st)) (len : ∀ vs H Q E, sp vs H Q E → vs.length = ps.length)
    (hbind : ∀ (kV doc pm : Value) (an : Option Addr) (cdv ct : Value) (us : List Value), us.length = ps.length → bindArgs (PySem.W.fnOf x x (defArgs st) (defBody st) (defScope st) .none kV doc pm an cdv ct) ⟨us, []⟩ = pure (ps.zip us))
    (hbody : ∀ (f : Addr) (cdv : Value) (A : Around) (outer : List Env) (s : Shared) (H : Hp) (vs : List V) (Q : VK) (E : XK), A.guards = some [] → Room k (A.deeper (envOfC x (defScope st) s.heap.objs.size f cdv)) → sp vs H Q E →
      ∃ t, PSs (cxOf (L2.CX P w) P w K mg base N x (defScope st) f cdv A outer s H E) (defBody st) t ∧ t { nx := fun _ H' => Q .non H', rt := Q } (start N vs) H) : ClG P w K mg base (L2.CX P w) (k + 1) x sp := by
  obtain ⟨f, fd, F, hm⟩ := D.ex
  exact ⟨f, fd, ps, Gr.okG F S len (hbody f), hm, F.kp, F.binds hbind⟩
theorem clG0 (D : De K mg x st) (S : FnScope N ps (defScope st)) (len : ∀ vs H Q E, sp vs H Q E → vs.length = ps.length)
    (hbind : ∀ (kV doc pm : Value) (an : Option Addr) (cdv ct : Value) (us : List Value), us.length = ps.length → bindArgs (PySem.W.fnOf x x (defArgs st) (defBody st) (defScope st) .none kV doc pm an cdv ct) ⟨us, []⟩ = pure (ps.zip us))
    (hbody : ∀ (f : Addr) (cdv : Value) (A : Around) (outer : List Env) (s : Shared) (H : Hp) (vs : List V) (Q : VK) (E : XK), A.guards = some [] → Room k (A.deeper (envOfC x (defScope st) s.heap.objs.size f cdv)) → sp vs H Q E →
      ∃ t, PSs (cxOf CX0 P w K mg base N x (defScope st) f cdv A outer s H E).nox (defBody st) t ∧ t { nx := fun _ H' => Q .non H', rt := Q } (start N vs) H) : ClG P w K mg base CX0 (k + 1) x sp := by
  obtain ⟨f, fd, F, hm⟩ := D.ex
  exact ⟨f, fd, ps, Gr.okG0 F S len (hbody f), hm, F.kp, F.binds hbind⟩
end
section
variable {X : Cx} {CX : CXT} {k j : Nat} {x : Str} {sp : Sp} {E : XK} {p pos : Pos} {e : Expr} {es : List Expr} {t : TA}
theorem pe_cl (c : Cl X.prog X.w X.K X.mg X.base CX k x sp) (hr : Room j X.A) (hk : k ≤ j) (hg : Gl X x) (hx : Passes CX X E) (ha : PA X (e :: es) t)
    (hdb : (x == ("__debug__" : Str)) = false := by decide) (he : starEach (e :: es) X.env = (false, eval e X.env) :: starEach es X.env := by rfl) (hpl : (backTo pos (starEach es X.env)).any (·.1) = false := by rfl) :
    PE X (.Call (.Name x p) (e :: es) [] pos) (tCall sp [] E t) := by
  obtain ⟨f, fd, ps, F, hm, kp, b⟩ := c.ex
  exact pe_call F (hr.mono hk) hg hm kp b .nil hx ha hdb he hpl
theorem pe_cl0 (c : Cl X.prog X.w X.K X.mg X.base CX k x sp) (hr : Room j X.A) (hk : k ≤ j) (hg : Gl X x) (hx : Passes CX X E) (hdb : (x == ("__debug__" : Str)) = false := by decide) : PE X (.Call (.Name x p) [] [] pos) (tCall sp [] E tNil) := by
  obtain ⟨f, fd, ps, F, hm, kp, b⟩ := c.ex
  exact pe_call0 F (hr.mono hk) hg hm kp b .nil hx hdb
theorem pe_clS {E : L2.St → XK} (c : Cl X.prog X.w X.K X.mg X.base CX k x sp) (hr : Room j X.A) (hk : k ≤ j) (hg : Gl X x) (hx : ∀ σ, PassesAt CX X σ (E σ)) (ha : PA X (e :: es) t)
    (hdb : (x == ("__debug__" : Str)) = false := by decide) (he : starEach (e :: es) X.env = (false, eval e X.env) :: starEach es X.env := by rfl) (hpl : (backTo pos (starEach es X.env)).any (·.1) = false := by rfl) :
    PE X (.Call (.Name x p) (e :: es) [] pos) (tCallS sp E t) := by
  obtain ⟨f, fd, ps, F, hm, kp, b⟩ := c.ex
  exact pe_callS F (hr.mono hk) hg hm kp b hx ha hdb he hpl
theorem pe_clG (c : ClG X.prog X.w X.K X.mg X.base CX k x sp) (gd : X.A.guards = some []) (hr : Room j X.A) (hk : k ≤ j) (hg : Gl X x) (hx : Passes CX X E) (ha : PA X (e :: es) t)
    (hdb : (x == ("__debug__" : Str)) = false := by decide) (he : starEach (e :: es) X.env = (false, eval e X.env) :: starEach es X.env := by rfl) (hpl : (backTo pos (starEach es X.env)).any (·.1) = false := by rfl) :
    PE X (.Call (.Name x p) (e :: es) [] pos) (tCall sp [] E t) := by
  obtain ⟨f, fd, ps, F, hm, kp, b⟩ := c.ex
  exact Gr.pe_callG F gd (hr.mono hk) hg hm kp b hx ha hdb he hpl
end
theorem hu64_of {A : Around} {k : Nat} (hr : Room k A) : A.units + 64 < cLine := by have := hr.un; omega
theorem hu12_of {A : Around} {k : Nat} (hr : Room k A) : A.units + 12 < cLine := by have := hr.un; omega
/-! ### kinds of values -/
def oV : Option Int → V
  | none => .non
  | some i => .int i
def kinds : List String := ["NoneType", "bool", "int", "str", "list", "tuple", "dict"]
/-- v is of the built-in type n, one of those that are handed about here -/
def Kn (K : PySem.W.Frag) (H : Hp) (v : V) (n : String) : Prop := TyX K H v (.type n) ∧ n ∈ kinds
theorem Kn.int (K : PySem.W.Frag) (H : Hp) (i : Int) : Kn K H (.int i) "int" := ⟨.base (.int i), by decide⟩
theorem Kn.non (K : PySem.W.Frag) (H : Hp) : Kn K H .non "NoneType" := ⟨.base .non, by decide⟩
theorem Kn.bl (K : PySem.W.Frag) (H : Hp) (b : Bool) : Kn K H (.bl b) "bool" := ⟨.base (.bl b), by decide⟩
theorem Kn.str (K : PySem.W.Frag) (H : Hp) (x : Str) : Kn K H (.str x) "str" := ⟨.base (.str x), by decide⟩
theorem Kn.same {K : PySem.W.Frag} {H H' : Hp} {v : V} {n : String} (s : Same H H') (h : Kn K H v n) : Kn K H' v n := by
  refine ⟨?_, h.2⟩
  cases h.1 with
  | base b =>
    refine .base ?_
    cases b with
    | non => exact .non
    | bl y => exact .bl y
    | int i => exact .int i
    | str y => exact .str y
    | lst e => exact .lst (s _ _ e)
    | frz e => exact .frz (s _ _ e)
    | tup e => exact .tup (s _ _ e)
    | dK e => exact .dK (s _ _ e)
    | dT e => exact .dT (s _ _ e)
    | flt y => exact .flt y
  | byt b => exact .byt b
  | set e => exact .set (s _ _ e)
  | kList e c => exact .kList e c
  | kTuple e c => exact .kTuple e c
  | kDict e c => exact .kDict e c
  | fTuple e => exact .fTuple (s _ _ e)
  | fDict e => exact .fDict (s _ _ e)
theorem Kn.lst {K : PySem.W.Frag} {H : Hp} {a : Addr} {xs : List V} (h : SqL K H a xs) : Kn K H (.ref a) "list" := by
  refine ⟨?_, by decide⟩
  rcases h with (h | ⟨o, h⟩) | ⟨oo, vs, n, h1, h2, h3⟩
  · exact .base (.lst h)
  · exact .base (.frz h)
  · exact .kList h1 h2
/-- an int is the one kind that is no reference but an int -/
theorem Kn.isInt {K : PySem.W.Frag} {H : Hp} {v : V} (h : Kn K H v "int") : ∃ i, v = .int i := by
  have h1 := h.1
  generalize e : Value.type "int" = t at h1
  cases h1 with
  | base b =>
    cases b with
    | int i => exact ⟨i, rfl⟩
    | ins => cases e
    | _ => injection e with e; exact absurd e (by decide)
  | _ => injection e with e; exact absurd e (by decide)
theorem Kn.intOf {K : PySem.W.Frag} {H : Hp} {i : Int} {n : String} (h : Kn K H (.int i) n) : n = "int" := by
  have h1 := h.1
  generalize e : Value.type n = t at h1
  generalize e2 : V.int i = v at h1
  cases h1 with
  | base b =>
    cases b with
    | int i => cases e; rfl
    | _ => cases e2
  | _ => cases e2
theorem kit_kinds {K : PySem.W.Frag} {n m : String} (hn : n ∈ kinds) (hm : m = "int" ∨ m = "bool" ∨ m = "list") : PySem.W.kitOne K (.type n) (.type m) = some (n == m || (n == "bool" && m == "int")) := by
  have hn' : n = "NoneType" ∨ n = "bool" ∨ n = "int" ∨ n = "str" ∨ n = "list" ∨ n = "tuple" ∨ n = "dict" := by simpa [kinds] using hn
  rcases hn' with rfl | rfl | rfl | rfl | rfl | rfl | rfl <;> rcases hm with rfl | rfl | rfl <;> exact kit_ty (by decide +kernel)
end Gs


/-! Data that == reads; heaps that stay but at one place. -/
namespace Gs
open PySem PySem.Spec PyProof.Rows L2
variable {K : PySem.W.Frag} {H H' : Hp}
theorem sqT_same {a : Addr} {xs : List V} (e : Same H H') (h : SqT K H a xs) : SqT K H' a xs := by
  rcases h with (h | ⟨o, h⟩) | h
  · exact .inl (.inl (e _ _ h))
  · exact .inl (.inr ⟨o, e _ _ h⟩)
  · exact .inr h
mutual
theorem dp_same (e : Same H H') : ∀ (d : PyData) (v : V), Dp K H v d → Dp K H' v d
  | .none, _, h => by cases h; exact .non
  | .bool b, _, h => by cases h; exact .bl b
  | .int i, _, h => by cases h; exact .int i
  | .str x, _, h => by cases h; exact .str x
  | .list ds, _, h => by
    cases h with
    | lst hs ha => exact .lst (e.seq hs) (dpAll_same e ds _ ha)
  | .tuple ds, _, h => by
    cases h with
    | tup hs ha => exact .tup (sqT_same e hs) (dpAll_same e ds _ ha)
  | .dict _, _, h => by cases h
theorem dpAll_same (e : Same H H') : ∀ (ds : List PyData) (vs : List V), DpAll K H vs ds → DpAll K H' vs ds
  | [], _, h => by cases h; exact .nil
  | d :: ds, _, h => by
    cases h with
    | cons a b => exact .cons (dp_same e d _ a) (dpAll_same e ds _ b)
end
/-- data that == and != compare: no dict within, not deep -/
def Dq (K : PySem.W.Frag) (H : Hp) (v : V) (d : PyData) : Prop := Dp K H v d ∧ d.canLay0 = true ∧ d.depth ≤ 20
theorem Dq.same {v : V} {d : PyData} (e : Same H H') (h : Dq K H v d) : Dq K H' v d := ⟨dp_same e d v h.1, h.2⟩
theorem Dq.shaped {v : V} {d : PyData} (h : Dq K H v d) : SeqAt.shaped d = true := by
  unfold SeqAt.shaped
  rw [h.2.1, Bool.true_and]
  exact decide_eq_true (Nat.le_trans h.2.2 (by decide))
theorem eq_of {x y : V} {d e : PyData} {Q : VK} (h : Dq K H x d) (h' : Dq K H y e) (q : Q (.bl (PyData.eqv d e)) H) : rEqD K x y H Q := ⟨d, e, h.1, h'.1, h.shaped, h'.shaped, q⟩
theorem ne_of' {x y : V} {d e : PyData} {Q : VK} (h : Dq K H x d) (h' : Dq K H y e) (q : Q (.bl (!PyData.eqv d e)) H) : rNeD K x y H Q := ⟨d, e, h.1, h'.1, h.shaped, h'.shaped, q⟩
/-- a list of such data -/
theorem dq_all {xs : List V} (h : ∀ x ∈ xs, ∃ d, Dp K H x d ∧ d.canLay0 = true ∧ d.depth ≤ 18) : ∃ ds, DpAll K H xs ds ∧ ds.length = xs.length ∧ PyData.canLayAll0 ds = true ∧ PyData.depthAll ds ≤ 18 := by
  induction xs with
  | nil => exact ⟨[], .nil, rfl, by simp [PyData.canLayAll0], by simp [PyData.depthAll]⟩
  | cons x r ih =>
    obtain ⟨d, h1, h2, h3⟩ := h x List.mem_cons_self
    obtain ⟨ds, g1, g2, g3, g4⟩ := ih fun y hy => h y (List.mem_cons_of_mem _ hy)
    refine ⟨d :: ds, .cons h1 g1, by simp [g2], by simp [PyData.canLayAll0, h2, g3], ?_⟩
    simp only [PyData.depthAll]
    omega
theorem dq_list {a : Addr} {xs : List V} {ds : List PyData} (s : SqL K H a xs) (h : DpAll K H xs ds) (c : PyData.canLayAll0 ds = true) (z : PyData.depthAll ds ≤ 19) : Dq K H (.ref a) (.list ds) :=
  ⟨.lst s h, by simpa [PyData.canLay0] using c, by simp only [PyData.depth]; omega⟩
theorem dq_tuple {a : Addr} {xs : List V} {ds : List PyData} (s : SqT K H a xs) (h : DpAll K H xs ds) (c : PyData.canLayAll0 ds = true) (z : PyData.depthAll ds ≤ 19) : Dq K H (.ref a) (.tuple ds) :=
  ⟨.tup s h, by simpa [PyData.canLay0] using c, by simp only [PyData.depth]; omega⟩
/-- a list of ints -/
def dI (l : List Int) : PyData := .list (l.map .int)
theorem dpAll_ints : ∀ l : List Int, DpAll K H (l.map V.int) (l.map .int)
  | [] => .nil
  | i :: r => .cons (.int i) (dpAll_ints r)
theorem lay_ints : ∀ l : List Int, PyData.canLayAll0 (l.map .int) = true
  | [] => by simp [PyData.canLayAll0]
  | i :: r => by simp [PyData.canLayAll0, PyData.canLay0, lay_ints r]
theorem depth_ints : ∀ l : List Int, PyData.depthAll (l.map .int) = 0
  | [] => by simp [PyData.depthAll]
  | i :: r => by simp [PyData.depthAll, PyData.depth, depth_ints r]
theorem dq_ints {a : Addr} {l : List Int} (s : SqL K H a (l.map V.int)) : Dq K H (.ref a) (dI l) := dq_list s (dpAll_ints l) (lay_ints l) (by rw [depth_ints]; omega)
theorem eqvAll_ints : ∀ l l' : List Int, PyData.eqvAll (l.map .int) (l'.map .int) = decide (l = l')
  | [], [] => by simp [PyData.eqvAll]
  | [], _ :: _ => by simp [PyData.eqvAll]
  | _ :: _, [] => by simp [PyData.eqvAll]
  | i :: r, j :: r' => by
    simp only [List.map_cons, PyData.eqvAll, PyData.eqv, eqvAll_ints r r', List.cons.injEq]
    by_cases h1 : i = j <;> by_cases h2 : r = r' <;> simp [h1, h2]
theorem eqv_ints (l l' : List Int) : PyData.eqv (dI l) (dI l') = decide (l = l') := by
  simp only [dI, PyData.eqv]
  exact eqvAll_ints l l'
theorem eqv_nil (ds : List PyData) : PyData.eqv (.list ds) (.list []) = ds.isEmpty := by
  cases ds <;> simp [PyData.eqv, PyData.eqvAll]
theorem dq_nil {a : Addr} (s : SqL K H a []) : Dq K H (.ref a) (.list []) := dq_list s .nil (by simp [PyData.canLayAll0]) (by simp [PyData.depthAll])
/-! ### heaps: all but the list at g -/
def Sg (g : Addr) (H H' : Hp) : Prop := ∀ b o, b ≠ g → H b = some o → H' b = some o
theorem Sg.refl (g : Addr) (H : Hp) : Sg g H H := fun _ _ _ h => h
theorem Sg.trans {g : Addr} {H H1 H2 : Hp} (a : Sg g H H1) (b : Sg g H1 H2) : Sg g H H2 := fun c o n h => b c o n (a c o n h)
theorem _root_.L2.Same.sg {H H' : Hp} (g : Addr) (s : Same H H') : Sg g H H' := fun b o _ h => s b o h
theorem same_upd {H : Hp} {p : Addr} {o : HO} (h : H p = none) : Same H (upd H p o) := fun b x e => by
  rw [upd_ne (ne_of_none e h)]
  exact e
/-- writing at an address that was not tracked at H -/
theorem same_put {H H1 : Hp} {p : Addr} {o : HO} (s : Same H H1) (h : H p = none) : Same H (upd H1 p o) := fun b x e => by
  rw [upd_ne (ne_of_none e h)]
  exact s b x e
theorem sg_put {g : Addr} {H H1 : Hp} {p : Addr} {o : HO} (s : Sg g H H1) (h : H p = none) : Sg g H (upd H1 p o) := fun b x n e => by
  rw [upd_ne (ne_of_none e h)]
  exact s b x n e
theorem sg_gen {g : Addr} {H H1 : Hp} {o : HO} (s : Sg g H H1) : Sg g H (upd H1 g o) := fun b x n e => by
  rw [upd_ne n]
  exact s b x n e
theorem sqL_upd {p : Addr} {xs : List V} : SqL K (upd H p (.lst xs)) p xs := .inl (.inl upd_same)
theorem sqL_of {p : Addr} {xs : List V} (h : H p = some (.lst xs)) : SqL K H p xs := .inl (.inl h)
theorem sqT_of {p : Addr} {xs : List V} (h : H p = some (.tup xs)) : SqT K H p xs := .inl (.inl h)
end Gs


/-! is_whole, is_between, is_row_list, check_row. -/
namespace Gs
open PySem PySem.Spec PyProof.Rows L2
theorem sc_is_whole : FnScope ["value"] ["value"] (defScope (top 9)) := ⟨rfl, rfl, rfl, by decide +kernel, rfl, by decide +kernel, by decide +kernel⟩
theorem sc_is_between : FnScope ["value", "low", "high"] ["value", "low", "high"] (defScope (top 10)) := ⟨rfl, rfl, rfl, by decide +kernel, rfl, by decide +kernel, by decide +kernel⟩
theorem sc_is_row_list : FnScope ["value", "item"] ["value"] (defScope (top 11)) := ⟨rfl, rfl, rfl, by decide +kernel, rfl, by decide +kernel, by decide +kernel⟩
theorem sc_check_row : FnScope ["row"] ["row"] (defScope (top 12)) := ⟨rfl, rfl, rfl, by decide +kernel, rfl, by decide +kernel, by decide +kernel⟩
section
variable {P : Program} {w : World} {K : PySem.W.Frag} {mg : Str → Option Value} {base : Heap}
def spWhole (K : PySem.W.Frag) : Sp := fun vs H Q _ => ∃ v n, vs = [v] ∧ Kn K H v n ∧ Q (.bl (n == "int")) H
theorem cl_whole (D : De K mg "is_whole" (top 9)) (Bn : Bns mg) : Cl P w K mg base CX0 1 "is_whole" (spWhole K) := by
  refine cl0 D sc_is_whole (fun vs H Q E ⟨v, n, e, _⟩ => by rw [e]; rfl) (fun _ _ _ _ _ _ us hl => match us, hl with | [_], _ => rfl) (fun f cdv A outer s H vs Q E hr h => ?_)
  obtain ⟨v, n, rfl, kn, q⟩ := h
  refine ⟨_, (pss_one (ps_ret (pe_and (pe_callB call_isi (by rfl) Bn.isinstance bt_isinstance (pa_cons (pv 0) (pa_cons (pe_bltn (by rfl) Bn.int bt_int (v := .ty "int") rfl) pa_nil))) (pe_one (pe_not (pe_callB call_isi (by rfl) Bn.isinstance bt_isinstance (pa_cons (pv 0) (pa_cons (pe_bltn (by rfl) Bn.bool bt_bool (v := .ty "bool") rfl) pa_nil)))))))), ?_⟩
  refine ⟨v, rfl, v, _, _, _, _, rfl, .ty "int", kn.1, kit_kinds kn.2 (.inl rfl), _, rfl, ?_⟩
  have hn := kn.2
  by_cases c : (n == "int" || (n == "bool" && "int" == "int")) = true
  · rw [if_pos c]
    refine ⟨v, rfl, v, _, _, _, _, rfl, .ty "bool", kn.1, kit_kinds kn.2 (.inr (.inl rfl)), _, rfl, ?_⟩
    have e : (!(n == "bool" || (n == "bool" && "bool" == "int"))) = (n == "int") := by
      simp only [Bool.or_eq_true, beq_iff_eq, Bool.and_eq_true] at c
      rcases c with c | ⟨c, _⟩ <;> subst c <;> decide
    rw [e]
    exact q
  · rw [if_neg c]
    have e : (n == "int") = false := by
      simp only [Bool.or_eq_true, not_or, Bool.not_eq_true] at c
      exact c.1
    rw [e] at q
    exact q
/-- what is_between tells -/
def bt (v : V) (lo hi : Option Int) : Bool :=
  match v with
  | .int i => lo.all (fun l => decide (l ≤ i)) && hi.all (fun h => decide (i ≤ h))
  | _ => false
def spBtw (K : PySem.W.Frag) : Sp := fun vs H Q _ => ∃ v n lo hi, vs = [v, oV lo, oV hi] ∧ Kn K H v n ∧ Q (.bl (bt v lo hi)) H
theorem cl_between (D : De K mg "is_between" (top 10)) (c_is_whole : Cl P w K mg base CX0 1 "is_whole" (spWhole K)) : Cl P w K mg base CX0 2 "is_between" (spBtw K) := by
  refine cl0 D sc_is_between (fun vs H Q E ⟨v, n, lo, hi, e, _⟩ => by rw [e]; rfl) (fun _ _ _ _ _ _ us hl => match us, hl with | [_, _, _], _ => rfl) (fun f cdv A outer s H vs Q E hr h => ?_)
  obtain ⟨v, n, lo, hi, rfl, kn, q⟩ := h
  refine ⟨_, (pss_cons (ps_if (pt_not (pt_val (pe_cl c_is_whole hr (by decide) (by rfl) pass0 (pa_cons (pv 0) pa_nil))))
  (pss_one (ps_ret pe_bl))
  pss_nil)
  (pss_one (ps_ret (pe_and (pe_or (pe_cmpR op_isN (pv 1) pe_non (nomark _)) (pe_one (pe_cmpR op_ge (pv 0) (pv 1) (nomark _)))) (pe_one (pe_or (pe_cmpR op_isN (pv 2) pe_non (nomark _)) (pe_one (pe_cmpR op_le (pv 0) (pv 2) (nomark _))))))))), ?_⟩
  refine ⟨v, rfl, v, n, rfl, kn, _, rfl, ?_⟩
  by_cases c : n = "int"
  · subst c
    obtain ⟨i, rfl⟩ := kn.isInt
    refine iteF ?_
    have q' : Q (.bl (lo.all (fun l => decide (l ≤ i)) && hi.all (fun h => decide (i ≤ h)))) H := q
    cases lo with
    | none =>
      refine ⟨.non, rfl, rfl, _, rfl, iteT ⟨_, rfl, iteT ?_⟩⟩
      cases hi with
      | none => exact ⟨.non, rfl, rfl, _, rfl, iteT q'⟩
      | some l =>
        refine ⟨.int l, rfl, rfl, _, rfl, ?_⟩
        rw [if_neg (by simp)]
        refine ⟨.int i, rfl, .int l, rfl, i, l, rfl, rfl, ?_⟩
        simpa using q'
    | some l0 =>
      refine ⟨.int l0, rfl, rfl, _, rfl, ?_⟩
      rw [if_neg (by simp)]
      refine ⟨.int i, rfl, .int l0, rfl, i, l0, rfl, rfl, _, rfl, ?_⟩
      by_cases c0 : l0 ≤ i
      · rw [if_pos (decide_eq_true c0)]
        cases hi with
        | none =>
          refine ⟨.non, rfl, rfl, _, rfl, iteT ?_⟩
          simpa [c0] using q'
        | some l =>
          refine ⟨.int l, rfl, rfl, _, rfl, ?_⟩
          rw [if_neg (by simp)]
          refine ⟨.int i, rfl, .int l, rfl, i, l, rfl, rfl, ?_⟩
          simpa [c0] using q'
      · rw [if_neg (by simpa using c0)]
        simpa [c0] using q'
  · have e : (n == "int") = false := by simpa using c
    rw [e]
    refine iteT ?_
    have e2 : bt v lo hi = false := by
      cases v with
      | int i => exact absurd kn.intOf c
      | _ => rfl
    rw [e2] at q
    exact q
/-- handed about: its kind is known, == reads it -/
def El (K : PySem.W.Frag) (H : Hp) (v : V) : Prop := (∃ n, Kn K H v n) ∧ ∃ d, Dp K H v d ∧ d.canLay0 = true ∧ d.depth ≤ 18
theorem El.same {H H' : Hp} {v : V} (s : Same H H') (h : El K H v) : El K H' v := ⟨let ⟨n, k⟩ := h.1; ⟨n, k.same s⟩, let ⟨d, a, b⟩ := h.2; ⟨d, dp_same s d v a, b⟩⟩
theorem El.int {H : Hp} (i : Int) : El K H (.int i) := ⟨⟨_, Kn.int K H i⟩, _, .int i, by simp [PyData.canLay0], by simp [PyData.depth]⟩
def rowOk (xs : List V) : Bool := decide (xs.length ≤ 200) && xs.all fun x => bt x (some 0) none
def spRowL (K : PySem.W.Frag) : Sp := fun vs H Q _ => ∃ v, vs = [v] ∧ ((∃ n, Kn K H v n ∧ n ≠ "list" ∧ Q (.bl false) H) ∨
  ∃ a xs, v = .ref a ∧ SqL K H a xs ∧ (∀ x ∈ xs, El K H x) ∧ ∀ H', Same H H' → Q (.bl (rowOk xs)) H')
theorem cl_rowlist (D : De K mg "is_row_list" (top 11)) (Bn : Bns mg) (gMOST_LENGTH : Cn mg "MOST_LENGTH" 200) (c_is_between : Cl P w K mg base CX0 2 "is_between" (spBtw K)) : Cl P w K mg base CX0 3 "is_row_list" (spRowL K) := by
  refine cl0 D sc_is_row_list (fun vs H Q E ⟨v, e, _⟩ => by rw [e]; rfl) (fun _ _ _ _ _ _ us hl => match us, hl with | [_], _ => rfl) (fun f cdv A outer s H vs Q E hr h => ?_)
  obtain ⟨v, rfl, q⟩ := h
  have hu64 := hu64_of hr
  refine ⟨_, (pss_cons (ps_if (PW.pt (pw_or (pt_not (pt_val (pe_callB call_isi (by rfl) Bn.isinstance bt_isinstance (pa_cons (pv 0) (pa_cons (pe_bltn (by rfl) Bn.list bt_list (v := .ty "list") rfl) pa_nil))))) (pw_or1 (pt_cmpR op_gt (pe_callB call_len (by rfl) Bn.len bt_len (pa_cons (pv 0) pa_nil)) (pe_cn (by rfl) gMOST_LENGTH) (nomark _)))))
  (pss_one (ps_ret pe_bl))
  pss_nil)
  (pss_one (ps_ret (pe_cmpR (op_eqD hu64) (pe_lc rfl sc_is_row_list.nd (pi_list (pv 0)) (own := [("item", 1)]) (by refine blkOk_by ?_; show blkC ["value", "item"] (defScope (top 11)) _ [("item", 1)] = true; decide +kernel) (fun _ _ _ _ _ => (pg_name (i := 1) sc_is_row_list.nd rfl (.inl rfl))) (fun _ _ _ _ _ => (pts_one (pt_not (pt_val (pe_cl c_is_between hr (by decide) (by rfl) pass0 (pa_cons (pv 1) (pa_cons pe_int (pa_cons pe_non pa_nil)))))))) (fun _ _ _ _ _ => (pv 1))) (pe_lst pa_nil) (nomark _))))), ?_⟩
  have kb : ∀ n : String, (n == "list" || (n == "bool" && "list" == "int")) = (n == "list") := fun n => by
    have e : (("list" : String) == "int") = false := by decide
    rw [e, Bool.and_false, Bool.or_false]
  rcases q with ⟨n, kn, c, q⟩ | ⟨a, xs, rfl, hS, hE, q⟩
  · refine ⟨v, rfl, v, _, _, _, _, rfl, .ty "list", kn.1, kit_kinds kn.2 (.inr (.inr rfl)), _, rfl, ?_⟩
    rw [kb, show (n == "list") = false by simpa using c]
    exact iteT (iteT q)
  · have kn := Kn.lst hS
    refine ⟨.ref a, rfl, .ref a, _, _, _, _, rfl, .ty "list", kn.1, kit_kinds kn.2 (.inr (.inr rfl)), _, rfl, ?_⟩
    refine iteF ?_
    refine ⟨.ref a, rfl, _, xs.length, rfl, .inl ⟨xs, hS, rfl⟩, _, _, rfl, rfl, _, rfl, ?_⟩
    by_cases c : xs.length ≤ 200
    · rw [show decide ((200 : Int) < (xs.length : Int)) = false by simp; omega]
      refine iteF ?_
      have qH : ∀ H', Same H H' → Q (.bl (xs.all fun x => bt x (some 0) none)) H' := fun H' s => by
        have := q H' s
        unfold rowOk at this
        rw [decide_eq_true c, Bool.true_and] at this
        exact this
      have eEmp : ∀ ys : List V, (ys.filter fun x => !bt x (some 0) none).isEmpty = ys.all fun x => bt x (some 0) none := fun ys => by
        induction ys with
        | nil => rfl
        | cons y r ih => by_cases h : bt y (some 0) none = true <;> simp [List.filter_cons, h, ih]
      refine ⟨.ref a, rfl, a, rfl, ⟨xs, hS⟩, fun D hD => ?_⟩
      refine lc_list (xs := xs) (fun i H1 => Same H H1 ∧ H1 D = some (.lst ((xs.take i).filter fun x => !bt x (some 0) none))) ⟨same_upd hD, by rw [upd_same]; rfl⟩ (fun i H1 _ p => p.1.seq hS) (fun i x H1 hx p => ?_) (fun H1 p => ?_)
      · obtain ⟨sm, hl⟩ := p
        have hm : x ∈ xs := List.mem_of_getElem? hx
        obtain ⟨m, km⟩ := (hE x hm).1
        refine ⟨rfl, x, rfl, x, m, some 0, none, rfl, km.same sm, _, rfl, ?_⟩
        have et : xs.take (i + 1) = xs.take i ++ [x] := by rw [List.take_add_one, hx]; rfl
        by_cases cb : bt x (some 0) none = true
        · rw [cb]
          refine iteF ⟨sm, ?_⟩
          rw [et, List.filter_append, List.filter_cons, if_neg (by simp [cb]), List.filter_nil, List.append_nil]
          exact hl
        · rw [show bt x (some 0) none = false by simpa using cb]
          refine iteT ⟨x, rfl, _, hl, ?_, same_put sm hD, ?_⟩
          · refine Nat.lt_of_le_of_lt (List.length_filter_le _ _) (small1000 ?_)
            rw [List.length_take]; omega
          · rw [upd_same, et, List.filter_append, List.filter_cons, if_pos (by simp [cb]), List.filter_nil]
      · obtain ⟨sm, hl⟩ := p
        rw [List.take_length] at hl
        refine ⟨Nat.zero_le _, fun E nE => ?_⟩
        have sm2 : Same H (upd H1 E (.lst [])) := same_put sm (sm.free nE)
        obtain ⟨ds, g1, g2, g3, g4⟩ := dq_all (K := K) (H := upd H1 E (.lst [])) (xs := xs.filter fun x => !bt x (some 0) none) fun x hx => ((hE x (List.mem_filter.mp hx).1).same sm2).2
        have hD2 : SqL K (upd H1 E (.lst [])) D (xs.filter fun x => !bt x (some 0) none) := sqL_of (by rw [upd_ne (ne_of_none hl nE)]; exact hl)
        refine eq_of (dq_list hD2 g1 g3 (by omega)) (dq_nil sqL_upd) ?_
        rw [eqv_nil]
        have e3 : ds.isEmpty = (xs.filter fun x => !bt x (some 0) none).isEmpty := by
          cases ds with
          | nil => cases hh : xs.filter (fun x => !bt x (some 0) none) with
            | nil => rfl
            | cons y r => rw [hh] at g2; simp at g2
          | cons d r => cases hh : xs.filter (fun x => !bt x (some 0) none) with
            | nil => rw [hh] at g2; simp at g2
            | cons y r => rfl
        rw [e3, eEmp]
        exact qH _ sm2
    · rw [show decide ((200 : Int) < (xs.length : Int)) = true by simp; omega]
      refine iteT ?_
      have e2 : rowOk xs = false := by simp [rowOk, c]
      rw [e2] at q
      exact q H (Same.refl H)
/-! ### the errors that leave -/
/-- the class D's error with the value v, made at some fresh place -/
def Ex (D : Addr) (v : V) (H : Hp) (E : XK) : Prop := ∀ H1 d, Same H H1 → H1 d = none → E (.ref D) (some d) (upd H1 d (.xd [(("value" : Str), v)]))
def spChkRow (K : PySem.W.Frag) (D : Addr) : Sp := fun vs H Q E => ∃ v, vs = [v] ∧ ((∃ n, Kn K H v n ∧ n ≠ "list" ∧ Ex D v H E) ∨
  ∃ a xs, v = .ref a ∧ SqL K H a xs ∧ (∀ x ∈ xs, El K H x) ∧ if rowOk xs = true then ∀ H', Same H H' → Q .non H' else Ex D v H E)
theorem cl_checkrow {D fI cda cc : Addr} (De : De K mg "check_row" (top 12)) (TInvalidRow : Gx.Txt P K mg "InvalidRow" "InvalidRow.__init__" D fI cda cc) (c_is_row_list : Cl P w K mg base CX0 3 "is_row_list" (spRowL K)) :
    Cl P w K mg base (L2.CX P w) 4 "check_row" (spChkRow K D) := by
  refine clX De sc_check_row (fun vs H Q E ⟨v, e, _⟩ => by rw [e]; rfl) (fun _ _ _ _ _ _ us hl => match us, hl with | [_], _ => rfl) (fun f cdv A outer s H vs Q E hr h => ?_)
  obtain ⟨v, rfl, q⟩ := h
  refine ⟨_, (pss_one (ps_if (pt_not (pt_val (pe_cl c_is_row_list hr (by decide) (by rfl) pass0 (pa_cons (pv 0) pa_nil))))
  (pss_one (Gx.ps_raiseV rfl TInvalidRow hr (takes_of rfl rfl rfl rfl) (pa_cons (pv 0) pa_nil)))
  pss_nil)), ?_⟩
  rcases q with ⟨n, kn, c, q⟩ | ⟨a, xs, rfl, hS, hE, q⟩
  · refine ⟨v, rfl, v, rfl, .inl ⟨n, kn, c, _, rfl, iteT ?_⟩⟩
    exact ⟨v, rfl, v, rfl, fun d nd => q H d (Same.refl H) nd⟩
  · refine ⟨.ref a, rfl, _, rfl, .inr ⟨a, xs, rfl, hS, hE, fun H' s => ⟨_, rfl, ?_⟩⟩⟩
    by_cases c : rowOk xs = true
    · rw [if_pos c] at q
      rw [c]
      exact iteF (q H' s)
    · rw [if_neg c] at q
      rw [show rowOk xs = false by simpa using c]
      exact iteT ⟨.ref a, rfl, _, rfl, fun d nd => q H' d s nd⟩
end
end Gs


/-! Objects of the class Lets as they are asked; check_lets, exchanged, row_behind, led_by. -/
namespace Gs
open PySem PySem.Spec PyProof.Rows L2
theorem sc_check_lets : FnScope ["lets"] ["lets"] (defScope (top 17)) := ⟨rfl, rfl, rfl, by decide +kernel, rfl, by decide +kernel, by decide +kernel⟩
theorem sc_Lets___contains__ : FnScope ["self", "value"] ["self", "value"] (defScope (inClass (top 16) 4)) := ⟨rfl, rfl, rfl, by decide +kernel, rfl, by decide +kernel, by decide +kernel⟩
theorem sc_exchanged : FnScope ["lets", "first", "second"] ["lets", "first", "second"] (defScope (top 19)) := ⟨rfl, rfl, rfl, by decide +kernel, rfl, by decide +kernel, by decide +kernel⟩
theorem sc_row_behind : FnScope ["lets", "row", "at", "pair"] ["lets", "row", "at"] (defScope (top 20)) := ⟨rfl, rfl, rfl, by decide +kernel, rfl, by decide +kernel, by decide +kernel⟩
theorem sc_led_by : FnScope ["lets", "row", "places", "found", "at", "further"] ["lets", "row", "places"] (defScope (top 21)) := ⟨rfl, rfl, rfl, by decide +kernel, rfl, by decide +kernel, by decide +kernel⟩
theorem itT {b : Bool} {A B : Prop} (h : b = true) (q : A) : if b = true then A else B := by rw [if_pos h]; exact q
theorem itF {b : Bool} {A B : Prop} (h : b = false) (q : B) : if b = true then A else B := by rw [if_neg (by rw [h]; decide)]; exact q
/-- what the text says of the class -/
structure LetsC (K : PySem.W.Frag) (mg : Str → Option Value) (CL : Addr) : Prop where
  cl : Cls K CL
  gL : mg "Lets" = some (.ref CL)
  nH : NoAttr K CL "_held"
  nS : NoAttr K CL "_start"
  ha : PySem.W.findIn K (.ref CL) "__class__" = some (some (.builtin "object.__class__"))
  hn : PySem.W.specialIn K (.builtin "object.__class__") "__get__" = some (some (.builtin "getset_descriptor.__get__"))
  htk : PySem.W.takesIn K (.builtin "object.__class__") = some true
  hm : PySem.W.mroIn K CL (.type "object") = some true
  ty : PySem.W.typeIn K (.ref CL) = some (.type "type")
/-- a method of it -/
structure Me (K : PySem.W.Frag) (C : Addr) (m qual : Str) (st : Stmt) : Prop where
  ex : ∃ f fd, Fun K m qual st f fd ∧ Meth K C m f
structure ClM (P : Program) (w : World) (K : PySem.W.Frag) (mg : Str → Option Value) (base : Heap) (CX : CXT) (k : Nat) (C : Addr) (m : Str) (sp : Sp) : Prop where
  ex : ∃ f fd ps, FnOk P w K mg base CX k f fd ps sp ∧ Meth K C m f ∧ Binds K fd ps []
section
variable {P : Program} {w : World} {K : PySem.W.Frag} {mg : Str → Option Value} {base : Heap} {C : Addr} {x q : Str} {st : Stmt} {N ps : List Str} {k : Nat} {sp : Sp}
theorem clM0 (D : Me K C x q st) (S : FnScope N ps (defScope st)) (len : ∀ vs H Q E, sp vs H Q E → vs.length = ps.length)
    (hbind : ∀ (kV doc pm : Value) (an : Option Addr) (cdv ct : Value) (us : List Value), us.length = ps.length → bindArgs (PySem.W.fnOf x q (defArgs st) (defBody st) (defScope st) .none kV doc pm an cdv ct) ⟨us, []⟩ = pure (ps.zip us))
    (hbody : ∀ (f : Addr) (cdv : Value) (A : Around) (outer : List Env) (s : Shared) (H : Hp) (vs : List V) (Q : VK) (E : XK), Room k (A.deeper (envOfC q (defScope st) s.heap.objs.size f cdv)) → sp vs H Q E →
      ∃ t, PSs (cxOf CX0 P w K mg base N q (defScope st) f cdv A outer s H E).nox (defBody st) t ∧ t { nx := fun _ H' => Q .non H', rt := Q } (start N vs) H) : ClM P w K mg base CX0 (k + 1) C x sp := by
  obtain ⟨f, fd, F, hm⟩ := D.ex
  exact ⟨f, fd, ps, F.ok S len (hbody f), hm, F.binds hbind⟩
end
section
variable {X : Cx} {CX : CXT} {k j : Nat} {C : Addr} {m : Str} {sp : Sp} {E : XK} {p pos apos : Pos} {o e : Expr} {es : List Expr} {ta : TE} {t : TA}
theorem pe_m0 {pl : Sem Bool} (c : ClM X.prog X.w X.K X.mg X.base CX k C m sp) (lc : Cls X.K C) (hr : Room j X.A) (hk : k ≤ j) (hx : Passes CX X E) (he : PE X o ta)
    (ht : eval (.Call (.Attribute o m apos) [] [] pos) X.env = (do
      let ov ← eval o X.env
      standAt apos.atName
      let (f, first) ← holding [ov] (getMethod ov m pl)
      callWith pos f first (backTo pos (starEach [] X.env)) (backToKw pos (keywordEach [] X.env))) := by rfl) :
    PE X (.Call (.Attribute o m apos) [] [] pos) (tMeth C m sp [] E ta tNil) := by
  obtain ⟨f, fd, ps, F, hm, b⟩ := c.ex
  exact pe_meth0 (pl := pl) he lc hm F (hr.mono hk) b .nil hx ht
theorem pe_m1 {pl : Sem Bool} (c : ClM X.prog X.w X.K X.mg X.base CX k C m sp) (lc : Cls X.K C) (hr : Room j X.A) (hk : k ≤ j) (hx : Passes CX X E) (he : PE X o ta) (ha : PA X (e :: es) t)
    (hst : starEach (e :: es) X.env = (false, eval e X.env) :: starEach es X.env := by rfl) (hpl : (backTo pos (starEach es X.env)).any (·.1) = false := by rfl)
    (ht : eval (.Call (.Attribute o m apos) (e :: es) [] pos) X.env = (do
      let ov ← eval o X.env
      standAt apos.atName
      let (f, first) ← holding [ov] (getMethod ov m pl)
      callWith pos f first (backTo pos (starEach (e :: es) X.env)) (backToKw pos (keywordEach [] X.env))) := by rfl) :
    PE X (.Call (.Attribute o m apos) (e :: es) [] pos) (tMeth C m sp [] E ta t) := by
  obtain ⟨f, fd, ps, F, hm, b⟩ := c.ex
  exact pe_meth (pl := pl) he lc hm F (hr.mono hk) b .nil hx ha hst hpl ht
theorem op_inM (c : ClM X.prog X.w X.K X.mg X.base CX k C "__contains__" sp) (hr : Room j X.A) (hk : k ≤ j) (hx : Passes CX X E) : OpR X (compareOp .In) (Gr.rInOwn C sp E) := by
  obtain ⟨f, fd, ps, F, hm, b⟩ := c.ex
  exact Gr.op_inOwn hm.at_ hm.fn F (hr.mono hk) b hx
end
/-- a value of a built-in kind is no Lets -/
theorem kit_lets {K : PySem.W.Frag} {mg : Str → Option Value} {CL : Addr} (L : LetsC K mg CL) {n : String} (hn : n ∈ kinds) : PySem.W.kitOne K (.type n) (.ref CL) = some false := by
  obtain ⟨cd, hc, _⟩ := PySem.W.any_some L.cl.hd
  have n1 : ¬ ((Value.type n == Value.ref CL) = true) := fun q => by cases beq_iff_eq.mp q
  unfold PySem.W.kitOne
  rw [if_neg n1]
  show (if ((PySem.W.clsIn K CL).isSome && PySem.W.typeIn K (.ref CL) == some (.type "type")) = true then PySem.W.subIn K (.type n) (.ref CL) else none) = some false
  have e2 : ((PySem.W.clsIn K CL).isSome && PySem.W.typeIn K (.ref CL) == some (.type "type")) = true := by rw [hc, L.ty] <;> rfl
  rw [if_pos e2]
  show (fastBuiltinMro n).map (·.contains (Value.ref CL)) = some false
  have hn' : n = "NoneType" ∨ n = "bool" ∨ n = "int" ∨ n = "str" ∨ n = "list" ∨ n = "tuple" ∨ n = "dict" := by simpa [kinds] using hn
  have go : ∀ l : List String, fastBuiltinMro n = some (l.map Value.type) → (fastBuiltinMro n).map (·.contains (Value.ref CL)) = some false := fun l e => by
    rw [e]
    show some _ = some false
    have z : ((l.map Value.type).contains (Value.ref CL)) = false := by
      rw [List.contains_eq_any_beq, List.any_eq_false]
      intro y hy
      obtain ⟨m, _, rfl⟩ := List.mem_map.mp hy
      intro q
      cases beq_iff_eq.mp q
    exact congrArg some z
  rcases hn' with rfl | rfl | rfl | rfl | rfl | rfl | rfl
  · exact go ["NoneType", "object"] (by decide +kernel)
  · exact go ["bool", "int", "object"] (by decide +kernel)
  · exact go ["int", "object"] (by decide +kernel)
  · exact go ["str", "object"] (by decide +kernel)
  · exact go ["list", "object"] (by decide +kernel)
  · exact go ["tuple", "object"] (by decide +kernel)
  · exact go ["dict", "object"] (by decide +kernel)
/-! ### an object of the class: the counts it holds, and from which on all are let -/
structure Lt (CL : Addr) (H : Hp) (a : Addr) (held : List Int) (st : Option Int) : Prop where
  ex : ∃ dx hd, H a = some (.ins CL dx [("_held", .ref hd), ("_start", oV st)]) ∧ H hd = some (.dK (held.map fun i => (.inl i, .bl true)))
  nd : held.Nodup
  pos : ∀ c ∈ held, 0 < c
  spos : ∀ s, st = some s → 0 < s
theorem Lt.same {CL : Addr} {H H' : Hp} {a : Addr} {held : List Int} {st : Option Int} (s : Same H H') (h : Lt CL H a held st) : Lt CL H' a held st :=
  ⟨let ⟨dx, hd, e1, e2⟩ := h.ex; ⟨dx, hd, s _ _ e1, s _ _ e2⟩, h.nd, h.pos, h.spos⟩
/-- what it lets -/
def letD (held : List Int) (st : Option Int) : Let := fun c => decide (c ∈ held) || st.any fun s => decide (s ≤ c)
theorem Lt.posD {CL : Addr} {H : Hp} {a : Addr} {held : List Int} {st : Option Int} (h : Lt CL H a held st) : Gs.pos (letD held st) := fun c hc => by
  unfold letD at hc
  rw [Bool.or_eq_true] at hc
  rcases hc with hc | hc
  · exact h.pos c (of_decide_eq_true hc)
  · cases st with
    | none => simp at hc
    | some s =>
      have z := h.spos s rfl
      simp at hc
      omega
section
variable {P : Program} {w : World} {K : PySem.W.Frag} {mg : Str → Option Value} {base : Heap} {CL : Addr}
def spChkL (K : PySem.W.Frag) (CL D : Addr) : Sp := fun vs H Q E => ∃ v, vs = [v] ∧ ((∃ n, Kn K H v n ∧ Ex D v H E) ∨ ∃ a dx fs, v = .ref a ∧ H a = some (.ins CL dx fs) ∧ Q .non H)
theorem cl_checklets {D fI cda cc : Addr} (De : De K mg "check_lets" (top 17)) (L : LetsC K mg CL) (Bn : Bns mg) (TInvalidLets : Gx.Txt P K mg "InvalidLets" "InvalidLets.__init__" D fI cda cc) :
    Cl P w K mg base (L2.CX P w) 1 "check_lets" (spChkL K CL D) := by
  refine clX De sc_check_lets (fun vs H Q E ⟨v, e, _⟩ => by rw [e]; rfl) (fun _ _ _ _ _ _ us hl => match us, hl with | [_], _ => rfl) (fun f cdv A outer s H vs Q E hr h => ?_)
  obtain ⟨v, rfl, q⟩ := h
  refine ⟨_, (pss_one (ps_if (pt_not (pt_val (pe_callB call_isi (by rfl) Bn.isinstance bt_isinstance (pa_cons (pv 0) (pa_cons (pe_glob (by rfl) L.gL (v := .ref CL) rfl) pa_nil)))))
  (pss_one (Gx.ps_raiseV rfl TInvalidLets hr (takes_of rfl rfl rfl rfl) (pa_cons (pv 0) pa_nil)))
  pss_nil)), ?_⟩
  rcases q with ⟨n, kn, q⟩ | ⟨a, dx, fs, rfl, e, q⟩
  · refine ⟨v, rfl, v, _, _, _, _, rfl, .own CL, kn.1, kit_lets L kn.2, _, rfl, iteT ?_⟩
    exact ⟨v, rfl, v, rfl, fun d nd => q H d (Same.refl H) nd⟩
  · have kt : PySem.W.kitOne K (.ref CL) (.ref CL) = some true := by
      unfold PySem.W.kitOne
      rw [if_pos (beq_self_eq_true _)]
    refine ⟨.ref a, rfl, .ref a, _, _, _, _, rfl, .own CL, .base (.ins e L.cl L.ha L.hn L.htk L.hm), kt, _, rfl, iteF ?_⟩
    exact q
def spIn (K : PySem.W.Frag) (CL : Addr) : Sp := fun vs H Q _ => ∃ a held st i, vs = [.ref a, .int i] ∧ Lt CL H a held st ∧ Q (.bl (letD held st i)) H
theorem valV_held (i : Int) : ∀ held : List Int, (valV (held.map fun i => ((.inl i : Key), V.bl true)) (.inl i)).isSome = decide (i ∈ held)
  | [] => rfl
  | c :: r => by
    rw [List.map_cons]
    by_cases e : c = i
    · rw [valV_pos (by rw [e])]
      simp [e]
    · rw [valV_neg (by simpa using e), valV_held i r]
      simp [Ne.symm e]
theorem cl_contains (D : Me K CL "__contains__" "Lets.__contains__" (inClass (top 16) 4)) (L : LetsC K mg CL) (c_is_whole : Cl P w K mg base CX0 1 "is_whole" (spWhole K)) : ClM P w K mg base CX0 2 CL "__contains__" (spIn K CL) := by
  refine clM0 D sc_Lets___contains__ (fun vs H Q E ⟨a, held, st, i, e, _⟩ => by rw [e]; rfl) (fun _ _ _ _ _ _ us hl => match us, hl with | [_, _], _ => rfl) (fun f cdv A outer s H vs Q E hr h => ?_)
  obtain ⟨a, held, st, i, rfl, lt, q⟩ := h
  have hu1 := hu_of hr
  refine ⟨_, (pss_cons (ps_if (pt_not (pt_val (pe_cl c_is_whole hr (by decide) (by rfl) pass0 (pa_cons (pv 1) pa_nil))))
  (pss_one (ps_ret pe_bl))
  pss_nil)
  (pss_one (ps_ret (pe_or (pe_cmp (pc_din hu1 (pv 1) (pe_fld (pv 0) rfl))) (pe_one (pe_and (pe_cmpR op_notN (pe_fld (pv 0) rfl) pe_non (nomark _)) (pe_one (pe_cmpR op_ge (pv 1) (pe_fld (pv 0) rfl) (nomark _))))))))), ?_⟩
  obtain ⟨dx, hd, e1, e2⟩ := lt.ex
  refine ⟨.int i, rfl, .int i, _, rfl, Kn.int K H i, _, rfl, iteF ?_⟩
  refine ⟨.int i, rfl, .ref a, rfl, a, CL, dx, _, .ref hd, rfl, e1, L.cl, L.nH, rfl, hd, _, rfl, DGet.k (k := .inl i) e2, _, rfl, ?_⟩
  rw [valV_held]
  have q' : Q (.bl (decide (i ∈ held) || st.any fun s => decide (s ≤ i))) H := q
  by_cases c : i ∈ held
  · rw [decide_eq_true c]
    rw [decide_eq_true c, Bool.true_or] at q'
    exact iteT q'
  · rw [decide_eq_false c]
    rw [decide_eq_false c, Bool.false_or] at q'
    refine iteF ?_
    refine ⟨.ref a, rfl, a, CL, dx, _, oV st, rfl, e1, L.cl, L.nS, rfl, rfl, _, rfl, ?_⟩
    cases st with
    | none => exact iteF q'
    | some s0 =>
      refine iteT ?_
      refine ⟨.int i, rfl, .ref a, rfl, a, CL, dx, _, .int s0, rfl, e1, L.cl, L.nS, rfl, i, s0, rfl, rfl, ?_⟩
      exact q'
def spExch (CL : Addr) : Sp := fun vs H Q _ => ∃ a held st i j, vs = [.ref a, .int i, .int j] ∧ Lt CL H a held st ∧
  match pairOf (letD held st) i j with
  | some p => ∀ H' T, Same H H' → H' T = some (.tup [.int p.1, .int p.2]) → Q (.ref T) H'
  | none => Q .non H
theorem cl_exchanged (D : De K mg "exchanged" (top 19)) (c_in : ClM P w K mg base CX0 2 CL "__contains__" (spIn K CL)) : Cl P w K mg base CX0 3 "exchanged" (spExch CL) := by
  refine cl0 D sc_exchanged (fun vs H Q E ⟨a, held, st, i, j, e, _⟩ => by rw [e]; rfl) (fun _ _ _ _ _ _ us hl => match us, hl with | [_, _, _], _ => rfl) (fun f cdv A outer s H vs Q E hr h => ?_)
  obtain ⟨a, held, st, i, j, rfl, lt, q⟩ := h
  obtain ⟨dx, hd, e1, e2⟩ := lt.ex
  have hp := lt.posD
  refine ⟨_, (pss_cons (ps_if (PW.pt (pw_and (pt_cmpR op_gt (pv 2) (pv 1) (nomark _)) (pw_and1 (pt_cmpR (op_inM c_in hr (by decide) pass0) (pe_op op_sub (pe_op op_sub (pv 2) (pv 1)) pe_int) (pv 0) (by with_unfolding_all rfl)))))
  (pss_one (ps_ret (pe_tup (pa_cons (pe_op op_sub (pv 2) pe_int) (pa_cons (pv 1) pa_nil)))))
  pss_nil)
  (pss_cons (ps_if (PW.pt (pw_and (pt_cmpR op_gt (pv 1) (pv 2) (nomark _)) (pw_and1 (pt_cmpR (op_inM c_in hr (by decide) pass0) (pe_op op_sub (pv 1) (pv 2)) (pv 0) (by with_unfolding_all rfl)))))
  (pss_one (ps_ret (pe_tup (pa_cons (pv 2) (pa_cons (pe_op op_add (pv 1) pe_int) pa_nil)))))
  pss_nil)
  (pss_one (ps_ret pe_non)))), ?_⟩
  refine ⟨.int j, rfl, .int i, rfl, j, i, rfl, rfl, _, rfl, ?_⟩
  unfold pairOf at q
  have two : ∀ (a b : Int), (∀ H' T, Same H H' → H' T = some (.tup [.int a, .int b]) → Q (.ref T) H') → ([V.int a, V.int b]).length ≤ sizeLine ∧ ∀ p, H p = none → Q (.ref p) (upd H p (.tup [.int a, .int b])) := fun a b q =>
    ⟨by show 2 ≤ sizeLine; decide, fun p np => q _ p (same_upd np) upd_same⟩
  by_cases c1 : i < j
  · refine itT (decide_eq_true c1) ?_
    refine ⟨.int j, rfl, .int i, rfl, j, i, rfl, rfl, j - i, 1, rfl, rfl, .ref a, rfl, a, dx, _, rfl, e1, a, held, st, j - i - 1, rfl, lt, _, rfl, _, rfl, ?_⟩
    by_cases d1 : letD held st (j - i - 1) = true
    · rw [if_pos d1] at q
      refine itT d1 ?_
      refine ⟨.int j, rfl, j, 1, rfl, rfl, .int i, rfl, ?_⟩
      exact two _ _ q
    · rw [if_neg d1] at q
      refine itF (by simpa using d1) ?_
      refine ⟨.int i, rfl, .int j, rfl, i, j, rfl, rfl, _, rfl, ?_⟩
      refine itF (by simp; omega) ?_
      refine iteF ?_
      rw [if_neg (show ¬ letD held st (i - j) = true from fun z => by have := hp _ z; omega)] at q
      exact q
  · refine itF (by simpa using c1) ?_
    refine iteF ?_
    rw [if_neg (show ¬ letD held st (j - i - 1) = true from fun z => by have := hp _ z; omega)] at q
    refine ⟨.int i, rfl, .int j, rfl, i, j, rfl, rfl, _, rfl, ?_⟩
    by_cases c2 : j < i
    · refine itT (decide_eq_true c2) ?_
      refine ⟨.int i, rfl, .int j, rfl, i, j, rfl, rfl, .ref a, rfl, a, dx, _, rfl, e1, a, held, st, i - j, rfl, lt, _, rfl, _, rfl, ?_⟩
      by_cases d1 : letD held st (i - j) = true
      · rw [if_pos d1] at q
        refine itT d1 ?_
        refine ⟨.int j, rfl, .int i, rfl, i, 1, rfl, rfl, ?_⟩
        exact two _ _ q
      · rw [if_neg d1] at q
        refine itF (by simpa using d1) ?_
        exact q
    · refine itF (by simpa using c2) ?_
      refine iteF ?_
      rw [if_neg (show ¬ letD held st (i - j) = true from fun z => by have := hp _ z; omega)] at q
      exact q
end
end Gs


/-! row_behind, led_by. -/
namespace Gs
open PySem PySem.Spec PyProof.Rows L2
theorem cut_to (xs : List V) {i : Int} {k : Nat} (e : i = (k : Int)) : cutV xs none (some i) = xs.take k := by
  unfold cutV
  rw [e, HT.sIx_nat, HT.sIx_none, List.drop_zero, Nat.sub_zero, ← List.take_eq_take_min]
theorem cut_from (xs : List V) {i : Int} {k : Nat} (e : i = (k : Int)) : cutV xs (some i) none = xs.drop k := by
  unfold cutV
  rw [e, HT.sIx_nat, HT.sIx_none]
  by_cases h : k ≤ xs.length
  · rw [Nat.min_eq_left h]
    exact List.take_of_length_le (by rw [List.length_drop]; omega)
  · rw [Nat.min_eq_right (by omega), List.drop_length, List.drop_eq_nil_of_le (by omega)]
    simp
theorem mapI_get {l : List Int} {k : Nat} {x : Int} (h : l[k]? = some x) : (l.map V.int)[k]? = some (.int x) := by rw [List.getElem?_map, h]; rfl
/-- a place, if it is a count -/
def atOf : V → Option Nat
  | .int i => if 0 ≤ i then some i.toNat else none
  | _ => none
def deedV (D : Let) (l : List Int) (v : V) : Option (List Int) := (atOf v).bind (deed D l)
/-- the row that the places lead to, or the first place at which there is no deed -/
def ledV (D : Let) : List Int → List V → List Int ⊕ V
  | l, [] => .inl l
  | l, v :: vs => match deedV D l v with
    | some l' => ledV D l' vs
    | none => .inr v
theorem bt_at {v : V} {n : Nat} (h : bt v (some 0) (some ((n : Int) - 2)) = true) : ∃ k : Nat, v = .int (k : Int) ∧ k + 1 < n ∧ atOf v = some k := by
  cases v with
  | int i =>
    have h' : (decide ((0 : Int) ≤ i) && decide (i ≤ (n : Int) - 2)) = true := h
    simp only [Bool.and_eq_true, decide_eq_true_eq] at h'
    refine ⟨i.toNat, by rw [Int.toNat_of_nonneg h'.1], by omega, ?_⟩
    show (if 0 ≤ i then some i.toNat else none) = some i.toNat
    rw [if_pos h'.1]
  | _ => cases h
theorem deedV_bt {D : Let} {l : List Int} {v : V} (h : bt v (some 0) (some ((l.length : Int) - 2)) = false) : deedV D l v = none := by
  unfold deedV
  cases v with
  | int i =>
    have h' : (decide ((0 : Int) ≤ i) && decide (i ≤ (l.length : Int) - 2)) = false := h
    simp only [Bool.and_eq_false_iff, decide_eq_false_iff_not] at h'
    show (if 0 ≤ i then some i.toNat else none : Option Nat).bind (deed D l) = none
    by_cases c : 0 ≤ i
    · rw [if_pos c]
      show deed D l i.toNat = none
      exact deed_none (by omega)
    · rw [if_neg c]; rfl
  | _ => rfl
section
variable {P : Program} {w : World} {K : PySem.W.Frag} {mg : Str → Option Value} {base : Heap} {CL : Addr}
def spBehind (K : PySem.W.Frag) (CL : Addr) : Sp := fun vs H Q _ => ∃ a held st r l v n, vs = [.ref a, .ref r, v] ∧ Lt CL H a held st ∧ SqL K H r (l.map V.int) ∧ l.length ≤ 1000 ∧ Kn K H v n ∧
  match deedV (letD held st) l v with
  | some l' => ∀ H' p, Same H H' → H' p = some (.lst (l'.map V.int)) → Q (.ref p) H'
  | none => ∀ H', Same H H' → Q .non H'
theorem cl_behind (D : De K mg "row_behind" (top 20)) (Bn : Bns mg) (c_is_between : Cl P w K mg base CX0 2 "is_between" (spBtw K)) (c_exchanged : Cl P w K mg base CX0 3 "exchanged" (spExch CL)) : Cl P w K mg base CX0 4 "row_behind" (spBehind K CL) := by
  refine cl0 D sc_row_behind (fun vs H Q E ⟨a, held, st, r, l, v, n, e, _⟩ => by rw [e]; rfl) (fun _ _ _ _ _ _ us hl => match us, hl with | [_, _, _], _ => rfl) (fun f cdv A outer s H vs Q E hr h => ?_)
  obtain ⟨a, held, st, r, l, v, n, rfl, lt, hS, hlen, kn, q⟩ := h
  refine ⟨_, (pss_cons (ps_if (pt_not (pt_val (pe_cl c_is_between hr (by decide) (by rfl) pass0 (pa_cons (pv 2) (pa_cons pe_int (pa_cons (pe_op op_sub (pe_callB call_len (by rfl) Bn.len bt_len (pa_cons (pv 1) pa_nil)) pe_int) pa_nil))))))
  (pss_one (ps_ret pe_non))
  pss_nil)
  (pss_cons (ps_set (i := 3) sc_row_behind.nd rfl (.inl rfl) (pe_cl c_exchanged hr (by decide) (by rfl) pass0 (pa_cons (pv 0) (pa_cons (pe_ix ix_list (pv 1) (pv 2) fun _ _ => rfl) (pa_cons (pe_ix ix_list (pv 1) (pe_op op_add (pv 2) pe_int) fun _ _ => rfl) pa_nil)))))
  (pss_one (ps_ret (pe_ifExp (pt_cmpR op_isN (pv 3) pe_non (nomark _)) pe_non (pe_op op_cat (pe_op op_cat (pe_slice sl_list (pv 1) po_none (po_some (pv 2))) (pe_callTy call_list_of (by rfl) Bn.list bt_list (pa_cons (pv 3) pa_nil))) (pe_slice sl_list (pv 1) (po_some (pe_op op_add (pv 2) pe_int)) po_none))))))), ?_⟩
  refine ⟨v, rfl, .ref r, rfl, .ref r, l.length, rfl, .inl ⟨_, hS, by rw [List.length_map]⟩, _, 2, rfl, rfl, v, n, some 0, some ((l.length : Int) - 2), rfl, kn, _, rfl, ?_⟩
  by_cases c : bt v (some 0) (some ((l.length : Int) - 2)) = true
  · rw [c]
    refine iteF ?_
    obtain ⟨k, rfl, hk, ha⟩ := bt_at c
    have g1 : l[k]? = some l[k] := List.getElem?_eq_getElem (by omega)
    have g2 : l[k + 1]? = some l[k + 1] := List.getElem?_eq_getElem (by omega)
    have dq : deedV (letD held st) l (.int (k : Int)) = (pairOf (letD held st) l[k] l[k + 1]).map fun p => l.take k ++ [p.1, p.2] ++ l.drop (k + 2) := by
      unfold deedV
      rw [ha]
      exact deed_form g1 g2
    rw [dq] at q
    refine ⟨.ref a, rfl, .ref r, rfl, .int k, rfl, r, _, (k : Int), .int l[k], rfl, rfl, hS, atI_nat (mapI_get g1), ?_⟩
    refine ⟨.ref r, rfl, .int k, rfl, (k : Int), 1, rfl, rfl, r, _, (k : Int) + 1, .int l[k + 1], rfl, rfl, hS, at_of (j := k + 1) rfl (mapI_get g2), ?_⟩
    refine ⟨a, held, st, l[k], l[k + 1], rfl, lt, ?_⟩
    cases hp : pairOf (letD held st) l[k] l[k + 1] with
    | none =>
      rw [hp] at q
      refine ⟨.non, rfl, rfl, _, rfl, iteT ?_⟩
      exact q H (Same.refl H)
    | some p =>
      rw [hp] at q
      intro H1 T s1 hT
      refine ⟨.ref T, rfl, rfl, _, rfl, ?_⟩
      refine itF (by simp) ?_
      -- row[:at]
      refine ⟨.ref r, rfl, .int k, rfl, _, rfl, r, _, rfl, s1.seq hS, fun A1 n1 => ?_⟩
      rw [cut_to _ rfl]
      have hT1 : (upd H1 A1 (.lst ((l.map V.int).take k))) T = some (.tup [.int p.1, .int p.2]) := by rw [upd_ne (ne_of_none hT n1)]; exact hT
      -- list(pair)
      refine ⟨.ref T, rfl, T, _, rfl, .inr (sqT_of hT1), fun A2 n2 => ?_⟩
      have hA1 : (upd H1 A1 (.lst ((l.map V.int).take k))) A1 = some (.lst ((l.map V.int).take k)) := upd_same
      refine ⟨A1, A2, _, _, rfl, rfl, (by rw [upd_ne (ne_of_none hA1 n2)]; exact hA1), upd_same, ?_, fun A3 n3 => ?_⟩
      · rw [List.length_take, List.length_map]
        show min k l.length + 2 ≤ sizeLine
        exact Nat.le_trans (by omega) (Nat.le_of_lt (small1000 (n := 1000) (Nat.le_refl _)) : 1000 ≤ sizeLine) |> fun h => Nat.le_trans (by omega : min k l.length + 2 ≤ 1002) (by rw [sizeLine_eq]; omega)
      · have s3 : Same H1 (upd (upd (upd H1 A1 (.lst ((l.map V.int).take k))) A2 (.lst [.int p.1, .int p.2])) A3 (.lst ((l.map V.int).take k ++ [.int p.1, .int p.2]))) :=
          (same_upd n1).trans ((same_upd n2).trans (same_upd n3))
        refine ⟨.ref r, rfl, .int k, rfl, (k : Int), 2, rfl, rfl, _, rfl, r, _, rfl, (s1.trans s3).seq hS, fun A4 n4 => ?_⟩
        rw [cut_from (k := k + 2) _ (i := (k : Int) + 2) rfl]
        refine ⟨A3, A4, _, _, rfl, rfl, (by rw [upd_ne (ne_of_none upd_same n4)]; exact upd_same), upd_same, ?_, fun A5 n5 => ?_⟩
        · rw [List.length_append, List.length_take, List.length_drop, List.length_map]
          show min k l.length + 2 + (l.length - (k + 2)) ≤ sizeLine
          rw [sizeLine_eq]; omega
        · refine q _ A5 (s1.trans (s3.trans ((same_upd n4).trans (same_upd n5)))) ?_
          rw [upd_same]
          simp [List.map_append, List.map_take, List.map_drop]
  · rw [show bt v (some 0) (some ((l.length : Int) - 2)) = false by simpa using c]
    rw [deedV_bt (by simpa using c)] at q
    exact iteT (q H (Same.refl H))
def spLedBy (K : PySem.W.Frag) (CL : Addr) : Sp := fun vs H Q _ => ∃ a held st r l ps xs, vs = [.ref a, .ref r, .ref ps] ∧ Lt CL H a held st ∧ SqL K H r (l.map V.int) ∧ l.length ≤ 1000 ∧ SqL K H ps xs ∧ (∀ x ∈ xs, ∃ n, Kn K H x n) ∧
  match ledV (letD held st) l xs with
  | .inl l' => ∀ H' T p, Same H H' → H' T = some (.tup [.ref p, .bl true]) → H' p = some (.lst (l'.map V.int)) → Q (.ref T) H'
  | .inr v => ∀ H' T, Same H H' → H' T = some (.tup [v, .bl false]) → Q (.ref T) H'
theorem deedV_length {D : Let} {l l' : List Int} {v : V} (h : deedV D l v = some l') : l'.length = l.length := by
  unfold deedV at h
  cases e : atOf v with
  | none => rw [e] at h; cases h
  | some k => rw [e] at h; exact deed_length h
theorem cl_ledby (D : De K mg "led_by" (top 21)) (Bn : Bns mg) (c_row_behind : Cl P w K mg base CX0 4 "row_behind" (spBehind K CL)) : Cl P w K mg base CX0 5 "led_by" (spLedBy K CL) := by
  refine cl0 D sc_led_by (fun vs H Q E ⟨a, held, st, r, l, ps, xs, e, _⟩ => by rw [e]; rfl) (fun _ _ _ _ _ _ us hl => match us, hl with | [_, _, _], _ => rfl) (fun f cdv A outer s H vs Q E hr h => ?_)
  obtain ⟨a, held, st, r, l, ps, xs, rfl, lt, hS, hlen, hP, hK, q⟩ := h
  refine ⟨_, (pss_cons (ps_set (i := 3) sc_led_by.nd rfl (.inl rfl) (pe_callTy call_list_of (by rfl) Bn.list bt_list (pa_cons (pv 1) pa_nil)))
  (pss_cons (ps_for PassesOwn.never rfl (pi_list (pv 2)) (pg_name (i := 4) sc_led_by.nd rfl (.inl rfl))
  (pss_cons (ps_set (i := 5) sc_led_by.nd rfl (.inl rfl) (pe_cl c_row_behind hr (by decide) (by rfl) pass0 (pa_cons (pv 0) (pa_cons (pv 3) (pa_cons (pv 4) pa_nil)))))
  (pss_cons (ps_if (pt_cmpR op_isN (pv 5) pe_non (nomark _))
  (pss_one (ps_ret (pe_tup (pa_cons (pv 4) (pa_cons pe_bl pa_nil)))))
  pss_nil)
  (pss_one (ps_set (i := 3) sc_led_by.nd rfl (.inl rfl) (pv 5))))))
  (pss_one (ps_ret (pe_tup (pa_cons (pv 3) (pa_cons pe_bl pa_nil))))))), ?_⟩
  refine ⟨.ref r, rfl, r, _, rfl, .inl hS, fun p0 n0 => ?_⟩
  refine ⟨.ref ps, rfl, ps, rfl, ⟨xs, (same_upd n0).seq hP⟩, ?_⟩
  refine for_list (xs := xs) (fun i σ H1 => ∃ p y4 y5 li, σ = [some (.ref a), some (.ref r), some (.ref ps), some (.ref p), y4, y5] ∧ Same H H1 ∧ H1 p = some (.lst (li.map V.int)) ∧ li.length = l.length ∧ ledV (letD held st) l xs = ledV (letD held st) li (xs.drop i))
    ⟨p0, none, none, l, rfl, same_upd n0, upd_same, rfl, rfl⟩ (fun i σ H1 _ ⟨p, y4, y5, li, _, s1, _⟩ => s1.seq hP) (fun i x σ H1 hx hv => ?_) (fun σ H1 hv => ?_)
  · obtain ⟨p, y4, y5, li, rfl, s1, hp, hl, hL⟩ := hv
    obtain ⟨n, kn⟩ := hK x (List.mem_of_getElem? hx)
    have ed : xs.drop i = x :: xs.drop (i + 1) := by
      obtain ⟨hi, ex⟩ := List.getElem?_eq_some_iff.mp hx
      rw [← ex]; exact List.drop_eq_getElem_cons hi
    rw [ed] at hL
    refine ⟨.ref a, rfl, .ref p, rfl, x, rfl, ?_⟩
    refine ⟨a, held, st, p, li, x, n, rfl, lt.same s1, sqL_of hp, by omega, kn.same s1, ?_⟩
    cases hd : deedV (letD held st) li x with
    | none =>
      intro H2 s2
      refine ⟨.non, rfl, rfl, _, rfl, iteT ?_⟩
      refine ⟨x, rfl, by show 2 ≤ sizeLine; decide, fun T nT => ?_⟩
      have e : ledV (letD held st) l xs = .inr x := by rw [hL]; show (match deedV (letD held st) li x with | some l' => ledV (letD held st) l' (xs.drop (i + 1)) | none => .inr x) = _; rw [hd]
      rw [e] at q
      exact q _ T (s1.trans (s2.trans (same_upd nT))) upd_same
    | some l' =>
      intro H2 p2 s2 hp2
      refine ⟨.ref p2, rfl, rfl, _, rfl, itF (by simp) ?_⟩
      refine ⟨.ref p2, rfl, p2, _, _, l', rfl, s1.trans s2, hp2, by rw [deedV_length hd]; exact hl, ?_⟩
      rw [hL]
      show (match deedV (letD held st) li x with | some l' => ledV (letD held st) l' (xs.drop (i + 1)) | none => .inr x) = _
      rw [hd]
  · obtain ⟨p, y4, y5, li, rfl, s1, hp, hl, hL⟩ := hv
    rw [List.drop_length] at hL
    rw [hL] at q
    refine ⟨.ref p, rfl, by show 2 ≤ sizeLine; decide, fun T nT => ?_⟩
    exact q _ T p (s1.trans (same_upd nT)) upd_same (by rw [upd_ne (ne_of_none hp nT)]; exact hp)
end
end Gs


/-! led, followed. -/
namespace Gs
open PySem PySem.Spec PyProof.Rows L2
theorem sc_led : FnScope ["lets", "row", "places", "found", "done"] ["lets", "row", "places"] (defScope (top 22)) := ⟨rfl, rfl, rfl, by decide +kernel, rfl, by decide +kernel, by decide +kernel⟩
theorem sc_followed : FnScope ["lets", "row", "places", "last", "done", "found", "at"] ["lets", "row", "places"] (defScope (top 23)) := ⟨rfl, rfl, rfl, by decide +kernel, rfl, by decide +kernel, by decide +kernel⟩
theorem Ex.later {D : Addr} {v : V} {H H' : Hp} {E : XK} (s : Same H H') (h : Ex D v H E) : Ex D v H' E := fun H1 d s1 nd => h H1 d (s.trans s1) nd
/-- numbers as the program holds them -/
def nI (nu : List Nat) : List Int := nu.map fun k : Nat => (k : Int)
theorem nI_ids (n : Nat) : rgV 0 (n : Int) = (nI (ids n)).map V.int := by
  unfold rgV nI ids
  rw [List.map_map, show ((n : Int) - 0).toNat = n by omega]
  refine List.map_congr_left fun i _ => ?_
  show V.int (0 + (i : Int)) = V.int (i : Int)
  rw [Int.zero_add]
theorem nI_length (nu : List Nat) : (nI nu).length = nu.length := List.length_map ..
theorem nI_swap (nu : List Nat) (k : Nat) : swapAt (nI nu) k = nI (swapAt nu k) := swapAt_map _ nu k
/-- l[:k] + [l[k + 1], l[k]] + l[k + 2:] -/
def tExch (K : PySem.W.Frag) (tl tk : TE) : TE :=
  tOp rCat (tOp rCat (tSl (rSlL K) tl tNoPart (tPart tk)) (tLst (tCons (tOp (rIxL K) tl (tOp (rI0 fun i j => .int (i + j)) tk (tC (.int 1)))) (tCons (tOp (rIxL K) tl tk) tNil)))) (tSl (rSlL K) tl (tPart (tOp (rI0 fun i j => .int (i + j)) tk (tC (.int 2)))) tNoPart)
theorem exch_read {K : PySem.W.Frag} {i j : Nat} {σ : L2.St} {H : Hp} {Q : VK} {p : Addr} {k : Nat} {l : List Int} (hl : σ[i]? = some (some (.ref p))) (ha : σ[j]? = some (some (.int (k : Int)))) (hS : SqL K H p (l.map V.int)) (hk : k + 1 < l.length) (hlen : l.length ≤ 1000)
    (q : ∀ H' p', Same H H' → H p' = none → H' p' = some (.lst ((swapAt l k).map V.int)) → Q (.ref p') H') : tExch K (tVar i) (tVar j) σ H Q := by
  have g1 : l[k]? = some l[k] := List.getElem?_eq_getElem (by omega)
  have g2 : l[k + 1]? = some l[k + 1] := List.getElem?_eq_getElem (by omega)
  refine ⟨.ref p, hl, .int k, ha, _, rfl, p, _, rfl, hS, fun A1 n1 => ?_⟩
  rw [cut_to _ rfl]
  have s1 : Same H (upd H A1 (.lst ((l.map V.int).take k))) := same_upd n1
  refine ⟨.ref p, hl, .int k, ha, (k : Int), 1, rfl, rfl, p, _, (k : Int) + 1, .int l[k + 1], rfl, rfl, s1.seq hS, at_of (j := k + 1) rfl (mapI_get g2), ?_⟩
  refine ⟨.ref p, hl, .int k, ha, p, _, (k : Int), .int l[k], rfl, rfl, s1.seq hS, atI_nat (mapI_get g1), by show 2 ≤ sizeLine; decide, fun A2 n2 => ?_⟩
  refine ⟨A1, A2, _, _, rfl, rfl, (by rw [upd_ne (ne_of_none upd_same n2)]; exact upd_same), upd_same, ?_, fun A3 n3 => ?_⟩
  · rw [List.length_take, List.length_map]
    show min k l.length + 2 ≤ sizeLine
    rw [sizeLine_eq]; omega
  · have s3 : Same H (upd (upd (upd H A1 (.lst ((l.map V.int).take k))) A2 (.lst [.int l[k + 1], .int l[k]])) A3 (.lst ((l.map V.int).take k ++ [.int l[k + 1], .int l[k]]))) :=
      s1.trans ((same_upd n2).trans (same_upd n3))
    refine ⟨.ref p, hl, .int k, ha, (k : Int), 2, rfl, rfl, _, rfl, p, _, rfl, s3.seq hS, fun A4 n4 => ?_⟩
    rw [cut_from (k := k + 2) _ (i := (k : Int) + 2) rfl]
    refine ⟨A3, A4, _, _, rfl, rfl, (by rw [upd_ne (ne_of_none upd_same n4)]; exact upd_same), upd_same, ?_, fun A5 n5 => ?_⟩
    · rw [List.length_append, List.length_take, List.length_drop, List.length_map]
      show min k l.length + 2 + (l.length - (k + 2)) ≤ sizeLine
      rw [sizeLine_eq]; omega
    · refine q _ A5 (s3.trans ((same_upd n4).trans (same_upd n5))) ((s3.trans (same_upd n4)).free n5) ?_
      rw [upd_same, swapAt_form l k _ _ g1 g2]
      simp [List.map_append, List.map_take, List.map_drop]
/-- the places of a list of deeds that comes through -/
theorem ledV_ok {D : Let} : ∀ {xs : List V} {l l' : List Int}, ledV D l xs = .inl l' → ∃ is : List Nat, xs = is.map (fun k : Nat => V.int (k : Int)) ∧ led D l is = some l' ∧ ∀ k ∈ is, k + 1 < l.length
  | [], l, l', h => by
    have e : l = l' := Sum.inl.inj h
    subst e
    exact ⟨[], rfl, rfl, fun k hk => by cases hk⟩
  | v :: xs, l, l', h => by
    cases hd : deedV D l v with
    | none =>
      have h' : (match deedV D l v with | some l' => ledV D l' xs | none => .inr v) = .inl l' := h
      rw [hd] at h'
      cases h'
    | some l1 =>
      have h' : (match deedV D l v with | some l' => ledV D l' xs | none => .inr v) = .inl l' := h
      rw [hd] at h'
      obtain ⟨is, e, hl, hk⟩ := ledV_ok h'
      have hlen := deedV_length hd
      unfold deedV at hd
      cases ha : atOf v with
      | none => rw [ha] at hd; cases hd
      | some k =>
        rw [ha] at hd
        have hv : v = .int (k : Int) := by
          cases v with
          | int i =>
            have z : (if 0 ≤ i then some i.toNat else none) = some k := ha
            by_cases c : 0 ≤ i
            · rw [if_pos c] at z
              have z2 := Option.some.inj z
              rw [← z2, Int.toNat_of_nonneg c]
            · rw [if_neg c] at z; cases z
          | _ => cases ha
        refine ⟨k :: is, by rw [e, hv]; rfl, ?_, fun j hj => ?_⟩
        · show (deed D l k).bind (fun l' => led D l' is) = some l'
          rw [show deed D l k = some l1 from hd]
          exact hl
        · rcases List.mem_cons.mp hj with rfl | hj
          · exact deed_lt hd
          · rw [← hlen]; exact hk j hj
theorem ledV_of {D : Let} : ∀ {is : List Nat} {l l' : List Int}, led D l is = some l' → ledV D l (is.map fun k : Nat => V.int (k : Int)) = .inl l'
  | [], l, l', h => by
    have e : l = l' := Option.some.inj h
    rw [e]; rfl
  | k :: is, l, l', h => by
    have h1 : (deed D l k).bind (fun l' => led D l' is) = some l' := h
    cases hd : deed D l k with
    | none => rw [hd] at h1; cases h1
    | some l1 =>
      rw [hd] at h1
      have e : deedV D l (.int (k : Int)) = some l1 := by
        unfold deedV
        rw [show atOf (.int (k : Int)) = some k by show (if (0 : Int) ≤ (k : Int) then some (k : Int).toNat else none) = some k; rw [if_pos (by omega), Int.toNat_natCast]]
        exact hd
      show (match deedV D l (.int (k : Int)) with | some l' => ledV D l' (is.map fun k : Nat => V.int (k : Int)) | none => .inr (.int (k : Int))) = .inl l'
      rw [e]
      exact ledV_of h1
/-- the errors' classes -/
structure Dx where
  L : Addr
  R : Addr
  I : Addr
  P : Addr
/-- what is asked of the three values, from the first wrong one on; fin: what is wanted where all are right and the row l' is reached -/
def Asked (K : PySem.W.Frag) (CL : Addr) (D : Dx) (vl vr vp : V) (H : Hp) (E : XK) (fin : List Int → List V → List Int → Prop) : Prop :=
  (∃ n, Kn K H vl n ∧ Ex D.L vl H E) ∨
  ∃ a held st, vl = .ref a ∧ Lt CL H a held st ∧
    ((∃ n, Kn K H vr n ∧ n ≠ "list" ∧ Ex D.R vr H E) ∨
     ∃ r ys, vr = .ref r ∧ SqL K H r ys ∧ (∀ y ∈ ys, El K H y) ∧
      ((rowOk ys = false ∧ Ex D.R vr H E) ∨
       ∃ l : List Int, ys = l.map V.int ∧ rowOk ys = true ∧
        ((∃ n, Kn K H vp n ∧ n ≠ "list" ∧ Ex D.I vp H E) ∨
         ∃ ps xs, vp = .ref ps ∧ SqL K H ps xs ∧ (∀ x ∈ xs, ∃ n, Kn K H x n) ∧
          match ledV (letD held st) l xs with
          | .inl l' => fin l xs l'
          | .inr v => Ex D.P v H E)))
theorem rowOk_len {xs : List V} (h : rowOk xs = true) : xs.length ≤ 200 := by
  unfold rowOk at h
  rw [Bool.and_eq_true] at h
  exact of_decide_eq_true h.1
section
variable {P : Program} {w : World} {K : PySem.W.Frag} {mg : Str → Option Value} {base : Heap} {CL : Addr} {D : Dx}
def spLed (K : PySem.W.Frag) (CL : Addr) (D : Dx) : Sp := fun vs H Q E => ∃ vl vr vp, vs = [vl, vr, vp] ∧ Asked K CL D vl vr vp H E fun _ _ l' => ∀ H' p, Same H H' → H' p = some (.lst (l'.map V.int)) → Q (.ref p) H'
theorem cl_led {fL cL xL fR cR xR fI cI xI fP cP xP : Addr} (De : De K mg "led" (top 22)) (Bn : Bns mg) (TInvalidList : Gx.Txt P K mg "InvalidList" "InvalidList.__init__" D.I fI cI xI) (TInvalidPlace : Gx.Txt P K mg "InvalidPlace" "InvalidPlace.__init__" D.P fP cP xP)
    (c_check_lets : Cl P w K mg base (L2.CX P w) 1 "check_lets" (spChkL K CL D.L)) (c_check_row : Cl P w K mg base (L2.CX P w) 4 "check_row" (spChkRow K D.R)) (c_led_by : Cl P w K mg base CX0 5 "led_by" (spLedBy K CL)) :
    Cl P w K mg base (L2.CX P w) 6 "led" (spLed K CL D) := by
  refine clX De sc_led (fun vs H Q E ⟨vl, vr, vp, e, _⟩ => by rw [e]; rfl) (fun _ _ _ _ _ _ us hl => match us, hl with | [_, _, _], _ => rfl) (fun f cdv A outer s H vs Q E hr h => ?_)
  obtain ⟨vl, vr, vp, rfl, q⟩ := h
  refine ⟨_, (pss_cons (ps_expr (pe_cl c_check_lets hr (by decide) (by rfl) (passes_call (takes_of rfl rfl rfl rfl) (fun _ _ _ _ h => h)) (pa_cons (pv 0) pa_nil)))
  (pss_cons (ps_expr (pe_cl c_check_row hr (by decide) (by rfl) (passes_call (takes_of rfl rfl rfl rfl) (fun _ _ _ _ h => h)) (pa_cons (pv 1) pa_nil)))
  (pss_cons (ps_if (pt_not (pt_val (pe_callB call_isi (by rfl) Bn.isinstance bt_isinstance (pa_cons (pv 2) (pa_cons (pe_bltn (by rfl) Bn.list bt_list (v := .ty "list") rfl) pa_nil)))))
  (pss_one (Gx.ps_raiseV rfl TInvalidList hr (takes_of rfl rfl rfl rfl) (pa_cons (pv 2) pa_nil)))
  pss_nil)
  (pss_cons (ps_asg (pe_cl c_led_by hr (by decide) (by rfl) pass0 (pa_cons (pv 0) (pa_cons (pv 1) (pa_cons (pv 2) pa_nil)))) (pg_tup rfl (pgs_cons (pg_name (i := 3) sc_led.nd rfl (.inl rfl)) (pgs_cons (pg_name (i := 4) sc_led.nd rfl (.inl rfl)) pgs_nil))))
  (pss_cons (ps_if (pt_not (pt_val (pv 4)))
  (pss_one (Gx.ps_raiseV rfl TInvalidPlace hr (takes_of rfl rfl rfl rfl) (pa_cons (pv 3) pa_nil)))
  pss_nil)
  (pss_one (ps_ret (pv 3)))))))), ?_⟩
  have kb : ∀ n : String, (n == "list" || (n == "bool" && "list" == "int")) = (n == "list") := fun n => by
    have e : (("list" : String) == "int") = false := by decide
    rw [e, Bool.and_false, Bool.or_false]
  rcases q with ⟨n, kn, q⟩ | ⟨a, held, st, rfl, lt, q⟩
  · exact ⟨vl, rfl, vl, rfl, .inl ⟨n, kn, q⟩⟩
  obtain ⟨dx, hd, e1, e2⟩ := lt.ex
  refine ⟨.ref a, rfl, .ref a, rfl, .inr ⟨a, dx, _, rfl, e1, ?_⟩⟩
  rcases q with ⟨n, kn, c, q⟩ | ⟨r, ys, rfl, hS, hE, q⟩
  · exact ⟨vr, rfl, vr, rfl, .inl ⟨n, kn, c, q⟩⟩
  refine ⟨.ref r, rfl, .ref r, rfl, .inr ⟨r, ys, rfl, hS, hE, ?_⟩⟩
  rcases q with ⟨c, q⟩ | ⟨l, rfl, c, q⟩
  · exact itF c q
  refine itT c fun H1 s1 => ?_
  rcases q with ⟨n, kn, c2, q⟩ | ⟨ps, xs, rfl, hP, hK, q⟩
  · refine ⟨vp, rfl, vp, _, _, _, _, rfl, .ty "list", (kn.same s1).1, kit_kinds kn.2 (.inr (.inr rfl)), _, rfl, ?_⟩
    rw [kb, show (n == "list") = false by simpa using c2]
    exact iteT ⟨vp, rfl, vp, rfl, fun d nd => q H1 d s1 nd⟩
  have kn := Kn.lst (s1.seq hP)
  refine ⟨.ref ps, rfl, .ref ps, _, _, _, _, rfl, .ty "list", kn.1, kit_kinds kn.2 (.inr (.inr rfl)), _, rfl, ?_⟩
  refine iteF ?_
  have hlen : l.length ≤ 1000 := by have := rowOk_len c; rw [List.length_map] at this; omega
  refine ⟨.ref a, rfl, .ref r, rfl, .ref ps, rfl, a, held, st, r, l, ps, xs, rfl, lt.same s1, s1.seq hS, hlen, s1.seq hP, fun x hx => let ⟨n, k⟩ := hK x hx; ⟨n, k.same s1⟩, ?_⟩
  cases hL : ledV (letD held st) l xs with
  | inl l' =>
    rw [hL] at q
    intro H2 T p s2 hT hp
    refine ⟨T, _, rfl, sqT_of hT, rfl, .ref p, _, rfl, .bl true, [], rfl, rfl, .bl true, rfl, true, rfl, iteF ?_⟩
    exact ⟨.ref p, rfl, q H2 p (s1.trans s2) hp⟩
  | inr v =>
    rw [hL] at q
    intro H2 T s2 hT
    refine ⟨T, _, rfl, sqT_of hT, rfl, v, _, rfl, .bl false, [], rfl, rfl, .bl false, rfl, false, rfl, iteT ?_⟩
    exact ⟨v, rfl, v, rfl, fun d nd => q H2 d (s1.trans s2) nd⟩
def spFol (K : PySem.W.Frag) (CL : Addr) (D : Dx) : Sp := fun vs H Q E => ∃ vl vr vp, vs = [vl, vr, vp] ∧ Asked K CL D vl vr vp H E fun l xs _ => ∀ is : List Nat, xs = is.map (fun k : Nat => V.int (k : Int)) →
  ∀ H' p, Same H H' → H p = none → H' p = some (.lst ((nI (swaps (ids l.length) is)).map V.int)) → Q (.ref p) H'
theorem body_followed {fI cI xI fP cP xP : Addr} (Bn : Bns mg) (TInvalidList : Gx.Txt P K mg "InvalidList" "InvalidList.__init__" D.I fI cI xI) (TInvalidPlace : Gx.Txt P K mg "InvalidPlace" "InvalidPlace.__init__" D.P fP cP xP)
    (c_check_lets : Cl P w K mg base (L2.CX P w) 1 "check_lets" (spChkL K CL D.L)) (c_check_row : Cl P w K mg base (L2.CX P w) 4 "check_row" (spChkRow K D.R)) (c_led_by : Cl P w K mg base CX0 5 "led_by" (spLedBy K CL))
    (f : Addr) (cdv : Value) (A : Around) (outer : List Env) (s : Shared) (H : Hp) (vs : List V) (Q : VK) (E : XK) (hr : Room 5 (A.deeper (envOfC "followed" (defScope (top 23)) s.heap.objs.size f cdv))) (h : spFol K CL D vs H Q E) :
    ∃ t, PSs (cxOf (L2.CX P w) P w K mg base ["lets", "row", "places", "last", "done", "found", "at"] "followed" (defScope (top 23)) f cdv A outer s H E) (defBody (top 23)) t ∧ t { nx := fun _ H' => Q .non H', rt := Q } (start ["lets", "row", "places", "last", "done", "found", "at"] vs) H := by
  obtain ⟨vl, vr, vp, rfl, q⟩ := h
  refine ⟨_, (pss_cons (ps_expr (pe_cl c_check_lets hr (by decide) (by rfl) (passes_call (takes_of rfl rfl rfl rfl) (fun _ _ _ _ h => h)) (pa_cons (pv 0) pa_nil)))
  (pss_cons (ps_expr (pe_cl c_check_row hr (by decide) (by rfl) (passes_call (takes_of rfl rfl rfl rfl) (fun _ _ _ _ h => h)) (pa_cons (pv 1) pa_nil)))
  (pss_cons (ps_if (pt_not (pt_val (pe_callB call_isi (by rfl) Bn.isinstance bt_isinstance (pa_cons (pv 2) (pa_cons (pe_bltn (by rfl) Bn.list bt_list (v := .ty "list") rfl) pa_nil)))))
  (pss_one (Gx.ps_raiseV rfl TInvalidList hr (takes_of rfl rfl rfl rfl) (pa_cons (pv 2) pa_nil)))
  pss_nil)
  (pss_cons (ps_asg (pe_cl c_led_by hr (by decide) (by rfl) pass0 (pa_cons (pv 0) (pa_cons (pv 1) (pa_cons (pv 2) pa_nil)))) (pg_tup rfl (pgs_cons (pg_name (i := 3) sc_followed.nd rfl (.inl rfl)) (pgs_cons (pg_name (i := 4) sc_followed.nd rfl (.inl rfl)) pgs_nil))))
  (pss_cons (ps_if (pt_not (pt_val (pv 4)))
  (pss_one (Gx.ps_raiseV rfl TInvalidPlace hr (takes_of rfl rfl rfl rfl) (pa_cons (pv 3) pa_nil)))
  pss_nil)
  (pss_cons (ps_set (i := 5) sc_followed.nd rfl (.inl rfl) (pe_listRg rfl (by rfl) Bn.list (prg_1 (by rfl) Bn.range (pe_callB call_len (by rfl) Bn.len bt_len (pa_cons (pv 1) pa_nil)))))
  (pss_cons (ps_for (passes_of rfl) rfl (pi_list (pv 2)) (pg_name (i := 6) sc_followed.nd rfl (.inl rfl))
  (pss_one (ps_set (i := 5) sc_followed.nd rfl (.inl rfl) (pe_op op_cat (pe_op op_cat (pe_slice sl_list (pv 5) po_none (po_some (pv 6))) (pe_lst (pa_cons (pe_ix ix_list (pv 5) (pe_op op_add (pv 6) pe_int) fun _ _ => rfl) (pa_cons (pe_ix ix_list (pv 5) (pv 6) fun _ _ => rfl) pa_nil)))) (pe_slice sl_list (pv 5) (po_some (pe_op op_add (pv 6) pe_int)) po_none)))))
  (pss_one (ps_ret (pv 5)))))))))), ?_⟩
  have kb : ∀ n : String, (n == "list" || (n == "bool" && "list" == "int")) = (n == "list") := fun n => by
    have e : (("list" : String) == "int") = false := by decide
    rw [e, Bool.and_false, Bool.or_false]
  rcases q with ⟨n, kn, q⟩ | ⟨a, held, st, rfl, lt, q⟩
  · exact ⟨vl, rfl, vl, rfl, .inl ⟨n, kn, q⟩⟩
  obtain ⟨dx, hd, e1, e2⟩ := lt.ex
  refine ⟨.ref a, rfl, .ref a, rfl, .inr ⟨a, dx, _, rfl, e1, ?_⟩⟩
  rcases q with ⟨n, kn, c, q⟩ | ⟨r, ys, rfl, hS, hE, q⟩
  · exact ⟨vr, rfl, vr, rfl, .inl ⟨n, kn, c, q⟩⟩
  refine ⟨.ref r, rfl, .ref r, rfl, .inr ⟨r, ys, rfl, hS, hE, ?_⟩⟩
  rcases q with ⟨c, q⟩ | ⟨l, rfl, c, q⟩
  · exact itF c q
  refine itT c fun H1 s1 => ?_
  rcases q with ⟨n, kn, c2, q⟩ | ⟨ps, xs, rfl, hP, hK, q⟩
  · refine ⟨vp, rfl, vp, _, _, _, _, rfl, .ty "list", (kn.same s1).1, kit_kinds kn.2 (.inr (.inr rfl)), _, rfl, ?_⟩
    rw [kb, show (n == "list") = false by simpa using c2]
    exact iteT ⟨vp, rfl, vp, rfl, fun d nd => q H1 d s1 nd⟩
  have kn := Kn.lst (s1.seq hP)
  refine ⟨.ref ps, rfl, .ref ps, _, _, _, _, rfl, .ty "list", kn.1, kit_kinds kn.2 (.inr (.inr rfl)), _, rfl, ?_⟩
  refine iteF ?_
  have hlen : l.length ≤ 1000 := by have := rowOk_len c; rw [List.length_map] at this; omega
  refine ⟨.ref a, rfl, .ref r, rfl, .ref ps, rfl, a, held, st, r, l, ps, xs, rfl, lt.same s1, s1.seq hS, hlen, s1.seq hP, fun x hx => let ⟨n, k⟩ := hK x hx; ⟨n, k.same s1⟩, ?_⟩
  cases hL : ledV (letD held st) l xs with
  | inr v =>
    rw [hL] at q
    intro H2 T s2 hT
    refine ⟨T, _, rfl, sqT_of hT, rfl, v, _, rfl, .bl false, [], rfl, rfl, .bl false, rfl, false, rfl, iteT ?_⟩
    exact ⟨v, rfl, v, rfl, fun d nd => q H2 d (s1.trans s2) nd⟩
  | inl l' =>
    rw [hL] at q
    intro H2 T p s2 hT hp
    obtain ⟨is, rfl, hled, hks⟩ := ledV_ok hL
    have q := q is rfl
    refine ⟨T, _, rfl, sqT_of hT, rfl, .ref p, _, rfl, .bl true, [], rfl, rfl, .bl true, rfl, true, rfl, iteF ?_⟩
    have s12 := s1.trans s2
    refine ⟨.ref r, rfl, _, l.length, rfl, .inl ⟨_, s12.seq hS, by rw [List.length_map]⟩, _, rfl, RgOk.of_le (by omega) (by omega) (by omega) (by omega), fun p0 n0 => ?_⟩
    rw [nI_ids]
    have s3 : Same H (upd H2 p0 (.lst ((nI (ids l.length)).map V.int))) := s12.trans (same_upd n0)
    refine ⟨.ref ps, rfl, ps, rfl, ⟨_, s3.seq hP⟩, ?_⟩
    refine for_list (xs := is.map fun k : Nat => V.int (k : Int)) (fun i σ H3 => ∃ y3 y4 pn y6, σ = [some (.ref a), some (.ref r), some (.ref ps), y3, y4, some (.ref pn), y6] ∧ Same H H3 ∧ H pn = none ∧ H3 pn = some (.lst ((nI (swaps (ids l.length) (is.take i))).map V.int)))
      ⟨_, _, p0, _, rfl, s3, s12.free n0, by rw [upd_same]; rfl⟩ (fun i σ H3 _ ⟨y3, y4, pn, y6, _, s4, _⟩ => s4.seq hP) (fun i x σ H3 hx hv => ?_) (fun σ H3 hv => ?_)
    · obtain ⟨y3, y4, pn, y6, rfl, s4, nn, hpn⟩ := hv
      rw [List.getElem?_map] at hx
      cases hi : is[i]? with
      | none => rw [hi] at hx; cases hx
      | some k =>
        rw [hi] at hx
        obtain rfl := Option.some.inj hx
        have hk := hks k (List.mem_of_getElem? hi)
        have len1 : (nI (swaps (ids l.length) (is.take i))).length = l.length := by rw [nI_length, swaps_length, ids_length]
        refine exch_read (K := K) (i := 5) (j := 6) (l := nI (swaps (ids l.length) (is.take i))) (k := k) rfl rfl (sqL_of hpn) (by omega) (by omega) fun H5 p5 s5 n5 h5 => ?_
        refine ⟨y3, y4, p5, some (.int k), rfl, s4.trans s5, s4.free n5, ?_⟩
        rw [h5, nI_swap, ← swaps_snoc, List.take_add_one, hi]
        rfl
    · obtain ⟨y3, y4, pn, y6, rfl, s4, nn, hpn⟩ := hv
      rw [List.length_map, List.take_length] at hpn
      exact ⟨.ref pn, rfl, q H3 pn s4 nn hpn⟩
theorem cl_followed {fI cI xI fP cP xP : Addr} (De : De K mg "followed" (top 23)) (Bn : Bns mg) (TInvalidList : Gx.Txt P K mg "InvalidList" "InvalidList.__init__" D.I fI cI xI) (TInvalidPlace : Gx.Txt P K mg "InvalidPlace" "InvalidPlace.__init__" D.P fP cP xP)
    (c_check_lets : Cl P w K mg base (L2.CX P w) 1 "check_lets" (spChkL K CL D.L)) (c_check_row : Cl P w K mg base (L2.CX P w) 4 "check_row" (spChkRow K D.R)) (c_led_by : Cl P w K mg base CX0 5 "led_by" (spLedBy K CL)) :
    Cl P w K mg base (L2.CX P w) 6 "followed" (spFol K CL D) :=
  clX De sc_followed (fun vs H Q E ⟨vl, vr, vp, e, _⟩ => by rw [e]; rfl) (fun _ _ _ _ _ _ us hl => match us, hl with | [_, _, _], _ => rfl) (body_followed Bn TInvalidList TInvalidPlace c_check_lets c_check_row c_led_by)
/-- followed, called by keywords: its values come as places, row, lets -/
def gFol {α : Type} (us ws : List α) : List α := match us, ws with
  | [], [p, r, l] => [l, r, p]
  | _, _ => []
structure ClK (P : Program) (w : World) (K : PySem.W.Frag) (mg : Str → Option Value) (base : Heap) (CX : CXT) (k : Nat) (x : Str) (ks : List Str) (gV : List V → List V → List V) (sp : Sp) : Prop where
  ex : ∃ f fd ps g, FnOk P w K mg base CX k f fd ps sp ∧ mg x = some (.ref f) ∧ PySem.W.keepIn K (.ref f) = true ∧ KBinds K fd ps ks g gV
theorem cl_followedK {fI cI xI fP cP xP : Addr} (De : De K mg "followed" (top 23)) (Bn : Bns mg) (TInvalidList : Gx.Txt P K mg "InvalidList" "InvalidList.__init__" D.I fI cI xI) (TInvalidPlace : Gx.Txt P K mg "InvalidPlace" "InvalidPlace.__init__" D.P fP cP xP)
    (c_check_lets : Cl P w K mg base (L2.CX P w) 1 "check_lets" (spChkL K CL D.L)) (c_check_row : Cl P w K mg base (L2.CX P w) 4 "check_row" (spChkRow K D.R)) (c_led_by : Cl P w K mg base CX0 5 "led_by" (spLedBy K CL)) :
    ClK P w K mg base (L2.CX P w) 6 "followed" ["places", "row", "lets"] gFol (spFol K CL D) := by
  obtain ⟨f, fd, F, hm⟩ := De.ex
  refine ⟨f, fd, ["lets", "row", "places"], gFol, F.okX sc_followed (fun vs H Q E ⟨vl, vr, vp, e, _⟩ => by rw [e]; rfl) (body_followed Bn TInvalidList TInvalidPlace c_check_lets c_check_row c_led_by f), hm, F.kp, ?_⟩
  obtain ⟨oc, od, kV, doc, pm, an, cdv, ct, osl, rfl, lk, hcd⟩ := F.ex
  refine ⟨fun s us ws X hl => ?_, fun {vs us zs ws} r1 r2 => ?_⟩
  · match us, ws, hl with
    | [], [p, r, l], _ => exact .of_eq (by kernel_rfl)
    | [], [], hl => exact absurd hl (by decide)
    | [], [_], hl => exact absurd hl (by show ¬ 0 = 3; decide)
    | [], [_, _], hl => exact absurd hl (by show ¬ 0 = 3; decide)
    | [], _ :: _ :: _ :: _ :: _, hl => exact absurd hl (by show ¬ 0 = 3; decide)
    | _ :: _, _, hl => exact absurd hl (by show ¬ 0 = 3; decide)
  · cases r1 with
    | nil =>
      cases r2 with
      | nil => exact .nil
      | cons a r2 =>
        cases r2 with
        | nil => exact .nil
        | cons b r2 =>
          cases r2 with
          | nil => exact .nil
          | cons c r2 =>
            cases r2 with
            | nil => exact .cons c (.cons b (.cons a .nil))
            | cons d r2 => exact .nil
    | cons a r => exact .nil
end
section
variable {X : Cx} {CX : CXT} {k j : Nat} {x : Str} {sp : Sp} {E : XK} {p pos : Pos} {ks : List Str} {gV : List V → List V → List V} {kws : List Keyword} {tk : TA}
theorem pe_clK (c : ClK X.prog X.w X.K X.mg X.base CX k x ks gV sp) (hr : Room j X.A) (hk : k ≤ j) (hg : Gl X x) (hx : Passes CX X E) (hkw : PK X kws tk)
    (hall : (backToKw pos (keywordEach kws X.env)).all (·.1.isSome) = true := by rfl) (hks : (backToKw pos (keywordEach kws X.env)).filterMap (·.1) = ks := by rfl)
    (hdb : (x == ("__debug__" : Str)) = false := by decide)
    (hpl : ((backTo pos (starEach [] X.env)).any (·.1) || (backToKw pos (keywordEach kws X.env)).any (·.1.isNone)) = false := by rfl) : PE X (.Call (.Name x p) [] kws pos) (tCallK sp gV E tNil tk) := by
  obtain ⟨f, fd, ps, g, F, hm, kp, b⟩ := c.ex
  exact Gr.pe_callK0 F (hr.mono hk) hg hm kp b hx hkw hall hks hdb hpl
end
end Gs


/-! The class Lets: its counts laid out in a normal form. -/
namespace Gs
open PySem PySem.Spec PyProof.Rows L2
/-! ### the counts that are held: each once, in the order of their first coming; those before the start that join it given to it -/
def heldV (acc : List Int) : List (Key × V) := acc.map fun i => ((.inl i : Key), V.bl true)
def addH (acc : List Int) (i : Int) : List Int := if i ∈ acc then acc else acc ++ [i]
theorem valV_heldN {i : Int} {acc : List Int} (h : i ∉ acc) : valV (heldV acc) (.inl i) = none := by
  have z := valV_held i acc
  rw [decide_eq_false h] at z
  exact Option.isSome_eq_false_iff.mp z |> fun q => by simpa [heldV] using q
theorem putK_held (acc : List Int) (i : Int) : putK (heldV acc) (.inl i) (.bl true) = heldV (addH acc i) := by
  unfold addH
  by_cases h : i ∈ acc
  · rw [if_pos h]
    unfold putK
    have z := valV_held i acc
    rw [decide_eq_true h] at z
    rw [valV_any, show (valV (heldV acc) (.inl i)).isSome = true from z, if_pos rfl]
    unfold heldV
    rw [List.map_map]
    refine List.map_congr_left fun j _ => ?_
    show (if (.inl j : Key) = .inl i then ((.inl j : Key), V.bl true) else ((.inl j : Key), V.bl true)) = _
    split <;> rfl
  · rw [if_neg h, putK_new _ (valV_heldN h)]
    unfold heldV
    rw [List.map_append]
    rfl
theorem dropK_held (acc : List Int) (i : Int) : dropK (heldV acc) (.inl i) = heldV (acc.filter fun j => decide (j ≠ i)) := by
  unfold dropK heldV
  induction acc with
  | nil => rfl
  | cons j r ih =>
    rw [List.map_cons, List.filter_cons, List.filter_cons, ih]
    by_cases e : j = i
    · subst e
      simp
    · have e2 : ¬ ((.inl j : Key) = .inl i) := fun z => e (Sum.inl.inj z)
      rw [if_pos (decide_eq_true e2), if_pos (decide_eq_true e), List.map_cons]
def fill0 (ns : List Int) (st : Option Int) : List Int := (ns.filter fun n => st.all fun s => decide (n < s)).foldl addH []
theorem addH_mem {acc : List Int} {i c : Int} : c ∈ addH acc i ↔ c ∈ acc ∨ c = i := by
  unfold addH
  by_cases h : i ∈ acc
  · rw [if_pos h]
    exact ⟨.inl, fun z => z.elim id fun e => e ▸ h⟩
  · rw [if_neg h]
    simp
theorem foldH_mem {c : Int} : ∀ (l acc : List Int), c ∈ l.foldl addH acc ↔ c ∈ acc ∨ c ∈ l
  | [], acc => by simp
  | i :: l, acc => by
    rw [List.foldl_cons, foldH_mem l, addH_mem, List.mem_cons, or_assoc]
theorem addH_nodup {acc : List Int} {i : Int} (h : acc.Nodup) : (addH acc i).Nodup := by
  unfold addH
  by_cases z : i ∈ acc
  · rw [if_pos z]; exact h
  · rw [if_neg z]
    refine List.nodup_append.mpr ⟨h, by simp, fun a ha b hb => ?_⟩
    rw [List.mem_singleton.mp hb]
    exact fun e => z (e ▸ ha)
theorem foldH_nodup : ∀ (l acc : List Int), acc.Nodup → (l.foldl addH acc).Nodup
  | [], _, h => h
  | i :: l, acc, h => foldH_nodup l _ (addH_nodup h)
theorem addH_length (acc : List Int) (i : Int) : (addH acc i).length ≤ acc.length + 1 := by
  unfold addH
  split <;> simp
theorem foldH_length : ∀ (l acc : List Int), (l.foldl addH acc).length ≤ acc.length + l.length
  | [], acc => Nat.le_refl _
  | i :: l, acc => by
    have h1 := foldH_length l (addH acc i)
    have h2 := addH_length acc i
    rw [List.foldl_cons, List.length_cons]
    omega
def normF : Nat → List Int → Int → List Int × Int
  | 0, h, s => (h, s)
  | n + 1, h, s => if s - 1 ∈ h then normF n (h.filter fun j => decide (j ≠ s - 1)) (s - 1) else (h, s)
def finF (n : Nat) (h : List Int) : Option Int → List Int × Option Int
  | none => (h, none)
  | some s => ((normF n h s).1, some (normF n h s).2)
def fillOf (ns : List Int) (st : Option Int) : List Int × Option Int := finF (fill0 ns st).length (fill0 ns st) st
theorem normF_out {n : Nat} {h : List Int} {s : Int} (e : s - 1 ∉ h) : normF n h s = (h, s) := by
  cases n with
  | zero => rfl
  | succ n => unfold normF; rw [if_neg e]
theorem filter_lt {h : List Int} {i : Int} (hi : i ∈ h) : (h.filter fun j => decide (j ≠ i)).length < h.length := by
  induction h with
  | nil => cases hi
  | cons j r ih =>
    rw [List.filter_cons]
    by_cases e : j = i
    · subst e
      rw [if_neg (by simp)]
      exact Nat.lt_succ_of_le (List.length_filter_le _ _)
    · rw [if_pos (decide_eq_true e), List.length_cons, List.length_cons]
      rcases List.mem_cons.mp hi with z | z
      · exact absurd z.symm e
      · exact Nat.succ_lt_succ (ih z)
structure Good (h : List Int) (s : Int) (h' : List Int) (s' : Int) : Prop where
  nd : h'.Nodup
  pos : ∀ c ∈ h', 0 < c
  spos : 0 < s'
  same : ∀ c, (c ∈ h' ∨ s' ≤ c) ↔ (c ∈ h ∨ s ≤ c)
theorem normF_good : ∀ (n : Nat) (h : List Int) (s : Int), h.Nodup → (∀ c ∈ h, 0 < c) → 0 < s → Good h s (normF n h s).1 (normF n h s).2
  | 0, h, s, h1, h2, h3 => ⟨h1, h2, h3, fun c => Iff.rfl⟩
  | n + 1, h, s, h1, h2, h3 => by
    unfold normF
    by_cases e : s - 1 ∈ h
    · rw [if_pos e]
      have g := normF_good n (h.filter fun j => decide (j ≠ s - 1)) (s - 1) (h1.filter _) (fun c hc => h2 c (List.mem_filter.mp hc).1) (h2 _ e)
      refine ⟨g.nd, g.pos, g.spos, fun c => ?_⟩
      rw [g.same c, List.mem_filter, decide_eq_true_iff]
      constructor
      · rintro (⟨q, _⟩ | q)
        · exact .inl q
        · by_cases z : c = s - 1
          · exact .inl (z ▸ e)
          · exact .inr (by omega)
      · rintro (q | q)
        · by_cases z : c = s - 1
          · exact .inr (by omega)
          · exact .inl ⟨q, z⟩
        · exact .inr (by omega)
    · rw [if_neg e]
      exact ⟨h1, h2, h3, fun c => Iff.rfl⟩
theorem fillOf_none (ns : List Int) : fillOf ns none = (fill0 ns none, none) := rfl
/-- what is let: the counts given, and all from the start on -/
theorem fillOf_let {ns : List Int} {st : Option Int} (hp : ∀ n ∈ ns, 0 < n) (hs : ∀ s, st = some s → 0 < s) :
    (fillOf ns st).1.Nodup ∧ (∀ c ∈ (fillOf ns st).1, 0 < c) ∧ (∀ s, (fillOf ns st).2 = some s → 0 < s) ∧ letD (fillOf ns st).1 (fillOf ns st).2 = letD ns st := by
  have m0 : ∀ c, c ∈ fill0 ns st ↔ c ∈ ns ∧ st.all (fun s => decide (c < s)) = true := fun c => by
    unfold fill0
    rw [foldH_mem, List.mem_filter]
    simp
  have nd0 : (fill0 ns st).Nodup := foldH_nodup _ _ List.nodup_nil
  have p0 : ∀ c ∈ fill0 ns st, 0 < c := fun c hc => hp c ((m0 c).mp hc).1
  cases st with
  | none =>
    refine ⟨nd0, p0, fun s e => (by cases e), ?_⟩
    funext c
    show (decide (c ∈ fill0 ns none) || false) = (decide (c ∈ ns) || false)
    rw [Bool.or_false, Bool.or_false]
    exact decide_eq_decide.mpr ((m0 c).trans (by simp))
  | some s =>
    have g := normF_good (fill0 ns (some s)).length (fill0 ns (some s)) s nd0 p0 (hs s rfl)
    refine ⟨g.nd, g.pos, fun s' e => (by cases e; exact g.spos), ?_⟩
    funext c
    have z := g.same c
    show (decide (c ∈ (normF (fill0 ns (some s)).length (fill0 ns (some s)) s).1) || decide ((normF (fill0 ns (some s)).length (fill0 ns (some s)) s).2 ≤ c)) = (decide (c ∈ ns) || decide (s ≤ c))
    rw [← Bool.decide_or, ← Bool.decide_or]
    refine decide_eq_decide.mpr (z.trans ?_)
    rw [m0]
    constructor
    · rintro (⟨q, _⟩ | q)
      · exact .inl q
      · exact .inr q
    · rintro (q | q)
      · by_cases c2 : c < s
        · exact .inl ⟨q, by simpa using c2⟩
        · exact .inr (by omega)
      · exact .inr q
theorem fill0_length (ns : List Int) (st : Option Int) : (fill0 ns st).length ≤ ns.length := by
  unfold fill0
  have h1 := foldH_length (ns.filter fun n => st.all fun s => decide (n < s)) []
  have h2 := List.length_filter_le (fun n => st.all fun s => decide (n < s)) ns
  rw [List.length_nil] at h1
  omega
theorem sc_Lets__fill : FnScope ["self", "numbers", "start", "held", "number"] ["self", "numbers", "start"] (defScope (inClass (top 16) 1)) := ⟨rfl, rfl, rfl, by decide +kernel, rfl, by decide +kernel, by decide +kernel⟩
section
variable {P : Program} {w : World} {K : PySem.W.Frag} {mg : Str → Option Value} {base : Heap} {CL : Addr}
def spFill (K : PySem.W.Frag) (CL : Addr) : Sp := fun vs H Q _ => ∃ x na st dx ns, vs = [.ref x, .ref na, oV st] ∧ H x = some (.ins CL dx []) ∧ SqL K H na (ns.map V.int) ∧ ns.length ≤ 1000 ∧ (∀ n ∈ ns, 0 < n) ∧ (∀ s, st = some s → 0 < s) ∧
  ∀ H', Sg x H H' → Lt CL H' x (fillOf ns st).1 (fillOf ns st).2 → Q .non H'
theorem cl_fill (D : Me K CL "_fill" "Lets._fill" (inClass (top 16) 1)) (L : LetsC K mg CL) : ClM P w K mg base CX0 1 CL "_fill" (spFill K CL) := by
  refine clM0 D sc_Lets__fill (fun vs H Q E ⟨x, na, st, dx, ns, e, _⟩ => by rw [e]; rfl) (fun _ _ _ _ _ _ us hl => match us, hl with | [_, _, _], _ => rfl) (fun f cdv A outer s H vs Q E hr h => ?_)
  obtain ⟨x, na, st, dx, ns, rfl, hx, hS, hlen, hp, hs, q⟩ := h
  have hu1 := hu_of hr
  refine ⟨_, (pss_cons (Gr.ps_setDc (i := 3) rfl sc_Lets__fill.nd rfl rfl (Gr.sw_trueD rfl rfl rfl (by decide +kernel)) (pi_list (pv 1)) (own := [("number", 4)]) (by refine blkOk_by ?_; show blkC ["self", "numbers", "start", "held", "number"] (defScope (inClass (top 16) 1)) _ [("number", 4)] = true; decide +kernel) (fun _ _ _ _ _ => (pg_name (i := 4) sc_Lets__fill.nd rfl (.inl rfl))) (fun _ _ _ _ _ => (pts_one (PW.pt (pw_or (pt_cmpR op_isN (pv 2) pe_non (nomark _)) (pw_or1 (pt_cmpR op_lt (pv 4) (pv 2) (nomark _))))))) (fun _ _ _ _ _ => (pv 4)) (fun _ _ _ _ _ => pe_bl))
  (pss_cons (ps_while PassesOwn.never (PW.pt (pw_and (pt_cmpR op_notN (pv 2) pe_non (nomark _)) (pw_and1 (pt_cmp (pc_din hu1 (pe_op op_sub (pv 2) pe_int) (pv 3))))))
  (pss_cons (ps_set (i := 2) sc_Lets__fill.nd rfl (.inr rfl) (pe_op op_sub (pv 2) pe_int))
  (pss_one (ps_ddel (pv 3) (pv 2)))))
  (pss_one (ps_asg (pe_tup (pa_cons (pv 3) (pa_cons (pv 2) pa_nil))) (pg_tup rfl (pgs_cons (Gr.pg_fld (pv 0)) (pgs_cons (Gr.pg_fld (pv 0)) pgs_nil))))))), ?_⟩
  refine ⟨.ref na, rfl, na, rfl, ⟨_, hS⟩, fun D nD => ?_⟩
  refine Gr.dc_list (xs := ns.map V.int) (fun i H1 => Same H H1 ∧ H1 D = some (.dK (heldV (((ns.take i).filter fun n => st.all fun s => decide (n < s)).foldl addH [])))) ⟨same_upd nD, by rw [upd_same]; rfl⟩ (fun i H1 _ p => p.1.seq hS) (fun i v H1 hv p => ?_) (fun H1 p => ?_)
  · obtain ⟨s1, hD⟩ := p
    rw [List.getElem?_map] at hv
    cases hi : ns[i]? with
    | none => rw [hi] at hv; cases hv
    | some n =>
      rw [hi] at hv
      obtain rfl := Option.some.inj hv
      have et : ns.take (i + 1) = ns.take i ++ [n] := by rw [List.take_add_one, hi]; rfl
      have fits : (heldV (((ns.take i).filter fun n => st.all fun s => decide (n < s)).foldl addH [])).length < sizeLine := by
        unfold heldV
        rw [List.length_map]
        refine Nat.lt_of_le_of_lt (fill0_length (ns.take i) st) (small1000 ?_)
        rw [List.length_take]; omega
      have put : st.all (fun s => decide (n < s)) = true → Same H (upd H1 D (.dK (putK (heldV (((ns.take i).filter fun n => st.all fun s => decide (n < s)).foldl addH [])) (.inl n) (.bl true)))) ∧
          (upd H1 D (.dK (putK (heldV (((ns.take i).filter fun n => st.all fun s => decide (n < s)).foldl addH [])) (.inl n) (.bl true)))) D = some (.dK (heldV (((ns.take (i + 1)).filter fun n => st.all fun s => decide (n < s)).foldl addH []))) := fun z => by
        refine ⟨same_put s1 nD, ?_⟩
        rw [upd_same, putK_held, et, List.filter_append, List.filter_cons, if_pos z, List.filter_nil, List.foldl_append]
        rfl
      cases st with
      | none =>
        refine ⟨rfl, .non, rfl, rfl, _, rfl, iteT (iteT ?_)⟩
        exact ⟨.int n, rfl, _, .inl n, rfl, hD, fits, put rfl⟩
      | some s0 =>
        refine ⟨rfl, .int s0, rfl, rfl, _, rfl, itF (by simp) ?_⟩
        refine ⟨.int n, rfl, .int s0, rfl, n, s0, rfl, rfl, _, rfl, ?_⟩
        by_cases c : n < s0
        · refine itT (decide_eq_true c) ?_
          exact ⟨.int n, rfl, _, .inl n, rfl, hD, fits, put (by simpa using c)⟩
        · refine itF (by simpa using c) ⟨s1, ?_⟩
          rw [et, List.filter_append, List.filter_cons, if_neg (by simpa using c), List.filter_nil, List.append_nil]
          exact hD
  · obtain ⟨s1, hD⟩ := p
    rw [List.length_map, List.take_length] at hD
    have hD0 : H1 D = some (.dK (heldV (fill0 ns st))) := hD
    refine ⟨fun n σ H2 => ∃ h st1 y4, σ = [some (.ref x), some (.ref na), some (oV st1), some (.ref D), y4] ∧ Same H H2 ∧ H2 D = some (.dK (heldV h)) ∧ h.length ≤ n ∧ finF n h st1 = fillOf ns st,
      ⟨(fill0 ns st).length, fill0 ns st, st, none, rfl, s1, hD0, Nat.le_refl _, rfl⟩, fun n σ H2 hW => ?_⟩
    obtain ⟨h, st1, y4, rfl, s2, hD2, hn, hf⟩ := hW
    have done : ∀ (st1 : Option Int), finF n h st1 = (h, st1) → finF n h st1 = fillOf ns st → tAsg (tTup (tCons (tVar 3) (tCons (tVar 2) tNil))) (gTup K 2 (gCons (Gr.gFld K (tVar 0) "_held") (gCons (Gr.gFld K (tVar 0) "_start") gNil))) { nx := fun _ H' => Q .non H', rt := Q } [some (.ref x), some (.ref na), some (oV st1), some (.ref D), y4] H2 := by
      intro st1 ef hf
      rw [ef] at hf
      refine ⟨.ref D, rfl, oV st1, rfl, by show 2 ≤ sizeLine; decide, fun T nT => ?_⟩
      have hx2 := s2 _ _ hx
      have xT : x ≠ T := ne_of_none hx2 nT
      have xD : D ≠ x := fun e => by rw [e, hx] at nD; cases nD
      have DT : D ≠ T := ne_of_none hD2 nT
      refine ⟨T, _, rfl, sqT_of upd_same, rfl, .ref D, _, rfl, .ref x, rfl, x, CL, dx, [], rfl, by rw [upd_ne xT]; exact hx2, L.cl, L.nH, by decide, ?_⟩
      refine ⟨oV st1, [], rfl, .ref x, rfl, x, CL, dx, _, rfl, upd_same, L.cl, L.nS, by show 1 < 1000; decide, rfl, ?_⟩
      refine q _ ?_ ?_
      · intro b o nb e
        rw [upd_ne nb, upd_ne nb, upd_ne (ne_of_none e (s2.free nT))]
        exact s2 _ _ e
      · obtain ⟨g1, g2, g3, _⟩ := fillOf_let hp hs
        refine ⟨⟨dx, D, ?_, ?_⟩, g1, g2, g3⟩
        · rw [upd_same, ← hf]; rfl
        · rw [upd_ne xD, upd_ne xD, upd_ne DT, hD2, ← hf]; rfl
    cases st1 with
    | none =>
      refine ⟨.non, rfl, rfl, _, rfl, itF (by simp) (iteF ?_)⟩
      exact done none rfl hf
    | some s0 =>
      refine ⟨.int s0, rfl, rfl, _, rfl, itT (by simp) ?_⟩
      refine ⟨.int s0, rfl, s0, 1, rfl, rfl, .ref D, rfl, D, _, rfl, DGet.k (k := .inl (s0 - 1)) hD2, _, rfl, ?_⟩
      have ev : (valV (heldV h) (.inl (s0 - 1))).isSome = decide (s0 - 1 ∈ h) := valV_held _ _
      by_cases c : s0 - 1 ∈ h
      · rw [decide_eq_true c] at ev
        refine itT ev ?_
        obtain ⟨n', rfl⟩ : ∃ n', n = n' + 1 := by
          cases n with
          | zero => rw [List.length_eq_zero_iff.mp (Nat.le_zero.mp hn)] at c; cases c
          | succ n' => exact ⟨n', rfl⟩
        refine ⟨fun σ' H' => ∃ h st1 y4, σ' = [some (.ref x), some (.ref na), some (oV st1), some (.ref D), y4] ∧ Same H H' ∧ H' D = some (.dK (heldV h)) ∧ h.length ≤ n' ∧ finF n' h st1 = fillOf ns st, fun σ' H' hN => ⟨n', Nat.lt_succ_self _, hN⟩, ?_⟩
        refine ⟨.int s0, rfl, s0, 1, rfl, rfl, ?_⟩
        refine ⟨.ref D, rfl, .int (s0 - 1), rfl, D, _, .inl (s0 - 1), rfl, hD2, rfl, ev, ?_⟩
        refine ⟨h.filter fun j => decide (j ≠ s0 - 1), some (s0 - 1), y4, rfl, same_put s2 nD, by rw [upd_same, dropK_held], ?_, ?_⟩
        · have := filter_lt c
          omega
        · rw [← hf]
          show finF n' _ _ = ((normF (n' + 1) h s0).1, some (normF (n' + 1) h s0).2)
          unfold normF
          rw [if_pos c]
          rfl
      · rw [decide_eq_false c] at ev
        refine itF ev ?_
        refine done (some s0) ?_ hf
        show ((normF n h s0).1, some (normF n h s0).2) = (h, some s0)
        rw [normF_out c]
end
end Gs


/-! The class Lets made; its numbers, its start, its ==. -/
namespace Gs
open PySem PySem.Spec PyProof.Rows L2
theorem sc_Lets___init__ : FnScope ["self", "numbers", "start", "number"] ["self", "numbers", "start"] (defScope (inClass (top 16) 0)) := ⟨rfl, rfl, rfl, by decide +kernel, rfl, by decide +kernel, by decide +kernel⟩
theorem sc_Lets_numbers : FnScope ["self"] ["self"] (defScope (inClass (top 16) 2)) := ⟨rfl, rfl, rfl, by decide +kernel, rfl, by decide +kernel, by decide +kernel⟩
theorem sc_Lets_start : FnScope ["self"] ["self"] (defScope (inClass (top 16) 3)) := ⟨rfl, rfl, rfl, by decide +kernel, rfl, by decide +kernel, by decide +kernel⟩
theorem sc_Lets___eq__ : FnScope ["self", "other"] ["self", "other"] (defScope (inClass (top 16) 5)) := ⟨rfl, rfl, rfl, by decide +kernel, rfl, by decide +kernel, by decide +kernel⟩
/-- Lets(..): the class's own __init__, with one and with two values -/
structure ClI (P : Program) (w : World) (K : PySem.W.Frag) (mg : Str → Option Value) (base : Heap) (k : Nat) (C : Addr) (sp : Sp) : Prop where
  ex : ∃ f fd ps ds, Mk K C f ∧ FnOk P w K mg base (L2.CX P w) k f fd ps sp ∧ Vals [V.non] ds ∧ Binds K fd ps ds ∧ Binds K fd ps []
section
variable {X : Cx} {k j : Nat} {C : Addr} {sp : Sp} {E : XK} {x : Str} {p pos : Pos} {e e2 : Expr} {t : TA}
theorem pe_mkL1 (c : ClI X.prog X.w X.K X.mg X.base k C sp) (gL : X.mg x = some (.ref C)) (hr : Room j X.A) (hk : k + 1 ≤ j) (hg : Gl X x) (hx : Passes (L2.CX X.prog X.w) X E) (ha : PA X [e] t)
    (hdb : (x == ("__debug__" : Str)) = false := by decide) (he : starEach [e] X.env = (false, eval e X.env) :: starEach [] X.env := by rfl) (hpl : (backTo pos (starEach [] X.env)).any (·.1) = false := by rfl) :
    PE X (.Call (.Name x p) [e] [] pos) (tMake C sp [.non] E t) := by
  obtain ⟨f, fd, ps, ds, M, F, v, b, _⟩ := c.ex
  exact pe_make M F (hr.mono hk) hg gL b v hx ha hdb he hpl
theorem pe_mkL2 (c : ClI X.prog X.w X.K X.mg X.base k C sp) (gL : X.mg x = some (.ref C)) (hr : Room j X.A) (hk : k + 1 ≤ j) (hg : Gl X x) (hx : Passes (L2.CX X.prog X.w) X E) (ha : PA X [e, e2] t)
    (hdb : (x == ("__debug__" : Str)) = false := by decide) (he : starEach [e, e2] X.env = (false, eval e X.env) :: starEach [e2] X.env := by rfl) (hpl : (backTo pos (starEach [e2] X.env)).any (·.1) = false := by rfl) :
    PE X (.Call (.Name x p) [e, e2] [] pos) (tMake C sp [] E t) := by
  obtain ⟨f, fd, ps, ds, M, F, v, _, b⟩ := c.ex
  exact pe_make M F (hr.mono hk) hg gL b .nil hx ha hdb he hpl
end
/-- the text of __init__ as it stands behind the top -/
structure In0 (K : PySem.W.Frag) (C : Addr) : Prop where
  ex : ∃ f fd, FunD K "__init__" "Lets.__init__" (defArgs (inClass (top 16) 0)) (defBody (inClass (top 16) 0)) (defScope (inClass (top 16) 0)) [.non] [] f fd ∧ Mk K C f
theorem bt_in {i lo hi : Int} (h : lo ≤ i ∧ i ≤ hi) : bt (.int i) (some lo) (some hi) = true := by
  show (decide (lo ≤ i) && decide (i ≤ hi)) = true
  rw [decide_eq_true h.1, decide_eq_true h.2]; rfl
section
variable {P : Program} {w : World} {K : PySem.W.Frag} {mg : Str → Option Value} {base : Heap} {CL : Addr}
def spInit (K : PySem.W.Frag) (CL : Addr) : Sp := fun vs H Q _ => ∃ x na st dx ns, vs = [.ref x, .ref na, oV st] ∧ H x = some (.ins CL dx []) ∧ SqL K H na (ns.map V.int) ∧ ns.length ≤ 200 ∧ (∀ n ∈ ns, 1 ≤ n ∧ n ≤ 1000) ∧ (∀ s, st = some s → 1 ≤ s ∧ s ≤ 1000) ∧
  ∀ H', Sg x H H' → Lt CL H' x (fillOf ns st).1 (fillOf ns st).2 → Q .non H'
theorem cl_init {D1 f1 c1 x1 D2 f2 c2 x2 : Addr} (D : In0 K CL) (L : LetsC K mg CL) (Bn : Bns mg) (gMOST_NUMBERS : Cn mg "MOST_NUMBERS" 200) (gMOST_COUNT : Cn mg "MOST_COUNT" 1000)
    (TInvalidList : Gx.Txt P K mg "InvalidList" "InvalidList.__init__" D1 f1 c1 x1) (TInvalidNumber : Gx.Txt P K mg "InvalidNumber" "InvalidNumber.__init__" D2 f2 c2 x2)
    (c_is_between : Cl P w K mg base CX0 2 "is_between" (spBtw K)) (c__fill : ClM P w K mg base CX0 1 CL "_fill" (spFill K CL)) : ClI P w K mg base 4 CL (spInit K CL) := by
  obtain ⟨f, fd, F, M⟩ := D.ex
  obtain ⟨ds, v, b⟩ := F.binds1 (ps := ["self", "numbers", "start"]) 2 0 (by simp) rfl fun T kV doc pm an cdv ct us its hu hi => match us, its, hu, hi with | [_, _], [_], _, _ => ⟨_, rfl, rfl⟩
  obtain ⟨ds2, v2, b2⟩ := F.binds1 (ps := ["self", "numbers", "start"]) 3 1 (by simp) rfl fun T kV doc pm an cdv ct us its hu hi => match us, its, hu, hi with | [_, _, _], [_], _, _ => ⟨_, rfl, rfl⟩
  cases v2
  refine ⟨f, fd, ["self", "numbers", "start"], ds, M, ?_, v, b, b2⟩
  refine F.ok sc_Lets___init__ (fun vs H Q E ⟨x, na, st, dx, ns, e, _⟩ => by rw [e]; rfl) fun cdv A outer s H vs Q E hr h => ?_
  obtain ⟨x, na, st, dx, ns, rfl, hx, hS, hlen, hp, hs, q⟩ := h
  have hu64 := hu64_of hr
  refine ⟨_, (pss_cons (ps_if (PW.pt (pw_or (pt_not (pt_val (pe_callB call_isi (by rfl) Bn.isinstance bt_isinstance (pa_cons (pv 1) (pa_cons (pe_bltn (by rfl) Bn.list bt_list (v := .ty "list") rfl) pa_nil))))) (pw_or1 (pt_cmpR op_gt (pe_callB call_len (by rfl) Bn.len bt_len (pa_cons (pv 1) pa_nil)) (pe_cn (by rfl) gMOST_NUMBERS) (nomark _)))))
  (pss_one (Gx.ps_raiseV rfl TInvalidList hr (takes_of rfl rfl rfl rfl) (pa_cons (pv 1) pa_nil)))
  pss_nil)
  (pss_cons (ps_if (pt_cmpR (op_neD hu64) (pe_lc rfl sc_Lets___init__.nd (pi_list (pv 1)) (own := [("number", 3)]) (by refine blkOk_by ?_; show blkC ["self", "numbers", "start", "number"] (defScope (inClass (top 16) 0)) _ [("number", 3)] = true; decide +kernel) (fun _ _ _ _ _ => (pg_name (i := 3) sc_Lets___init__.nd rfl (.inl rfl))) (fun _ _ _ _ _ => (pts_one (pt_not (pt_val (pe_cl c_is_between hr (by decide) (by rfl) pass0 (pa_cons (pv 3) (pa_cons pe_int (pa_cons (pe_cn (by rfl) gMOST_COUNT) pa_nil)))))))) (fun _ _ _ _ _ => (pv 3))) (pe_lst pa_nil) (nomark _))
  (pss_one (Gx.ps_raiseV rfl TInvalidList hr (takes_of rfl rfl rfl rfl) (pa_cons (pv 1) pa_nil)))
  pss_nil)
  (pss_cons (ps_if (PW.pt (pw_and (pt_cmpR op_notN (pv 2) pe_non (nomark _)) (pw_and1 (pt_not (pt_val (pe_cl c_is_between hr (by decide) (by rfl) pass0 (pa_cons (pv 2) (pa_cons pe_int (pa_cons (pe_cn (by rfl) gMOST_COUNT) pa_nil)))))))))
  (pss_one (Gx.ps_raiseV rfl TInvalidNumber hr (takes_of rfl rfl rfl rfl) (pa_cons (pv 2) pa_nil)))
  pss_nil)
  (pss_one (ps_expr (pe_m1 c__fill L.cl hr (by decide) pass0 (pv 0) (pa_cons (pv 1) (pa_cons (pv 2) pa_nil)))))))), ?_⟩
  have kn := Kn.lst hS
  refine ⟨.ref na, rfl, .ref na, _, _, _, _, rfl, .ty "list", kn.1, kit_kinds kn.2 (.inr (.inr rfl)), _, rfl, iteF ?_⟩
  refine ⟨.ref na, rfl, _, ns.length, rfl, .inl ⟨_, hS, by rw [List.length_map]⟩, _, _, rfl, rfl, _, rfl, itF (by simp; omega) ?_⟩
  refine ⟨.ref na, rfl, na, rfl, ⟨_, hS⟩, fun D nD => ?_⟩
  refine lc_list (xs := ns.map V.int) (fun i H1 => Same H H1 ∧ H1 D = some (.lst [])) ⟨same_upd nD, upd_same⟩ (fun i H1 _ p => p.1.seq hS) (fun i v H1 hv p => ?_) (fun H1 p => ?_)
  · obtain ⟨n, hn, rfl⟩ := List.mem_map.mp (List.mem_of_getElem? hv)
    refine ⟨rfl, .int n, rfl, .int n, _, some 1, some 1000, rfl, Kn.int K _ n, _, rfl, ?_⟩
    rw [bt_in (hp n hn)]
    exact iteF p
  · obtain ⟨s1, hD⟩ := p
    refine ⟨Nat.zero_le _, fun D2 nD2 => ?_⟩
    refine ne_of' (dq_nil (sqL_of (by rw [upd_ne (ne_of_none hD nD2)]; exact hD))) (dq_nil sqL_upd) ⟨_, rfl, ?_⟩
    refine itF (by rw [eqv_nil]; rfl) ?_
    have s2 : Same H (upd H1 D2 (.lst [])) := s1.trans (same_upd nD2)
    have hx2 := s2 _ _ hx
    have fin : tDrop (tMeth CL "_fill" (spFill K CL) [] E0 (tVar 0) (tCons (tVar 1) (tCons (tVar 2) tNil))) { nx := fun _ H' => Q .non H', rt := Q } [some (.ref x), some (.ref na), some (oV st), none] (upd H1 D2 (.lst [])) := by
      refine ⟨.ref x, rfl, x, dx, [], rfl, hx2, rfl, .ref na, rfl, oV st, rfl, x, na, st, dx, ns, rfl, hx2, s2.seq hS, by omega, fun n hn => by have := hp n hn; omega, fun s e => by have := hs s e; omega, fun H' sg lt => ?_⟩
      exact q H' ((s2.sg x).trans sg) lt
    cases st with
    | none =>
      refine ⟨.non, rfl, rfl, _, rfl, itF (by simp) (iteF ?_)⟩
      exact fin
    | some s0 =>
      refine ⟨.int s0, rfl, rfl, _, rfl, itT (by simp) ?_⟩
      refine ⟨.int s0, rfl, .int s0, _, some 1, some 1000, rfl, Kn.int K _ s0, _, rfl, ?_⟩
      rw [bt_in (hs s0 rfl)]
      exact iteF fin
theorem sorted_one {l m : List Int} (p : l.Perm m) (h1 : l.Pairwise (· ≤ ·)) (h2 : m.Pairwise (· ≤ ·)) : l = m :=
  List.Perm.eq_of_pairwise (le := (· ≤ ·)) (fun a b _ _ h h' => Int.le_antisymm h h') h1 h2 p
def spNums (CL : Addr) : Sp := fun vs H Q _ => ∃ a held st, vs = [.ref a] ∧ Lt CL H a held st ∧ held.length < 64 ∧ ∀ (ns : List Int) H' p, ns.Perm held → ns.Pairwise (· ≤ ·) → Same H H' → H' p = some (.lst (ns.map V.int)) → Q (.ref p) H'
theorem cl_numbers (D : Me K CL "numbers" "Lets.numbers" (inClass (top 16) 2)) (L : LetsC K mg CL) (Bn : Bns mg) : ClM P w K mg base CX0 1 CL "numbers" (spNums CL) := by
  refine clM0 D sc_Lets_numbers (fun vs H Q E ⟨a, held, st, e, _⟩ => by rw [e]; rfl) (fun _ _ _ _ _ _ us hl => match us, hl with | [_], _ => rfl) (fun f cdv A outer s H vs Q E hr h => ?_)
  obtain ⟨a, held, st, rfl, lt, hlen, q⟩ := h
  obtain ⟨dx, hd, e1, e2⟩ := lt.ex
  refine ⟨_, (pss_one (ps_ret (pe_callB cr_sorted (by rfl) Bn.sorted bt_sorted (pa_cons (pe_callTy (call_list_dK rfl) (by rfl) Bn.list bt_list (pa_cons (pe_fld (pv 0) rfl) pa_nil)) pa_nil)))), ?_⟩
  refine ⟨.ref a, rfl, a, CL, dx, _, .ref hd, rfl, e1, L.cl, L.nH, rfl, hd, _, rfl, e2, fun p1 n1 => ?_⟩
  refine ⟨p1, held, rfl, sqL_of (by rw [upd_same, List.map_map]; rfl), hlen, fun ns p pm sr n2 => ?_⟩
  exact q ns _ p pm sr ((same_upd n1).trans (same_upd n2)) upd_same
def spStart (CL : Addr) : Sp := fun vs H Q _ => ∃ a held st, vs = [.ref a] ∧ Lt CL H a held st ∧ Q (oV st) H
theorem cl_start (D : Me K CL "start" "Lets.start" (inClass (top 16) 3)) (L : LetsC K mg CL) : ClM P w K mg base CX0 1 CL "start" (spStart CL) := by
  refine clM0 D sc_Lets_start (fun vs H Q E ⟨a, held, st, e, _⟩ => by rw [e]; rfl) (fun _ _ _ _ _ _ us hl => match us, hl with | [_], _ => rfl) (fun f cdv A outer s H vs Q E hr h => ?_)
  obtain ⟨a, held, st, rfl, lt, q⟩ := h
  obtain ⟨dx, hd, e1, e2⟩ := lt.ex
  refine ⟨_, (pss_one (ps_ret (pe_fld (pv 0) rfl))), ?_⟩
  exact ⟨.ref a, rfl, a, CL, dx, _, oV st, rfl, e1, L.cl, L.nS, rfl, q⟩
/-- two objects that hold the same -/
def EqL (CL : Addr) (a b : Addr) (H : Hp) : Prop := ∃ held st, Lt CL H a held st ∧ Lt CL H b held st ∧ held.length < 64
theorem cl_eq (D : Me K CL "__eq__" "Lets.__eq__" (inClass (top 16) 5)) (L : LetsC K mg CL) (Bn : Bns mg) (c_numbers : ClM P w K mg base CX0 1 CL "numbers" (spNums CL)) (c_start : ClM P w K mg base CX0 1 CL "start" (spStart CL)) :
    ClM P w K mg base CX0 2 CL "__eq__" (spEq (EqL CL)) := by
  refine clM0 D sc_Lets___eq__ (fun vs H Q E ⟨a, b, e, _⟩ => by rw [e]; rfl) (fun _ _ _ _ _ _ us hl => match us, hl with | [_, _], _ => rfl) (fun f cdv A outer s H vs Q E hr h => ?_)
  obtain ⟨a, b, rfl, ⟨held, st, la, lb, hlen⟩, q⟩ := h
  have hu64 := hu64_of hr
  obtain ⟨dx, hd, e1, e2⟩ := la.ex
  obtain ⟨dy, hb, g1, g2⟩ := lb.ex
  refine ⟨_, (pss_cons (ps_if (pt_not (pt_val (pe_callB call_isi (by rfl) Bn.isinstance bt_isinstance (pa_cons (pv 1) (pa_cons (pe_glob (by rfl) L.gL (v := .ref CL) rfl) pa_nil)))))
  (pss_one (ps_ret pe_bl))
  pss_nil)
  (pss_one (ps_ret (pe_and (pe_cmpR (op_eqD hu64) (pe_m0 c_numbers L.cl hr (by decide) pass0 (pv 0)) (pe_m0 c_numbers L.cl hr (by decide) pass0 (pv 1)) (nomark _)) (pe_one (pe_cmpR op_eq (pe_fld (pv 0) rfl) (pe_m0 c_start L.cl hr (by decide) pass0 (pv 1)) (nomark _))))))), ?_⟩
  have kt : PySem.W.kitOne K (.ref CL) (.ref CL) = some true := by
    unfold PySem.W.kitOne
    rw [if_pos (beq_self_eq_true _)]
  refine ⟨.ref b, rfl, .ref b, _, _, _, _, rfl, .own CL, .base (.ins g1 L.cl L.ha L.hn L.htk L.hm), kt, _, rfl, iteF ?_⟩
  refine ⟨.ref a, rfl, a, dx, _, rfl, e1, rfl, a, held, st, rfl, la, hlen, fun n1 H1 p1 pm1 sr1 s1 h1 => ?_⟩
  refine ⟨.ref b, rfl, b, dy, _, rfl, s1 _ _ g1, rfl, b, held, st, rfl, lb.same s1, hlen, fun n2 H2 p2 pm2 sr2 s2 h2 => ?_⟩
  have en : n1 = n2 := sorted_one (pm1.trans pm2.symm) sr1 sr2
  subst en
  refine eq_of (dq_ints (sqL_of (s2 _ _ h1))) (dq_ints (sqL_of h2)) ⟨_, rfl, ?_⟩
  refine itT (by rw [eqv_ints]; simp) ?_
  have s12 := s1.trans s2
  refine ⟨.ref a, rfl, a, CL, dx, _, oV st, rfl, s12 _ _ e1, L.cl, L.nS, rfl, ?_⟩
  refine ⟨.ref b, rfl, b, dy, _, rfl, s12 _ _ g1, rfl, b, held, st, rfl, lb.same s12, ?_⟩
  refine ⟨by cases st <;> rfl, ?_⟩
  have e : decide (oV st = oV st) = true := decide_eq_true rfl
  rw [e]
  exact q H2 s12
/-- x == y for two such objects -/
theorem op_eqM {X : Cx} {j k : Nat} {C : Addr} (c : ClM X.prog X.w X.K X.mg X.base CX0 k C "__eq__" (spEq (EqL C))) (hr : Room j X.A) (hk : k ≤ j) : OpR X (compareOp .Eq) (rEqG (DIns C (EqL C))) := by
  obtain ⟨f, fd, ps, F, hm, b⟩ := c.ex
  exact op_eqG (rcG_ins F hm.at_ hm.fn b pass0) (hr.mono hk)
end
end Gs


/-! The drawing: _law_hash, _law_random, _law_cell, _law_generator, _law_drawn_log. -/
namespace Gs
open PySem PySem.Spec PyProof.Rows L2
theorem sc__law_hash : FnScope ["_law_seed", "_law_index", "_law_mixed"] ["_law_seed", "_law_index"] (defScope (top 25)) := ⟨rfl, rfl, rfl, by decide +kernel, rfl, by decide +kernel, by decide +kernel⟩
theorem sc__law_random : FnScope ["_law_generator_here", "_law_bound", "_law_drawn", "_law_turn"] ["_law_generator_here", "_law_bound"] (defScope (top 26)) := ⟨rfl, rfl, rfl, by decide +kernel, rfl, by decide +kernel, by decide +kernel⟩
theorem sc__law_cell : FnScope ["_law_script", "_law_index"] ["_law_script", "_law_index"] (defScope (top 27)) := ⟨rfl, rfl, rfl, by decide +kernel, rfl, by decide +kernel, by decide +kernel⟩
theorem sc__law_generator : FnScope ["_law_script", "_law_index", "_law_seed"] ["_law_script", "_law_index"] (defScope (top 28)) := ⟨rfl, rfl, rfl, by decide +kernel, rfl, by decide +kernel, by decide +kernel⟩
theorem sc__law_drawn_log : FnScope ["_law_generator_here", "_law_length", "_law_at"] ["_law_generator_here", "_law_length"] (defScope (top 31)) := ⟨rfl, rfl, rfl, by decide +kernel, rfl, by decide +kernel, by decide +kernel⟩
section
variable {P : Program} {w : World} {K : PySem.W.Frag} {mg : Str → Option Value} {base : Heap} {CL : Addr}
def spHash : Sp := fun vs H Q _ => ∃ s c : Int, vs = [.int s, .int c] ∧ s.natAbs < 2 ^ 31 ∧ c.natAbs < 2 ^ 31 ∧ ∀ r : Int, 0 ≤ r → r < 2147483647 → Q (.int r) H
theorem mul31 {i j : Int} (a b : Nat) (ha : i.natAbs < 2 ^ a) (hb : j.natAbs < 2 ^ b) (h0 : 0 < a := by decide) (h1 : 0 < b := by decide) (h : a + b ≤ 1000000 := by decide) : CMulW i j := wide_mul ha hb h0 h1 h
theorem cl_hash (D : De K mg "_law_hash" (top 25)) (Bn : Bns mg) : Cl P w K mg base CX0 1 "_law_hash" spHash := by
  refine cl0 D sc__law_hash (fun vs H Q E ⟨s, c, e, _⟩ => by rw [e]; rfl) (fun _ _ _ _ _ _ us hl => match us, hl with | [_, _], _ => rfl) (fun f cdv A outer s H vs Q E hr h => ?_)
  obtain ⟨sd, c, rfl, h1, h2, q⟩ := h
  refine ⟨_, (pss_cons (ps_set (i := 2) sc__law_hash.nd rfl (.inl rfl) (pe_op op_mod (pe_callTy call_int1 (by rfl) Bn.int bt_int (pa_cons (pe_op op_add (pe_op op_add (pe_op op_add (pe_op op_mulW (pv 0) pe_int) (pe_op op_mulW (pe_op op_mulW pe_int (pv 1)) (pv 1))) (pe_op op_mulW pe_int (pv 1))) pe_int) pa_nil)) pe_int))
  (pss_cons (ps_set (i := 2) sc__law_hash.nd rfl (.inl rfl) (pe_op op_mod (pe_callTy call_int1 (by rfl) Bn.int bt_int (pa_cons (pe_op op_add (pe_op op_add (pe_op op_mulW (pv 2) (pv 2)) (pe_op op_mulW pe_int (pv 1))) pe_int) pa_nil)) pe_int))
  (pss_one (ps_ret (pe_op op_mod (pe_callTy call_int1 (by rfl) Bn.int bt_int (pa_cons (pe_op op_mulW (pv 2) pe_int) pa_nil)) pe_int))))), ?_⟩
  have b1 : (27644437 * c).natAbs < 2 ^ (25 + 31) := wide_lt (by decide) h2
  -- the first
  refine ⟨.int sd, rfl, sd, 1140671, rfl, rfl, mul31 31 21 h1 (by decide), ?_⟩
  refine ⟨.int c, rfl, 27644437, c, rfl, rfl, mul31 25 31 (by decide) h2, ?_⟩
  refine ⟨.int c, rfl, _, c, rfl, rfl, mul31 56 31 b1 h2, ?_⟩
  refine ⟨_, _, rfl, rfl, .int c, rfl, 131, c, rfl, rfl, mul31 8 31 (by decide) h2, ?_⟩
  refine ⟨_, _, rfl, rfl, _, _, rfl, rfl, .inl ⟨_, rfl, _, _, rfl, rfl, (show (0 : Int) < 2147483629 by decide), ?_⟩⟩
  have g1 : ((sd * 1140671 + 27644437 * c * c + 131 * c + 19) % 2147483629 : Int).natAbs < 2 ^ 31 := by
    have := Int.emod_nonneg (sd * 1140671 + 27644437 * c * c + 131 * c + 19) (b := 2147483629) (by decide)
    have := Int.emod_lt_of_pos (sd * 1140671 + 27644437 * c * c + 131 * c + 19) (b := 2147483629) (by decide)
    omega
  refine ⟨_, rfl, _, rfl, _, _, rfl, rfl, mul31 31 31 g1 g1, ?_⟩
  refine ⟨.int c, rfl, 62089, c, rfl, rfl, mul31 16 31 (by decide) h2, ?_⟩
  refine ⟨_, _, rfl, rfl, _, _, rfl, rfl, .inl ⟨_, rfl, _, _, rfl, rfl, (show (0 : Int) < 2147483587 by decide), ?_⟩⟩
  generalize hm1 : ((sd * 1140671 + 27644437 * c * c + 131 * c + 19) % 2147483629 : Int) = m1 at g1
  have g2 : ((m1 * m1 + 62089 * c + 32416187) % 2147483587 : Int).natAbs < 2 ^ 31 := by
    have := Int.emod_nonneg (m1 * m1 + 62089 * c + 32416187) (b := 2147483587) (by decide)
    have := Int.emod_lt_of_pos (m1 * m1 + 62089 * c + 32416187) (b := 2147483587) (by decide)
    omega
  refine ⟨_, rfl, _, 48271, rfl, rfl, mul31 31 16 (hm1.symm ▸ g2) (by decide), .inl ⟨_, rfl, _, _, rfl, rfl, (show (0 : Int) < 2147483647 by decide), ?_⟩⟩
  exact q _ (Int.emod_nonneg _ (by decide)) (Int.emod_lt_of_pos _ (by decide))
/-- the generator's three counts; n: no more have been drawn by hash -/
def Gen (g : Addr) (n : Nat) (H : Hp) : Prop := ∃ a s c : Int, H g = some (.lst [.int a, .int s, .int c]) ∧ 0 ≤ s ∧ s < 2147483647 ∧ 0 ≤ c ∧ c ≤ (n : Int)
theorem Gen.mono {g : Addr} {n m : Nat} {H : Hp} (h : Gen g n H) (l : n ≤ m) : Gen g m H := by
  obtain ⟨a, s, c, e, h1, h2, h3, h4⟩ := h
  exact ⟨a, s, c, e, h1, h2, h3, by omega⟩
theorem Gen.same {g : Addr} {n : Nat} {H H' : Hp} (s : Same H H') (h : Gen g n H) : Gen g n H' := by
  obtain ⟨a, sd, c, e, h⟩ := h
  exact ⟨a, sd, c, s _ _ e, h⟩
def spRandom : Sp := fun vs H Q _ => ∃ g n, ∃ b : Int, vs = [.ref g, .int b] ∧ Gen g n H ∧ n ≤ 1000000 ∧ 0 < b ∧ b.natAbs < 2 ^ 100 ∧ ∀ H' r, Sg g H H' → Gen g (n + 4) H' → 0 ≤ r → r < b → Q (.int r) H'
theorem cl_random (D : De K mg "_law_random" (top 26)) (Bn : Bns mg) (c__law_hash : Cl P w K mg base CX0 1 "_law_hash" spHash) : Cl P w K mg base CX0 2 "_law_random" spRandom := by
  refine cl0 D sc__law_random (fun vs H Q E ⟨g, n, b, e, _⟩ => by rw [e]; rfl) (fun _ _ _ _ _ _ us hl => match us, hl with | [_, _], _ => rfl) (fun f cdv A outer s H vs Q E hr h => ?_)
  obtain ⟨g, n, b, rfl, ⟨a, sd, c, hg, s1, s2, c1, c2⟩, hn, b1, b2, q⟩ := h
  refine ⟨_, (pss_cons (ps_if (pt_cmpR op_gt (pe_ix ix_list (pv 0) pe_int fun _ _ => rfl) pe_int (nomark _))
  (pss_cons (ps_set (i := 2) sc__law_random.nd rfl (.inl rfl) (pe_op op_mod (pe_callTy call_int1 (by rfl) Bn.int bt_int (pa_cons (pe_ix ix_list (pv 0) pe_int fun _ _ => rfl) pa_nil)) (pv 1)))
  (pss_cons (ps_asg (pe_op op_fdivW (pe_ix ix_list (pv 0) pe_int fun _ _ => rfl) (pv 1)) (pg_sub (pv 0) pe_int set_list))
  (pss_one (ps_ret (pv 2)))))
  pss_nil)
  (pss_cons (ps_set (i := 2) sc__law_random.nd rfl (.inl rfl) pe_int)
  (pss_cons (ps_for PassesOwn.never rfl (pi_range1 (by rfl) Bn.range (pa_cons (pe_op op_add pe_int (pe_op op_fdivW (pe_bits (pv 1)) pe_int)) pa_nil)) (pg_name (i := 3) sc__law_random.nd rfl (.inl rfl))
  (pss_cons (ps_asg (pe_op op_add (pe_ix ix_list (pv 0) pe_int fun _ _ => rfl) pe_int) (pg_sub (pv 0) pe_int set_list))
  (pss_one (ps_set (i := 2) sc__law_random.nd rfl (.inl rfl) (pe_op op_add (pe_op op_mulW (pv 2) pe_int) (pe_cl c__law_hash hr (by decide) (by rfl) pass0 (pa_cons (pe_ix ix_list (pv 0) pe_int fun _ _ => rfl) (pa_cons (pe_ix ix_list (pv 0) pe_int fun _ _ => rfl) pa_nil))))))))
  (pss_one (ps_ret (pe_op op_mod (pe_callTy call_int1 (by rfl) Bn.int bt_int (pa_cons (pv 2) pa_nil)) (pv 1))))))), ?_⟩
  have at0 : ∀ {x y z : V}, atI [x, y, z] 0 = some x := fun {x y z} => rfl
  have at1 : ∀ {x y z : V}, atI [x, y, z] 1 = some y := fun {x y z} => rfl
  have at2 : ∀ {x y z : V}, atI [x, y, z] 2 = some z := fun {x y z} => rfl
  refine ⟨.ref g, rfl, g, _, 0, .int a, rfl, rfl, sqL_of hg, at0, a, 0, rfl, rfl, _, rfl, ?_⟩
  by_cases ca : 0 < a
  · refine itT (decide_eq_true ca) ?_
    refine ⟨.ref g, rfl, g, _, 0, .int a, rfl, rfl, sqL_of hg, at0, .inl ⟨a, rfl, .int b, rfl, a, b, rfl, rfl, b1, ?_⟩⟩
    refine ⟨.ref g, rfl, g, _, 0, .int a, rfl, rfl, sqL_of hg, at0, .int b, rfl, a, b, rfl, rfl, wide_div b1 b2 (by decide) (by decide), ?_⟩
    refine ⟨.ref g, rfl, g, _, 0, 0, rfl, rfl, hg, rfl, ?_⟩
    refine ⟨.int (a % b), rfl, ?_⟩
    exact q _ _ (sg_gen (Sg.refl g H)) ⟨a / b, sd, c, upd_same, s1, s2, c1, by omega⟩ (Int.emod_nonneg _ (by omega)) (Int.emod_lt_of_pos _ b1)
  · refine itF (by simpa using ca) ?_
    have hb := PyProof.Rows.intBits_le (a := b) b2
    refine ⟨.int b, rfl, b, rfl, _, 30, rfl, rfl, wide_div (by decide) (b := 5) (by decide) (by decide) (by decide), 1, _, rfl, rfl, _, rfl, by omega, by omega, ?_⟩
    have ht : (1 + (Builtin.Int.intBits b : Int) / 30).toNat ≤ 4 := by omega
    generalize (1 + (Builtin.Int.intBits b : Int) / 30).toNat = N at ht
    refine for_range (fun i σ H1 => ∃ (y : Int) (y3 : Option V) (c' : Int), σ = [some (.ref g), some (.int b), some (.int y), y3] ∧ Sg g H H1 ∧ H1 g = some (.lst [.int a, .int sd, .int c']) ∧ 0 ≤ c' ∧ c' ≤ (n : Int) + (i : Nat) ∧ y.natAbs < 2 ^ (32 * i + 1))
      ⟨0, none, c, rfl, Sg.refl g H, hg, c1, by simpa using c2, by decide⟩ (fun i σ H1 hi hv => ?_) (fun σ H1 hv => ?_)
    · obtain ⟨y, y3, c', rfl, sg, hg1, d1, d2, hy⟩ := hv
      refine ⟨.ref g, rfl, g, _, 2, .int c', rfl, rfl, sqL_of hg1, at2, c', 1, rfl, rfl, .ref g, rfl, g, _, 2, 2, rfl, rfl, hg1, rfl, ?_⟩
      refine ⟨.int y, rfl, y, 2147483587, rfl, rfl, wide_mul (a := 32 * i + 1) (b := 31) hy (by decide) (by omega) (by decide) (by omega), ?_⟩
      refine ⟨.ref g, rfl, g, _, 1, .int sd, rfl, rfl, sqL_of upd_same, at1, .ref g, rfl, g, _, 2, .int (c' + 1), rfl, rfl, sqL_of upd_same, at2, sd, c' + 1, rfl, by omega, by omega, fun r r1 r2 => ?_⟩
      refine ⟨_, _, rfl, rfl, y * 2147483587 + r, _, c' + 1, rfl, sg_gen sg, upd_same, by omega, by omega, ?_⟩
      have p1 : (y * 2147483587).natAbs < 2 ^ (32 * i + 1 + 31) := wide_lt hy (by decide)
      have p2 : (2 : Nat) ^ 31 ≤ 2 ^ (32 * i + 1 + 31) := Nat.pow_le_pow_right (by decide) (by omega)
      have p3 : (2 : Nat) ^ (32 * (i + 1) + 1) = 2 * 2 ^ (32 * i + 1 + 31) := by rw [show 32 * (i + 1) + 1 = (32 * i + 1 + 31) + 1 by omega, Nat.pow_succ, Nat.mul_comm]
      rw [p3]
      have p4 : (2 : Nat) ^ 31 = 2147483648 := by decide
      generalize 2 ^ (32 * i + 1 + 31) = Z at p1 p2
      omega
    · obtain ⟨y, y3, c', rfl, sg, hg1, d1, d2, hy⟩ := hv
      refine ⟨.int y, rfl, .inl ⟨y, rfl, .int b, rfl, y, b, rfl, rfl, b1, ?_⟩⟩
      exact q _ _ sg ⟨a, sd, c', hg1, s1, s2, d1, by omega⟩ (Int.emod_nonneg _ (by omega)) (Int.emod_lt_of_pos _ b1)
def spCell (K : PySem.W.Frag) : Sp := fun vs H Q _ => ∃ (a : Addr) (ns : List Int) (k : Nat), vs = [.ref a, .int (k : Int)] ∧ SqL K H a (ns.map V.int) ∧ ∀ H' r, Same H H' → Q (.int r) H'
theorem cl_cell (D : De K mg "_law_cell" (top 27)) (Bn : Bns mg) : Cl P w K mg base CX0 1 "_law_cell" (spCell K) := by
  refine cl0 D sc__law_cell (fun vs H Q E ⟨a, ns, k, e, _⟩ => by rw [e]; rfl) (fun _ _ _ _ _ _ us hl => match us, hl with | [_, _], _ => rfl) (fun f cdv A outer s H vs Q E hr h => ?_)
  obtain ⟨a, ns, k, rfl, hS, q⟩ := h
  refine ⟨_, (pss_cons (ps_if (pt_cmpR op_lt (pv 1) (pe_callB call_len (by rfl) Bn.len bt_len (pa_cons (pv 0) pa_nil)) (nomark _))
  (pss_one (ps_ret (pe_ix ix_list (pv 0) (pv 1) fun _ _ => rfl)))
  pss_nil)
  (pss_one (ps_ret (pe_op op_mod (pe_callB (cr_sum rfl) (by rfl) Bn.sum bt_sum (pa_cons (pe_slice sl_list (pv 0) po_none (po_some pe_int)) pa_nil)) pe_int)))), ?_⟩
  refine ⟨.int k, rfl, .ref a, rfl, _, ns.length, rfl, .inl ⟨_, hS, by rw [List.length_map]⟩, _, _, rfl, rfl, _, rfl, ?_⟩
  by_cases c : k < ns.length
  · refine itT (by simpa using c) ?_
    exact ⟨.ref a, rfl, .int k, rfl, a, _, (k : Int), .int ns[k], rfl, rfl, hS, atI_nat (mapI_get (List.getElem?_eq_getElem c)), q H _ (Same.refl H)⟩
  · refine itF (by simpa using c) ?_
    refine ⟨.ref a, rfl, _, rfl, a, _, rfl, hS, fun p np => ?_⟩
    refine ⟨p, ns.take 1, rfl, sqL_of (by rw [upd_same, cut_to (k := 1) _ (i := 1) rfl, List.map_take]), ?_⟩
    exact ⟨_, _, rfl, rfl, (show (0 : Int) < 1000003 by decide), q _ _ (same_upd np)⟩
def spGenr (K : PySem.W.Frag) : Sp := fun vs H Q _ => ∃ (a : Addr) (ns : List Int) (k : Nat), vs = [.ref a, .int (k : Int)] ∧ k ≤ 3 ∧ SqL K H a (ns.map V.int) ∧ ∀ H' g, Same H H' → H g = none → Gen g 3000 H' → Q (.ref g) H'
theorem cl_generator (D : De K mg "_law_generator" (top 28)) (Bn : Bns mg) (c__law_cell : Cl P w K mg base CX0 1 "_law_cell" (spCell K)) : Cl P w K mg base CX0 2 "_law_generator" (spGenr K) := by
  refine cl0 D sc__law_generator (fun vs H Q E ⟨a, ns, k, e, _⟩ => by rw [e]; rfl) (fun _ _ _ _ _ _ us hl => match us, hl with | [_, _], _ => rfl) (fun f cdv A outer s H vs Q E hr h => ?_)
  obtain ⟨a, ns, k, rfl, hk, hS, q⟩ := h
  refine ⟨_, (pss_cons (ps_set (i := 2) sc__law_generator.nd rfl (.inl rfl) (pe_cl c__law_cell hr (by decide) (by rfl) pass0 (pa_cons (pv 0) (pa_cons (pv 1) pa_nil))))
  (pss_one (ps_ret (pe_lst (pa_cons (pe_op op_mod (pe_callTy call_int1 (by rfl) Bn.int bt_int (pa_cons (pe_callB (call_max2 rfl) (by rfl) Bn.max bt_max (pa_cons (pe_op op_sub (pv 2) (pe_op Gr.op_powW pe_int pe_int)) (pa_cons pe_int pa_nil))) pa_nil)) (pe_op Gr.op_powW (pe_op Gr.op_powW pe_int pe_int) pe_int)) (pa_cons (pe_op op_mod (pe_callTy call_int1 (by rfl) Bn.int bt_int (pa_cons (pv 2) pa_nil)) pe_int) (pa_cons (pe_op op_mulW pe_int (pv 1)) pa_nil))))))), ?_⟩
  refine ⟨.ref a, rfl, .int k, rfl, a, ns, k, rfl, hS, fun H1 r s1 => ?_⟩
  have big : (0 : Int) < ((10 : Int) ^ (60 : Int).toNat) ^ (10 : Int).toNat := Int.pow_pos (Int.pow_pos (by decide))
  refine ⟨.int r, rfl, 10, 18, rfl, rfl, ⟨by decide, by decide⟩, r, _, rfl, rfl, _, _, rfl, .inl ⟨_, rfl, 10, 60, rfl, rfl, ⟨by decide, by decide⟩, _, 10, rfl, rfl, ⟨by decide, by decide +kernel⟩, _, _, rfl, rfl, big, ?_⟩⟩
  refine ⟨.int r, rfl, .inl ⟨r, rfl, r, _, rfl, rfl, (show (0 : Int) < 2147483647 by decide), ?_⟩⟩
  refine ⟨.int k, rfl, 1000, (k : Int), rfl, rfl, wide_mul (a := 10) (b := 10) (by decide) (by omega) (by decide) (by decide) (by decide), ?_⟩
  refine ⟨by show 3 ≤ sizeLine; decide, fun g ng => ?_⟩
  refine q _ g (s1.trans (same_upd ng)) (s1.free ng) ⟨_, _, _, upd_same, Int.emod_nonneg _ (by decide), Int.emod_lt_of_pos _ (by decide), by omega, by omega⟩
def spLog : Sp := fun vs H Q _ => ∃ (g : Addr) (n k : Nat), vs = [.ref g, .int (k : Int)] ∧ k ≤ 7 ∧ Gen g n H ∧ n ≤ 900000 ∧ ∀ (H' : Hp) (p : Addr) (l : List Int), Sg g H H' → Gen g (n + 28) H' → H p = none → H' p = some (.lst (l.map V.int)) → l.length = k → (∀ x ∈ l, 0 ≤ x) → Q (.ref p) H'
theorem cl_drawnlog (D : De K mg "_law_drawn_log" (top 31)) (Bn : Bns mg) (c__law_random : Cl P w K mg base CX0 2 "_law_random" spRandom) : Cl P w K mg base CX0 3 "_law_drawn_log" spLog := by
  refine cl0 D sc__law_drawn_log (fun vs H Q E ⟨g, n, k, e, _⟩ => by rw [e]; rfl) (fun _ _ _ _ _ _ us hl => match us, hl with | [_, _], _ => rfl) (fun f cdv A outer s H vs Q E hr h => ?_)
  obtain ⟨g, n, k, rfl, hk, hG, hn, q⟩ := h
  refine ⟨_, (pss_one (ps_ret (pe_lc rfl sc__law_drawn_log.nd (pi_range1 (by rfl) Bn.range (pa_cons (pv 1) pa_nil)) (own := [("_law_at", 2)]) (by refine blkOk_by ?_; show blkC ["_law_generator_here", "_law_length", "_law_at"] (defScope (top 31)) _ [("_law_at", 2)] = true; decide +kernel) (fun _ _ _ _ _ => (pg_name (i := 2) sc__law_drawn_log.nd rfl (.inl rfl))) (fun _ _ _ _ _ => pts_nil) (fun _ _ _ _ _ => (pe_cl c__law_random hr (by decide) (by rfl) pass0 (pa_cons (pv 0) (pa_cons (pe_op op_add (pv 2) pe_int) pa_nil))))))), ?_⟩
  refine ⟨.int k, rfl, (k : Int), rfl, by omega, by omega, fun D nD => ?_⟩
  have Dg : D ≠ g := fun e => by obtain ⟨_, _, _, hg, _⟩ := hG; rw [e, hg] at nD; cases nD
  refine lc_range (fun i H1 => ∃ l : List Int, Sg g H H1 ∧ Gen g (n + 4 * i) H1 ∧ H1 D = some (.lst (l.map V.int)) ∧ l.length = i ∧ ∀ x ∈ l, 0 ≤ x) ⟨[], sg_put (Sg.refl g H) nD, (hG.same (same_upd nD)).mono (by omega), upd_same, rfl, fun x hx => by cases hx⟩ (fun i H1 hi hv => ?_) (fun H1 hv => ?_)
  · obtain ⟨l, sg, hG1, hD, hl, hx⟩ := hv
    have hi' : i < k := by omega
    refine ⟨rfl, ?_⟩
    refine ⟨.ref g, rfl, _, rfl, _, 1, rfl, rfl, g, n + 4 * i, _, rfl, hG1, by omega, by omega, by omega, fun H2 r s2 hG2 r1 r2 => ?_⟩
    refine ⟨l.map V.int, s2 _ _ Dg hD, by rw [List.length_map]; exact small1000 (by omega), l ++ [r], sg_put (sg.trans s2) nD, ?_, by rw [upd_same, List.map_append]; rfl, by rw [List.length_append, hl]; rfl, fun x h => ?_⟩
    · obtain ⟨a, sd, c, hg, h⟩ := hG2
      exact ⟨a, sd, c, by rw [upd_ne (Ne.symm Dg)]; exact hg, h.1, h.2.1, h.2.2.1, by have := h.2.2.2; omega⟩
    · rcases List.mem_append.mp h with h | h
      · exact hx x h
      · rw [List.mem_singleton.mp h]; exact r1
  · obtain ⟨l, sg, hG1, hD, hl, hx⟩ := hv
    have e : ((k : Int)).toNat = k := Int.toNat_natCast k
    rw [e] at hG1 hl
    exact q H1 D l sg (hG1.mono (by omega)) nD hD hl hx
end
end Gs


/-! The ways: _law_menu, _law_let, _law_pair, _law_near, _law_lets, _law_exchanged. -/
namespace Gs
open PySem PySem.Spec PyProof.Rows L2
theorem sc__law_menu : FnScope ["_law_found"] [] (defScope (top 32)) := ⟨rfl, rfl, rfl, by decide +kernel, rfl, by decide +kernel, by decide +kernel⟩
theorem sc__law_let : FnScope ["_law_way", "_law_count"] ["_law_way", "_law_count"] (defScope (top 33)) := ⟨rfl, rfl, rfl, by decide +kernel, rfl, by decide +kernel, by decide +kernel⟩
theorem sc__law_pair : FnScope ["_law_way", "_law_first", "_law_second"] ["_law_way", "_law_first", "_law_second"] (defScope (top 34)) := ⟨rfl, rfl, rfl, by decide +kernel, rfl, by decide +kernel, by decide +kernel⟩
theorem sc__law_near : FnScope ["_law_way", "_law_row", "_law_found", "_law_at", "_law_pair_here"] ["_law_way", "_law_row"] (defScope (top 35)) := ⟨rfl, rfl, rfl, by decide +kernel, rfl, by decide +kernel, by decide +kernel⟩
theorem sc__law_lets : FnScope ["_law_way", "_law_numbers"] ["_law_way"] (defScope (top 37)) := ⟨rfl, rfl, rfl, by decide +kernel, rfl, by decide +kernel, by decide +kernel⟩
theorem sc__law_exchanged : FnScope ["_law_numbers", "_law_at"] ["_law_numbers", "_law_at"] (defScope (top 38)) := ⟨rfl, rfl, rfl, by decide +kernel, rfl, by decide +kernel, by decide +kernel⟩
/-- a way: a tuple of the counts and the start -/
structure Way (H : Hp) (t : Addr) (ns : List Int) (st : Option Int) : Prop where
  ex : ∃ la, H t = some (.tup [.ref la, oV st]) ∧ H la = some (.lst (ns.map V.int))
  len : ns.length ≤ 8
  bn : ∀ n ∈ ns, 1 ≤ n ∧ n ≤ 1000
  bs : ∀ s, st = some s → 1 ≤ s ∧ s ≤ 1000
theorem Way.same {H H' : Hp} {t : Addr} {ns : List Int} {st : Option Int} (s : Same H H') (h : Way H t ns st) : Way H' t ns st := ⟨let ⟨la, a, b⟩ := h.ex; ⟨la, s _ _ a, s _ _ b⟩, h.len, h.bn, h.bs⟩
theorem Way.sg {g : Addr} {n : Nat} {H H' : Hp} {t : Addr} {ns : List Int} {st : Option Int} (s : Sg g H H') (h : Way H t ns st) (h1 : t ≠ g) (h2 : ∀ la, H t = some (.tup [.ref la, oV st]) → la ≠ g) : Way H' t ns st := ⟨let ⟨la, a, b⟩ := h.ex; ⟨la, s _ _ h1 a, s _ _ (h2 la a) b⟩, h.len, h.bn, h.bs⟩
theorem Way.posD {H : Hp} {t : Addr} {ns : List Int} {st : Option Int} (h : Way H t ns st) : Gs.pos (letD ns st) := fun c hc => by
  unfold letD at hc
  rw [Bool.or_eq_true] at hc
  rcases hc with hc | hc
  · exact (h.bn c (of_decide_eq_true hc)).1
  · cases st with
    | none => simp at hc
    | some s =>
      have z := (h.bs s rfl).1
      simp at hc
      omega
/-- what is new since H0 -/
def nw (H0 H : Hp) : Hp := fun b => match H0 b with
  | none => H b
  | some _ => none
theorem nw_at {H0 H : Hp} {b : Addr} (h : H0 b = none) : nw H0 H b = H b := by
  unfold nw
  rw [h]
theorem nw_of {H0 H : Hp} {b : Addr} {o : HO} (h : nw H0 H b = some o) : H0 b = none ∧ H b = some o := by
  cases e : H0 b with
  | none => exact ⟨rfl, by rw [nw_at e] at h; exact h⟩
  | some u =>
    unfold nw at h
    rw [e] at h
    cases h
theorem nw_same (H0 H : Hp) : Same (nw H0 H) H := fun b o e => (nw_of e).2
theorem nw_mono {H0 H1 H2 : Hp} (s : Same H1 H2) : Same (nw H0 H1) (nw H0 H2) := fun b o e => by
  obtain ⟨e1, e2⟩ := nw_of e
  rw [nw_at e1]
  exact s b o e2
theorem nw_back {H0 H1 H2 : Hp} (s : Same H0 H1) : Same (nw H1 H2) (nw H0 H2) := fun b o e => by
  obtain ⟨e1, e2⟩ := nw_of e
  rw [nw_at (s.free e1)]
  exact e2
/-- a list of ways, from its display; all of them new -/
def Ways (H : Hp) (vs : List V) : Prop := ∀ v ∈ vs, ∃ t ns st, v = .ref t ∧ Way H t ns st
theorem Ways.same {H H' : Hp} {vs : List V} (s : Same H H') (h : Ways H vs) : Ways H' vs := fun v hv => let ⟨t, ns, st, e, w⟩ := h v hv; ⟨t, ns, st, e, w.same s⟩
def WayR (te : TE) (σ : L2.St) : Prop := ∀ (H : Hp) (Q : VK), (∀ H' t ns st, Same H H' → Way (nw H H') t ns st → Q (.ref t) H') → te σ H Q
def WaysR (ta : TA) (σ : L2.St) (n : Nat) : Prop := ∀ (H : Hp) (Q : List V → Hp → Prop), (∀ H' vs, Same H H' → Ways (nw H H') vs → vs.length = n → Q vs H') → ta σ H Q
theorem waysR_nil {σ : L2.St} : WaysR tNil σ 0 := fun H Q q => q H [] (Same.refl H) (fun v hv => by cases hv) rfl
theorem waysR_cons {te : TE} {ta : TA} {σ : L2.St} {n : Nat} (h : WayR te σ) (h2 : WaysR ta σ n) : WaysR (tCons te ta) σ (n + 1) := fun H Q q =>
  h H _ fun H1 t ns st s1 w1 => h2 H1 _ fun H2 vs s2 w2 l => q H2 (.ref t :: vs) (s1.trans s2) (fun v hv => by
    rcases List.mem_cons.mp hv with rfl | hv
    · exact ⟨t, ns, st, rfl, w1.same (nw_mono s2)⟩
    · exact (w2.same (nw_back s1)) v hv) (by rw [List.length_cons, l])
def iTA : List Int → TA
  | [] => tNil
  | n :: r => tCons (tC (.int n)) (iTA r)
theorem iTA_read {σ : L2.St} : ∀ (l : List Int) (H : Hp) (Q : List V → Hp → Prop), Q (l.map V.int) H → iTA l σ H Q
  | [], _, _, q => q
  | n :: r, H, Q, q => iTA_read r H (fun xs H2 => Q (.int n :: xs) H2) q
def wTE (p : List Int × Option Int) : TE := tTup (tCons (tLst (iTA p.1)) (tCons (tC (oV p.2)) tNil))
def wTA : List (List Int × Option Int) → TA
  | [] => tNil
  | p :: r => tCons (wTE p) (wTA r)
def wGood (p : List Int × Option Int) : Bool := decide (p.1.length ≤ 8) && (p.1.all fun n => decide (1 ≤ n ∧ n ≤ 1000)) && (p.2.all fun s => decide (1 ≤ s ∧ s ≤ 1000))
theorem wTE_read {σ : L2.St} {p : List Int × Option Int} (h : wGood p = true) : WayR (wTE p) σ := fun H Q q => by
  unfold wGood at h
  rw [Bool.and_eq_true, Bool.and_eq_true] at h
  obtain ⟨⟨len, bn⟩, bs⟩ := h
  refine iTA_read p.1 H _ ⟨by rw [List.length_map]; exact Nat.le_trans (of_decide_eq_true len) (by rw [sizeLine_eq]; decide), fun la nl => ⟨by show 2 ≤ sizeLine; decide, fun t nt =>
    q _ t p.1 p.2 ((same_upd nl).trans (same_upd nt)) ⟨⟨la, by rw [nw_at ((same_upd nl).free nt)]; exact upd_same, by rw [nw_at nl, upd_ne (ne_of_none upd_same nt)]; exact upd_same⟩, of_decide_eq_true len, fun n hn => of_decide_eq_true (List.all_eq_true.mp bn n hn), fun s e => ?_⟩⟩⟩
  rw [e] at bs
  exact of_decide_eq_true bs
theorem wTA_read {σ : L2.St} : ∀ (l : List (List Int × Option Int)), l.all wGood = true → WaysR (wTA l) σ l.length
  | [], _ => waysR_nil
  | p :: r, h => by
    rw [List.all_cons, Bool.and_eq_true] at h
    exact waysR_cons (wTE_read h.1) (wTA_read r h.2)
theorem menu1 {l : List (List Int × Option Int)} {i : Nat} {t2 : TS} {D : Ends} {σ : L2.St} {H : Hp} (h : l.all wGood = true) (hl : l.length ≤ 100)
    (q : ∀ H' p vs, Same H H' → H' p = some (.lst vs) → Ways (nw H H') vs → vs.length = l.length → t2 D (σ.set i (some (.ref p))) H') : tSeq (tAsg (tLst (wTA l)) (gName i)) t2 D σ H :=
  wTA_read l h H _ fun H1 vs s1 w1 l1 => ⟨by rw [l1, sizeLine_eq]; omega, fun p np => q _ p vs (s1.trans (same_upd np)) upd_same (w1.same (nw_mono (same_upd np))) l1⟩
theorem menu2 {l : List (List Int × Option Int)} {i : Nat} {D : Ends} {σ : L2.St} {H : Hp} {p : Addr} {vs : List V} (h : l.all wGood = true) (hl : l.length ≤ 100) (hv : vs.length ≤ 100) (e : σ[i]? = some (some (.ref p))) (hp : H p = some (.lst vs))
    (q : ∀ H' p us, Same H H' → H p = none → H' p = some (.lst (vs ++ us)) → Ways (nw H H') us → us.length = l.length → D.rt (.ref p) H') : tRet (tOp rCat (tVar i) (tLst (wTA l))) D σ H :=
  ⟨.ref p, e, wTA_read l h H _ fun H1 us s1 w1 l1 => ⟨by rw [l1, sizeLine_eq]; omega, fun p2 np2 => ⟨p, p2, vs, us, rfl, rfl, (by rw [upd_ne (ne_of_none (s1 _ _ hp) np2)]; exact s1 _ _ hp), upd_same, by rw [l1, sizeLine_eq]; omega, fun p3 np3 => by
    have s2 : Same H1 (upd (upd H1 p2 (.lst us)) p3 (.lst (vs ++ us))) := (same_upd np2).trans (same_upd np3)
    exact q _ p3 us (s1.trans s2) ((s1.trans (same_upd (o := .lst us) np2)).free np3) upd_same (w1.same (nw_mono s2)) l1⟩⟩⟩
section
variable {P : Program} {w : World} {K : PySem.W.Frag} {mg : Str → Option Value} {base : Heap} {CL : Addr}
def spMenu : Sp := fun vs H Q _ => vs = [] ∧ ∀ H' p ws, Same H H' → H p = none → H' p = some (.lst ws) → Ways (nw H H') ws → ws.length = 16 → Q (.ref p) H'
theorem cl_menu (D : De K mg "_law_menu" (top 32)) : Cl P w K mg base CX0 1 "_law_menu" spMenu := by
  refine cl0 D sc__law_menu (fun vs H Q E h => by rw [h.1]; rfl) (fun _ _ _ _ _ _ us hl => match us, hl with | [], _ => rfl) (fun f cdv A outer s H vs Q E hr h => ?_)
  obtain ⟨rfl, q⟩ := h
  refine ⟨_, (pss_cons (ps_set (i := 0) sc__law_menu.nd rfl (.inl rfl) (pe_lst (pa_cons (pe_tup (pa_cons (pe_lst (pa_cons pe_int pa_nil)) (pa_cons pe_non pa_nil))) (pa_cons (pe_tup (pa_cons (pe_lst (pa_cons pe_int pa_nil)) (pa_cons pe_non pa_nil))) (pa_cons (pe_tup (pa_cons (pe_lst (pa_cons pe_int pa_nil)) (pa_cons pe_non pa_nil))) (pa_cons (pe_tup (pa_cons (pe_lst (pa_cons pe_int (pa_cons pe_int pa_nil))) (pa_cons pe_non pa_nil))) (pa_cons (pe_tup (pa_cons (pe_lst (pa_cons pe_int (pa_cons pe_int pa_nil))) (pa_cons pe_non pa_nil))) (pa_cons (pe_tup (pa_cons (pe_lst (pa_cons pe_int (pa_cons pe_int (pa_cons pe_int pa_nil)))) (pa_cons pe_non pa_nil))) (pa_cons (pe_tup (pa_cons (pe_lst (pa_cons pe_int (pa_cons pe_int pa_nil))) (pa_cons pe_non pa_nil))) pa_nil)))))))))
  (pss_one (ps_ret (pe_op op_cat (pv 0) (pe_lst (pa_cons (pe_tup (pa_cons (pe_lst (pa_cons pe_int (pa_cons pe_int pa_nil))) (pa_cons pe_non pa_nil))) (pa_cons (pe_tup (pa_cons (pe_lst pa_nil) (pa_cons pe_int pa_nil))) (pa_cons (pe_tup (pa_cons (pe_lst pa_nil) (pa_cons pe_int pa_nil))) (pa_cons (pe_tup (pa_cons (pe_lst (pa_cons pe_int (pa_cons pe_int (pa_cons pe_int pa_nil)))) (pa_cons pe_non pa_nil))) (pa_cons (pe_tup (pa_cons (pe_lst (pa_cons pe_int pa_nil)) (pa_cons pe_int pa_nil))) (pa_cons (pe_tup (pa_cons (pe_lst (pa_cons pe_int pa_nil)) (pa_cons pe_int pa_nil))) (pa_cons (pe_tup (pa_cons (pe_lst pa_nil) (pa_cons pe_non pa_nil))) (pa_cons (pe_tup (pa_cons (pe_lst (pa_cons pe_int (pa_cons pe_int pa_nil))) (pa_cons pe_non pa_nil))) (pa_cons (pe_tup (pa_cons (pe_lst (pa_cons pe_int pa_nil)) (pa_cons pe_int pa_nil))) pa_nil)))))))))))))), ?_⟩
  show tSeq (tAsg (tLst (wTA [([1], none), ([2], none), ([3], none), ([1, 4], none), ([2, 3], none), ([3, 4, 5], none), ([2, 6], none)])) (gName 0))
    (tRet (tOp rCat (tVar 0) (tLst (wTA [([1, 3], none), ([], some 1), ([], some 2), ([1, 2, 4], none), ([1], some 4), ([2], some 3), ([], none), ([1, 5], none), ([2], some 6)])))) _ _ _
  refine menu1 (by decide) (by decide) fun H1 p vs s1 hp w1 l1 => ?_
  refine menu2 (by decide) (by decide) (by rw [l1]; decide) rfl hp fun H2 p2 us s2 np2 hp2 w2 l2 => ?_
  refine q H2 p2 (vs ++ us) (s1.trans s2) (s1.free np2) hp2 (fun v hv => ?_) (by rw [List.length_append, l2, l1]; rfl)
  rcases List.mem_append.mp hv with hv | hv
  · exact (w1.same (nw_mono s2)) v hv
  · exact (w2.same (nw_back s1)) v hv
theorem inV_int (i : Int) : ∀ l : List Int, inV (.int i) (l.map V.int) = decide (i ∈ l)
  | [] => rfl
  | j :: r => by
    have ih := inV_int i r
    unfold inV at ih ⊢
    rw [List.map_cons, List.any_cons, ih]
    show (j == i || decide (i ∈ r)) = decide (i ∈ j :: r)
    by_cases e : i = j
    · simp [e]
    · have e2 : ¬ j = i := fun z => e z.symm
      simp [e, e2]
theorem flat_ints : ∀ l : List Int, (l.map V.int).all flatV = true
  | [] => rfl
  | _ :: r => flat_ints r
def spLet : Sp := fun vs H Q _ => ∃ t ns st, ∃ c : Int, vs = [.ref t, .int c] ∧ Way H t ns st ∧ Q (.bl (letD ns st c)) H
theorem cl_let (D : De K mg "_law_let" (top 33)) : Cl P w K mg base CX0 1 "_law_let" spLet := by
  refine cl0 D sc__law_let (fun vs H Q E ⟨t, ns, st, c, e, _⟩ => by rw [e]; rfl) (fun _ _ _ _ _ _ us hl => match us, hl with | [_, _], _ => rfl) (fun f cdv A outer s H vs Q E hr h => ?_)
  obtain ⟨t, ns, st, c, rfl, wy, q⟩ := h
  obtain ⟨la, e1, e2⟩ := wy.ex
  refine ⟨_, (pss_one (ps_ret (pe_and (pe_cmpR op_gt (pv 1) pe_int (nomark _)) (pe_one (pe_or (pe_cmpR op_in_seq (pv 1) (pe_ix ix_tup (pv 0) pe_int fun _ _ => rfl) (by with_unfolding_all rfl)) (pe_one (pe_and (pe_cmpR op_notN (pe_ix ix_tup (pv 0) pe_int fun _ _ => rfl) pe_non (nomark _)) (pe_one (pe_cmpR op_ge (pv 1) (pe_ix ix_tup (pv 0) pe_int fun _ _ => rfl) (nomark _)))))))))), ?_⟩
  have at0 : ∀ {x y : V}, atI [x, y] 0 = some x := fun {x y} => rfl
  have at1 : ∀ {x y : V}, atI [x, y] 1 = some y := fun {x y} => rfl
  have hp := wy.posD c
  refine ⟨.int c, rfl, c, 0, rfl, rfl, _, rfl, ?_⟩
  by_cases c0 : 0 < c
  · refine itT (decide_eq_true c0) ?_
    refine ⟨.int c, rfl, .ref t, rfl, t, _, 0, .ref la, rfl, rfl, sqT_of e1, at0, la, _, rfl, .inl (sqL_of e2), rfl, flat_ints ns, _, rfl, ?_⟩
    have ev : (if false = true then !inV (V.int c) (ns.map V.int) else inV (V.int c) (ns.map V.int)) = decide (c ∈ ns) := by
      rw [if_neg (by decide)]
      exact inV_int c ns
    have q' : Q (.bl (decide (c ∈ ns) || st.any fun s => decide (s ≤ c))) H := q
    by_cases c1 : c ∈ ns
    · refine itT (ev.trans (decide_eq_true c1)) ?_
      rw [decide_eq_true c1, Bool.true_or] at q'
      exact q'
    · refine itF (ev.trans (decide_eq_false c1)) ?_
      rw [decide_eq_false c1, Bool.false_or] at q'
      refine ⟨.ref t, rfl, t, _, 1, oV st, rfl, rfl, sqT_of e1, at1, rfl, _, rfl, ?_⟩
      cases st with
      | none => exact iteF q'
      | some s0 =>
        refine iteT ?_
        exact ⟨.int c, rfl, .ref t, rfl, t, _, 1, .int s0, rfl, rfl, sqT_of e1, at1, c, s0, rfl, rfl, q'⟩
  · refine itF (by simpa using c0) ?_
    have z : letD ns st c = false := by
      cases hh : letD ns st c with
      | false => rfl
      | true => exact absurd (hp hh) c0
    rw [z] at q
    exact q
end
end Gs


/-! The ways again: _law_pair, _law_near, _law_lets, _law_exchanged. -/
namespace Gs
open PySem PySem.Spec PyProof.Rows L2
section
variable {P : Program} {w : World} {K : PySem.W.Frag} {mg : Str → Option Value} {base : Heap} {CL : Addr}
def spPair : Sp := fun vs H Q _ => ∃ t ns st i j, vs = [.ref t, .int i, .int j] ∧ Way H t ns st ∧
  match pairOf (letD ns st) i j with
  | some p => ∀ H' T, Same H H' → H T = none → H' T = some (.lst [.int p.1, .int p.2]) → Q (.ref T) H'
  | none => Q .non H
theorem cl_pair (D : De K mg "_law_pair" (top 34)) (c__law_let : Cl P w K mg base CX0 1 "_law_let" spLet) : Cl P w K mg base CX0 2 "_law_pair" spPair := by
  refine cl0 D sc__law_pair (fun vs H Q E ⟨t, ns, st, i, j, e, _⟩ => by rw [e]; rfl) (fun _ _ _ _ _ _ us hl => match us, hl with | [_, _, _], _ => rfl) (fun f cdv A outer s H vs Q E hr h => ?_)
  obtain ⟨t, ns, st, i, j, rfl, wy, q⟩ := h
  refine ⟨_, (pss_cons (ps_if (pt_val (pe_cl c__law_let hr (by decide) (by rfl) pass0 (pa_cons (pv 0) (pa_cons (pe_op op_sub (pe_op op_sub (pv 2) (pv 1)) pe_int) pa_nil))))
  (pss_one (ps_ret (pe_lst (pa_cons (pe_op op_sub (pv 2) pe_int) (pa_cons (pv 1) pa_nil)))))
  pss_nil)
  (pss_cons (ps_if (pt_val (pe_cl c__law_let hr (by decide) (by rfl) pass0 (pa_cons (pv 0) (pa_cons (pe_op op_sub (pv 1) (pv 2)) pa_nil))))
  (pss_one (ps_ret (pe_lst (pa_cons (pv 2) (pa_cons (pe_op op_add (pv 1) pe_int) pa_nil)))))
  pss_nil)
  (pss_one (ps_ret pe_non)))), ?_⟩
  have two : ∀ (a b : Int), (∀ H' T, Same H H' → H T = none → H' T = some (.lst [.int a, .int b]) → Q (.ref T) H') → ([V.int a, V.int b]).length ≤ sizeLine ∧ ∀ p, H p = none → Q (.ref p) (upd H p (.lst [.int a, .int b])) := fun a b q =>
    ⟨by show 2 ≤ sizeLine; decide, fun p np => q _ p (same_upd np) np upd_same⟩
  unfold pairOf at q
  refine ⟨.ref t, rfl, .int j, rfl, .int i, rfl, j, i, rfl, rfl, j - i, 1, rfl, rfl, t, ns, st, j - i - 1, rfl, wy, _, rfl, ?_⟩
  by_cases d1 : letD ns st (j - i - 1) = true
  · rw [if_pos d1] at q
    refine itT d1 ?_
    refine ⟨.int j, rfl, j, 1, rfl, rfl, .int i, rfl, ?_⟩
    exact two _ _ q
  · rw [if_neg d1] at q
    refine itF (by simpa using d1) ?_
    refine ⟨.ref t, rfl, .int i, rfl, .int j, rfl, i, j, rfl, rfl, t, ns, st, i - j, rfl, wy, _, rfl, ?_⟩
    by_cases d2 : letD ns st (i - j) = true
    · rw [if_pos d2] at q
      refine itT d2 ?_
      refine ⟨.int j, rfl, .int i, rfl, i, 1, rfl, rfl, ?_⟩
      exact two _ _ q
    · rw [if_neg d2] at q
      refine itF (by simpa using d2) ?_
      exact q
def spExc (K : PySem.W.Frag) : Sp := fun vs H Q _ => ∃ (p k : Nat) (l : List Int), vs = [.ref p, .int (k : Int)] ∧ SqL K H p (l.map V.int) ∧ k + 1 < l.length ∧ l.length ≤ 1000 ∧ ∀ H' p', Same H H' → H p' = none → H' p' = some (.lst ((swapAt l k).map V.int)) → Q (.ref p') H'
theorem cl_lawexch (D : De K mg "_law_exchanged" (top 38)) : Cl P w K mg base CX0 1 "_law_exchanged" (spExc K) := by
  refine cl0 D sc__law_exchanged (fun vs H Q E ⟨p, k, l, e, _⟩ => by rw [e]; rfl) (fun _ _ _ _ _ _ us hl => match us, hl with | [_, _], _ => rfl) (fun f cdv A outer s H vs Q E hr h => ?_)
  obtain ⟨p, k, l, rfl, hS, hk, hlen, q⟩ := h
  refine ⟨_, (pss_one (ps_ret (pe_op op_cat (pe_op op_cat (pe_slice sl_list (pv 0) po_none (po_some (pv 1))) (pe_lst (pa_cons (pe_ix ix_list (pv 0) (pe_op op_add (pv 1) pe_int) fun _ _ => rfl) (pa_cons (pe_ix ix_list (pv 0) (pv 1) fun _ _ => rfl) pa_nil)))) (pe_slice sl_list (pv 0) (po_some (pe_op op_add (pv 1) pe_int)) po_none)))), ?_⟩
  exact exch_read (K := K) (i := 0) (j := 1) (l := l) (k := k) rfl rfl hS hk hlen q
/-! ### the list of deeds of a row -/
/-- one entry: the place and the row behind the deed, both made since H0 -/
def Entry (H0 H : Hp) (tp : Addr) (e : Nat × List Int) : Prop := H0 tp = none ∧ ∃ ra, H tp = some (.tup [.int (e.1 : Int), .ref ra]) ∧ H ra = some (.lst (e.2.map V.int)) ∧ H0 ra = none
def NearAt (H0 H : Hp) (p : Addr) (es : List (Nat × List Int)) : Prop := ∃ ts : List Addr, H p = some (.lst (ts.map V.ref)) ∧ Paired (Entry H0 H) ts es
theorem Entry.sg {g : Addr} {H0 H H' : Hp} {tp : Addr} {e : Nat × List Int} (s : Sg g H H') (hg : H0 g ≠ none) (h : Entry H0 H tp e) : Entry H0 H' tp e := by
  obtain ⟨n1, ra, h1, h2, n2⟩ := h
  exact ⟨n1, ra, s _ _ (fun z => hg (z ▸ n1)) h1, s _ _ (fun z => hg (z ▸ n2)) h2, n2⟩
theorem Entry.same {H0 H H' : Hp} {tp : Addr} {e : Nat × List Int} (s : Same H H') (h : Entry H0 H tp e) : Entry H0 H' tp e := by
  obtain ⟨n1, ra, h1, h2, n2⟩ := h
  exact ⟨n1, ra, s _ _ h1, s _ _ h2, n2⟩
/-- the deeds at the first i places -/
def nearTo (D : Let) (l : List Int) (i : Nat) : List (Nat × List Int) := (List.range i).filterMap fun i => (deed D l i).map fun r => (i, r)
theorem nearTo_all (D : Let) (l : List Int) : nearTo D l (l.length - 1) = near D l := rfl
theorem nearTo_succ (D : Let) (l : List Int) (i : Nat) : nearTo D l (i + 1) = nearTo D l i ++ (match deed D l i with | some r => [(i, r)] | none => []) := by
  unfold nearTo
  rw [List.range_succ, List.filterMap_append]
  cases h : deed D l i <;> simp [h]
theorem nearTo_length (D : Let) (l : List Int) (i : Nat) : (nearTo D l i).length ≤ i := by
  unfold nearTo
  exact Nat.le_trans (List.length_filterMap_le _ _) (by rw [List.length_range]; exact Nat.le_refl _)
/-- l[:k] + the list of two + l[k + 2:] -/
def tPut2 (K : PySem.W.Frag) (tl tk tp : TE) : TE :=
  tOp rCat (tOp rCat (tSl (rSlL K) tl tNoPart (tPart tk)) tp) (tSl (rSlL K) tl (tPart (tOp (rI0 fun i j => .int (i + j)) tk (tC (.int 2)))) tNoPart)
theorem put2_read {K : PySem.W.Frag} {i j m : Nat} {σ : L2.St} {H : Hp} {Q : VK} {p T : Addr} {k : Nat} {z x y : Int} {l : List Int} (hl : σ[i]? = some (some (.ref p))) (ha : σ[j]? = some (some (.int z))) (ez : z = (k : Int)) (hm : σ[m]? = some (some (.ref T))) (hT : H T = some (.lst [.int x, .int y]))
    (hS : SqL K H p (l.map V.int)) (hlen : l.length ≤ 1000)
    (q : ∀ H' p', Same H H' → H p' = none → H' p' = some (.lst ((l.take k ++ [x, y] ++ l.drop (k + 2)).map V.int)) → Q (.ref p') H') : tPut2 K (tVar i) (tVar j) (tVar m) σ H Q := by
  subst ez
  refine ⟨.ref p, hl, .int k, ha, _, rfl, p, _, rfl, hS, fun A1 n1 => ?_⟩
  rw [cut_to _ rfl]
  have s1 : Same H (upd H A1 (.lst ((l.map V.int).take k))) := same_upd n1
  refine ⟨.ref T, hm, A1, T, _, _, rfl, rfl, upd_same, s1 _ _ hT, ?_, fun A3 n3 => ?_⟩
  · rw [List.length_take, List.length_map]
    show min k l.length + 2 ≤ sizeLine
    rw [sizeLine_eq]; omega
  · have s3 : Same H (upd (upd H A1 (.lst ((l.map V.int).take k))) A3 (.lst ((l.map V.int).take k ++ [.int x, .int y]))) := s1.trans (same_upd n3)
    refine ⟨.ref p, hl, .int k, ha, (k : Int), 2, rfl, rfl, _, rfl, p, _, rfl, s3.seq hS, fun A4 n4 => ?_⟩
    rw [cut_from (k := k + 2) _ (i := (k : Int) + 2) rfl]
    refine ⟨A3, A4, _, _, rfl, rfl, (by rw [upd_ne (ne_of_none upd_same n4)]; exact upd_same), upd_same, ?_, fun A5 n5 => ?_⟩
    · rw [List.length_append, List.length_take, List.length_drop, List.length_map]
      show min k l.length + 2 + (l.length - (k + 2)) ≤ sizeLine
      rw [sizeLine_eq]; omega
    · refine q _ A5 (s3.trans ((same_upd n4).trans (same_upd n5))) ((s3.trans (same_upd n4)).free n5) ?_
      rw [upd_same]
      simp [List.map_append, List.map_take, List.map_drop]
def spNear (K : PySem.W.Frag) : Sp := fun vs H Q _ => ∃ t ns st r l, vs = [.ref t, .ref r] ∧ Way H t ns st ∧ SqL K H r (l.map V.int) ∧ l.length ≤ 1000 ∧ ∀ H' p, Same H H' → H p = none → NearAt H H' p (near (letD ns st) l) → Q (.ref p) H'
theorem cl_near (D : De K mg "_law_near" (top 35)) (Bn : Bns mg) (c__law_pair : Cl P w K mg base CX0 2 "_law_pair" spPair) : Cl P w K mg base CX0 3 "_law_near" (spNear K) := by
  refine cl0 D sc__law_near (fun vs H Q E ⟨t, ns, st, r, l, e, _⟩ => by rw [e]; rfl) (fun _ _ _ _ _ _ us hl => match us, hl with | [_, _], _ => rfl) (fun f cdv A outer s H vs Q E hr h => ?_)
  obtain ⟨t, ns, st, r, l, rfl, wy, hS, hlen, q⟩ := h
  refine ⟨_, (pss_cons (ps_set (i := 2) sc__law_near.nd rfl (.inl rfl) (pe_lst pa_nil))
  (pss_cons (ps_for PassesOwn.never rfl (pi_range1 (by rfl) Bn.range (pa_cons (pe_op op_sub (pe_callB call_len (by rfl) Bn.len bt_len (pa_cons (pv 1) pa_nil)) pe_int) pa_nil)) (pg_name (i := 3) sc__law_near.nd rfl (.inl rfl))
  (pss_cons (ps_set (i := 4) sc__law_near.nd rfl (.inl rfl) (pe_cl c__law_pair hr (by decide) (by rfl) pass0 (pa_cons (pv 0) (pa_cons (pe_ix ix_list (pv 1) (pv 3) fun _ _ => rfl) (pa_cons (pe_ix ix_list (pv 1) (pe_op op_add (pv 3) pe_int) fun _ _ => rfl) pa_nil)))))
  (pss_one (ps_if (pt_cmpR op_notN (pv 4) pe_non (nomark _))
  (pss_one (ps_expr (pe_bm PySem.F.plainAttrs_list PySem.F.slot_list_append PySem.F.type_list_append mt_append (pv 2) (pa_cons (pe_tup (pa_cons (pv 3) (pa_cons (pe_op op_cat (pe_op op_cat (pe_slice sl_list (pv 1) po_none (po_some (pv 3))) (pv 4)) (pe_slice sl_list (pv 1) (po_some (pe_op op_add (pv 3) pe_int)) po_none)) pa_nil))) pa_nil))))
  pss_nil))))
  (pss_one (ps_ret (pv 2))))), ?_⟩
  refine ⟨Nat.zero_le _, fun p np => ?_⟩
  have s0 : Same H (upd H p (.lst [])) := same_upd np
  refine ⟨.ref r, rfl, _, l.length, rfl, .inl ⟨_, s0.seq hS, by rw [List.length_map]⟩, _, _, rfl, rfl, _, rfl, by omega, by omega, ?_⟩
  have fr : ∀ {b : Addr} {H2 : Hp}, Same H H2 → H2 p ≠ none → H2 b = none → (upd H p (.lst [])) b = none := fun {b H2} s h n => by
    have nb : b ≠ p := fun z => h (by rw [← z]; exact n)
    rw [upd_ne nb]
    exact s.free n
  refine for_range (fun i σ H1 => ∃ y3 y4, σ = [some (.ref t), some (.ref r), some (.ref p), y3, y4] ∧ Same H H1 ∧ NearAt (upd H p (.lst [])) H1 p (nearTo (letD ns st) l i))
    ⟨_, _, rfl, s0, [], upd_same, .nil⟩ (fun i σ H1 hi hv => ?_) (fun σ H1 hv => ?_)
  · obtain ⟨y3, y4, rfl, s1, ts, hts, hE⟩ := hv
    have hi' : i + 1 < l.length := by omega
    have g1 : l[i]? = some l[i] := List.getElem?_eq_getElem (by omega)
    have g2 : l[i + 1]? = some l[i + 1] := List.getElem?_eq_getElem (by omega)
    have hd := deed_form (D := letD ns st) g1 g2
    have i0 : ∀ z : Int, z = 0 + ((i : Nat) : Int) → z = (i : Int) := fun z e => by omega
    refine ⟨.ref t, rfl, .ref r, rfl, _, rfl, r, _, _, .int l[i], rfl, rfl, s1.seq hS, at_of (i0 _ rfl) (mapI_get g1), ?_⟩
    refine ⟨.ref r, rfl, _, rfl, _, 1, rfl, rfl, r, _, _, .int l[i + 1], rfl, rfl, s1.seq hS, at_of (j := i + 1) (by omega) (mapI_get g2), ?_⟩
    refine ⟨t, ns, st, l[i], l[i + 1], rfl, wy.same s1, ?_⟩
    cases hp : pairOf (letD ns st) l[i] l[i + 1] with
    | none =>
      refine ⟨.non, rfl, rfl, _, rfl, itF (by simp) ?_⟩
      refine ⟨_, _, rfl, s1, ts, hts, ?_⟩
      rw [nearTo_succ, hd, hp]
      simpa using hE
    | some pr =>
      intro H2 T s2 nT hT
      refine ⟨.ref T, rfl, rfl, _, rfl, itT (by simp) ?_⟩
      have s12 := s1.trans s2
      have hts2 := s2 _ _ hts
      refine ⟨.ref p, rfl, .inl ⟨rfl, _, sqL_of hts2⟩, ?_⟩
      refine ⟨_, rfl, ?_⟩
      refine put2_read (K := K) (i := 1) (j := 3) (m := 4) (l := l) (k := i) rfl rfl (i0 _ rfl) rfl hT (s12.seq hS) hlen fun H3 A5 s3 n5 h5 => ?_
      refine ⟨by show 2 ≤ sizeLine; decide, fun A6 n6 => ?_⟩
      have hts3 := s3 _ _ hts2
      have s4 : Same H3 (upd H3 A6 (.tup [.int (0 + ((i : Nat) : Int)), .ref A5])) := same_upd n6
      have hts4 := s4 _ _ hts3
      have hlt : ts.length < sizeLine := by
        have e := Paired.length hE
        have e2 := nearTo_length (letD ns st) l i
        rw [e, sizeLine_eq]; omega
      refine ⟨p, _, _, rfl, rfl, hts4, by rw [List.length_map]; exact hlt, ?_⟩
      refine ⟨_, _, rfl, same_put (s12.trans (s3.trans s4)) np, ts ++ [A6], by rw [upd_same, List.map_append]; rfl, ?_⟩
      rw [nearTo_succ, hd, hp]
      have m5 := fr s12 (by rw [hts2]; simp) n5
      have m6 := fr (s12.trans s3) (by rw [hts3]; simp) n6
      have np0 : ∀ {b : Addr}, (upd H p (.lst [])) b = none → b ≠ p := fun {b} n z => by rw [z, upd_same] at n; cases n
      refine Paired.snoc (Paired.mapP hE fun a b h => ?_) ⟨m6, A5, ?_, ?_, m5⟩
      · obtain ⟨m1, ra, h1, h2, m2⟩ := h
        exact ⟨m1, ra, by rw [upd_ne (np0 m1)]; exact s4 _ _ (s3 _ _ (s2 _ _ h1)), by rw [upd_ne (np0 m2)]; exact s4 _ _ (s3 _ _ (s2 _ _ h2)), m2⟩
      · rw [upd_ne (np0 m6), upd_same, Int.zero_add]
      · rw [upd_ne (np0 m5), s4 _ _ h5]
  · obtain ⟨y3, y4, rfl, s1, ts, hts, hE⟩ := hv
    have e : ((l.length : Int) - 1).toNat = l.length - 1 := by omega
    rw [e, nearTo_all] at hE
    refine ⟨.ref p, rfl, q H1 p s1 np ⟨ts, hts, Paired.mapP hE fun a b h => ?_⟩⟩
    obtain ⟨m1, ra, h1, h2, m2⟩ := h
    exact ⟨s0.free m1, ra, h1, h2, s0.free m2⟩
theorem normF_length : ∀ (n : Nat) (h : List Int) (s : Int), (normF n h s).1.length ≤ h.length
  | 0, h, s => Nat.le_refl _
  | n + 1, h, s => by
    unfold normF
    by_cases e : s - 1 ∈ h
    · rw [if_pos e]
      exact Nat.le_trans (normF_length n _ _) (List.length_filter_le _ _)
    · rw [if_neg e]
      exact Nat.le_refl _
theorem fillOf_length (ns : List Int) (st : Option Int) : (fillOf ns st).1.length ≤ ns.length := by
  cases st with
  | none => exact fill0_length ns none
  | some s => exact Nat.le_trans (normF_length _ _ _) (fill0_length ns (some s))
def spLets (CL : Addr) : Sp := fun vs H Q _ => ∃ t ns st, vs = [.ref t] ∧ Way H t ns st ∧ ∀ H' a, Same H H' → H a = none → Lt CL H' a (fillOf (ns.reverse ++ ns) st).1 (fillOf (ns.reverse ++ ns) st).2 → Q (.ref a) H'
theorem lets_same {ns : List Int} {st : Option Int} (bn : ∀ n ∈ ns, 1 ≤ n ∧ n ≤ 1000) (bs : ∀ s, st = some s → 1 ≤ s ∧ s ≤ 1000) : letD (fillOf (ns.reverse ++ ns) st).1 (fillOf (ns.reverse ++ ns) st).2 = letD ns st := by
  have h := (fillOf_let (ns := ns.reverse ++ ns) (st := st) (fun n hn => by
    rcases List.mem_append.mp hn with z | z
    · have := bn n (List.mem_reverse.mp z); omega
    · have := bn n z; omega) (fun s e => by have := bs s e; omega)).2.2.2
  rw [h]
  funext c
  unfold letD
  congr 1
  exact decide_eq_decide.mpr (by simp)
theorem cl_lets (D : De K mg "_law_lets" (top 37)) (L : LetsC K mg CL) (cLets : ClI P w K mg base 4 CL (spInit K CL)) : Cl P w K mg base CX0 6 "_law_lets" (spLets CL) := by
  refine cl0 D sc__law_lets (fun vs H Q E ⟨t, ns, st, e, _⟩ => by rw [e]; rfl) (fun _ _ _ _ _ _ us hl => match us, hl with | [_], _ => rfl) (fun f cdv A outer s H vs Q E hr h => ?_)
  obtain ⟨t, ns, st, rfl, wy, q⟩ := h
  obtain ⟨la, e1, e2⟩ := wy.ex
  refine ⟨_, (pss_cons (ps_set (i := 1) sc__law_lets.nd rfl (.inl rfl) (pe_op op_cat (pe_revL (pe_ix ix_tup (pv 0) pe_int fun _ _ => rfl)) (pe_ix ix_tup (pv 0) pe_int fun _ _ => rfl)))
  (pss_one (ps_ret (pe_ifExp (pt_cmpR op_isN (pe_ix ix_tup (pv 0) pe_int fun _ _ => rfl) pe_non (nomark _)) (pe_mkL1 cLets L.gL hr (by decide) (by rfl) (passes_call (E := E0) takes0 (fun _ _ _ _ h => h)) (pa_cons (pv 1) pa_nil)) (pe_mkL2 cLets L.gL hr (by decide) (by rfl) (passes_call (E := E0) takes0 (fun _ _ _ _ h => h)) (pa_cons (pv 1) (pa_cons (pe_ix ix_tup (pv 0) pe_int fun _ _ => rfl) pa_nil))))))), ?_⟩
  have at0 : ∀ {x y : V}, atI [x, y] 0 = some x := fun {x y} => rfl
  have at1 : ∀ {x y : V}, atI [x, y] 1 = some y := fun {x y} => rfl
  have at2 := wy.len
  refine ⟨.ref t, rfl, t, _, 0, .ref la, rfl, rfl, sqT_of e1, at0, la, _, rfl, sqL_of e2, fun p1 n1 => ?_⟩
  have s1 : Same H (upd H p1 (.lst (ns.map V.int).reverse)) := same_upd n1
  refine ⟨.ref t, rfl, t, _, 0, .ref la, rfl, rfl, sqT_of (s1 _ _ e1), at0, p1, la, _, _, rfl, rfl, upd_same, s1 _ _ e2, ?_, fun p2 n2 => ?_⟩
  · rw [List.length_reverse, List.length_map, sizeLine_eq]; omega
  have s2 := s1.trans (same_upd (o := .lst ((ns.map V.int).reverse ++ ns.map V.int)) n2)
  refine ⟨.ref t, rfl, t, _, 1, oV st, rfl, rfl, sqT_of (s2 _ _ e1), at1, rfl, _, rfl, ?_⟩
  have hL : SqL K (upd (upd H p1 (.lst (ns.map V.int).reverse)) p2 (.lst ((ns.map V.int).reverse ++ ns.map V.int))) p2 ((ns.reverse ++ ns).map V.int) := sqL_of (by rw [upd_same, List.map_append, List.map_reverse])
  have bn : ∀ n ∈ ns.reverse ++ ns, 1 ≤ n ∧ n ≤ 1000 := fun n hn => by
    rcases List.mem_append.mp hn with z | z
    · exact wy.bn n (List.mem_reverse.mp z)
    · exact wy.bn n z
  have fin : ∀ (x dx : Addr), (upd (upd H p1 (.lst (ns.map V.int).reverse)) p2 (.lst ((ns.map V.int).reverse ++ ns.map V.int))) x = none → (upd (upd H p1 (.lst (ns.map V.int).reverse)) p2 (.lst ((ns.map V.int).reverse ++ ns.map V.int))) dx = none → dx ≠ x →
      spInit K CL [.ref x, .ref p2, oV st] (upd (upd (upd (upd H p1 (.lst (ns.map V.int).reverse)) p2 (.lst ((ns.map V.int).reverse ++ ns.map V.int))) dx (.own x)) x (.ins CL dx [])) (fun v H2 => v = .non ∧ Q (.ref x) H2) E0 := fun x dx nx nd ne => by
    have s3 := (same_upd (o := .own x) nd).trans (same_upd (o := .ins CL dx []) (show (upd (upd (upd H p1 (.lst (ns.map V.int).reverse)) p2 (.lst ((ns.map V.int).reverse ++ ns.map V.int))) dx (.own x)) x = none by rw [upd_ne (Ne.symm ne)]; exact nx))
    refine ⟨x, p2, st, dx, ns.reverse ++ ns, rfl, upd_same, s3.seq hL, by rw [List.length_append, List.length_reverse]; omega, bn, wy.bs, fun H' sg lt => ⟨rfl, ?_⟩⟩
    refine q H' x (fun b o e => ?_) (s2.free nx) lt
    have e2 := s2 _ _ e
    exact sg b o (ne_of_none e2 nx) (s3 _ _ e2)
  cases st with
  | none =>
    refine itT (by simp [oV]) ?_
    refine ⟨.ref p2, rfl, fun x dx nx nd ne => ?_⟩
    exact fin x dx nx nd ne
  | some s0 =>
    refine itF (by simp [oV]) ?_
    refine ⟨.ref p2, rfl, .ref t, rfl, t, _, 1, .int s0, rfl, rfl, sqT_of (s2 _ _ e1), at1, fun x dx nx nd ne => ?_⟩
    exact fin x dx nx nd ne
end
end Gs


/-! _law_class_right: whatever list of deeds leads to a row, it tells the same. -/
namespace Gs
open PySem PySem.Spec PyProof.Rows L2
theorem sc__law_class_right : FnScope ["_law_way", "_law_row", "_law_found", "_law_at", "_law_rows", "_law_place", "_law_other", "_law_due"] ["_law_way", "_law_row"] (defScope (top 39)) := ⟨rfl, rfl, rfl, by decide +kernel, rfl, by decide +kernel, by decide +kernel⟩
/-- a row as a key -/
def keyOf (l : List Int) : List Key := l.map fun i => (.inl i : Key)
theorem keyOf_V (l : List Int) : (keyOf l).map kV = l.map V.int := by
  unfold keyOf
  rw [List.map_map]
  rfl
theorem keyOf_inj {l m : List Int} (h : keyOf l = keyOf m) : l = m := by
  have := List.map_inj_right (f := fun i : Int => (.inl i : Key)) (fun a b e => Sum.inl.inj e) |>.mp h
  exact this
/-- the heap but for two places -/
def mk (f p : Addr) (H : Hp) : Hp := fun b => if b = f ∨ b = p then none else H b
theorem mk_at {f p b : Addr} {H : Hp} (h1 : b ≠ f) (h2 : b ≠ p) : mk f p H b = H b := if_neg (fun z => z.elim h1 h2)
theorem mk_same (f p : Addr) (H : Hp) : Same (mk f p H) H := fun b o e => by
  by_cases z : b = f ∨ b = p
  · have e2 : mk f p H b = none := if_pos z
    rw [e2] at e; cases e
  · have e2 : mk f p H b = H b := if_neg z
    rw [← e2]; exact e
theorem mk_mono {f p : Addr} {H H' : Hp} (s : Same H H') : Same (mk f p H) (mk f p H') := fun b o e => by
  by_cases z : b = f ∨ b = p
  · have e2 : mk f p H b = none := if_pos z
    rw [e2] at e; cases e
  · have e2 : mk f p H b = H b := if_neg z
    have e3 : mk f p H' b = H' b := if_neg z
    rw [e2] at e
    rw [e3]; exact s b o e
theorem mk_updf {f p : Addr} {H : Hp} {o : HO} : mk f p (upd H f o) = mk f p H := by
  funext b
  by_cases z : b = f ∨ b = p
  · exact (if_pos z).trans (if_pos z).symm
  · have z1 : b ≠ f := fun e => z (.inl e)
    have e2 : mk f p (upd H f o) b = (upd H f o) b := if_neg z
    have e3 : mk f p H b = H b := if_neg z
    rw [e2, e3, upd_ne z1]
theorem mk_updp {f p : Addr} {H : Hp} {o : HO} : mk f p (upd H p o) = mk f p H := by
  funext b
  by_cases z : b = f ∨ b = p
  · exact (if_pos z).trans (if_pos z).symm
  · have z1 : b ≠ p := fun e => z (.inr e)
    have e2 : mk f p (upd H p o) b = (upd H p o) b := if_neg z
    have e3 : mk f p H b = H b := if_neg z
    rw [e2, e3, upd_ne z1]
/-- what is known of the dict and of the rows -/
structure CI (M : Hp) (l0 : List Int) (kvs : List (List Key × V)) (rs : List Addr) : Prop where
  ent : ∀ kv ∈ kvs, ∃ r nu a, kv = (keyOf r, V.ref a) ∧ M a = some (.lst ((nI nu).map V.int)) ∧ Tells l0 r nu
  row : ∀ ra ∈ rs, ∃ r : List Int, M ra = some (.lst (r.map V.int)) ∧ r.length = l0.length ∧ (valV kvs (keyOf r)).isSome = true
  len : kvs.length = rs.length
theorem CI.same {M M' : Hp} {l0 : List Int} {kvs : List (List Key × V)} {rs : List Addr} (s : Same M M') (h : CI M l0 kvs rs) : CI M' l0 kvs rs :=
  ⟨fun kv hk => let ⟨r, nu, a, e, h1, h2⟩ := h.ent kv hk; ⟨r, nu, a, e, s _ _ h1, h2⟩, fun ra hr => let ⟨r, h1, h2⟩ := h.row ra hr; ⟨r, s _ _ h1, h2⟩, h.len⟩
theorem valV_mem {κ : Type} [DecidableEq κ] {kvs : List (κ × V)} {k : κ} {v : V} (h : valV kvs k = some v) : (k, v) ∈ kvs := by
  unfold valV at h
  obtain ⟨kv, h1, h2⟩ := Option.map_eq_some_iff.mp h
  have h3 := List.find?_some h1
  have h4 := List.mem_of_find?_eq_some h1
  have h5 : kv.1 = k := of_decide_eq_true h3
  rw [← h5, ← h2]
  exact h4
theorem CI.get {M : Hp} {l0 r : List Int} {kvs : List (List Key × V)} {rs : List Addr} {v : V} (h : CI M l0 kvs rs) (e : valV kvs (keyOf r) = some v) : ∃ nu a, v = .ref a ∧ M a = some (.lst ((nI nu).map V.int)) ∧ Tells l0 r nu := by
  obtain ⟨r', nu, a, e1, h1, h2⟩ := h.ent _ (valV_mem e)
  obtain ⟨e2, e3⟩ := Prod.mk.inj e1
  rw [← keyOf_inj e2] at h2
  exact ⟨nu, a, e3, h1, h2⟩
theorem pairedAt {α β : Type} {F : α → β → Prop} : ∀ {l : List α} {m : List β}, Paired F l m → ∀ {j : Nat} {a : α}, l[j]? = some a → ∃ b, m[j]? = some b ∧ F a b
  | _, _, .nil, j, a, h => by simp at h
  | _, _, .cons r t, 0, a, h => by
    have e := Option.some.inj h
    exact ⟨_, rfl, e ▸ r⟩
  | _, _, .cons r t, j + 1, a, h => by
    obtain ⟨b, h1, h2⟩ := pairedAt t (j := j) h
    exact ⟨b, h1, h2⟩
section
variable {P : Program} {w : World} {K : PySem.W.Frag} {mg : Str → Option Value} {base : Heap} {CL : Addr}
def spClass (K : PySem.W.Frag) : Sp := fun vs H Q _ => ∃ t ns st r, ∃ l : List Int, vs = [.ref t, .ref r] ∧ Way H t ns st ∧ SqL K H r (l.map V.int) ∧ l.length ≤ 7 ∧ ∀ H', Same H H' → Q (.bl true) H'
theorem cl_class (D : De K mg "_law_class_right" (top 39)) (Bn : Bns mg) (c__law_near : Cl P w K mg base CX0 3 "_law_near" (spNear K)) (c__law_exchanged : Cl P w K mg base CX0 1 "_law_exchanged" (spExc K)) : Cl P w K mg base CX0 4 "_law_class_right" (spClass K) := by
  refine cl0 D sc__law_class_right (fun vs H Q E ⟨t, ns, st, r, l, e, _⟩ => by rw [e]; rfl) (fun _ _ _ _ _ _ us hl => match us, hl with | [_, _], _ => rfl) (fun f cdv A outer s H vs Q E hr h => ?_)
  obtain ⟨t, ns, st, r, l, rfl, wy, hS, hlen, q⟩ := h
  have hu1 := hu_of hr
  have hu64 := hu64_of hr
  refine ⟨_, (pss_cons (ps_par (i := 2) (j := 3) rfl sc__law_class_right.nd rfl rfl (by decide) rfl rfl (pa_cons (Gr.pe_dispT hu1 (pe_callTy call_tuple_of (by rfl) Bn.tuple bt_tuple (pa_cons (pv 1) pa_nil)) (pe_listRg rfl (by rfl) Bn.list (prg_1 (by rfl) Bn.range (pe_callB call_len (by rfl) Bn.len bt_len (pa_cons (pv 1) pa_nil))))) (pa_cons pe_int pa_nil)) (by rfl))
  (pss_cons (ps_set (i := 4) sc__law_class_right.nd rfl (.inl rfl) (pe_lst (pa_cons (pe_callTy call_list_of (by rfl) Bn.list bt_list (pa_cons (pv 1) pa_nil)) pa_nil)))
  (pss_cons (ps_while PassesOwn.never (pt_chain op_lt op_le (pv 3) (pe_callB call_len (by rfl) Bn.len bt_len (pa_cons (pv 4) pa_nil)) pe_int)
  (pss_cons (ps_for PassesOwn.never rfl (pi_list (pe_cl c__law_near hr (by decide) (by rfl) pass0 (pa_cons (pv 0) (pa_cons (pe_ix ix_list (pv 4) (pv 3) fun _ _ => rfl) pa_nil)))) (pg_tup rfl (pgs_cons (pg_name (i := 5) sc__law_class_right.nd rfl (.inl rfl)) (pgs_cons (pg_name (i := 6) sc__law_class_right.nd rfl (.inl rfl)) pgs_nil)))
  (pss_cons (ps_set (i := 7) sc__law_class_right.nd rfl (.inl rfl) (pe_cl c__law_exchanged hr (by decide) (by rfl) pass0 (pa_cons (pe_dget hu1 (pv 2) (pe_callTy call_tuple_of (by rfl) Bn.tuple bt_tuple (pa_cons (pe_ix ix_list (pv 4) (pv 3) fun _ _ => rfl) pa_nil)) (by intro _ _; rfl)) (pa_cons (pv 5) pa_nil))))
  (pss_one (ps_if (pt_cmp (pc_dnotin hu1 (pe_callTy call_tuple_of (by rfl) Bn.tuple bt_tuple (pa_cons (pv 6) pa_nil)) (pv 2)))
  (pss_cons (ps_dput hu1 (pv 2) (pe_callTy call_tuple_of (by rfl) Bn.tuple bt_tuple (pa_cons (pv 6) pa_nil)) (pv 7) (by rfl))
  (pss_one (ps_expr (pe_bm PySem.F.plainAttrs_list PySem.F.slot_list_append PySem.F.type_list_append mt_append (pv 4) (pa_cons (pv 6) pa_nil)))))
  (pss_one (ps_if (pt_cmpR (op_neD hu64) (pe_dget hu1 (pv 2) (pe_callTy call_tuple_of (by rfl) Bn.tuple bt_tuple (pa_cons (pv 6) pa_nil)) (by intro _ _; rfl)) (pv 7) (nomark _))
  (pss_one (ps_ret pe_bl))
  pss_nil))))))
  (pss_one (ps_set (i := 3) sc__law_class_right.nd rfl (.inl rfl) (pe_op op_add (pv 3) pe_int)))))
  (pss_one (ps_ret pe_bl))))), ?_⟩
  -- found = {tuple(row): list(range(len(row)))}
  refine fun F nF => ?_
  have s0 : Same H (upd H F (.dT [])) := same_upd nF
  refine ⟨.ref r, rfl, r, _, rfl, .inl ⟨s0.seq hS, fun T nT => ?_⟩⟩
  have s1 := s0.trans (same_upd (o := .tup (l.map V.int)) nT)
  refine ⟨.ref r, rfl, _, l.length, rfl, .inl ⟨_, s1.seq hS, by rw [List.length_map]⟩, _, rfl, RgOk.of_le (by omega) (by omega) (by omega) (by omega), fun a0 na => ?_⟩
  rw [nI_ids]
  have hF1 : (upd (upd (upd H F (.dT [])) T (.tup (l.map V.int))) a0 (.lst ((nI (ids l.length)).map V.int))) F = some (.dT []) := by
    rw [upd_ne (ne_of_none (show (upd (upd H F (.dT [])) T (.tup (l.map V.int))) F = some (.dT []) by rw [upd_ne (ne_of_none upd_same nT)]; exact upd_same) na), upd_ne (ne_of_none upd_same nT)]
    exact upd_same
  have hT1 : (upd (upd (upd H F (.dT [])) T (.tup (l.map V.int))) a0 (.lst ((nI (ids l.length)).map V.int))) T = some (.tup ((keyOf l).map kV)) := by
    rw [upd_ne (ne_of_none upd_same na), upd_same, keyOf_V]
  refine ⟨hF1, T, keyOf l, rfl, hT1, _, _, rfl, ?_⟩
  -- rows = [list(row)]
  generalize hH3 : upd (upd (upd (upd H F (.dT [])) T (.tup (l.map V.int))) a0 (.lst ((nI (ids l.length)).map V.int))) F (.dT [(keyOf l, .ref a0)]) = H3
  have sH3 : Same H H3 := by
    rw [← hH3]
    exact same_put (s1.trans (same_upd na)) nF
  have hF3 : H3 F = some (.dT [(keyOf l, .ref a0)]) := by rw [← hH3]; exact upd_same
  have aF : a0 ≠ F := fun e => by
    rw [e] at na
    rw [upd_ne (ne_of_none upd_same nT), upd_same] at na
    cases na
  have ha3 : H3 a0 = some (.lst ((nI (ids l.length)).map V.int)) := by rw [← hH3, upd_ne aF]; exact upd_same
  refine ⟨.ref r, rfl, r, _, rfl, .inl (sH3.seq hS), fun R0 nR0 => ⟨by show 1 ≤ sizeLine; decide, fun p np => ?_⟩⟩
  generalize hH5 : upd (upd H3 R0 (.lst (l.map V.int))) p (.lst [.ref R0]) = H5
  have sH35 : Same H3 H5 := by rw [← hH5]; exact (same_upd nR0).trans (same_upd np)
  have sH5 : Same H H5 := sH3.trans sH35
  have hp5 : H5 p = some (.lst ([R0].map V.ref)) := by rw [← hH5]; exact upd_same
  have hR5 : H5 R0 = some (.lst (l.map V.int)) := by rw [← hH5, upd_ne (ne_of_none upd_same np)]; exact upd_same
  have Fp : F ≠ p := ne_of_none (show (upd H3 R0 (.lst (l.map V.int))) F = _ by rw [upd_ne (ne_of_none hF3 nR0)]; exact hF3) np
  have ap : a0 ≠ p := ne_of_none (show (upd H3 R0 (.lst (l.map V.int))) a0 = _ by rw [upd_ne (ne_of_none ha3 nR0)]; exact ha3) np
  have RF : R0 ≠ F := fun e => by rw [e, hF3] at nR0; cases nR0
  have Rp : R0 ≠ p := ne_of_none upd_same np
  have np0 : H p = none := (sH3.trans (same_upd nR0)).free np
  -- what stays of the start
  have base : ∀ {H' : Hp}, Same H H' → Same H (mk F p H') := fun {H'} s b o e => by
    rw [mk_at (ne_of_none e nF) (ne_of_none e np0)]
    exact s b o e
  have start : CI (mk F p H5) l [(keyOf l, .ref a0)] [R0] := by
    refine ⟨fun kv hk => ?_, fun ra hr => ?_, rfl⟩
    · rw [List.mem_singleton.mp hk]
      exact ⟨l, ids l.length, a0, rfl, by rw [mk_at aF ap]; exact sH35 _ _ ha3, tells_self l⟩
    · rw [List.mem_singleton.mp hr]
      exact ⟨l, by rw [mk_at RF Rp]; exact hR5, rfl, by rw [valV_pos rfl]; rfl⟩
  refine ⟨fun m σ H6 => ∃ at_ kvs rs y5 y6 y7, σ = [some (.ref t), some (.ref r), some (.ref F), some (.int (at_ : Nat)), some (.ref p), y5, y6, y7] ∧ m = 401 - at_ ∧ Same H H6 ∧ H6 F = some (.dT kvs) ∧ H6 p = some (.lst (rs.map V.ref)) ∧ CI (mk F p H6) l kvs rs ∧ rs.length ≤ 1000,
    ⟨401, 0, _, [R0], none, none, none, rfl, rfl, sH5, sH35 _ _ hF3, hp5, start, by show 1 ≤ 1000; decide⟩, fun m σ H6 hW => ?_⟩
  obtain ⟨at_, kvs, rs, y5, y6, y7, rfl, rfl, s6, hF6, hp6, ci, hrs⟩ := hW
  refine ⟨.int at_, rfl, .ref p, rfl, .ref p, rs.length, rfl, .inl ⟨_, sqL_of hp6, by rw [List.length_map]⟩, _, _, rfl, rfl, _, rfl, ?_⟩
  by_cases c1 : at_ < rs.length
  · refine itT (by simpa using c1) ?_
    refine ⟨_, _, rfl, rfl, _, rfl, ?_⟩
    by_cases c2 : rs.length ≤ 400
    · refine itT (by simpa using Int.ofNat_le.mpr c2) ?_
      -- one row more
      refine ⟨fun σ' H' => ∃ kvs rs y5 y6 y7, σ' = [some (.ref t), some (.ref r), some (.ref F), some (.int ((at_ + 1 : Nat) : Int)), some (.ref p), y5, y6, y7] ∧ Same H H' ∧ H' F = some (.dT kvs) ∧ H' p = some (.lst (rs.map V.ref)) ∧ CI (mk F p H') l kvs rs ∧ rs.length ≤ 1000,
        fun σ' H' ⟨kvs, rs, y5, y6, y7, e1, e2, e3, e4, e5, e6⟩ => ⟨401 - (at_ + 1), by omega, at_ + 1, kvs, rs, y5, y6, y7, e1, rfl, e2, e3, e4, e5, e6⟩, ?_⟩
      have hra : rs[at_]? = some rs[at_] := List.getElem?_eq_getElem c1
      generalize rs[at_] = ra at hra
      obtain ⟨ri, hri, lri, _⟩ := ci.row ra (List.mem_of_getElem? hra)
      have atp : ∀ {rs : List Addr}, rs[at_]? = some ra → atI (rs.map V.ref) (at_ : Int) = some (.ref ra) := fun {rs} h => atI_nat (by rw [List.getElem?_map, h]; rfl)
      refine ⟨.ref t, rfl, .ref p, rfl, .int at_, rfl, p, _, (at_ : Int), .ref ra, rfl, rfl, sqL_of hp6, atp hra, ?_⟩
      refine ⟨t, ns, st, ra, ri, rfl, wy.same s6, sqL_of (mk_same F p H6 _ _ hri), by omega, fun H7 pl s7 npl hN => ?_⟩
      obtain ⟨ts, hts, hE⟩ := hN
      have out : ∀ {b : Addr}, H6 b = none → b ≠ F ∧ b ≠ p := fun {b} n => ⟨fun e => (by rw [e, hF6] at n; cases n), fun e => (by rw [e, hp6] at n; cases n)⟩
      have hpl : mk F p H7 pl = some (.lst (ts.map V.ref)) := by rw [mk_at (out npl).1 (out npl).2]; exact hts
      have hlen2 : (near (letD ns st) ri).length ≤ 6 := by
        have := nearTo_length (letD ns st) ri (ri.length - 1)
        rw [nearTo_all] at this
        omega
      have tlen : ts.length ≤ 6 := by rw [Paired.length hE]; exact hlen2
      refine ⟨pl, rfl, ⟨_, sqL_of hts⟩, ?_⟩
      refine for_list (xs := ts.map V.ref) (fun j σ H8 => ∃ kvs rs y5 y6 y7, σ = [some (.ref t), some (.ref r), some (.ref F), some (.int (at_ : Nat)), some (.ref p), y5, y6, y7] ∧ Same H H8 ∧ Same (mk F p H7) (mk F p H8) ∧ H8 F = some (.dT kvs) ∧ H8 p = some (.lst (rs.map V.ref)) ∧
          CI (mk F p H8) l kvs rs ∧ rs.length ≤ 400 + j ∧ rs[at_]? = some ra)
        ⟨kvs, rs, y5, y6, y7, rfl, s6.trans s7, Same.refl _, s7 _ _ hF6, s7 _ _ hp6, ci.same (mk_mono s7), by omega, hra⟩ (fun j σ H8 _ ⟨_, _, _, _, _, _, _, sM, _⟩ => sqL_of (mk_same F p H8 _ _ (sM _ _ hpl))) (fun j x σ H8 hx hv => ?_) (fun σ H8 hv => ?_)
      · obtain ⟨kvs, rs, y5, y6, y7, rfl, s8, sM, hF8, hp8, ci, hrs8, hra8⟩ := hv
        have hj : j < ts.length := by
          have := (List.getElem?_eq_some_iff.mp hx).1
          rw [List.length_map] at this
          exact this
        rw [List.getElem?_map] at hx
        obtain ⟨tp, ht, rfl⟩ := Option.map_eq_some_iff.mp hx
        obtain ⟨⟨k, r'⟩, he, n1, ra', h1, h2, n2⟩ := pairedAt hE ht
        have hd : deed (letD ns st) ri k = some r' := near_mem.mp (List.mem_of_getElem? he)
        have hk := deed_lt hd
        have lr' := deed_length hd
        have m1 : mk F p H8 tp = some (.tup [.int (k : Int), .ref ra']) := sM _ _ (by rw [mk_at (out n1).1 (out n1).2]; exact h1)
        have m2 : mk F p H8 ra' = some (.lst (r'.map V.int)) := sM _ _ (by rw [mk_at (out n2).1 (out n2).2]; exact h2)
        have m3 : mk F p H8 ra = some (.lst (ri.map V.int)) := sM _ _ (mk_mono s7 _ _ hri)
        have d1 := mk_same F p H8 _ _ m1
        have d2 := mk_same F p H8 _ _ m2
        have d3 := mk_same F p H8 _ _ m3
        refine ⟨tp, _, rfl, sqT_of d1, rfl, .int k, _, rfl, .ref ra', [], rfl, rfl, ?_⟩
        -- due = exchanged(found[tuple(rows[at])], place)
        refine ⟨.ref F, rfl, .ref p, rfl, .int at_, rfl, p, _, (at_ : Int), .ref ra, rfl, rfl, sqL_of hp8, atp hra8, ra, _, rfl, .inl ⟨sqL_of d3, fun T nT => ?_⟩⟩
        obtain ⟨r3, hr3, _, vs3⟩ := ci.row ra (List.mem_of_getElem? hra8)
        have er : r3 = ri := by
          rw [m3] at hr3
          have e2 := Option.some.inj hr3
          injection e2 with e3
          exact ((List.map_inj_right (f := V.int) (fun a b e => V.int.inj e)).mp e3).symm
        rw [er] at vs3
        obtain ⟨v, hv⟩ := Option.isSome_iff_exists.mp vs3
        obtain ⟨nu, a, rfl, ha, tl⟩ := ci.get hv
        have sT : Same H8 (upd H8 T (.tup (ri.map V.int))) := same_upd nT
        refine ⟨F, .ref a, rfl, hv ▸ DGet.t (k := keyOf ri) (sT _ _ hF8) (by rw [upd_same, keyOf_V]), ?_⟩
        have hl1 : (nI nu).length = l.length := by rw [nI_length]; exact tl.1
        refine ⟨.int k, rfl, a, k, nI nu, rfl, sqL_of (sT _ _ (mk_same F p H8 _ _ ha)), by omega, by omega, fun H9 pd s9 npd hpd => ?_⟩
        rw [nI_swap] at hpd
        have tl' := tells_deed wy.posD tl hd
        have s89 := sT.trans s9
        -- tuple(other) not in found
        refine ⟨.ref ra', rfl, ra', _, rfl, .inl ⟨sqL_of (s89 _ _ d2), fun T2 nT2 => ?_⟩⟩
        have sT2 : Same H9 (upd H9 T2 (.tup (r'.map V.int))) := same_upd nT2
        have s8T := s89.trans sT2
        refine ⟨.ref F, rfl, F, _, rfl, DGet.t (k := keyOf r') (s8T _ _ hF8) (by rw [upd_same, keyOf_V]), _, rfl, ?_⟩
        have pdo : pd ≠ F ∧ pd ≠ p := ⟨fun e => (by rw [e, sT _ _ hF8] at npd; cases npd), fun e => (by rw [e, sT _ _ hp8] at npd; cases npd)⟩
        cases hv' : valV kvs (keyOf r') with
        | none =>
          refine iteT ?_
          -- found[tuple(other)] = due
          refine ⟨.ref pd, rfl, .ref F, rfl, .ref ra', rfl, ra', _, rfl, .inl ⟨sqL_of (s8T _ _ d2), fun T3 nT3 => ?_⟩⟩
          have sT3 := s8T.trans (same_upd (o := .tup (r'.map V.int)) nT3)
          have klen : kvs.length < sizeLine := by rw [ci.len, sizeLine_eq]; omega
          refine ⟨F, _, rfl, DPut.t (k := keyOf r') (sT3 _ _ hF8) (by rw [upd_same, keyOf_V]) klen, ?_⟩
          rw [putK_new _ hv']
          -- rows.append(other)
          have hpX : (upd (upd (upd H9 T2 (.tup (r'.map V.int))) T3 (.tup (r'.map V.int))) F (.dT (kvs ++ [(keyOf r', .ref pd)]))) p = some (.lst (rs.map V.ref)) := by
            rw [upd_ne (Ne.symm Fp)]
            exact sT3 _ _ hp8
          refine ⟨.ref p, rfl, .inl ⟨rfl, _, sqL_of hpX⟩, .ref ra', rfl, p, _, _, rfl, rfl, hpX, by rw [List.length_map, sizeLine_eq]; omega, ?_⟩
          have sMX : Same (mk F p H8) (mk F p (upd (upd (upd (upd H9 T2 (.tup (r'.map V.int))) T3 (.tup (r'.map V.int))) F (.dT (kvs ++ [(keyOf r', .ref pd)]))) p (.lst (rs.map V.ref ++ [.ref ra'])))) := by
            rw [mk_updp, mk_updf]
            exact mk_mono sT3
          refine ⟨kvs ++ [(keyOf r', .ref pd)], rs ++ [ra'], _, _, _, rfl, same_put (same_put (s8.trans sT3) nF) np0, sM.trans sMX, by rw [upd_ne Fp]; exact upd_same, by rw [upd_same, List.map_append]; rfl, ?_, by rw [List.length_append]; show rs.length + 1 ≤ _; omega, ?_⟩
          · refine ⟨fun kv hk => ?_, fun rb hr => ?_, by rw [List.length_append, List.length_append, ci.len]; rfl⟩
            · rcases List.mem_append.mp hk with hk | hk
              · obtain ⟨r5, nu5, a5, e5, h5, t5⟩ := ci.ent kv hk
                exact ⟨r5, nu5, a5, e5, sMX _ _ h5, t5⟩
              · rw [List.mem_singleton.mp hk]
                refine ⟨r', swapAt nu k, pd, rfl, ?_, tl'⟩
                rw [mk_updp, mk_updf, mk_at pdo.1 pdo.2]
                exact same_upd nT3 _ _ (sT2 _ _ hpd)
            · have anyS : ∀ {key : List Key}, (valV kvs key).isSome = true → (valV (kvs ++ [(keyOf r', V.ref pd)]) key).isSome = true := fun {key} h => by
                rw [valV_snoc _ _ _ _ hv']
                split
                · rfl
                · exact h
              rcases List.mem_append.mp hr with hr | hr
              · obtain ⟨r5, h5, l5, v5⟩ := ci.row rb hr
                exact ⟨r5, sMX _ _ h5, l5, anyS v5⟩
              · rw [List.mem_singleton.mp hr]
                refine ⟨r', sMX _ _ m2, by omega, ?_⟩
                rw [valV_snoc _ _ _ _ hv', if_pos rfl]
                rfl
          · rw [List.getElem?_append_left (List.getElem?_eq_some_iff.mp hra8).1]
            exact hra8
        | some v' =>
          refine iteF ?_
          obtain ⟨nu', a', rfl, ha', tl2⟩ := ci.get hv'
          -- found[tuple(other)] != due
          refine ⟨.ref F, rfl, .ref ra', rfl, ra', _, rfl, .inl ⟨sqL_of (s8T _ _ d2), fun T3 nT3 => ?_⟩⟩
          have sT3 := s8T.trans (same_upd (o := .tup (r'.map V.int)) nT3)
          refine ⟨F, .ref a', rfl, hv' ▸ DGet.t (k := keyOf r') (sT3 _ _ hF8) (by rw [upd_same, keyOf_V]), .ref pd, rfl, ?_⟩
          refine ne_of' (dq_ints (sqL_of (sT3 _ _ (mk_same F p H8 _ _ ha')))) (dq_ints (sqL_of (same_upd nT3 _ _ (sT2 _ _ hpd)))) ⟨_, rfl, ?_⟩
          refine itF (by rw [eqv_ints, tells_one tl2 tl']; simp) ?_
          exact ⟨kvs, rs, _, _, _, rfl, s8.trans sT3, sM.trans (mk_mono sT3), sT3 _ _ hF8, sT3 _ _ hp8, ci.same (mk_mono sT3), by omega, hra8⟩
      · obtain ⟨kvs, rs, y5, y6, y7, rfl, s8, sM, hF8, hp8, ci, hrs8, hra8⟩ := hv
        rw [List.length_map] at hrs8
        refine ⟨.int at_, rfl, (at_ : Int), 1, rfl, rfl, ?_⟩
        exact ⟨kvs, rs, y5, y6, y7, rfl, s8, hF8, hp8, ci, by omega⟩
    · refine itF (by simp; omega) ?_
      exact q H6 s6
  · refine itF (by simpa using c1) ?_
    refine ⟨_, rfl, iteF ?_⟩
    exact q H6 s6
end
end Gs


/-! _law_walk: a drawn list of deeds, the row it leads to and the numbers. -/
namespace Gs
open PySem PySem.Spec PyProof.Rows L2
theorem sc__law_walk : FnScope ["_law_generator_here", "_law_way", "_law_row", "_law_steps", "_law_places", "_law_now", "_law_numbers", "_law_turn", "_law_near_here", "_law_at"] ["_law_generator_here", "_law_way", "_law_row", "_law_steps"] (defScope (top 40)) := ⟨rfl, rfl, rfl, by decide +kernel, rfl, by decide +kernel, by decide +kernel⟩
/-! ### the heap but for the generator -/
def hid (g : Addr) (H : Hp) : Hp := fun b => if b = g then none else H b
theorem hid_at {g b : Addr} {H : Hp} (h : b ≠ g) : hid g H b = H b := if_neg h
theorem hid_same (g : Addr) (H : Hp) : Same (hid g H) H := fun b o e => by
  by_cases z : b = g
  · have e2 : hid g H b = none := if_pos z
    rw [e2] at e; cases e
  · have e2 : hid g H b = H b := hid_at z
    rw [← e2]; exact e
theorem hid_sg {g : Addr} {H H' : Hp} (s : Sg g H H') : Same (hid g H) (hid g H') := fun b o e => by
  by_cases z : b = g
  · have e2 : hid g H b = none := if_pos z
    rw [e2] at e; cases e
  · rw [hid_at z] at e ⊢
    exact s b o z e
theorem hid_mono {g : Addr} {H H' : Hp} (s : Same H H') : Same (hid g H) (hid g H') := hid_sg (s.sg g)
theorem sg_hid {g : Addr} {H H' : Hp} (s : Same (hid g H) (hid g H')) : Sg g H H' := fun b o z e => by
  have := s b o (by rw [hid_at z]; exact e)
  rw [hid_at z] at this
  exact this
theorem gen_ne {g b : Addr} {n : Nat} {H : Hp} (h : Gen g n H) (e : H b = none) : b ≠ g := fun z => by
  obtain ⟨_, _, _, hg, _⟩ := h
  rw [z, hg] at e; cases e
theorem same_sg {g : Addr} {H H1 H2 : Hp} (a : Sg g H H1) (b : Same H1 H2) : Sg g H H2 := a.trans (b.sg g)
theorem nw_sg {g : Addr} {n : Nat} {H0 H1 H2 : Hp} (hG : Gen g n H0) (s : Sg g H1 H2) : Same (nw H0 H1) (nw H0 H2) := fun b o e => by
  obtain ⟨e1, e2⟩ := nw_of e
  rw [nw_at e1]
  exact s b o (gen_ne hG e1) e2
theorem sg_free {g : Addr} {n : Nat} {H0 H1 : Hp} {b : Addr} (hG : Gen g n H1) (s : Sg g H0 H1) (h : H1 b = none) : H0 b = none := by
  cases e : H0 b with
  | none => rfl
  | some o =>
    rw [s b o (gen_ne hG h) e] at h
    cases h
/-- a walk, laid in a tuple: the places, the row reached, the numbers -/
def WalkAt (M : Hp) (D : Let) (l : List Int) (v : V) : Prop := ∃ T pp pn pm, ∃ is : List Nat, ∃ l' : List Int, v = .ref T ∧ M T = some (.tup [.ref pp, .ref pn, .ref pm]) ∧ M pp = some (.lst ((nI is).map V.int)) ∧ M pn = some (.lst (l'.map V.int)) ∧
  M pm = some (.lst ((nI (swaps (ids l.length) is)).map V.int)) ∧ led D l is = some l' ∧ is.length ≤ 14
theorem WalkAt.same {M M' : Hp} {D : Let} {l : List Int} {v : V} (s : Same M M') (h : WalkAt M D l v) : WalkAt M' D l v := by
  obtain ⟨T, pp, pn, pm, is, l', e, h1, h2, h3, h4, h5⟩ := h
  exact ⟨T, pp, pn, pm, is, l', e, s _ _ h1, s _ _ h2, s _ _ h3, s _ _ h4, h5⟩
theorem dq_near {K : PySem.W.Frag} {H0 H : Hp} {p : Addr} {es : List (Nat × List Int)} {ts : List Addr} (hp : H p = some (.lst (ts.map V.ref))) (h : Paired (Entry H0 H) ts es) : ∃ ds, Dq K H (.ref p) (.list ds) ∧ ds.length = ts.length := by
  obtain ⟨ds, g1, g2, g3, g4⟩ := dq_all (K := K) (H := H) (xs := ts.map V.ref) fun x hx => by
    obtain ⟨tp, htp, rfl⟩ := List.mem_map.mp hx
    obtain ⟨j, hj⟩ := List.getElem?_of_mem htp
    obtain ⟨e, _, _, ra, h1, h2, _⟩ := pairedAt h hj
    refine ⟨.tuple [.int (e.1 : Int), dI e.2], .tup (sqT_of h1) (.cons (.int _) (.cons (dq_ints (sqL_of h2)).1 .nil)), ?_, ?_⟩
    · have := lay_ints e.2
      simp [PyData.canLay0, PyData.canLayAll0, dI, this]
    · simp [PyData.depth, PyData.depthAll, dI, depth_ints]
  exact ⟨ds, dq_list (sqL_of hp) g1 g3 (by omega), by rw [g2, List.length_map]⟩
section
variable {P : Program} {w : World} {K : PySem.W.Frag} {mg : Str → Option Value} {base : Heap} {CL : Addr}
def spWalk (K : PySem.W.Frag) : Sp := fun vs H Q _ => ∃ g n t ns st r, ∃ l : List Int, ∃ k : Nat, vs = [.ref g, .ref t, .ref r, .int (k : Int)] ∧ k ≤ 14 ∧ Gen g n H ∧ n ≤ 900000 ∧ Way (hid g H) t ns st ∧ SqL K (hid g H) r (l.map V.int) ∧ l.length ≤ 7 ∧
  ∀ H' v, Sg g H H' → Gen g (n + 56) H' → WalkAt (nw H H') (letD ns st) l v → Q v H'
theorem cl_walk (D : De K mg "_law_walk" (top 40)) (Bn : Bns mg) (c__law_random : Cl P w K mg base CX0 2 "_law_random" spRandom) (c__law_near : Cl P w K mg base CX0 3 "_law_near" (spNear K)) (c__law_exchanged : Cl P w K mg base CX0 1 "_law_exchanged" (spExc K)) :
    Cl P w K mg base CX0 4 "_law_walk" (spWalk K) := by
  refine cl0 D sc__law_walk (fun vs H Q E ⟨g, n, t, ns, st, r, l, k, e, _⟩ => by rw [e]; rfl) (fun _ _ _ _ _ _ us hl => match us, hl with | [_, _, _, _], _ => rfl) (fun f cdv A outer s H vs Q E hr h => ?_)
  obtain ⟨g, n, t, ns, st, r, l, k, rfl, hk, hG, hn, wy, hS, hlen, q⟩ := h
  have hu64 := hu64_of hr
  refine ⟨_, (pss_cons (ps_par3 (i := 4) (j := 5) (l := 6) rfl sc__law_walk.nd rfl rfl rfl (by decide) (by decide) (by decide) rfl rfl rfl (pa_cons (pe_lst pa_nil) (pa_cons (pe_callTy call_list_of (by rfl) Bn.list bt_list (pa_cons (pv 2) pa_nil)) (pa_cons (pe_listRg rfl (by rfl) Bn.list (prg_1 (by rfl) Bn.range (pe_callB call_len (by rfl) Bn.len bt_len (pa_cons (pv 2) pa_nil)))) pa_nil))) (by rfl))
  (pss_cons (ps_for PassesOwn.never rfl (pi_range1 (by rfl) Bn.range (pa_cons (pv 3) pa_nil)) (pg_name (i := 7) sc__law_walk.nd rfl (.inl rfl))
  (pss_cons (ps_set (i := 8) sc__law_walk.nd rfl (.inl rfl) (pe_cl c__law_near hr (by decide) (by rfl) pass0 (pa_cons (pv 1) (pa_cons (pv 5) pa_nil))))
  (pss_one (ps_if (pt_cmpR (op_neD hu64) (pv 8) (pe_lst pa_nil) (nomark _))
  (pss_cons (ps_asg (pe_ix ix_list (pv 8) (pe_cl c__law_random hr (by decide) (by rfl) pass0 (pa_cons (pv 0) (pa_cons (pe_callB call_len (by rfl) Bn.len bt_len (pa_cons (pv 8) pa_nil)) pa_nil))) fun _ _ => rfl) (pg_tup rfl (pgs_cons (pg_name (i := 9) sc__law_walk.nd rfl (.inl rfl)) (pgs_cons (pg_name (i := 5) sc__law_walk.nd rfl (.inl rfl)) pgs_nil))))
  (pss_one (ps_par (i := 4) (j := 6) rfl sc__law_walk.nd rfl rfl (by decide) rfl rfl (pa_cons (pe_op op_cat (pv 4) (pe_lst (pa_cons (pv 9) pa_nil))) (pa_cons (pe_cl c__law_exchanged hr (by decide) (by rfl) pass0 (pa_cons (pv 6) (pa_cons (pv 9) pa_nil))) pa_nil)) (by rfl))))
  pss_nil))))
  (pss_one (ps_ret (pe_tup (pa_cons (pv 4) (pa_cons (pv 5) (pa_cons (pv 6) pa_nil)))))))), ?_⟩
  have hpos := wy.posD
  -- the start
  refine ⟨Nat.zero_le _, fun pp0 n1 => ?_⟩
  have s1 : Same H (upd H pp0 (.lst [])) := same_upd n1
  refine ⟨.ref r, rfl, r, _, rfl, .inl (s1.seq ((hid_same g H).seq hS)), fun pn0 n2 => ?_⟩
  have s2 := s1.trans (same_upd (o := .lst (l.map V.int)) n2)
  refine ⟨.ref r, rfl, _, l.length, rfl, .inl ⟨_, s2.seq ((hid_same g H).seq hS), by rw [List.length_map]⟩, _, rfl, RgOk.of_le (by omega) (by omega) (by omega) (by omega), fun pm0 n3 => ?_⟩
  rw [nI_ids]
  have s3 := s2.trans (same_upd (o := .lst ((nI (ids l.length)).map V.int)) n3)
  refine ⟨_, _, _, rfl, ?_⟩
  refine ⟨.int k, rfl, (k : Int), rfl, by omega, by omega, ?_⟩
  rw [show ((k : Int)).toNat = k from Int.toNat_natCast k]
  refine for_range (fun i σ H1 => ∃ pp pn pm y7 y8 y9, ∃ is : List Nat, ∃ l' : List Int, σ = [some (.ref g), some (.ref t), some (.ref r), some (.int (k : Int)), some (.ref pp), some (.ref pn), some (.ref pm), y7, y8, y9] ∧ Sg g H H1 ∧ Gen g (n + 4 * i) H1 ∧
      nw H H1 pp = some (.lst ((nI is).map V.int)) ∧ nw H H1 pn = some (.lst (l'.map V.int)) ∧ nw H H1 pm = some (.lst ((nI (swaps (ids l.length) is)).map V.int)) ∧ led (letD ns st) l is = some l' ∧ is.length ≤ i)
    ⟨pp0, pn0, pm0, none, none, none, [], l, rfl, s3.sg g, hG.same s3, ?_, ?_, ?_, rfl, Nat.le_refl _⟩ (fun i σ H1 hi hv => ?_) (fun σ H1 hv => ?_)
  · rw [nw_at n1, upd_ne (ne_of_none (show _ = some (HO.lst []) by rw [upd_ne (ne_of_none upd_same n2)]; exact upd_same) n3), upd_ne (ne_of_none upd_same n2)]
    exact upd_same
  · rw [nw_at (s1.free n2), upd_ne (ne_of_none upd_same n3)]
    exact upd_same
  · rw [nw_at (s2.free n3)]
    exact upd_same
  · obtain ⟨pp, pn, pm, y7, y8, y9, is, l', rfl, sg, hG1, hpp, hpn, hpm, hled, hil⟩ := hv
    have ll := led_length hled
    have sH := nw_same H H1
    -- near(way, now)
    refine ⟨.ref t, rfl, .ref pn, rfl, t, ns, st, pn, l', rfl, (wy.same (hid_sg sg)).same (hid_same g H1), sqL_of (sH _ _ hpn), by omega, fun H2 pl s2 npl hN => ?_⟩
    obtain ⟨ts, hts, hE⟩ := hN
    have sg2 := same_sg sg s2
    have hG2 := hG1.same s2
    have h12 : Same (nw H H1) (nw H H2) := nw_sg hG (s2.sg g)
    obtain ⟨ds, dq, dl⟩ := dq_near (K := K) hts hE
    refine ⟨.ref pl, rfl, Nat.zero_le _, fun E0 nE => ?_⟩
    have s3 : Same H2 (upd H2 E0 (.lst [])) := same_upd nE
    refine ne_of' (dq.same s3) (dq_nil sqL_upd) ⟨_, rfl, ?_⟩
    rw [eqv_nil]
    by_cases c : ts.length = 0
    · have e : ds.isEmpty = true := by rw [List.isEmpty_iff, ← List.length_eq_zero_iff, dl, c]
      refine itF (by rw [e]; rfl) ?_
      exact ⟨pp, pn, pm, _, _, _, is, l', rfl, same_sg sg2 s3, (hG2.same s3).mono (by omega), nw_sg hG (s3.sg g) _ _ (h12 _ _ hpp), nw_sg hG (s3.sg g) _ _ (h12 _ _ hpn), nw_sg hG (s3.sg g) _ _ (h12 _ _ hpm), hled, by omega⟩
    · have e : ds.isEmpty = false := by
        cases ds with
        | nil => exact absurd dl.symm c
        | cons _ _ => rfl
      refine itT (by rw [e]; rfl) ?_
      have lts : ts.length ≤ 7 := by
        have := nearTo_length (letD ns st) l' (l'.length - 1)
        rw [nearTo_all] at this
        rw [Paired.length hE]; omega
      -- near_here[random(g, len(near_here))]
      refine ⟨.ref pl, rfl, .ref g, rfl, .ref pl, rfl, _, ts.length, rfl, .inl ⟨_, sqL_of (s3 _ _ hts), by rw [List.length_map]⟩, g, n + 4 * i, (ts.length : Int), rfl, hG2.same s3, by omega, by omega, by
        have h7 : (2 : Nat) ^ 3 ≤ 2 ^ 100 := Nat.pow_le_pow_right (by decide) (by decide)
        omega, fun H4 z s4 hG4 z1 z2 => ?_⟩
      have plg := gen_ne hG1 npl
      have hpl4 : H4 pl = some (.lst (ts.map V.ref)) := s4 _ _ plg (s3 _ _ hts)
      have hj : z.toNat < ts.length := by omega
      have ht : ts[z.toNat]? = some ts[z.toNat] := List.getElem?_eq_getElem hj
      generalize ts[z.toNat] = tp at ht
      obtain ⟨⟨a, l2⟩, he, nt1, ra, h1, h2, nt2⟩ := pairedAt hE ht
      have hd : deed (letD ns st) l' a = some l2 := near_mem.mp (List.mem_of_getElem? he)
      have hlt := deed_lt hd
      have h24 : Same (nw H H2) (nw H H4) := (nw_sg hG (s3.sg g)).trans (nw_sg hG s4)
      have sH4 := nw_same H H4
      have m1 : nw H H4 tp = some (.tup [.int (a : Int), .ref ra]) := h24 _ _ (by rw [nw_at (sg_free hG1 sg nt1)]; exact h1)
      have m2 : nw H H4 ra = some (.lst (l2.map V.int)) := h24 _ _ (by rw [nw_at (sg_free hG1 sg nt2)]; exact h2)
      refine ⟨pl, _, z, .ref tp, rfl, rfl, sqL_of hpl4, at_of (j := z.toNat) (by omega) (by rw [List.getElem?_map, ht]; rfl), ?_⟩
      refine ⟨tp, _, rfl, sqT_of (sH4 _ _ m1), rfl, .int a, _, rfl, .ref ra, [], rfl, rfl, ?_⟩
      -- places + [at], exchanged(numbers, at)
      have h14 := h12.trans h24
      refine ⟨.ref pp, rfl, .int a, rfl, by show 1 ≤ sizeLine; decide, fun A1 nA1 => ?_⟩
      have s5 : Same H4 (upd H4 A1 (.lst [.int (a : Int)])) := same_upd nA1
      refine ⟨pp, A1, _, _, rfl, rfl, s5 _ _ (sH4 _ _ (h14 _ _ hpp)), upd_same, ?_, fun A2 nA2 => ?_⟩
      · rw [List.length_map, nI_length, sizeLine_eq]
        show is.length + 1 ≤ _
        omega
      have s6 := s5.trans (same_upd (o := .lst ((nI is).map V.int ++ [.int (a : Int)])) nA2)
      have hl1 : (nI (swaps (ids l.length) is)).length = l.length := by rw [nI_length, swaps_length, ids_length]
      refine ⟨.ref pm, rfl, .int a, rfl, pm, a, nI (swaps (ids l.length) is), rfl, sqL_of (s6 _ _ (sH4 _ _ (h14 _ _ hpm))), by omega, by omega, fun H7 pm' s7 npm' hpm' => ?_⟩
      rw [nI_swap, ← swaps_snoc] at hpm'
      refine ⟨_, _, rfl, ?_⟩
      have s47 := s6.trans s7
      refine ⟨A2, ra, pm', _, _, _, is ++ [a], l2, rfl, same_sg ((same_sg sg2 s3).trans s4) s47, (hG4.same s47).mono (by omega), ?_, nw_sg hG (s47.sg g) _ _ m2, ?_, led_snoc hled hd, by rw [List.length_append]; show is.length + 1 ≤ i + 1; omega⟩
      · rw [nw_at (sg_free hG4 ((same_sg sg2 s3).trans s4) (s5.free nA2)), s7 _ _ upd_same]
        unfold nI
        rw [List.map_append, List.map_append]
        rfl
      · rw [nw_at (sg_free hG4 ((same_sg sg2 s3).trans s4) (s6.free npm'))]
        exact hpm'
  · obtain ⟨pp, pn, pm, y7, y8, y9, is, l', rfl, sg, hG1, hpp, hpn, hpm, hled, hil⟩ := hv
    refine ⟨.ref pp, rfl, .ref pn, rfl, .ref pm, rfl, by show 3 ≤ sizeLine; decide, fun T nT => ?_⟩
    have s5 : Same H1 (upd H1 T (.tup [.ref pp, .ref pn, .ref pm])) := same_upd nT
    refine q _ (.ref T) (same_sg sg s5) ((hG1.same s5).mono (by omega)) ⟨T, pp, pn, pm, is, l', rfl, by rw [nw_at (sg_free hG1 sg nT)]; exact upd_same, nw_sg hG (s5.sg g) _ _ hpp, nw_sg hG (s5.sg g) _ _ hpn, nw_sg hG (s5.sg g) _ _ hpm, hled, by omega⟩
end
end Gs


/-! followed and led where all is right; _law_changed_right. -/
namespace Gs
open PySem PySem.Spec PyProof.Rows L2
theorem sc__law_changed_right : FnScope ["_law_lets_here", "_law_row", "_law_places", "_law_at", "_law_many"] ["_law_lets_here", "_law_row", "_law_places"] (defScope (top 43)) := ⟨rfl, rfl, rfl, by decide +kernel, rfl, by decide +kernel, by decide +kernel⟩
theorem nI_V (is : List Nat) : (nI is).map V.int = is.map fun k : Nat => V.int (k : Int) := by
  unfold nI
  rw [List.map_map]
  rfl
/-- a row of counts -/
def RowI (l : List Int) : Prop := l.length ≤ 200 ∧ ∀ x ∈ l, 0 ≤ x
theorem RowI.ok {l : List Int} (h : RowI l) : rowOk (l.map V.int) = true := by
  unfold rowOk
  rw [List.length_map, decide_eq_true h.1, Bool.true_and, List.all_eq_true]
  intro v hv
  obtain ⟨i, hi, rfl⟩ := List.mem_map.mp hv
  show (decide (0 ≤ i) && true) = true
  rw [decide_eq_true (h.2 i hi)]; rfl
section
variable {K : PySem.W.Frag} {CL : Addr} {D : Dx} {a r ps : Addr} {held : List Int} {st : Option Int} {l l' : List Int} {is : List Nat} {H : Hp} {Q : VK} {E : XK}
theorem asked_ok {fin : List Int → List V → List Int → Prop} (lt : Lt CL H a held st) (hS : SqL K H r (l.map V.int)) (hl : RowI l) (hP : SqL K H ps ((nI is).map V.int)) (hled : led (letD held st) l is = some l')
    (q : fin l (is.map fun k : Nat => V.int (k : Int)) l') : Asked K CL D (.ref a) (.ref r) (.ref ps) H E fin := by
  refine .inr ⟨a, held, st, rfl, lt, .inr ⟨r, _, rfl, hS, fun y hy => ?_, .inr ⟨l, rfl, hl.ok, .inr ⟨ps, _, rfl, hP, fun x hx => ?_, ?_⟩⟩⟩⟩
  · obtain ⟨i, _, rfl⟩ := List.mem_map.mp hy
    exact El.int i
  · obtain ⟨i, _, rfl⟩ := List.mem_map.mp hx
    exact ⟨_, Kn.int K H i⟩
  · rw [nI_V, ledV_of hled]
    exact q
theorem is_inj {is js : List Nat} (e : (is.map fun k : Nat => V.int (k : Int)) = js.map fun k : Nat => V.int (k : Int)) : js = is :=
  ((List.map_inj_right (f := fun k : Nat => V.int (k : Int)) (fun x y h => by
      have h2 : (x : Int) = (y : Int) := V.int.inj h
      omega)).mp e).symm
end
theorem Lt.sg {CL g : Addr} {H H' : Hp} {a : Addr} {held : List Int} {st : Option Int} {n : Nat} (s : Sg g H H') (hg : Gen g n H) (h : Lt CL H a held st) : Lt CL H' a held st := by
  obtain ⟨_, _, _, eg, _⟩ := hg
  obtain ⟨dx, hd, e1, e2⟩ := h.ex
  exact ⟨⟨dx, hd, s _ _ (fun z => by rw [z, eg] at e1; cases e1) e1, s _ _ (fun z => by rw [z, eg] at e2; cases e2) e2⟩, h.nd, h.pos, h.spos⟩
section
variable {P : Program} {w : World} {K : PySem.W.Frag} {mg : Str → Option Value} {base : Heap} {CL : Addr} {D : Dx}
def spChg (K : PySem.W.Frag) (CL : Addr) : Sp := fun vs H Q _ => ∃ a held st r ps, ∃ l l' : List Int, ∃ is : List Nat, vs = [.ref a, .ref r, .ref ps] ∧ Lt CL H a held st ∧ SqL K H r (l.map V.int) ∧ RowI l ∧ SqL K H ps ((nI is).map V.int) ∧ is.length ≤ 100 ∧ led (letD held st) l is = some l' ∧
  ∀ H', Same H H' → Q (.bl true) H'
theorem cl_changed (De : De K mg "_law_changed_right" (top 43)) (Bn : Bns mg) (c_followed : Cl P w K mg base (L2.CX P w) 6 "followed" (spFol K CL D)) (c__law_exchanged : Cl P w K mg base CX0 1 "_law_exchanged" (spExc K)) :
    Cl P w K mg base CX0 7 "_law_changed_right" (spChg K CL) := by
  refine cl0 De sc__law_changed_right (fun vs H Q E ⟨a, held, st, r, ps, l, l', is, e, _⟩ => by rw [e]; rfl) (fun _ _ _ _ _ _ us hl => match us, hl with | [_, _, _], _ => rfl) (fun f cdv A outer s H vs Q E hr h => ?_)
  obtain ⟨a, held, st, r, ps, l, l', is, rfl, lt, hS, hl, hP, hil, hled, q⟩ := h
  have hu64 := hu64_of hr
  refine ⟨_, (pss_cons (ps_if (pt_cmpR (op_eqD hu64) (pv 2) (pe_lst pa_nil) (nomark _))
  (pss_one (ps_ret pe_bl))
  pss_nil)
  (pss_cons (ps_par (i := 3) (j := 4) rfl sc__law_changed_right.nd rfl rfl (by decide) rfl rfl (pa_cons (pe_ix ix_list (pv 2) pe_int fun _ _ => rfl) (pa_cons (pe_lst (pa_cons (pe_ix ix_list (pv 2) pe_int fun _ _ => rfl) (pa_cons (pe_ix ix_list (pv 2) pe_int fun _ _ => rfl) pa_nil))) pa_nil)) (by rfl))
  (pss_cons (ps_if (pt_cmpR (op_neD hu64) (pe_cl c_followed hr (by decide) (by rfl) (passes_call (E := E0) takes0 (fun _ _ _ _ h => h)) (pa_cons (pv 0) (pa_cons (pv 1) (pa_cons (pv 4) pa_nil)))) (pe_listRg rfl (by rfl) Bn.list (prg_1 (by rfl) Bn.range (pe_callB call_len (by rfl) Bn.len bt_len (pa_cons (pv 1) pa_nil)))) (nomark _))
  (pss_one (ps_ret pe_bl))
  pss_nil)
  (pss_cons (ps_asg (pe_lst (pa_cons (pv 3) pa_nil)) (Gr.pg_all (pv 4)))
  (pss_one (ps_ret (pe_cmpR (op_eqD hu64) (pe_cl c_followed hr (by decide) (by rfl) (passes_call (E := E0) takes0 (fun _ _ _ _ h => h)) (pa_cons (pv 0) (pa_cons (pv 1) (pa_cons (pv 4) pa_nil)))) (pe_cl c__law_exchanged hr (by decide) (by rfl) pass0 (pa_cons (pe_listRg rfl (by rfl) Bn.list (prg_1 (by rfl) Bn.range (pe_callB call_len (by rfl) Bn.len bt_len (pa_cons (pv 1) pa_nil)))) (pa_cons (pv 3) pa_nil))) (nomark _)))))))), ?_⟩
  refine ⟨.ref ps, rfl, Nat.zero_le _, fun E0 nE => ?_⟩
  have s1 : Same H (upd H E0 (.lst [])) := same_upd nE
  refine eq_of (dq_ints (s1.seq hP)) (dq_nil sqL_upd) ⟨_, rfl, ?_⟩
  have e0 : PyData.eqv (dI (nI is)) (.list []) = is.isEmpty := by
    unfold dI
    rw [eqv_nil]
    cases is <;> rfl
  cases is with
  | nil => exact itT (by rw [e0]; rfl) (q _ s1)
  | cons k is =>
    refine itF (by rw [e0]; rfl) ?_
    have h1 : (deed (letD held st) l k).bind (fun l' => led (letD held st) l' is) = some l' := hled
    cases hd : deed (letD held st) l k with
    | none => rw [hd] at h1; cases h1
    | some l1 =>
      have hk := deed_lt hd
      have at0 : atI ((nI (k :: is)).map V.int) 0 = some (.int (k : Int)) := at_of (j := 0) rfl rfl
      refine ⟨.ref ps, rfl, ps, _, 0, .int k, rfl, rfl, s1.seq hP, at0, .ref ps, rfl, ps, _, 0, .int k, rfl, rfl, s1.seq hP, at0, .ref ps, rfl, ps, _, 0, .int k, rfl, rfl, s1.seq hP, at0, by show 2 ≤ sizeLine; decide, fun m nm => ?_⟩
      refine ⟨_, _, rfl, ?_⟩
      have s2 := s1.trans (same_upd (o := .lst [.int (k : Int), .int (k : Int)]) nm)
      have hll := hl.1
      -- followed(lets, row, many) != list(range(len(row)))
      refine ⟨.ref a, rfl, .ref r, rfl, .ref m, rfl, ?_⟩
      refine ⟨_, _, _, rfl, asked_ok (l := l) (l' := l) (is := [k, k]) (lt.same s2) (s2.seq hS) hl (sqL_of upd_same) ?_ fun js ej H3 p s3 np hp => ?_⟩
      · show (deed (letD held st) l k).bind (fun l' => (deed (letD held st) l' k).bind fun l'' => some l'') = some l
        rw [hd]
        show (deed (letD held st) l1 k).bind (fun l'' => some l'') = some l
        rw [deed_back lt.posD hd]
        rfl
      cases is_inj ej
      have s23 := s2.trans s3
      refine ⟨.ref r, rfl, _, l.length, rfl, .inl ⟨_, s23.seq hS, by rw [List.length_map]⟩, _, rfl, RgOk.of_le (by omega) (by omega) (by omega) (by omega), fun p2 np2 => ?_⟩
      rw [nI_ids]
      have s4 : Same H3 (upd H3 p2 (.lst ((nI (ids l.length)).map V.int))) := same_upd np2
      refine ne_of' (dq_ints (sqL_of (s4 _ _ hp))) (dq_ints sqL_upd) ⟨_, rfl, ?_⟩
      have e1 : swaps (ids l.length) [k, k] = ids l.length := swapAt_twice _ _
      refine itF (by rw [eqv_ints, e1]; simp) ?_
      -- many[:] = [at]
      have s24 := s3.trans s4
      refine ⟨.int k, rfl, by show 1 ≤ sizeLine; decide, fun b nb => ?_⟩
      have hm4 := s24 _ _ upd_same
      have mb : m ≠ b := ne_of_none hm4 nb
      refine ⟨.ref m, rfl, m, b, _, _, rfl, rfl, by rw [upd_ne mb]; exact hm4, upd_same, mb, by show 2 + 1 ≤ sizeLine; decide, ?_⟩
      generalize hH6 : upd (upd (upd H3 p2 (.lst ((nI (ids l.length)).map V.int))) b (.lst [.int (k : Int)])) m (.lst [.int (k : Int)]) = H6
      have s6 : Same H H6 := by
        rw [← hH6]
        exact same_put ((s23.trans s4).trans (same_upd nb)) (s1.free nm)
      have hm6 : H6 m = some (.lst [.int (k : Int)]) := by rw [← hH6]; exact upd_same
      refine ⟨.ref a, rfl, .ref r, rfl, .ref m, rfl, ?_⟩
      refine ⟨_, _, _, rfl, asked_ok (l := l) (l' := l1) (is := [k]) (lt.same s6) (s6.seq hS) hl (sqL_of hm6) ?_ fun js2 ej2 H7 p7 s7 np7 hp7 => ?_⟩
      · show (deed (letD held st) l k).bind (fun l' => some l') = some l1
        rw [hd]
        rfl
      cases is_inj ej2
      have s67 := s6.trans s7
      refine ⟨.ref r, rfl, _, l.length, rfl, .inl ⟨_, s67.seq hS, by rw [List.length_map]⟩, _, rfl, RgOk.of_le (by omega) (by omega) (by omega) (by omega), fun p8 np8 => ?_⟩
      rw [nI_ids]
      have s8 : Same H7 (upd H7 p8 (.lst ((nI (ids l.length)).map V.int))) := same_upd np8
      have hl8 : (nI (ids l.length)).length = l.length := by rw [nI_length, ids_length]
      refine ⟨.int k, rfl, p8, k, nI (ids l.length), rfl, sqL_upd, by omega, by omega, fun H9 p9 s9 np9 hp9 => ?_⟩
      rw [nI_swap] at hp9
      refine eq_of (dq_ints (sqL_of (s9 _ _ (s8 _ _ hp7)))) (dq_ints (sqL_of hp9)) ?_
      rw [eqv_ints]
      have e9 : decide (nI (swaps (ids l.length) [k]) = nI (swapAt (ids l.length) k)) = true := decide_eq_true rfl
      rw [e9]
      exact q H9 (s67.trans (s8.trans s9))
end
end Gs


/-! _law_caught: an error is kept, its kind and its value told. -/
namespace Gs
open PySem PySem.Spec PyProof.Rows L2
theorem sc__law_caught : FnScope ["_law_lets_here", "_law_row", "_law_places", "_law_error", "e", "_law_kinds"] ["_law_lets_here", "_law_row", "_law_places"] (defScope (top 44)) := ⟨rfl, rfl, rfl, by decide +kernel, rfl, by decide +kernel, by decide +kernel⟩
def Dx.at (D : Dx) : Nat → Addr
  | 0 => D.L
  | 1 => D.R
  | 2 => D.I
  | _ => D.P
/-- what the text says of the errors -/
structure Errs (P : Program) (K : PySem.W.Frag) (mg : Str → Option Value) (D : Dx) (C0 : Addr) : Prop where
  gG : mg "GapError" = some (.ref C0)
  kG : PySem.W.keepIn K (.ref C0) = true
  TL : ∃ f cda cc, Gx.Txt P K mg "InvalidLets" "InvalidLets.__init__" D.L f cda cc
  TR : ∃ f cda cc, Gx.Txt P K mg "InvalidRow" "InvalidRow.__init__" D.R f cda cc
  TI : ∃ f cda cc, Gx.Txt P K mg "InvalidList" "InvalidList.__init__" D.I f cda cc
  TP : ∃ f cda cc, Gx.Txt P K mg "InvalidPlace" "InvalidPlace.__init__" D.P f cda cc
  ex : ∀ j, PySem.W.exmOne K (.ref (D.at j)) (.ref C0) = some true
  kit : ∀ i j, i < 4 → j < 4 → PySem.W.kitOne K (.ref (D.at i)) (.ref (D.at j)) = some (decide (i = j))
theorem Errs.tx {P : Program} {K : PySem.W.Frag} {mg : Str → Option Value} {D : Dx} {C0 : Addr} (h : Errs P K mg D C0) : ∀ j, ∃ (P : Program) (mg : Str → Option Value) (x0 q0 : Str) (fI cda cc : Addr), Gx.Txt P K mg x0 q0 (D.at j) fI cda cc
  | 0 => let ⟨f, a, b, t⟩ := h.TL; ⟨_, _, _, _, f, a, b, t⟩
  | 1 => let ⟨f, a, b, t⟩ := h.TR; ⟨_, _, _, _, f, a, b, t⟩
  | 2 => let ⟨f, a, b, t⟩ := h.TI; ⟨_, _, _, _, f, a, b, t⟩
  | _ + 3 => let ⟨f, a, b, t⟩ := h.TP; ⟨_, _, _, _, f, a, b, t⟩
theorem txSame {K : PySem.W.Frag} {H H' : Hp} {v : V} {t : Str} (s : Same H H') (h : Gr.Tx K H v t) : Gr.Tx K H' v t := by
  cases h with
  | int h => exact .int h
  | non => exact .non
  | bl b => exact .bl b
  | str h => exact .str h
  | dat h h1 h2 h3 h4 => exact .dat (dp_same s _ _ h) h1 h2 h3 h4
  | emp h => exact .emp (s _ _ h)
/-- the j-th kind of error is told of the value v -/
def Bad (K : PySem.W.Frag) (CL : Addr) (vl vr vp : V) (H : Hp) (j : Nat) (v : V) : Prop :=
  (j = 0 ∧ v = vl ∧ ∃ n, Kn K H vl n) ∨
  ∃ a held st, vl = .ref a ∧ Lt CL H a held st ∧
    ((j = 1 ∧ v = vr ∧ ((∃ n, Kn K H vr n ∧ n ≠ "list") ∨ ∃ r ys, vr = .ref r ∧ SqL K H r ys ∧ (∀ y ∈ ys, El K H y) ∧ rowOk ys = false)) ∨
     ∃ r, ∃ l : List Int, vr = .ref r ∧ SqL K H r (l.map V.int) ∧ RowI l ∧
      ((j = 2 ∧ v = vp ∧ ∃ n, Kn K H vp n ∧ n ≠ "list") ∨
       (j = 3 ∧ ∃ ps xs, vp = .ref ps ∧ SqL K H ps xs ∧ (∀ x ∈ xs, ∃ n, Kn K H x n) ∧ ledV (letD held st) l xs = .inr v)))
theorem Bad.asked {K : PySem.W.Frag} {CL : Addr} {D : Dx} {vl vr vp : V} {H : Hp} {j : Nat} {v : V} {E : XK} {fin : List Int → List V → List Int → Prop} (h : Bad K CL vl vr vp H j v) (e : Ex (D.at j) v H E) : Asked K CL D vl vr vp H E fin := by
  rcases h with ⟨rfl, rfl, n, k⟩ | ⟨a, held, st, rfl, lt, h⟩
  · exact .inl ⟨n, k, e⟩
  · refine .inr ⟨a, held, st, rfl, lt, ?_⟩
    rcases h with ⟨rfl, rfl, ⟨n, k, c⟩ | ⟨r, ys, rfl, hS, hE, c⟩⟩ | ⟨r, l, rfl, hS, hl, h⟩
    · exact .inl ⟨n, k, c, e⟩
    · exact .inr ⟨r, ys, rfl, hS, hE, .inl ⟨c, e⟩⟩
    · refine .inr ⟨r, _, rfl, hS, fun y hy => ?_, .inr ⟨l, rfl, hl.ok, ?_⟩⟩
      · obtain ⟨i, _, rfl⟩ := List.mem_map.mp hy
        exact El.int i
      · rcases h with ⟨rfl, rfl, n, k, c⟩ | ⟨rfl, ps, xs, rfl, hP, hK, hL⟩
        · exact .inl ⟨n, k, c, e⟩
        · refine .inr ⟨ps, xs, rfl, hP, hK, ?_⟩
          rw [hL]
          exact e
/-- what is told: the kinds, the text -/
def CaughtAt (H : Hp) (p : Addr) (j : Nat) (t : Str) : Prop := ∃ q, H p = some (.lst [.ref q, .str t]) ∧ H q = some (.lst [.bl (decide (j = 0)), .bl (decide (j = 1)), .bl (decide (j = 2)), .bl (decide (j = 3))])
section
variable {P : Program} {w : World} {K : PySem.W.Frag} {mg : Str → Option Value} {base : Heap} {CL : Addr} {D : Dx} {C0 : Addr}
def spCaught (K : PySem.W.Frag) (CL : Addr) : Sp := fun vs H Q _ => ∃ vl vr vp j v t, vs = [vl, vr, vp] ∧ j < 4 ∧ Bad K CL vl vr vp H j v ∧ Gr.Tx K H v t ∧ ∀ H' p, Same H H' → CaughtAt H' p j t → Q (.ref p) H'
theorem cl_caught (De : De K mg "_law_caught" (top 44)) (Bn : Bns mg) (Er : Errs P K mg D C0) (c_followed : Cl P w K mg base (L2.CX P w) 6 "followed" (spFol K CL D)) : ClG P w K mg base (L2.CX P w) 7 "_law_caught" (spCaught K CL) := by
  refine clG De sc__law_caught (fun vs H Q E ⟨vl, vr, vp, j, v, t, e, _⟩ => by rw [e]; rfl) (fun _ _ _ _ _ _ us hl => match us, hl with | [_, _, _], _ => rfl) (fun f cdv A outer s H vs Q E hg hr h => ?_)
  obtain ⟨vl, vr, vp, j, v, t, rfl, hj, hb, tx, q⟩ := h
  have gd : (A.deeper (envOfC "_law_caught" (defScope (top 44)) s.heap.objs.size f cdv)).guards = some [] := hg
  have hu12 := hu12_of hr
  obtain ⟨f0, a0, b0, T0⟩ := Er.TL
  obtain ⟨f1, a1, b1, T1⟩ := Er.TR
  obtain ⟨f2, a2, b2, T2⟩ := Er.TI
  obtain ⟨f3, a3, b3, T3⟩ := Er.TP
  refine ⟨_, (pss_cons (ps_set (i := 3) sc__law_caught.nd rfl (.inl rfl) pe_non)
  (pss_cons (Gx.ps_try_keep (i := 4) (j := 3) rfl rfl rfl sc__law_caught.nd rfl rfl rfl rfl (show Names _ _ _ from ⟨by rfl, by decide, .inl Er.gG⟩) (by decide) (by decide) (fun W pn xe tk own => (pss_one (ps_expr (pe_clS c_followed hr (by decide) (by rfl) (fun s => passAt tk s) (pa_cons (pv 0) (pa_cons (pv 1) (pa_cons (pv 2) pa_nil))))))))
  (pss_cons (ps_set (i := 5) sc__law_caught.nd rfl (.inl rfl) (pe_lst (pa_cons (pe_callB Gx.call_isX (by rfl) Bn.isinstance bt_isinstance (pa_cons (pv 3) (pa_cons (pe_glob (by rfl) T0.gC (v := .ref D.L) rfl) pa_nil))) (pa_cons (pe_callB Gx.call_isX (by rfl) Bn.isinstance bt_isinstance (pa_cons (pv 3) (pa_cons (pe_glob (by rfl) T1.gC (v := .ref D.R) rfl) pa_nil))) (pa_cons (pe_callB Gx.call_isX (by rfl) Bn.isinstance bt_isinstance (pa_cons (pv 3) (pa_cons (pe_glob (by rfl) T2.gC (v := .ref D.I) rfl) pa_nil))) pa_nil)))))
  (pss_one (ps_ret (pe_lst (pa_cons (pe_op op_cat (pv 5) (pe_lst (pa_cons (pe_callB Gx.call_isX (by rfl) Bn.isinstance bt_isinstance (pa_cons (pv 3) (pa_cons (pe_glob (by rfl) T3.gC (v := .ref D.P) rfl) pa_nil))) pa_nil))) (pa_cons (pe_ifExp (pt_cmpR op_isN (pv 3) pe_non (nomark _)) pe_non (pe_callB (Gr.call_tx gd hu12) (by rfl) Bn.repr bt_repr (pa_cons (Gx.pe_xv (pv 3)) pa_nil))) pa_nil)))))))), ?_⟩
  refine ⟨vl, rfl, vr, rfl, vp, rfl, vl, vr, vp, rfl, hb.asked fun H1 d s1 nd => ⟨Er.ex j, fun a na => ?_⟩⟩
  have s2 : Same H (upd H1 d (.xd [("value", v)])) := same_put s1 (s1.free nd)
  have s3 := s2.trans (same_upd (o := Gx.XcO (.ref (D.at j)) (some d) a) na)
  have had : d ≠ a := ne_of_none upd_same na
  have ha : (upd (upd H1 d (.xd [("value", v)])) a (Gx.XcO (.ref (D.at j)) (some d) a)) a = some (Gx.XcO (.ref (D.at j)) (some d) a) := upd_same
  have hd : (upd (upd H1 d (.xd [("value", v)])) a (Gx.XcO (.ref (D.at j)) (some d) a)) d = some (.xd [("value", v)]) := by rw [upd_ne had]; exact upd_same
  generalize upd (upd H1 d (.xd [("value", v)])) a (Gx.XcO (.ref (D.at j)) (some d) a) = H2 at s3 ha hd ⊢
  refine ⟨.ref a, rfl, a, D.at j, D.at 0, d, _, _, rfl, ha, hd, Er.kit j 0 hj (by decide), Er.tx j, ?_⟩
  refine ⟨.ref a, rfl, a, D.at j, D.at 1, d, _, _, rfl, ha, hd, Er.kit j 1 hj (by decide), Er.tx j, ?_⟩
  refine ⟨.ref a, rfl, a, D.at j, D.at 2, d, _, _, rfl, ha, hd, Er.kit j 2 hj (by decide), Er.tx j, ?_⟩
  refine ⟨by show 3 ≤ sizeLine; decide, fun k1 nk1 => ?_⟩
  have s4 : Same H2 (upd H2 k1 (.lst [.bl (decide (j = 0)), .bl (decide (j = 1)), .bl (decide (j = 2))])) := same_upd nk1
  refine ⟨.ref k1, rfl, .ref a, rfl, a, D.at j, D.at 3, d, _, _, rfl, s4 _ _ ha, s4 _ _ hd, Er.kit j 3 hj (by decide), Er.tx j, by show 1 ≤ sizeLine; decide, fun k2 nk2 => ?_⟩
  refine ⟨k1, k2, _, _, rfl, rfl, (by rw [upd_ne (ne_of_none upd_same nk2)]; exact upd_same), upd_same, by show 3 + 1 ≤ sizeLine; decide, fun k3 nk3 => ?_⟩
  have s5 := s4.trans ((same_upd (o := .lst [.bl (decide (j = 3))]) nk2).trans (same_upd (o := .lst ([.bl (decide (j = 0)), .bl (decide (j = 1)), .bl (decide (j = 2))] ++ [.bl (decide (j = 3))])) nk3))
  refine ⟨.ref a, rfl, rfl, _, rfl, itF (by simp) ?_⟩
  have nv : PySem.W.findIn K (.ref (D.at j)) "value" = some none := by
    match j with
    | 0 => exact T0.noV
    | 1 => exact T1.noV
    | 2 => exact T2.noV
    | _ + 3 => exact T3.noV
  refine ⟨.ref a, rfl, a, D.at j, d, _, v, rfl, s5 _ _ ha, s5 _ _ hd, Er.tx j, nv, rfl, v, t, rfl, txSame (s3.trans s5) tx, by show 2 ≤ sizeLine; decide, fun p np => ?_⟩
  refine q _ p (s3.trans (s5.trans (same_upd np))) ⟨k3, upd_same, ?_⟩
  rw [upd_ne (ne_of_none upd_same np)]
  exact upd_same
end
end Gs


/-! _law_bad_place_right: a place without a deed is told of. -/
namespace Gs
open PySem PySem.Spec PyProof.Rows L2
theorem sc__law_bad_place_right : FnScope ["_law_generator_here", "_law_way", "_law_lets_here", "_law_row", "_law_places", "_law_at", "_law_now", "_law_place", "_law_near_here", "_law_shut", "_law_bad", "_law_due"] ["_law_generator_here", "_law_way", "_law_lets_here", "_law_row", "_law_places"] (defScope (top 42)) := ⟨rfl, rfl, rfl, by decide +kernel, rfl, by decide +kernel, by decide +kernel⟩
theorem merge_some {k : Key} {v : V} : ∀ {more acc : List (Key × V)}, valV (mergeK acc more) k = some v → (k, v) ∈ more ∨ valV acc k = some v
  | [], acc, h => .inr h
  | p :: r, acc, h => by
    rcases merge_some (more := r) (acc := putK acc p.1 p.2) h with h | h
    · exact .inl (List.mem_cons_of_mem _ h)
    · rw [valV_put] at h
      by_cases e : k = p.1
      · rw [if_pos e] at h
        have e2 := Option.some.inj h
        refine .inl ?_
        rw [e, ← e2]
        exact List.mem_cons_self
      · rw [if_neg e] at h
        exact .inr h
theorem merge_is {k : Key} : ∀ {more acc : List (Key × V)}, ((∃ v, (k, v) ∈ more) ∨ (valV acc k).isSome = true) → (valV (mergeK acc more) k).isSome = true
  | [], acc, h => by
    rcases h with ⟨v, h⟩ | h
    · cases h
    · exact h
  | p :: r, acc, h => by
    refine merge_is (more := r) (acc := putK acc p.1 p.2) ?_
    rcases h with ⟨v, h⟩ | h
    · rcases List.mem_cons.mp h with h | h
      · refine .inr ?_
        rw [valV_put, ← h, if_pos rfl]
        rfl
      · exact .inl ⟨v, h⟩
    · refine .inr ?_
      rw [valV_put]
      split
      · rfl
      · exact h
/-- the dict of a row's deeds -/
structure NearD (H0 H : Hp) (m : List (Key × V)) (D : Let) (l : List Int) : Prop where
  get : ∀ k r', deed D l k = some r' → ∃ ra, valV m (.inl (k : Int)) = some (.ref ra) ∧ H ra = some (.lst (r'.map V.int)) ∧ H0 ra = none
  no : ∀ k : Nat, deed D l k = none → valV m (.inl (k : Int)) = none
theorem near_dict {K : PySem.W.Frag} {H0 H : Hp} : ∀ {ts : List Addr} {es : List (Nat × List Int)}, Paired (Entry H0 H) ts es →
    ∃ kvs : List (Key × V), Paired (fun p kv => SqT K H p [kV kv.1, kv.2]) ts kvs ∧ (∀ kv ∈ kvs, ∃ e ∈ es, kv.1 = .inl (e.1 : Int) ∧ ∃ ra, kv.2 = .ref ra ∧ H ra = some (.lst (e.2.map V.int)) ∧ H0 ra = none) ∧ ∀ e ∈ es, ∃ v, ((.inl (e.1 : Int) : Key), v) ∈ kvs
  | _, _, .nil => ⟨[], .nil, fun kv h => (by cases h), fun e h => (by cases h)⟩
  | _, _, .cons (a := tp) (b := e) r t => by
    obtain ⟨kvs, h1, h2, h3⟩ := near_dict (K := K) t
    obtain ⟨n1, ra, g1, g2, n2⟩ := r
    refine ⟨(.inl (e.1 : Int), .ref ra) :: kvs, .cons (sqT_of g1) h1, fun kv hk => ?_, fun e' he => ?_⟩
    · rcases List.mem_cons.mp hk with rfl | hk
      · exact ⟨e, List.mem_cons_self, rfl, ra, rfl, g2, n2⟩
      · obtain ⟨e', he, x⟩ := h2 kv hk
        exact ⟨e', List.mem_cons_of_mem _ he, x⟩
    · rcases List.mem_cons.mp he with rfl | he
      · exact ⟨_, List.mem_cons_self⟩
      · obtain ⟨v, hv⟩ := h3 e' he
        exact ⟨v, List.mem_cons_of_mem _ hv⟩
theorem nearD_of {K : PySem.W.Frag} {H0 H : Hp} {ts : List Addr} {D : Let} {l : List Int} (h : Paired (Entry H0 H) ts (near D l)) : ∃ kvs : List (Key × V), Paired (fun p kv => SqT K H p [kV kv.1, kv.2]) ts kvs ∧ NearD H0 H (mergeK [] kvs) D l := by
  obtain ⟨kvs, h1, h2, h3⟩ := near_dict (K := K) h
  refine ⟨kvs, h1, fun k r' hd => ?_, fun k hd => ?_⟩
  · obtain ⟨v, hv⟩ := h3 (k, r') (near_mem.mpr hd)
    obtain ⟨v', hv'⟩ := Option.isSome_iff_exists.mp (merge_is (more := kvs) (acc := []) (.inl ⟨v, hv⟩))
    rcases merge_some hv' with hm | hm
    · obtain ⟨e, he, ek, ra, ev, g1, g2⟩ := h2 _ hm
      have ek' : (k : Int) = (e.1 : Int) := Sum.inl.inj ek
      have hd2 : deed D l e.1 = some e.2 := near_mem.mp he
      have ek2 : e.1 = k := by omega
      rw [ek2, hd] at hd2
      have e3 := Option.some.inj hd2
      exact ⟨ra, by rw [hv', show v' = .ref ra from ev], by rw [e3]; exact g1, g2⟩
    · cases hm
  · cases hv : valV (mergeK [] kvs) (.inl (k : Int)) with
    | none => rfl
    | some v =>
      rcases merge_some hv with hm | hm
      · obtain ⟨e, he, ek, _⟩ := h2 _ hm
        have ek' : (k : Int) = (e.1 : Int) := Sum.inl.inj ek
        have hd2 : deed D l e.1 = some e.2 := near_mem.mp he
        have ek2 : e.1 = k := by omega
        rw [ek2, hd] at hd2
        cases hd2
      · cases hm
theorem NearD.same {H0 H H' : Hp} {m : List (Key × V)} {D : Let} {l : List Int} (s : Same H H') (h : NearD H0 H m D l) : NearD H0 H' m D l := ⟨fun k r' hd => let ⟨ra, a, b, c⟩ := h.get k r' hd; ⟨ra, a, s _ _ b, c⟩, h.no⟩
theorem ledV_app {D : Let} {v : V} {rest : List V} : ∀ {is : List Nat} {l ln : List Int}, led D l is = some ln → deedV D ln v = none → ledV D l ((is.map fun k : Nat => V.int (k : Int)) ++ v :: rest) = .inr v
  | [], l, ln, h, hv => by
    have e : l = ln := Option.some.inj h
    subst e
    show (match deedV D l v with | some l' => ledV D l' rest | none => .inr v) = .inr v
    rw [hv]
  | k :: is, l, ln, h, hv => by
    have h1 : (deed D l k).bind (fun l' => led D l' is) = some ln := h
    cases hd : deed D l k with
    | none => rw [hd] at h1; cases h1
    | some l1 =>
      rw [hd] at h1
      have e : deedV D l (.int (k : Int)) = some l1 := by
        unfold deedV
        rw [show atOf (.int (k : Int)) = some k by show (if (0 : Int) ≤ (k : Int) then some (k : Int).toNat else none) = some k; rw [if_pos (by omega), Int.toNat_natCast]]
        exact hd
      show (match deedV D l (.int (k : Int)) with | some l' => ledV D l' ((is.map fun k : Nat => V.int (k : Int)) ++ v :: rest) | none => .inr (.int (k : Int))) = .inr v
      rw [e]
      exact ledV_app h1 hv
/-- a text and what == asks of it -/
def Tq (K : PySem.W.Frag) (H : Hp) (v : V) (t : Str) : Prop := Gr.Tx K H v t ∧ PyData.strOk t = true
theorem Tq.same {K : PySem.W.Frag} {H H' : Hp} {v : V} {t : Str} (s : Same H H') (h : Tq K H v t) : Tq K H' v t := ⟨txSame s h.1, h.2⟩
theorem tq_small {K : PySem.W.Frag} {H : Hp} {i : Int} (h : -2 < i ∧ i < 20) : ∃ t, Tq K H (.int i) t := by
  refine ⟨_, .int ?_, ?_⟩
  · have : i.natAbs < 20 := by omega
    have h2 : i.natAbs.log2 ≤ i.natAbs := Nat.log2_le_self _
    omega
  · have : i = -1 ∨ i = 0 ∨ i = 1 ∨ i = 2 ∨ i = 3 ∨ i = 4 ∨ i = 5 ∨ i = 6 ∨ i = 7 ∨ i = 8 ∨ i = 9 ∨ i = 10 ∨ i = 11 ∨ i = 12 ∨ i = 13 ∨ i = 14 ∨ i = 15 ∨ i = 16 ∨ i = 17 ∨ i = 18 ∨ i = 19 := by omega
    rcases this with rfl | rfl | rfl | rfl | rfl | rfl | rfl | rfl | rfl | rfl | rfl | rfl | rfl | rfl | rfl | rfl | rfl | rfl | rfl | rfl | rfl <;> decide +kernel
theorem tq_non {K : PySem.W.Frag} {H : Hp} : ∃ t, Tq K H .non t := ⟨_, .non, by decide +kernel⟩
theorem tq_bl {K : PySem.W.Frag} {H : Hp} (b : Bool) : ∃ t, Tq K H (.bl b) t := ⟨_, .bl b, by cases b <;> decide +kernel⟩
/-- what is told, as data -/
def dC (j : Nat) (t : Str) : PyData := .list [.list [.bool (decide (j = 0)), .bool (decide (j = 1)), .bool (decide (j = 2)), .bool (decide (j = 3))], .str t]
theorem dq_caught {K : PySem.W.Frag} {H : Hp} {p : Addr} {j : Nat} {t : Str} (h : CaughtAt H p j t) (ht : PyData.strOk t = true) : Dq K H (.ref p) (dC j t) := by
  obtain ⟨q, h1, h2⟩ := h
  refine ⟨.lst (sqL_of h1) (.cons (.lst (sqL_of h2) (.cons (.bl _) (.cons (.bl _) (.cons (.bl _) (.cons (.bl _) .nil))))) (.cons (.str t) .nil)), ?_, ?_⟩
  · simp [dC, PyData.canLay0, PyData.canLayAll0, ht]
  · simp [dC, PyData.depth, PyData.depthAll]
theorem eqv_caught (j : Nat) (t : Str) : PyData.eqv (dC j t) (dC j t) = true := by
  simp [dC, PyData.eqv, PyData.eqvAll]
/-- a value that is no place of a deed, with its text -/
structure BadV (K : PySem.W.Frag) (H : Hp) (D : Let) (l : List Int) (v : V) : Prop where
  no : deedV D l v = none
  kn : ∃ n, Kn K H v n
  tx : ∃ t, Tq K H v t
theorem BadV.same {K : PySem.W.Frag} {H H' : Hp} {D : Let} {l : List Int} {v : V} (s : Same H H') (h : BadV K H D l v) : BadV K H' D l v := ⟨h.no, let ⟨n, k⟩ := h.kn; ⟨n, k.same s⟩, let ⟨t, k⟩ := h.tx; ⟨t, k.same s⟩⟩
theorem atOf_nat (k : Nat) : atOf (.int (k : Int)) = some k := by
  show (if (0 : Int) ≤ (k : Int) then some (k : Int).toNat else none) = some k
  rw [if_pos (by omega), Int.toNat_natCast]
theorem badV_int {K : PySem.W.Frag} {H : Hp} {D : Let} {l : List Int} {k : Nat} (h : deed D l k = none) (hk : k < 20) : BadV K H D l (.int (k : Int)) := by
  refine ⟨?_, ⟨_, Kn.int K H _⟩, tq_small (by omega)⟩
  unfold deedV
  rw [atOf_nat]
  exact h
theorem badV_neg {K : PySem.W.Frag} {H : Hp} {D : Let} {l : List Int} : BadV K H D l (.int (-1)) := ⟨rfl, ⟨_, Kn.int K H _⟩, tq_small (by omega)⟩
theorem badV_non {K : PySem.W.Frag} {H : Hp} {D : Let} {l : List Int} : BadV K H D l .non := ⟨rfl, ⟨_, Kn.non K H⟩, tq_non⟩
theorem badV_bl {K : PySem.W.Frag} {H : Hp} {D : Let} {l : List Int} (b : Bool) : BadV K H D l (.bl b) := ⟨rfl, ⟨_, Kn.bl K H b⟩, tq_bl b⟩
theorem badV_l0 {K : PySem.W.Frag} {H : Hp} {D : Let} {l : List Int} {z : Addr} (h : H z = some (.lst [.int 0])) : BadV K H D l (.ref z) :=
  ⟨rfl, ⟨_, Kn.lst (sqL_of h)⟩, _, .dat (d := .list [.int 0]) (.lst (sqL_of h) (.cons (.int 0) .nil)) (by decide +kernel) (by decide +kernel) (by decide +kernel) (by rw [sizeLine_eq]; decide +kernel), by decide +kernel⟩
section
variable {P : Program} {w : World} {K : PySem.W.Frag} {mg : Str → Option Value} {base : Heap} {CL : Addr} {D : Dx} {C0 : Addr}
def spBadP (K : PySem.W.Frag) (CL : Addr) : Sp := fun vs H Q _ => ∃ g n t ns st a held st' r ps, ∃ l l' : List Int, ∃ is : List Nat, vs = [.ref g, .ref t, .ref a, .ref r, .ref ps] ∧ Gen g n H ∧ n ≤ 900000 ∧ Way (hid g H) t ns st ∧ Lt CL H a held st' ∧ letD held st' = letD ns st ∧
  SqL K (hid g H) r (l.map V.int) ∧ l.length ≤ 7 ∧ RowI l ∧ hid g H ps = some (.lst ((nI is).map V.int)) ∧ led (letD ns st) l is = some l' ∧ is.length ≤ 14 ∧ ∀ H', Sg g H H' → Gen g (n + 12) H' → Q (.bl true) H'
theorem cl_badplace (De : De K mg "_law_bad_place_right" (top 42)) (Bn : Bns mg) (c__law_random : Cl P w K mg base CX0 2 "_law_random" spRandom) (c__law_near : Cl P w K mg base CX0 3 "_law_near" (spNear K)) (c__law_caught : ClG P w K mg base (L2.CX P w) 7 "_law_caught" (spCaught K CL)) :
    ClG P w K mg base CX0 8 "_law_bad_place_right" (spBadP K CL) := by
  refine clG0 De sc__law_bad_place_right (fun vs H Q E ⟨g, n, t, ns, st, a, held, st', r, ps, l, l', is, e, _⟩ => by rw [e]; rfl) (fun _ _ _ _ _ _ us hl => match us, hl with | [_, _, _, _, _], _ => rfl) (fun f cdv A outer s H vs Q E hg hr h => ?_)
  obtain ⟨g, n, t, ns, st, a, held, st', r, ps, l, l', is, rfl, hG, hn, wy, lt, eD, hS, hl7, hl, hP, hled, hil, q⟩ := h
  have gd : (A.deeper (envOfC "_law_bad_place_right" (defScope (top 42)) s.heap.objs.size f cdv)).guards = some [] := hg
  have hu1 := hu_of hr
  have hu12 := hu12_of hr
  have hu64 := hu64_of hr
  refine ⟨_, (pss_cons (ps_par (i := 5) (j := 6) rfl sc__law_bad_place_right.nd rfl rfl (by decide) rfl rfl (pa_cons (pe_cl c__law_random hr (by decide) (by rfl) pass0 (pa_cons (pv 0) (pa_cons (pe_op op_add (pe_callB call_len (by rfl) Bn.len bt_len (pa_cons (pv 4) pa_nil)) pe_int) pa_nil))) (pa_cons (pe_callTy call_list_of (by rfl) Bn.list bt_list (pa_cons (pv 3) pa_nil)) pa_nil)) (by rfl))
  (pss_cons (ps_for PassesOwn.never rfl (pi_list (pe_slice sl_list (pv 4) po_none (po_some (pv 5)))) (pg_name (i := 7) sc__law_bad_place_right.nd rfl (.inl rfl))
  (pss_one (ps_set (i := 6) sc__law_bad_place_right.nd rfl (.inl rfl) (pe_dget hu1 (pe_callTy (call_dictP rfl) (by rfl) Bn.dict bt_dict (pa_cons (pe_cl c__law_near hr (by decide) (by rfl) pass0 (pa_cons (pv 1) (pa_cons (pv 6) pa_nil))) pa_nil)) (pv 7) (by intro _ _; rfl)))))
  (pss_cons (ps_set (i := 8) sc__law_bad_place_right.nd rfl (.inr rfl) (pe_callTy (call_dictP rfl) (by rfl) Bn.dict bt_dict (pa_cons (pe_cl c__law_near hr (by decide) (by rfl) pass0 (pa_cons (pv 1) (pa_cons (pv 6) pa_nil))) pa_nil)))
  (pss_cons (ps_setLc (i := 9) rfl sc__law_bad_place_right.nd rfl rfl (sw_true rfl rfl rfl (by decide +kernel)) (pi_range1 (by rfl) Bn.range (pa_cons (pe_op op_add (pe_callB call_len (by rfl) Bn.len bt_len (pa_cons (pv 3) pa_nil)) pe_int) pa_nil)) (own := [("_law_place", 7)]) (by refine blkOk_by ?_; show blkC ["_law_generator_here", "_law_way", "_law_lets_here", "_law_row", "_law_places", "_law_at", "_law_now", "_law_place", "_law_near_here", "_law_shut", "_law_bad", "_law_due"] (defScope (top 42)) _ [("_law_place", 7)] = true; decide +kernel) (fun _ _ _ _ _ => (pg_name (i := 7) sc__law_bad_place_right.nd rfl (.inl rfl))) (fun _ _ _ _ _ => (pts_one (pt_cmp (pc_dnotin hu1 (pv 7) (pv 8))))) (fun _ _ _ _ _ => (pv 7)))
  (pss_cons (ps_set (i := 10) sc__law_bad_place_right.nd rfl (.inl rfl) (pe_ix ix_list (pe_lst (pa_cons (pe_ix ix_list (pv 9) (pe_cl c__law_random hr (by decide) (by rfl) pass0 (pa_cons (pv 0) (pa_cons (pe_callB call_len (by rfl) Bn.len bt_len (pa_cons (pv 9) pa_nil)) pa_nil))) fun _ _ => rfl) (pa_cons (pe_ix ix_list (pv 9) pe_int fun _ _ => rfl) (pa_cons pe_non (pa_cons pe_bl (pa_cons (pe_un un_neg pe_int) (pa_cons (pe_lst (pa_cons pe_int pa_nil)) pa_nil))))))) (pe_cl c__law_random hr (by decide) (by rfl) pass0 (pa_cons (pv 0) (pa_cons pe_int pa_nil))) fun _ _ => rfl))
  (pss_cons (ps_set (i := 11) sc__law_bad_place_right.nd rfl (.inl rfl) (pe_lst (pa_cons (pe_lst (pa_cons pe_bl (pa_cons pe_bl (pa_cons pe_bl (pa_cons pe_bl pa_nil))))) (pa_cons (pe_callB (Gr.call_tx gd hu12) (by rfl) Bn.repr bt_repr (pa_cons (pv 10) pa_nil)) pa_nil))))
  (pss_one (ps_ret (pe_cmpR (op_eqD hu64) (pe_clG c__law_caught gd hr (by decide) (by rfl) (passes_call (E := E0) takes0 (fun _ _ _ _ h => h)) (pa_cons (pv 2) (pa_cons (pv 3) (pa_cons (pe_op op_cat (pe_op op_cat (pe_slice sl_list (pv 4) po_none (po_some (pv 5))) (pe_lst (pa_cons (pv 10) (pa_cons pe_non pa_nil)))) (pe_slice sl_list (pv 4) (po_some (pv 5)) po_none)) pa_nil)))) (pv 11) (nomark _)))))))))), ?_⟩
  have hpos := wy.posD
  have sH := hid_same g H
  have lr := led_length hled
  -- at = random(g, len(places) + 1), now = list(row)
  refine ⟨.ref g, rfl, .ref ps, rfl, _, is.length, rfl, .inl ⟨_, sqL_of (sH _ _ hP), by rw [List.length_map, nI_length]⟩, _, 1, rfl, rfl, g, n, _, rfl, hG, by omega, by omega, by
    have h7 : (2 : Nat) ^ 5 ≤ 2 ^ 100 := Nat.pow_le_pow_right (by decide) (by decide)
    omega, fun H1 z s1 hG1 z1 z2 => ?_⟩
  obtain ⟨j, rfl⟩ : ∃ j : Nat, z = (j : Int) := ⟨z.toNat, by omega⟩
  have hj : j ≤ is.length := by omega
  have h01 : Same (hid g H) (hid g H1) := hid_sg s1
  have sH1 := hid_same g H1
  refine ⟨.ref r, rfl, r, _, rfl, .inl (sH1.seq (h01.seq hS)), fun pn0 n2 => ?_⟩
  have s2 : Same H1 (upd H1 pn0 (.lst (l.map V.int))) := same_upd n2
  refine ⟨_, _, rfl, ?_⟩
  -- for place in places[:at]
  have hP2 := (h01.trans (hid_mono s2)) _ _ hP
  refine ⟨.ref ps, rfl, .int j, rfl, _, rfl, ps, _, rfl, sqL_of (hid_same g _ _ _ hP2), fun sl n3 => ?_⟩
  rw [cut_to (k := j) _ rfl]
  have s3 := s2.trans (same_upd (o := .lst (((nI is).map V.int).take j)) n3)
  refine ⟨sl, rfl, ⟨_, sqL_upd⟩, ?_⟩
  have slg : sl ≠ g := gen_ne hG1 (s2.free n3)
  have eT : ((nI is).map V.int).take j = (nI (is.take j)).map V.int := by
    unfold nI
    rw [List.map_take, List.map_take]
  refine for_list (xs := ((nI is).map V.int).take j) (fun i σ H4 => ∃ pn y7 y8 y9 y10 y11, ∃ ln : List Int, σ = [some (.ref g), some (.ref t), some (.ref a), some (.ref r), some (.ref ps), some (.int (j : Int)), some (.ref pn), y7, y8, y9, y10, y11] ∧ Same H1 H4 ∧
      hid g H4 pn = some (.lst (ln.map V.int)) ∧ hid g H4 sl = some (.lst (((nI is).map V.int).take j)) ∧ led (letD ns st) l ((is.take j).take i) = some ln)
    ⟨pn0, _, _, _, _, _, l, rfl, s3, ?_, ?_, rfl⟩ (fun i σ H4 _ ⟨_, _, _, _, _, _, _, _, _, _, h, _⟩ => sqL_of (hid_same g H4 _ _ h)) (fun i x σ H4 hx hv => ?_) (fun σ H4 hv => ?_)
  · rw [hid_at (gen_ne hG1 n2), upd_ne (ne_of_none upd_same n3)]
    exact upd_same
  · rw [hid_at slg]
    exact upd_same
  · obtain ⟨pn, y7, y8, y9, y10, y11, ln, rfl, s4, hpn, hsl, hln⟩ := hv
    rw [eT, nI_V, List.getElem?_map] at hx
    cases hi : (is.take j)[i]? with
    | none => rw [hi] at hx; cases hx
    | some k =>
      rw [hi] at hx
      obtain rfl := Option.some.inj hx
      have lln := led_length hln
      -- the deed at this place
      have ek : ∃ l2, deed (letD ns st) ln k = some l2 ∧ led (letD ns st) l ((is.take j).take (i + 1)) = some l2 := by
        have e1 : is = (is.take j).take i ++ k :: is.drop (i + 1) := by
          have hi1 : is[i]? = some k := by
            rw [List.getElem?_take] at hi
            split at hi
            · exact hi
            · cases hi
          have hij : i < j := by
            rw [List.getElem?_take] at hi
            split at hi
            · assumption
            · cases hi
          rw [List.take_take, Nat.min_eq_left (by omega)]
          obtain ⟨h1, h2⟩ := List.getElem?_eq_some_iff.mp hi1
          rw [← h2, ← List.drop_eq_getElem_cons h1, List.take_append_drop]
        rw [e1, led_append, hln] at hled
        have h1 : (deed (letD ns st) ln k).bind (fun l2 => led (letD ns st) l2 (is.drop (i + 1))) = some l' := hled
        cases hd : deed (letD ns st) ln k with
        | none => rw [hd] at h1; cases h1
        | some l2 =>
          refine ⟨l2, rfl, ?_⟩
          rw [List.take_add_one, hi]
          exact led_snoc hln hd
      obtain ⟨l2, hd, hled2⟩ := ek
      have h4 : Same (hid g H) (hid g H4) := h01.trans (hid_mono s4)
      refine ⟨.ref t, rfl, .ref pn, rfl, t, ns, st, pn, ln, rfl, (wy.same h4).same (hid_same g H4), sqL_of (hid_same g H4 _ _ hpn), by omega, fun H5 pl s5 npl hN => ?_⟩
      obtain ⟨ts, hts, hE⟩ := hN
      obtain ⟨kvs, hP5, nd⟩ := nearD_of (K := K) hE
      refine ⟨pl, ts, kvs, rfl, sqL_of hts, hP5, fun d ndd => ?_⟩
      have s6 : Same H5 (upd H5 d (.dK (mergeK [] kvs))) := same_upd ndd
      obtain ⟨ra, g1, g2, g3⟩ := nd.get k l2 hd
      have s46 := s5.trans s6
      refine ⟨.int k, rfl, d, .ref ra, rfl, g1 ▸ DGet.k (k := .inl (k : Int)) upd_same, ?_⟩
      have hG4 := hG1.same s4
      exact ⟨ra, _, _, _, _, _, l2, rfl, s4.trans s46, by rw [hid_at (gen_ne hG4 g3)]; exact s6 _ _ g2, hid_mono s46 _ _ hsl, hled2⟩
  · obtain ⟨pn, y7, y8, y9, y10, y11, ln, rfl, s4, hpn, hsl, hln⟩ := hv
    have e1 : (is.take j).take (((nI is).map V.int).take j).length = is.take j := List.take_of_length_le (by rw [List.length_take, List.length_take, List.length_map, nI_length]; omega)
    rw [e1] at hln
    have lln := led_length hln
    have h4 : Same (hid g H) (hid g H4) := h01.trans (hid_mono s4)
    have hG4 := hG1.same s4
    -- near_here = dict(near(way, now))
    refine ⟨.ref t, rfl, .ref pn, rfl, t, ns, st, pn, ln, rfl, (wy.same h4).same (hid_same g H4), sqL_of (hid_same g H4 _ _ hpn), by omega, fun H5 pl s5 npl hN => ?_⟩
    obtain ⟨ts, hts, hE⟩ := hN
    obtain ⟨kvs, hP5, nd⟩ := nearD_of (K := K) hE
    refine ⟨pl, ts, kvs, rfl, sqL_of hts, hP5, fun d ndd => ?_⟩
    have s6 : Same H5 (upd H5 d (.dK (mergeK [] kvs))) := same_upd ndd
    have s46 := s4.trans (s5.trans s6)
    have hd6 : (upd H5 d (.dK (mergeK [] kvs))) d = some (.dK (mergeK [] kvs)) := upd_same
    generalize upd H5 d (.dK (mergeK [] kvs)) = H6 at s6 s46 hd6 ⊢
    have h6 : Same (hid g H) (hid g H6) := h01.trans (hid_mono s46)
    -- shut
    refine ⟨.ref r, rfl, _, l.length, rfl, .inl ⟨_, (hid_same g H6).seq (h6.seq hS), by rw [List.length_map]⟩, _, 1, rfl, rfl, _, rfl, by omega, by omega, fun B nB => ?_⟩
    refine lc_range (fun i H7 => Same H6 H7 ∧ H7 B = some (.lst ((((List.range i).filter fun k => (deed (letD ns st) ln k).isNone).map fun k : Nat => V.int (k : Int)))))
      ⟨same_upd nB, upd_same⟩ (fun i H7 hi hv => ?_) (fun H7 hv => ?_)
    · obtain ⟨s7, hB⟩ := hv
      have hd7 := s7 _ _ hd6
      have i0 : (0 : Int) + ((i : Nat) : Int) = (i : Int) := by omega
      refine ⟨rfl, _, rfl, .ref d, rfl, d, _, rfl, DGet.k (k := .inl (0 + ((i : Nat) : Int))) hd7, _, rfl, ?_⟩
      cases hd : deed (letD ns st) ln i with
      | some l2 =>
        obtain ⟨ra, g1, _⟩ := nd.get i l2 hd
        have ev : valV (mergeK [] kvs) (.inl (0 + ((i : Nat) : Int))) = some (.ref ra) := by rw [i0]; exact g1
        refine itF (by rw [ev]; rfl) ⟨s7, ?_⟩
        rw [List.range_succ, List.filter_append, List.filter_cons, hd]
        simpa using hB
      | none =>
        have ev : valV (mergeK [] kvs) (.inl (0 + ((i : Nat) : Int))) = none := by rw [i0]; exact nd.no i hd
        refine itT (by rw [ev]; rfl) ⟨_, rfl, _, hB, ?_, same_put s7 nB, ?_⟩
        · rw [List.length_map]
          refine Nat.lt_of_le_of_lt (List.length_filter_le _ _) ?_
          rw [List.length_range, sizeLine_eq]; omega
        · rw [upd_same, List.range_succ, List.filter_append, List.filter_cons, hd, List.map_append, i0]
          rfl
    · obtain ⟨s7, hB⟩ := hv
      rw [show ((l.length : Int) + 1).toNat = l.length + 1 by omega] at hB
      have memS : ∀ k ∈ (List.range (l.length + 1)).filter fun k => (deed (letD ns st) ln k).isNone, k ≤ l.length ∧ deed (letD ns st) ln k = none := fun k hk => by
        obtain ⟨h1, h2⟩ := List.mem_filter.mp hk
        exact ⟨by have := List.mem_range.mp h1; omega, Option.isNone_iff_eq_none.mp h2⟩
      have lastS : l.length ∈ (List.range (l.length + 1)).filter fun k => (deed (letD ns st) ln k).isNone :=
        List.mem_filter.mpr ⟨List.mem_range.mpr (by omega), by rw [deed_none (by omega)]; rfl⟩
      have lenS : ((List.range (l.length + 1)).filter fun k => (deed (letD ns st) ln k).isNone).length ≤ 8 := by
        refine Nat.le_trans (List.length_filter_le _ _) ?_
        rw [List.length_range]; omega
      generalize hsh : ((List.range (l.length + 1)).filter fun k => (deed (letD ns st) ln k).isNone) = sh at hB memS lastS lenS
      have posS : 0 < sh.length := List.length_pos_of_mem lastS
      have s47 := s46.trans s7
      have hG7 := hG1.same s47
      have h7 : Same (hid g H) (hid g H7) := h01.trans (hid_mono s47)
      have Bg : B ≠ g := gen_ne (hG1.same s46) nB
      -- the six
      refine ⟨.ref B, rfl, .ref g, rfl, .ref B, rfl, _, sh.length, rfl, .inl ⟨_, sqL_of hB, by rw [List.length_map]⟩, g, n + 4, _, rfl, hG7, by omega, by omega, by
        have h8 : (2 : Nat) ^ 5 ≤ 2 ^ 100 := Nat.pow_le_pow_right (by decide) (by decide)
        omega, fun H8 z8 s8 hG8 z81 z82 => ?_⟩
      have h8 := h7.trans (hid_sg s8)
      have hB8 : H8 B = some (.lst (sh.map fun k : Nat => V.int (k : Int))) := s8 _ _ Bg hB
      have at8 : ∀ k : Nat, k < sh.length → (sh.map fun k : Nat => V.int (k : Int))[k]? = some (.int ((sh[k]?.getD 0 : Nat) : Int)) ∧ sh[k]?.getD 0 ∈ sh := fun k hk => by
        rw [List.getElem?_map, List.getElem?_eq_getElem hk]
        exact ⟨rfl, List.getElem_mem hk⟩
      obtain ⟨a1, m1⟩ := at8 z8.toNat (by omega)
      obtain ⟨a2, m2⟩ := at8 0 posS
      generalize sh[z8.toNat]?.getD 0 = k1 at a1 m1
      generalize sh[0]?.getD 0 = k2 at a2 m2
      refine ⟨B, _, z8, .int k1, rfl, rfl, sqL_of hB8, at_of (j := z8.toNat) (by omega) a1, ?_⟩
      refine ⟨.ref B, rfl, B, _, 0, .int k2, rfl, rfl, sqL_of hB8, at_of (j := 0) rfl a2, ?_⟩
      refine ⟨1, rfl, by show 1 ≤ sizeLine; decide, fun zz nzz => ?_⟩
      have s9 : Same H8 (upd H8 zz (.lst [.int 0])) := same_upd nzz
      refine ⟨by show 6 ≤ sizeLine; decide, fun six nsix => ?_⟩
      have s10 := s9.trans (same_upd (o := .lst [.int (k1 : Int), .int (k2 : Int), .non, .bl true, .int (-1), .ref zz]) nsix)
      refine ⟨.ref g, rfl, g, n + 8, 6, rfl, (hG8.same s10).mono (by omega), by omega, by omega, by
        have h8 : (2 : Nat) ^ 5 ≤ 2 ^ 100 := Nat.pow_le_pow_right (by decide) (by decide)
        omega, fun H11 z11 s11 hG11 z111 z112 => ?_⟩
      have h11 := h8.trans ((hid_mono s10).trans (hid_sg s11))
      have sixg : six ≠ g := gen_ne hG8 (s9.free nsix)
      have zzg : zz ≠ g := gen_ne hG8 nzz
      have hsix : H11 six = some (.lst [.int (k1 : Int), .int (k2 : Int), .non, .bl true, .int (-1), .ref zz]) := s11 _ _ sixg upd_same
      have hzz : H11 zz = some (.lst [.int 0]) := s11 _ _ zzg (by rw [upd_ne (ne_of_none upd_same nsix)]; exact upd_same)
      have all6 : ∀ v ∈ [V.int (k1 : Int), .int (k2 : Int), .non, .bl true, .int (-1), .ref zz], BadV K H11 (letD ns st) ln v := fun v hv => by
        simp only [List.mem_cons, List.not_mem_nil, or_false] at hv
        rcases hv with rfl | rfl | rfl | rfl | rfl | rfl
        · exact badV_int (memS _ m1).2 (by have := (memS _ m1).1; omega)
        · exact badV_int (memS _ m2).2 (by have := (memS _ m2).1; omega)
        · exact badV_non
        · exact badV_bl true
        · exact badV_neg
        · exact badV_l0 hzz
      have hz11 : z11.toNat < [V.int (k1 : Int), .int (k2 : Int), .non, .bl true, .int (-1), .ref zz].length := by show z11.toNat < 6; omega
      have a6 : [V.int (k1 : Int), .int (k2 : Int), .non, .bl true, .int (-1), .ref zz][z11.toNat]? = some [V.int (k1 : Int), .int (k2 : Int), .non, .bl true, .int (-1), .ref zz][z11.toNat] := List.getElem?_eq_getElem hz11
      have hbv := all6 _ (List.mem_of_getElem? a6)
      generalize [V.int (k1 : Int), .int (k2 : Int), .non, .bl true, .int (-1), .ref zz][z11.toNat] = v at a6 hbv
      refine ⟨six, _, z11, v, rfl, rfl, sqL_of hsix, at_of (j := z11.toNat) (by omega) a6, ?_⟩
      obtain ⟨tv, tqv⟩ := hbv.tx
      -- due
      refine ⟨by show 4 ≤ sizeLine; decide, fun q1 nq1 => ?_⟩
      have s12 : Same H11 (upd H11 q1 (.lst [.bl false, .bl false, .bl false, .bl true])) := same_upd nq1
      refine ⟨v, rfl, v, tv, rfl, (tqv.same s12).1, by show 2 ≤ sizeLine; decide, fun due ndue => ?_⟩
      have s13 := s12.trans (same_upd (o := .lst [.ref q1, .str tv]) ndue)
      have hc13 : CaughtAt (upd (upd H11 q1 (.lst [.bl false, .bl false, .bl false, .bl true])) due (.lst [.ref q1, .str tv])) due 3 tv := ⟨q1, upd_same, by rw [upd_ne (ne_of_none upd_same ndue)]; exact upd_same⟩
      generalize upd (upd H11 q1 (.lst [.bl false, .bl false, .bl false, .bl true])) due (.lst [.ref q1, .str tv]) = H13 at s13 hc13 ⊢
      have h13 := h11.trans (hid_mono s13)
      have hP13 := hid_same g _ _ _ (h13 _ _ hP)
      -- places[:at] + [bad, None] + places[at:]
      refine ⟨.ref a, rfl, .ref r, rfl, .ref ps, rfl, .int j, rfl, _, rfl, ps, _, rfl, sqL_of hP13, fun A1 nA1 => ?_⟩
      rw [cut_to (k := j) _ rfl]
      have s14 : Same H13 (upd H13 A1 (.lst (((nI is).map V.int).take j))) := same_upd nA1
      refine ⟨v, rfl, by show 2 ≤ sizeLine; decide, fun A2 nA2 => ?_⟩
      refine ⟨A1, A2, _, _, rfl, rfl, (by rw [upd_ne (ne_of_none upd_same nA2)]; exact upd_same), upd_same, ?_, fun A3 nA3 => ?_⟩
      · rw [List.length_take, List.length_map, nI_length]
        show min j is.length + 2 ≤ sizeLine
        rw [sizeLine_eq]; omega
      have s16 := s14.trans ((same_upd (o := .lst [v, .non]) nA2).trans (same_upd (o := .lst (((nI is).map V.int).take j ++ [v, .non])) nA3))
      refine ⟨.ref ps, rfl, .int j, rfl, _, rfl, ps, _, rfl, sqL_of (s16 _ _ hP13), fun A4 nA4 => ?_⟩
      rw [cut_from (k := j) _ rfl]
      refine ⟨A3, A4, _, _, rfl, rfl, (by rw [upd_ne (ne_of_none upd_same nA4)]; exact upd_same), upd_same, ?_, fun A5 nA5 => ?_⟩
      · rw [List.length_append, List.length_take, List.length_drop, List.length_map, nI_length]
        show min j is.length + 2 + (is.length - j) ≤ sizeLine
        rw [sizeLine_eq]; omega
      have s18 := s16.trans ((same_upd (o := .lst (((nI is).map V.int).drop j)) nA4).trans (same_upd (o := .lst (((nI is).map V.int).take j ++ [v, .non] ++ ((nI is).map V.int).drop j)) nA5))
      have sgAll : Sg g H H13 := sg_hid h13
      have s11_18 := s13.trans s18
      obtain ⟨nv, knv⟩ := hbv.kn
      refine ⟨.ref a, .ref r, .ref A5, 3, v, tv, rfl, by decide, .inr ⟨a, held, st', rfl, (lt.sg sgAll hG).same s18, .inr ⟨r, l, rfl, s18.seq ((hid_same g H13).seq (h13.seq hS)), hl, .inr ⟨rfl, A5, _, rfl, sqL_upd, fun x hx => ?_, ?_⟩⟩⟩, (tqv.same s11_18).1, fun H19 p s19 hc19 => ?_⟩
      · rcases List.mem_append.mp hx with hx | hx
        · rcases List.mem_append.mp hx with hx | hx
          · obtain ⟨i, _, rfl⟩ := List.mem_map.mp (List.mem_of_mem_take hx)
            exact ⟨_, Kn.int K _ i⟩
          · simp only [List.mem_cons, List.not_mem_nil, or_false] at hx
            rcases hx with rfl | rfl
            · exact ⟨nv, knv.same s11_18⟩
            · exact ⟨_, Kn.non K _⟩
        · obtain ⟨i, _, rfl⟩ := List.mem_map.mp (List.mem_of_mem_drop hx)
          exact ⟨_, Kn.int K _ i⟩
      · rw [eD, eT, nI_V, List.append_assoc]
        exact ledV_app hln hbv.no
      · refine ⟨.ref due, rfl, ?_⟩
        have s1319 := s18.trans s19
        refine eq_of (dq_caught hc19 tqv.2) ((dq_caught hc13 tqv.2).same s1319) ?_
        rw [eqv_caught]
        exact q H19 (same_sg sgAll s1319) ((hG11.same (s13.trans s1319)).mono (by omega))
end
end Gs


/-! _law_row_right: the walks of one row. -/
namespace Gs
open PySem PySem.Spec PyProof.Rows L2
theorem sc__law_row_right : FnScope ["_law_generator_here", "_law_way", "_law_lets_here", "_law_row", "_law_walks", "_law_places", "_law_now", "_law_numbers", "_law_given", "_law_kept", "_law_told", "_law_same", "_law_turn", "_law_number", "_law_pair_here"] ["_law_generator_here", "_law_way", "_law_lets_here", "_law_row"] (defScope (top 41)) := ⟨rfl, rfl, rfl, by decide +kernel, rfl, by decide +kernel, by decide +kernel⟩
theorem pairOf_nonneg {D : Let} (hD : pos D) {a b x y : Int} (ha : 0 ≤ a) (hb : 0 ≤ b) (h : pairOf D a b = some (x, y)) : 0 ≤ x ∧ 0 ≤ y := by
  unfold pairOf at h
  by_cases c : D (b - a - 1) = true
  · rw [if_pos c] at h
    have := hD _ c
    have e := Option.some.inj h
    obtain ⟨e1, e2⟩ := Prod.mk.inj e
    omega
  · rw [if_neg c] at h
    by_cases c2 : D (a - b) = true
    · rw [if_pos c2] at h
      have e := Option.some.inj h
      obtain ⟨e1, e2⟩ := Prod.mk.inj e
      omega
    · rw [if_neg c2] at h; cases h
theorem deed_nonneg {D : Let} (hD : pos D) : ∀ {l : List Int} {i : Nat} {l' : List Int}, deed D l i = some l' → (∀ x ∈ l, 0 ≤ x) → ∀ x ∈ l', 0 ≤ x
  | [], i, l', h, _ => by simp [deed] at h
  | [a], i, l', h, _ => by cases i <;> simp [deed] at h
  | a :: b :: r, 0, l', h, hx => by
    obtain ⟨p, hp, e⟩ := Option.map_eq_some_iff.mp (show (pairOf D a b).map (fun p => p.1 :: p.2 :: r) = some l' from h)
    obtain ⟨x, y⟩ := p
    have := pairOf_nonneg hD (hx a (by simp)) (hx b (by simp)) hp
    rw [← e]
    intro z hz
    rcases List.mem_cons.mp hz with rfl | hz
    · exact this.1
    · rcases List.mem_cons.mp hz with rfl | hz
      · exact this.2
      · exact hx z (by simp [hz])
  | a :: b :: r, i + 1, l', h, hx => by
    obtain ⟨p, hp, e⟩ := Option.map_eq_some_iff.mp (show (deed D (b :: r) i).map (a :: ·) = some l' from h)
    rw [← e]
    intro z hz
    rcases List.mem_cons.mp hz with rfl | hz
    · exact hx _ (by simp)
    · exact deed_nonneg hD hp (fun x hx' => hx x (List.mem_cons_of_mem _ hx')) z hz
theorem led_nonneg {D : Let} (hD : pos D) : ∀ {is : List Nat} {l l' : List Int}, led D l is = some l' → (∀ x ∈ l, 0 ≤ x) → ∀ x ∈ l', 0 ≤ x
  | [], l, l', h, hx => by
    have e : l = l' := Option.some.inj h
    rw [← e]; exact hx
  | k :: is, l, l', h, hx => by
    have h1 : (deed D l k).bind (fun l' => led D l' is) = some l' := h
    cases hd : deed D l k with
    | none => rw [hd] at h1; cases h1
    | some l1 =>
      rw [hd] at h1
      exact led_nonneg hD h1 (deed_nonneg hD hd hx)
theorem RowI.led {D : Let} (hD : pos D) {is : List Nat} {l l' : List Int} (h : RowI l) (e : led D l is = some l') : RowI l' := ⟨by rw [led_length e]; exact h.1, led_nonneg hD e h.2⟩
section
variable {P : Program} {w : World} {K : PySem.W.Frag} {mg : Str → Option Value} {base : Heap} {CL : Addr} {D : Dx} {C0 : Addr}
def spRow (K : PySem.W.Frag) (CL : Addr) : Sp := fun vs H Q _ => ∃ g n t ns st a held st' r, ∃ l : List Int, vs = [.ref g, .ref t, .ref a, .ref r] ∧ Gen g n H ∧ n ≤ 800000 ∧ Way (hid g H) t ns st ∧ Lt CL H a held st' ∧ letD held st' = letD ns st ∧
  SqL K (hid g H) r (l.map V.int) ∧ l.length ≤ 7 ∧ RowI l ∧ ∀ H', Sg g H H' → Gen g (n + 300) H' → Q (.bl true) H'
theorem cl_rowright (De : De K mg "_law_row_right" (top 41)) (Bn : Bns mg) (c__law_random : Cl P w K mg base CX0 2 "_law_random" spRandom) (c__law_walk : Cl P w K mg base CX0 4 "_law_walk" (spWalk K)) (c_followed : Cl P w K mg base (L2.CX P w) 6 "followed" (spFol K CL D))
    (k_followed : ClK P w K mg base (L2.CX P w) 6 "followed" ["places", "row", "lets"] gFol (spFol K CL D)) (c_led : Cl P w K mg base (L2.CX P w) 6 "led" (spLed K CL D))
    (c__law_bad_place_right : ClG P w K mg base CX0 8 "_law_bad_place_right" (spBadP K CL)) (c__law_changed_right : Cl P w K mg base CX0 7 "_law_changed_right" (spChg K CL)) :
    ClG P w K mg base CX0 9 "_law_row_right" (spRow K CL) := by
  refine clG0 De sc__law_row_right (fun vs H Q E ⟨g, n, t, ns, st, a, held, st', r, l, e, _⟩ => by rw [e]; rfl) (fun _ _ _ _ _ _ us hl => match us, hl with | [_, _, _, _], _ => rfl) (fun f cdv A outer s H vs Q E hg hr h => ?_)
  obtain ⟨g, n, t, ns, st, a, held, st', r, l, rfl, hG, hn, wy, lt, eD, hS, hl7, hl, q⟩ := h
  have gd : (A.deeper (envOfC "_law_row_right" (defScope (top 41)) s.heap.objs.size f cdv)).guards = some [] := hg
  have hu64 := hu64_of hr
  refine ⟨_, (pss_cons (ps_set (i := 4) sc__law_row_right.nd rfl (.inr rfl) (pe_lc rfl sc__law_row_right.nd (pi_range1 (by rfl) Bn.range (pa_cons pe_int pa_nil)) (own := [("_law_turn", 12)]) (by refine blkOk_by ?_; show blkC ["_law_generator_here", "_law_way", "_law_lets_here", "_law_row", "_law_walks", "_law_places", "_law_now", "_law_numbers", "_law_given", "_law_kept", "_law_told", "_law_same", "_law_turn", "_law_number", "_law_pair_here"] (defScope (top 41)) _ [("_law_turn", 12)] = true; decide +kernel) (fun _ _ _ _ _ => (pg_name (i := 12) sc__law_row_right.nd rfl (.inl rfl))) (fun _ _ _ _ _ => pts_nil) (fun _ _ _ _ _ => (pe_cl c__law_walk hr (by decide) (by rfl) pass0 (pa_cons (pv 0) (pa_cons (pv 1) (pa_cons (pv 3) (pa_cons (pe_cl c__law_random hr (by decide) (by rfl) pass0 (pa_cons (pv 0) (pa_cons pe_int pa_nil))) pa_nil))))))))
  (pss_cons (ps_for PassesOwn.never rfl (pi_list (pv 4)) (pg_tup rfl (pgs_cons (pg_name (i := 5) sc__law_row_right.nd rfl (.inl rfl)) (pgs_cons (pg_name (i := 6) sc__law_row_right.nd rfl (.inl rfl)) (pgs_cons (pg_name (i := 7) sc__law_row_right.nd rfl (.inr rfl)) pgs_nil))))
  (pss_cons (ps_par (i := 8) (j := 9) rfl sc__law_row_right.nd rfl rfl (by decide) rfl rfl (pa_cons (pe_callTy call_list_of (by rfl) Bn.list bt_list (pa_cons (pv 5) pa_nil)) (pa_cons (pe_callTy call_list_of (by rfl) Bn.list bt_list (pa_cons (pv 3) pa_nil)) pa_nil)) (by rfl))
  (pss_cons (ps_set (i := 10) sc__law_row_right.nd rfl (.inl rfl) (pe_cl c_followed hr (by decide) (by rfl) (passes_call (E := E0) takes0 (fun _ _ _ _ h => h)) (pa_cons (pv 2) (pa_cons (pv 9) (pa_cons (pv 8) pa_nil)))))
  (pss_cons (ps_if (PW.pt (pw_or (pt_cmpR (op_neD hu64) (pv 10) (pv 7) (nomark _)) (pw_or (pt_cmpR (op_neD hu64) (pv 8) (pv 5) (nomark _)) (pw_or (pt_cmpR (op_neD hu64) (pv 9) (pv 3) (nomark _)) (pw_or1 (pt_cmpR (op_neD hu64) (pe_clK k_followed hr (by decide) (by rfl) (passes_call (E := E0) takes0 (fun _ _ _ _ h => h)) (pk_cons (pv 8) (pk_cons (pv 3) (pk_cons (pv 2) pk_nil)))) (pv 7) (nomark _)))))))
  (pss_one (ps_ret pe_bl))
  pss_nil)
  (pss_cons (ps_if (PW.pt (pw_or (pt_cmpR (op_neD hu64) (pe_cl c_followed hr (by decide) (by rfl) (passes_call (E := E0) takes0 (fun _ _ _ _ h => h)) (pa_cons (pv 2) (pa_cons (pv 3) (pa_cons (pe_op op_cat (pv 5) (pe_revL (pv 5))) pa_nil)))) (pe_listRg rfl (by rfl) Bn.list (prg_1 (by rfl) Bn.range (pe_callB call_len (by rfl) Bn.len bt_len (pa_cons (pv 3) pa_nil)))) (nomark _)) (pw_or1 (pt_cmpR (op_neD hu64) (pe_cl c_led hr (by decide) (by rfl) (passes_call (E := E0) takes0 (fun _ _ _ _ h => h)) (pa_cons (pv 2) (pa_cons (pv 3) (pa_cons (pv 5) pa_nil)))) (pv 6) (nomark _)))))
  (pss_one (ps_ret pe_bl))
  pss_nil)
  (pss_cons (ps_expr (pe_bm PySem.F.plainAttrs_list PySem.F.slot_list_append PySem.F.type_list_append mt_append (pv 10) (pa_cons pe_non pa_nil)))
  (pss_cons (ps_if (pt_cmpR (op_neD hu64) (pe_cl c_followed hr (by decide) (by rfl) (passes_call (E := E0) takes0 (fun _ _ _ _ h => h)) (pa_cons (pv 2) (pa_cons (pv 3) (pa_cons (pv 5) pa_nil)))) (pv 7) (nomark _))
  (pss_one (ps_ret pe_bl))
  pss_nil)
  (pss_cons (ps_asg (pe_tup (pa_cons (pv 6) (pa_cons (pe_revL (pv 5)) pa_nil))) (pg_tup rfl (pgs_cons (Gr.pg_all (pv 9)) (pgs_cons (Gr.pg_all (pv 8)) pgs_nil))))
  (pss_one (ps_if (pt_cmpR (op_neD hu64) (pe_cl c_followed hr (by decide) (by rfl) (passes_call (E := E0) takes0 (fun _ _ _ _ h => h)) (pa_cons (pv 2) (pa_cons (pv 9) (pa_cons (pv 8) pa_nil)))) (pe_lc rfl sc__law_row_right.nd (pi_range1 (by rfl) Bn.range (pa_cons (pe_callB call_len (by rfl) Bn.len bt_len (pa_cons (pv 3) pa_nil)) pa_nil)) (own := [("_law_number", 13)]) (by refine blkOk_by ?_; show blkC ["_law_generator_here", "_law_way", "_law_lets_here", "_law_row", "_law_walks", "_law_places", "_law_now", "_law_numbers", "_law_given", "_law_kept", "_law_told", "_law_same", "_law_turn", "_law_number", "_law_pair_here"] (defScope (top 41)) _ [("_law_number", 13)] = true; decide +kernel) (fun _ _ _ _ _ => (pg_name (i := 13) sc__law_row_right.nd rfl (.inl rfl))) (fun _ _ _ _ _ => pts_nil) (fun _ _ _ _ _ => (show PE _ _ (tBM K "list" (rIndex K) (tVar 7) (tCons (tVar 13) tNil)) from pe_bm PySem.F.plainAttrs_list PySem.F.slot_list_index PySem.F.type_list_index mt_index (pv 7) (pa_cons (pv 13) pa_nil)))) (nomark _))
  (pss_one (ps_ret pe_bl))
  pss_nil))))))))))
  (pss_cons (ps_if (PW.pt (pw_or (pt_not (pt_val (pe_clG c__law_bad_place_right gd hr (by decide) (by rfl) pass0 (pa_cons (pv 0) (pa_cons (pv 1) (pa_cons (pv 2) (pa_cons (pv 3) (pa_cons (pe_ix ix_tup (pe_ix ix_list (pv 4) pe_int fun _ _ => rfl) pe_int fun _ _ => rfl) pa_nil)))))))) (pw_or1 (pt_not (pt_val (pe_cl c__law_changed_right hr (by decide) (by rfl) pass0 (pa_cons (pv 2) (pa_cons (pv 3) (pa_cons (pe_ix ix_tup (pe_ix ix_list (pv 4) pe_int fun _ _ => rfl) pe_int fun _ _ => rfl) pa_nil)))))))))
  (pss_one (ps_ret pe_bl))
  pss_nil)
  (pss_cons (ps_setLc (i := 11) rfl sc__law_row_right.nd rfl rfl (sw_true rfl rfl rfl (by decide +kernel)) (pi_list (pv 4)) (own := [("_law_pair_here", 14)]) (by refine blkOk_by ?_; show blkC ["_law_generator_here", "_law_way", "_law_lets_here", "_law_row", "_law_walks", "_law_places", "_law_now", "_law_numbers", "_law_given", "_law_kept", "_law_told", "_law_same", "_law_turn", "_law_number", "_law_pair_here"] (defScope (top 41)) _ [("_law_pair_here", 14)] = true; decide +kernel) (fun _ _ _ _ _ => (pg_name (i := 14) sc__law_row_right.nd rfl (.inl rfl))) (fun _ _ _ _ _ => (pts_one (pt_cmpR (show OpR _ (compareOp .Eq) (rEqD K) from op_eqD hu64) (pe_ix (show IxR _ (rIxT K) from ix_tup) (pv 14) pe_int fun _ _ => rfl) (pe_ix (show IxR _ (rIxT K) from ix_tup) (pe_ix (show IxR _ (rIxL K) from ix_list) (pv 4) pe_int fun _ _ => rfl) pe_int fun _ _ => rfl) (nomark _)))) (fun _ _ _ _ _ => (pe_ix (show IxR _ (rIxT K) from ix_tup) (pv 14) pe_int fun _ _ => rfl)))
  (pss_one (ps_ret (pe_and (pe_cmpR (op_eqD hu64) (pe_lc rfl sc__law_row_right.nd (pi_list (pv 11)) (own := [("_law_numbers", 7)]) (by refine blkOk_by ?_; show blkC ["_law_generator_here", "_law_way", "_law_lets_here", "_law_row", "_law_walks", "_law_places", "_law_now", "_law_numbers", "_law_given", "_law_kept", "_law_told", "_law_same", "_law_turn", "_law_number", "_law_pair_here"] (defScope (top 41)) _ [("_law_numbers", 7)] = true; decide +kernel) (fun _ _ _ _ _ => (pg_name (i := 7) sc__law_row_right.nd rfl (.inl rfl))) (fun _ _ _ _ _ => (pts_one (pt_cmpR (show OpR _ (compareOp .NotEq) (rNeD K) from op_neD hu64) (pv 7) (pe_ix (show IxR _ (rIxT K) from ix_tup) (pe_ix (show IxR _ (rIxL K) from ix_list) (pv 4) pe_int fun _ _ => rfl) pe_int fun _ _ => rfl) (nomark _)))) (fun _ _ _ _ _ => (pv 7))) (pe_lst pa_nil) (nomark _)) (pe_one (pe_cmpR (op_eqD hu64) (pe_cl c_followed hr (by decide) (by rfl) (passes_call (E := E0) takes0 (fun _ _ _ _ h => h)) (pa_cons (pv 2) (pa_cons (pv 3) (pa_cons (pe_lst pa_nil) pa_nil)))) (pe_listRg rfl (by rfl) Bn.list (prg_1 (by rfl) Bn.range (pe_callB call_len (by rfl) Bn.len bt_len (pa_cons (pv 3) pa_nil)))) (nomark _)))))))))), ?_⟩
  have hpos := wy.posD
  have hll := hl.1
  have two100 : (2 : Nat) ^ 5 ≤ 2 ^ 100 := Nat.pow_le_pow_right (by decide) (by decide)
  -- the four walks
  refine ⟨4, rfl, by decide, by decide, fun W nW => ?_⟩
  have Wg : W ≠ g := gen_ne hG nW
  refine lc_range (fun i H1 => ∃ ws : List V, Sg g H H1 ∧ Gen g (n + 60 * i) H1 ∧ H1 W = some (.lst ws) ∧ ws.length = i ∧ ∀ v ∈ ws, WalkAt (mk g W H1) (letD ns st) l v)
    ⟨[], sg_put (Sg.refl g H) nW, (hG.same (same_upd nW)).mono (by omega), upd_same, rfl, fun v hv => by cases hv⟩ (fun i H1 hi hv => ?_) (fun H1 hv => ?_)
  · obtain ⟨ws, sg, hG1, hW, hwl, hws⟩ := hv
    have hi4 : i < 4 := hi
    refine ⟨rfl, ?_⟩
    refine ⟨.ref g, rfl, .ref t, rfl, .ref r, rfl, .ref g, rfl, g, n + 60 * i, 15, rfl, hG1, by omega, by omega, by omega, fun H2 z s2 hG2 z1 z2 => ?_⟩
    obtain ⟨k, rfl⟩ : ∃ k : Nat, z = (k : Int) := ⟨z.toNat, by omega⟩
    have h02 : Same (hid g H) (hid g H2) := hid_sg (sg.trans s2)
    refine ⟨g, n + 60 * i + 4, t, ns, st, r, l, k, rfl, by omega, hG2, by omega, wy.same h02, h02.seq hS, hl7, fun H3 v s3 hG3 hw => ?_⟩
    have hW2 := s2 _ _ Wg hW
    have hW3 := s3 _ _ Wg hW2
    have s13 := s2.trans s3
    refine ⟨ws, hW3, by rw [hwl, sizeLine_eq]; omega, ws ++ [v], sg_put (sg.trans s13) nW, ?_, upd_same, by rw [List.length_append, hwl]; rfl, fun u hu => ?_⟩
    · obtain ⟨a0, sd, c, hg0, h⟩ := hG3
      exact ⟨a0, sd, c, by rw [upd_ne (Ne.symm Wg)]; exact hg0, h.1, h.2.1, h.2.2.1, by have := h.2.2.2; omega⟩
    · rw [mk_updp]
      rcases List.mem_append.mp hu with hu | hu
      · refine (hws u hu).same fun b o e => ?_
        have h1 := mk_same g W H1 _ _ e
        have hb : b ≠ g ∧ b ≠ W := by
          constructor
          · intro z
            rw [show mk g W H1 b = none from if_pos (.inl z)] at e; cases e
          · intro z
            rw [show mk g W H1 b = none from if_pos (.inr z)] at e; cases e
        rw [mk_at hb.1 hb.2]
        exact s13 _ _ hb.1 h1
      · rw [List.mem_singleton.mp hu]
        refine hw.same fun b o e => ?_
        obtain ⟨e1, e2⟩ := nw_of e
        have hbW : b ≠ W := fun z => by rw [z, hW2] at e1; cases e1
        rw [mk_at (gen_ne hG2 e1) hbW]
        exact e2
  · obtain ⟨ws, sg, hG1, hW, hwl, hws0⟩ := hv
    have hwl4 : ws.length = 4 := hwl
    have hG1' : Gen g (n + 240) H1 := hG1
    have hws : ∀ v ∈ ws, WalkAt (hid g H1) (letD ns st) l v := fun v hv => (hws0 v hv).same fun b o e => by
      have h1 := mk_same g W H1 _ _ e
      have hb : b ≠ g := fun z => by rw [show mk g W H1 b = none from if_pos (.inl z)] at e; cases e
      rw [hid_at hb]
      exact h1
    have hWh : hid g H1 W = some (.lst ws) := by rw [hid_at Wg]; exact hW
    have h01 : Same (hid g H) (hid g H1) := hid_sg sg
    have lt1 := lt.sg sg hG
    have hS1 := h01.seq hS
    -- each walk
    refine ⟨.ref W, rfl, W, rfl, ⟨ws, sqL_of hW⟩, ?_⟩
    refine for_list (xs := ws) (fun i σ H3 => ∃ y5 y6 y7 y8 y9 y10 y11 y12 y13 y14, σ = [some (.ref g), some (.ref t), some (.ref a), some (.ref r), some (.ref W), y5, y6, y7, y8, y9, y10, y11, y12, y13, y14] ∧ Same H1 H3)
      ⟨_, _, _, _, _, _, _, _, _, _, rfl, Same.refl H1⟩ (fun i σ H3 _ ⟨_, _, _, _, _, _, _, _, _, _, _, s⟩ => sqL_of (s _ _ hW)) (fun i x σ H3 hx hv => ?_) (fun σ H3 hv => ?_)
    · obtain ⟨y5, y6, y7, y8, y9, y10, y11, y12, y13, y14, rfl, s3⟩ := hv
      obtain ⟨T, pp, pn, pm, is, l', rfl, hT, hpp, hpn, hpm, hled, hil⟩ := hws x (List.mem_of_getElem? hx)
      have hs1 := hid_same g H1
      replace hT := s3 _ _ (hs1 _ _ hT)
      replace hpp := s3 _ _ (hs1 _ _ hpp)
      replace hpn := s3 _ _ (hs1 _ _ hpn)
      replace hpm := s3 _ _ (hs1 _ _ hpm)
      have hS3 : SqL K H3 r (l.map V.int) := s3.seq (hs1.seq hS1)
      have lt3 := lt1.same s3
      have hledE : led (letD held st') l is = some l' := by rw [eD]; exact hled
      have ll' := led_length hled
      have hnum : (nI (swaps (ids l.length) is)).length = l.length := by rw [nI_length, swaps_length, ids_length]
      refine ⟨T, _, rfl, sqT_of hT, rfl, .ref pp, _, rfl, .ref pn, _, rfl, .ref pm, [], rfl, rfl, ?_⟩
      -- given, kept
      refine ⟨.ref pp, rfl, pp, _, rfl, .inl (sqL_of hpp), fun G nG => ?_⟩
      have s4 : Same H3 (upd H3 G (.lst ((nI is).map V.int))) := same_upd nG
      refine ⟨.ref r, rfl, r, _, rfl, .inl (s4.seq hS3), fun Kp nKp => ?_⟩
      have s5 := s4.trans (same_upd (o := .lst (l.map V.int)) nKp)
      have hG5 : (upd (upd H3 G (.lst ((nI is).map V.int))) Kp (.lst (l.map V.int))) G = some (.lst ((nI is).map V.int)) := by rw [upd_ne (ne_of_none upd_same nKp)]; exact upd_same
      have hK5 : (upd (upd H3 G (.lst ((nI is).map V.int))) Kp (.lst (l.map V.int))) Kp = some (.lst (l.map V.int)) := upd_same
      have nKp3 := s4.free nKp
      have GK : G ≠ Kp := ne_of_none upd_same nKp
      refine ⟨_, _, rfl, ?_⟩
      generalize upd (upd H3 G (.lst ((nI is).map V.int))) Kp (.lst (l.map V.int)) = H5 at s5 hG5 hK5 ⊢
      -- told
      refine ⟨.ref a, rfl, .ref Kp, rfl, .ref G, rfl, _, _, _, rfl, asked_ok (l := l) (l' := l') (is := is) (lt3.same s5) (sqL_of hK5) hl (sqL_of hG5) hledE fun js ej H6 told s6 ntold htold => ?_⟩
      cases is_inj ej
      have s36 := s5.trans s6
      -- the first four tests
      refine ⟨.ref told, rfl, .ref pm, rfl, ne_of' (dq_ints (sqL_of htold)) (dq_ints (sqL_of (s36 _ _ hpm))) ⟨_, rfl, itF (by rw [eqv_ints]; simp) ?_⟩⟩
      refine ⟨.ref G, rfl, .ref pp, rfl, ne_of' (dq_ints (sqL_of (s6 _ _ hG5))) (dq_ints (sqL_of (s36 _ _ hpp))) ⟨_, rfl, itF (by rw [eqv_ints]; simp) ?_⟩⟩
      refine ⟨.ref Kp, rfl, .ref r, rfl, ne_of' (dq_ints (sqL_of (s6 _ _ hK5))) (dq_ints (s36.seq hS3)) ⟨_, rfl, itF (by rw [eqv_ints]; simp) ?_⟩⟩
      refine ⟨.ref G, rfl, .ref r, rfl, .ref a, rfl, _, _, _, rfl, asked_ok (l := l) (l' := l') (is := is) (lt3.same s36) (s36.seq hS3) hl (sqL_of (s6 _ _ hG5)) hledE fun js ej2 H7 p7 s7 np7 hp7 => ?_⟩
      cases is_inj ej2
      have s37 := s36.trans s7
      refine ⟨.ref pm, rfl, ne_of' (dq_ints (sqL_of hp7)) (dq_ints (sqL_of (s37 _ _ hpm))) ⟨_, rfl, itF (by rw [eqv_ints]; simp) ?_⟩⟩
      -- there and back
      have fIds : ∀ {H' : Hp}, (∃ p, H' p = some (.lst ((nI (swaps (ids l.length) (is ++ is.reverse))).map V.int))) → swaps (ids l.length) (is ++ is.reverse) = ids l.length := fun _ => by rw [swaps_append, swaps_rev]
      refine ⟨.ref a, rfl, .ref r, rfl, .ref pp, rfl, .ref pp, rfl, pp, _, rfl, sqL_of (s37 _ _ hpp), fun A1 nA1 => ?_⟩
      have s38 := s37.trans (same_upd (o := .lst ((nI is).map V.int).reverse) nA1)
      refine ⟨pp, A1, _, _, rfl, rfl, s38 _ _ hpp, upd_same, by rw [List.length_reverse, List.length_map, nI_length, sizeLine_eq]; omega, fun A2 nA2 => ?_⟩
      have s39 := s38.trans (same_upd (o := .lst ((nI is).map V.int ++ ((nI is).map V.int).reverse)) nA2)
      have eA2 : (nI is).map V.int ++ ((nI is).map V.int).reverse = (nI (is ++ is.reverse)).map V.int := by
        unfold nI
        rw [List.map_append, List.map_append, List.map_reverse, List.map_reverse]
      refine ⟨_, _, _, rfl, asked_ok (l := l) (l' := l) (is := is ++ is.reverse) (lt3.same s39) (s39.seq hS3) hl (sqL_of (by rw [upd_same, eA2])) (by rw [eD]; exact led_there hpos hled) fun js ej3 H10 p10 s10 np10 hp10 => ?_⟩
      cases is_inj ej3
      rw [swaps_append, swaps_rev] at hp10
      have s310 := s39.trans s10
      refine ⟨.ref r, rfl, _, l.length, rfl, .inl ⟨_, s310.seq hS3, by rw [List.length_map]⟩, _, rfl, RgOk.of_le (by omega) (by omega) (by omega) (by omega), fun p11 np11 => ?_⟩
      rw [nI_ids]
      have s11 : Same H10 (upd H10 p11 (.lst ((nI (ids l.length)).map V.int))) := same_upd np11
      refine ne_of' (dq_ints (sqL_of (s11 _ _ hp10))) (dq_ints sqL_upd) ⟨_, rfl, itF (by rw [eqv_ints]; simp) ?_⟩
      have s311 := s310.trans s11
      refine ⟨.ref a, rfl, .ref r, rfl, .ref pp, rfl, _, _, _, rfl, asked_ok (l := l) (l' := l') (is := is) (lt3.same s311) (s311.seq hS3) hl (sqL_of (s311 _ _ hpp)) hledE fun H12 p12 s12 hp12 => ?_⟩
      have s312 := s311.trans s12
      refine ⟨.ref pn, rfl, ne_of' (dq_ints (sqL_of hp12)) (dq_ints (sqL_of (s312 _ _ hpn))) ⟨_, rfl, itF (by rw [eqv_ints]; simp) ?_⟩⟩
      -- told.append(None)
      have s6_12 : Same H6 H12 := s7.trans ((same_upd (o := .lst ((nI is).map V.int).reverse) nA1).trans ((same_upd (o := .lst ((nI is).map V.int ++ ((nI is).map V.int).reverse)) nA2).trans (s10.trans (s11.trans s12))))
      have s5_12 : Same H5 H12 := s6.trans s6_12
      have ht12 := s6_12 _ _ htold
      have ntold3 := s5.free ntold
      refine ⟨.ref told, rfl, .inl ⟨rfl, _, sqL_of ht12⟩, told, _, .non, rfl, rfl, ht12, by rw [List.length_map, hnum, sizeLine_eq]; omega, ?_⟩
      have s5_13 : Same H5 (upd H12 told (.lst ((nI (swaps (ids l.length) is)).map V.int ++ [.non]))) := same_put s5_12 ntold
      have s313 : Same H3 (upd H12 told (.lst ((nI (swaps (ids l.length) is)).map V.int ++ [.non]))) := same_put s312 ntold3
      generalize upd H12 told (.lst ((nI (swaps (ids l.length) is)).map V.int ++ [.non])) = H13 at s5_13 s313 ⊢
      -- asked again
      refine ⟨.ref a, rfl, .ref r, rfl, .ref pp, rfl, _, _, _, rfl, asked_ok (l := l) (l' := l') (is := is) (lt3.same s313) (s313.seq hS3) hl (sqL_of (s313 _ _ hpp)) hledE fun js ej4 H14 p14 s14 np14 hp14 => ?_⟩
      cases is_inj ej4
      have s314 := s313.trans s14
      have s5_14 := s5_13.trans s14
      refine ⟨.ref pm, rfl, ne_of' (dq_ints (sqL_of hp14)) (dq_ints (sqL_of (s314 _ _ hpm))) ⟨_, rfl, itF (by rw [eqv_ints]; simp) ?_⟩⟩
      -- kept[:], given[:] = (now, places[::-1])
      refine ⟨.ref pn, rfl, .ref pp, rfl, pp, _, rfl, sqL_of (s314 _ _ hpp), fun B nB => ?_⟩
      have s15 : Same H14 (upd H14 B (.lst ((nI is).map V.int).reverse)) := same_upd nB
      refine ⟨by show 2 ≤ sizeLine; decide, fun T2 nT2 => ?_⟩
      have s16 := s15.trans (same_upd (o := .tup [.ref pn, .ref B]) nT2)
      have hB16 : (upd (upd H14 B (.lst ((nI is).map V.int).reverse)) T2 (.tup [.ref pn, .ref B])) B = some (.lst ((nI is).map V.int).reverse) := by rw [upd_ne (ne_of_none upd_same nT2)]; exact upd_same
      have hT16 : (upd (upd H14 B (.lst ((nI is).map V.int).reverse)) T2 (.tup [.ref pn, .ref B])) T2 = some (.tup [.ref pn, .ref B]) := upd_same
      have GB : G ≠ B := ne_of_none (s5_14 _ _ hG5) nB
      have KB : Kp ≠ B := ne_of_none (s5_14 _ _ hK5) nB
      generalize upd (upd H14 B (.lst ((nI is).map V.int).reverse)) T2 (.tup [.ref pn, .ref B]) = H16 at s16 hB16 hT16 ⊢
      have s316 := s314.trans s16
      have s5_16 := s5_14.trans s16
      have Kpn : Kp ≠ pn := fun e => by rw [e, hpn] at nKp3; cases nKp3
      refine ⟨T2, _, rfl, sqT_of hT16, rfl, .ref pn, _, rfl, .ref Kp, rfl, Kp, pn, _, _, rfl, rfl, s5_16 _ _ hK5, s316 _ _ hpn, Kpn, by rw [List.length_map, List.length_map, sizeLine_eq]; omega, ?_⟩
      refine ⟨.ref B, [], rfl, .ref G, rfl, G, B, _, _, rfl, rfl, (by rw [upd_ne GK]; exact s5_16 _ _ hG5), (by rw [upd_ne (Ne.symm KB)]; exact hB16), GB, by rw [List.length_map, List.length_reverse, List.length_map, nI_length, sizeLine_eq]; omega, rfl, ?_⟩
      have s317 : Same H3 (upd (upd H16 Kp (.lst (l'.map V.int))) G (.lst ((nI is).map V.int).reverse)) := same_put (same_put s316 nKp3) nG
      have hK17 : (upd (upd H16 Kp (.lst (l'.map V.int))) G (.lst ((nI is).map V.int).reverse)) Kp = some (.lst (l'.map V.int)) := by rw [upd_ne (Ne.symm GK)]; exact upd_same
      have hG17 : (upd (upd H16 Kp (.lst (l'.map V.int))) G (.lst ((nI is).map V.int).reverse)) G = some (.lst ((nI is.reverse).map V.int)) := by
        rw [upd_same]
        unfold nI
        rw [List.map_reverse, List.map_reverse]
      generalize upd (upd H16 Kp (.lst (l'.map V.int))) G (.lst ((nI is).map V.int).reverse) = H17 at s317 hK17 hG17 ⊢
      -- followed(lets, kept, given) != [numbers.index(number) ..]
      refine ⟨.ref a, rfl, .ref Kp, rfl, .ref G, rfl, _, _, _, rfl, asked_ok (l := l') (l' := l) (is := is.reverse) (lt3.same s317) (sqL_of hK17) (hl.led hpos hled) (sqL_of hG17) (by rw [eD]; exact led_rev hpos hled) fun js ej5 H18 p18 s18 np18 hp18 => ?_⟩
      cases is_inj ej5
      rw [ll'] at hp18
      have s318 := s317.trans s18
      refine ⟨.ref r, rfl, _, l.length, rfl, .inl ⟨_, s318.seq hS3, by rw [List.length_map]⟩, _, rfl, by omega, by omega, fun C nC => ?_⟩
      have nuB : (swaps (ids l.length) is.reverse).length = l.length := by rw [swaps_length, ids_length]
      refine lc_range (fun m H19 => Same H18 H19 ∧ H19 C = some (.lst ((nI ((swaps (ids l.length) is.reverse).take m)).map V.int))) ⟨same_upd nC, upd_same⟩ (fun m H19 hm hv => ?_) (fun H19 hv => ?_)
      · obtain ⟨s19, hC⟩ := hv
        have hm' : m < l.length := by omega
        obtain ⟨j, j1, j2, j3⟩ := swaps_at (is := is) hm'
        have m0 : (0 : Int) + ((m : Nat) : Int) = (m : Int) := by omega
        refine ⟨rfl, ?_⟩
        refine ⟨.ref pm, rfl, .inl ⟨rfl, _, sqL_of (s19 _ _ (s318 _ _ hpm))⟩, _, rfl, pm, _, _, j, .int (m : Int), rfl, rfl, sqL_of (s19 _ _ (s318 _ _ hpm)), rfl, flat_ints _, ?_, ?_, fun m' z' hm1 hz' => ?_, ?_⟩
        · refine mapI_get ?_
          unfold nI
          rw [List.getElem?_map, j3]
          rfl
        · show ((m : Int) == (0 + ((m : Nat) : Int))) = true
          rw [m0]; simp
        · unfold nI at hz'
          rw [List.getElem?_map, List.getElem?_map] at hz'
          cases hn' : (swaps (ids l.length) is)[m']? with
          | none => rw [hn'] at hz'; cases hz'
          | some k' =>
            rw [hn'] at hz'
            have ez : z' = .int (k' : Int) := (Option.some.inj hz').symm
            rw [ez]
            show ((k' : Int) == (0 + ((m : Nat) : Int))) = false
            rw [m0]
            have ne : k' ≠ m := fun e => by
              have := nd_ix (swaps_nodup is l.length) (show (swaps (ids l.length) is)[m']? = some m by rw [hn', e]) j3
              omega
            simp
            omega
        · refine ⟨_, hC, ?_, same_put s19 nC, ?_⟩
          · rw [List.length_map, nI_length, List.length_take, nuB, sizeLine_eq]; omega
          · rw [upd_same, List.take_add_one, j1]
            unfold nI
            rw [List.map_append, List.map_append]
            rfl
      · obtain ⟨s19, hC⟩ := hv
        have eC : (swaps (ids l.length) is.reverse).take ((l.length : Int)).toNat = swaps (ids l.length) is.reverse := List.take_of_length_le (by rw [nuB]; omega)
        rw [eC] at hC
        refine ne_of' (dq_ints (sqL_of (s19 _ _ hp18))) (dq_ints (sqL_of hC)) ⟨_, rfl, itF (by rw [eqv_ints]; simp) ?_⟩
        exact ⟨_, _, _, _, _, _, _, _, _, _, rfl, s3.trans (s318.trans s19)⟩
    · obtain ⟨y5, y6, y7, y8, y9, y10, y11, y12, y13, y14, rfl, s3⟩ := hv
      have h13 : Same (hid g H1) (hid g H3) := hid_mono s3
      have h03 := h01.trans h13
      have hG3 := hG1'.same s3
      have w0 : ws[0]? = some ws[0] := List.getElem?_eq_getElem (by omega)
      have w1 : ws[1]? = some ws[1] := List.getElem?_eq_getElem (by omega)
      obtain ⟨T0, pp0, pn0, pm0, is0, l0, e0, hT0, hpp0, hpn0, hpm0, hled0, hil0⟩ := hws _ (List.mem_of_getElem? w0)
      obtain ⟨T1, pp1, pn1, pm1, is1, l1, e1, hT1, hpp1, hpn1, hpm1, hled1, hil1⟩ := hws _ (List.mem_of_getElem? w1)
      rw [e0] at w0
      rw [e1] at w1
      have at0 : ∀ {x y z : V}, atI [x, y, z] 0 = some x := fun {x y z} => rfl
      have at1 : ∀ {x y z : V}, atI [x, y, z] 1 = some y := fun {x y z} => rfl
      have at2 : ∀ {x y z : V}, atI [x, y, z] 2 = some z := fun {x y z} => rfl
      have sh3 := hid_same g H3
      -- bad_place_right(.., walks[0][0])
      refine ⟨.ref g, rfl, .ref t, rfl, .ref a, rfl, .ref r, rfl, .ref W, rfl, W, ws, 0, .ref T0, rfl, rfl, sqL_of (s3 _ _ hW), at_of (j := 0) rfl w0, T0, _, 0, .ref pp0, rfl, rfl, sqT_of (sh3 _ _ (h13 _ _ hT0)), at0, ?_⟩
      refine ⟨g, n + 240, t, ns, st, a, held, st', r, pp0, l, l0, is0, rfl, hG3, by omega, wy.same h03, lt1.same s3, eD, h03.seq hS, hl7, hl, h13 _ _ hpp0, hled0, hil0, fun H4 s4 hG4 => ⟨_, rfl, itF rfl ?_⟩⟩
      have h34 := hid_sg s4
      have h14 := h13.trans h34
      have h04 := h01.trans h14
      have sh4 := hid_same g H4
      have lt4 := (lt1.same s3).sg s4 hG3
      -- changed_right(.., walks[1][0])
      refine ⟨.ref a, rfl, .ref r, rfl, .ref W, rfl, W, ws, 0 + 1, .ref T1, rfl, rfl, sqL_of (sh4 _ _ (h14 _ _ hWh)), at_of (j := 1) rfl w1, T1, _, 0, .ref pp1, rfl, rfl, sqT_of (sh4 _ _ (h14 _ _ hT1)), at0, ?_⟩
      refine ⟨a, held, st', r, pp1, l, l1, is1, rfl, lt4, sh4.seq (h04.seq hS), hl, sqL_of (sh4 _ _ (h14 _ _ hpp1)), by omega, by rw [eD]; exact hled1, fun H5 s5 => ⟨_, rfl, itF rfl ?_⟩⟩
      have h15 := h14.trans (hid_mono s5)
      have h05 := h01.trans h15
      have sh5 := hid_same g H5
      have hW5 := sh5 _ _ (h15 _ _ hWh)
      have hT05 := sh5 _ _ (h15 _ _ hT0)
      have hpn05 := sh5 _ _ (h15 _ _ hpn0)
      have hpm05 := sh5 _ _ (h15 _ _ hpm0)
      -- same = [..]
      refine ⟨.ref W, rfl, W, rfl, ⟨ws, sqL_of hW5⟩, fun S nS => ?_⟩
      refine lc_list (xs := ws) (fun i H6 => Same H5 H6 ∧ ∃ ms : List V, H6 S = some (.lst ms) ∧ ms.length ≤ i ∧ ∀ v ∈ ms, ∃ m, v = .ref m ∧ H5 m = some (.lst ((nI (swaps (ids l.length) is0)).map V.int)))
        ⟨same_upd nS, [], upd_same, Nat.le_refl _, fun v hv => by cases hv⟩ (fun i H6 _ p => sqL_of (p.1 _ _ hW5)) (fun i x H6 hx p => ?_) (fun H6 p => ?_)
      · obtain ⟨s6, ms, hS6, hml, hms⟩ := p
        obtain ⟨Ti, ppi, pni, pmi, isi, li, rfl, hTi, hppi, hpni, hpmi, hledi, hili⟩ := hws x (List.mem_of_getElem? hx)
        have hTi6 := s6 _ _ (sh5 _ _ (h15 _ _ hTi))
        have hpni6 := s6 _ _ (sh5 _ _ (h15 _ _ hpni))
        refine ⟨rfl, .ref Ti, rfl, Ti, _, 1, .ref pni, rfl, rfl, sqT_of hTi6, at1, ?_⟩
        refine ⟨.ref W, rfl, W, ws, 0, .ref T0, rfl, rfl, sqL_of (s6 _ _ hW5), at_of (j := 0) rfl w0, T0, _, 1, .ref pn0, rfl, rfl, sqT_of (s6 _ _ hT05), at1, ?_⟩
        refine eq_of (dq_ints (sqL_of hpni6)) (dq_ints (sqL_of (s6 _ _ hpn05))) ⟨_, rfl, ?_⟩
        rw [eqv_ints]
        by_cases c : li = l0
        · refine itT (decide_eq_true c) ?_
          refine ⟨.ref Ti, rfl, Ti, _, 2, .ref pmi, rfl, rfl, sqT_of hTi6, at2, ms, hS6, ?_, same_put s6 nS, ms ++ [.ref pmi], upd_same, by rw [List.length_append]; show ms.length + 1 ≤ i + 1; omega, fun v hv => ?_⟩
          · have := (List.getElem?_eq_some_iff.mp hx).1
            rw [sizeLine_eq]; omega
          · rcases List.mem_append.mp hv with hv | hv
            · exact hms v hv
            · rw [List.mem_singleton.mp hv]
              refine ⟨pmi, rfl, ?_⟩
              rw [tells_one (tells_led hpos hled0) (c ▸ tells_led hpos hledi)]
              exact sh5 _ _ (h15 _ _ hpmi)
        · refine itF (decide_eq_false c) ⟨s6, ms, hS6, by omega, hms⟩
      · obtain ⟨s6, ms, hS6, hml, hms⟩ := p
        -- none of them tells otherwise
        refine ⟨.ref S, rfl, S, rfl, ⟨ms, sqL_of hS6⟩, fun Z nZ => ?_⟩
        refine lc_list (xs := ms) (fun i H7 => Same H6 H7 ∧ H7 Z = some (.lst [])) ⟨same_upd nZ, upd_same⟩ (fun i H7 _ p => sqL_of (p.1 _ _ hS6)) (fun i x H7 hx p => ?_) (fun H7 p => ?_)
        · obtain ⟨s7, hZ⟩ := p
          obtain ⟨m, rfl, hm⟩ := hms x (List.mem_of_getElem? hx)
          have s57 := s6.trans s7
          refine ⟨rfl, .ref m, rfl, .ref W, rfl, W, ws, 0, .ref T0, rfl, rfl, sqL_of (s57 _ _ hW5), at_of (j := 0) rfl w0, T0, _, 2, .ref pm0, rfl, rfl, sqT_of (s57 _ _ hT05), at2, ?_⟩
          refine ne_of' (dq_ints (sqL_of (s57 _ _ hm))) (dq_ints (sqL_of (s57 _ _ hpm05))) ⟨_, rfl, itF (by rw [eqv_ints]; simp) ⟨s7, hZ⟩⟩
        · obtain ⟨s7, hZ⟩ := p
          refine ⟨Nat.zero_le _, fun Y nY => ?_⟩
          have s8 : Same H7 (upd H7 Y (.lst [])) := same_upd nY
          refine eq_of (dq_nil (sqL_of (s8 _ _ hZ))) (dq_nil sqL_upd) ⟨_, rfl, itT (by rw [eqv_nil]; rfl) ?_⟩
          have s58 := s6.trans (s7.trans s8)
          refine ⟨.ref a, rfl, .ref r, rfl, Nat.zero_le _, fun E0 nE => ?_⟩
          have s9 := s58.trans (same_upd (o := .lst []) nE)
          have s49 := s5.trans s9
          have hS9 := s9.seq (sh5.seq (h05.seq hS))
          refine ⟨_, _, _, rfl, asked_ok (l := l) (l' := l) (is := []) (lt4.same s49) hS9 hl sqL_upd rfl fun js ej H10 p10 s10 np10 hp10 => ?_⟩
          cases is_inj ej
          refine ⟨.ref r, rfl, _, l.length, rfl, .inl ⟨_, s10.seq hS9, by rw [List.length_map]⟩, _, rfl, RgOk.of_le (by omega) (by omega) (by omega) (by omega), fun p11 np11 => ?_⟩
          rw [nI_ids]
          have s11 : Same H10 (upd H10 p11 (.lst ((nI (ids l.length)).map V.int))) := same_upd np11
          refine eq_of (dq_ints (sqL_of (s11 _ _ hp10))) (dq_ints sqL_upd) ?_
          rw [eqv_ints, show decide (nI (swaps (ids l.length) []) = nI (ids l.length)) = true from decide_eq_true rfl]
          have s411 := s49.trans (s10.trans s11)
          exact q _ (same_sg ((same_sg sg s3).trans s4) s411) ((hG4.same s411).mono (by omega))
end
end Gs


/-! _law_refused: the first wrong argument is told of. -/
namespace Gs
open PySem PySem.Spec PyProof.Rows L2
theorem sc__law_refused : FnScope ["_law_lets_here", "_law_place", "_law_bads", "_law_bad", "_law_handed", "_law_at"] ["_law_lets_here"] (defScope (top 45)) := ⟨rfl, rfl, rfl, by decide +kernel, rfl, by decide +kernel, by decide +kernel⟩
/-- a wrong value for the j-th argument, with its text -/
structure BadAt (K : PySem.W.Frag) (H : Hp) (j : Nat) (v : V) : Prop where
  kn : (∃ n, Kn K H v n ∧ n ≠ "list") ∨ (j = 0 ∧ ∃ n, Kn K H v n) ∨ (j = 1 ∧ ∃ r ys, v = .ref r ∧ SqL K H r ys ∧ (∀ y ∈ ys, El K H y) ∧ rowOk ys = false)
  tx : ∃ t, Tq K H v t
theorem BadAt.same {K : PySem.W.Frag} {H H' : Hp} {j : Nat} {v : V} (s : Same H H') (h : BadAt K H j v) : BadAt K H' j v := by
  refine ⟨?_, let ⟨t, k⟩ := h.tx; ⟨t, k.same s⟩⟩
  rcases h.kn with ⟨n, k, c⟩ | ⟨e, n, k⟩ | ⟨e, r, ys, e2, q, el, ro⟩
  · exact .inl ⟨n, k.same s, c⟩
  · exact .inr (.inl ⟨e, n, k.same s⟩)
  · exact .inr (.inr ⟨e, r, ys, e2, s.seq q, fun y hy => (el y hy).same s, ro⟩)
theorem BadAt.any {K : PySem.W.Frag} {H : Hp} {v : V} (h : BadAt K H 0 v) : ∃ n, Kn K H v n := by
  rcases h.kn with ⟨n, k, _⟩ | ⟨_, n, k⟩ | ⟨e, _⟩
  · exact ⟨n, k⟩
  · exact ⟨n, k⟩
  · cases e
theorem BadAt.row {K : PySem.W.Frag} {H : Hp} {v : V} (h : BadAt K H 1 v) : (∃ n, Kn K H v n ∧ n ≠ "list") ∨ ∃ r ys, v = .ref r ∧ SqL K H r ys ∧ (∀ y ∈ ys, El K H y) ∧ rowOk ys = false := by
  rcases h.kn with h | ⟨e, _⟩ | ⟨_, h⟩
  · exact .inl h
  · cases e
  · exact .inr h
theorem BadAt.pl {K : PySem.W.Frag} {H : Hp} {v : V} (h : BadAt K H 2 v) : ∃ n, Kn K H v n ∧ n ≠ "list" := by
  rcases h.kn with h | ⟨e, _⟩ | ⟨e, _⟩
  · exact h
  · cases e
  · cases e
section
variable {K : PySem.W.Frag} {H : Hp}
theorem ba_non (j : Nat) : BadAt K H j .non := ⟨.inl ⟨_, Kn.non K H, by decide⟩, tq_non⟩
theorem ba_int (j : Nat) {i : Int} (h : -2 < i ∧ i < 20) : BadAt K H j (.int i) := ⟨.inl ⟨_, Kn.int K H i, by decide⟩, tq_small h⟩
theorem ba_str (j : Nat) {x : Str} (h : (reprText x).length ≤ sizeLine) (h2 : PyData.strOk (reprText x) = true) : BadAt K H j (.str x) := ⟨.inl ⟨_, Kn.str K H x, by decide⟩, _, .str h, h2⟩
theorem tq_dat {a : Addr} {d : PyData} (h : Dp K H (.ref a) d) (c : (d.showable && !d.hasDict && decide (d.depth ≤ 8) && decide (d.shown.length ≤ 16777216) && PyData.strOk d.shown) = true) : ∃ t, Tq K H (.ref a) t := by
  simp only [Bool.and_eq_true, Bool.not_eq_true', decide_eq_true_eq] at c
  obtain ⟨⟨⟨⟨c1, c2⟩, c3⟩, c4⟩, c5⟩ := c
  exact ⟨_, .dat h c1 c2 c3 (by rw [sizeLine_eq]; exact c4), c5⟩
theorem Kn.tup {a : Addr} {xs : List V} (h : H a = some (.tup xs)) : Kn K H (.ref a) "tuple" := ⟨.base (.tup h), by decide⟩
theorem Kn.dic {a : Addr} {kvs : List (Key × V)} (h : H a = some (.dK kvs)) : Kn K H (.ref a) "dict" := ⟨.base (.dK h), by decide⟩
theorem ba_t0 (j : Nat) {a : Addr} (h : H a = some (.tup [.int 0])) : BadAt K H j (.ref a) :=
  ⟨.inl ⟨_, Kn.tup h, by decide⟩, tq_dat (d := .tuple [.int 0]) (.tup (sqT_of h) (.cons (.int 0) .nil)) (by decide +kernel)⟩
theorem ba_d0 (j : Nat) {a : Addr} (h : H a = some (.dK [])) : BadAt K H j (.ref a) := ⟨.inl ⟨_, Kn.dic h, by decide⟩, _, .emp h, by decide +kernel⟩
/-- a list that is no row -/
theorem ba_row {a : Addr} {xs : List V} {ds : List PyData} (h : H a = some (.lst xs)) (hd : DpAll K H xs ds) (he : ∀ y ∈ xs, El K H y) (hr : rowOk xs = false)
    (c : ((PyData.list ds).showable && !(PyData.list ds).hasDict && decide ((PyData.list ds).depth ≤ 8) && decide ((PyData.list ds).shown.length ≤ 16777216) && PyData.strOk (PyData.list ds).shown) = true) : BadAt K H 1 (.ref a) :=
  ⟨.inr (.inr ⟨rfl, a, xs, rfl, sqL_of h, he, hr⟩), tq_dat (d := .list ds) (.lst (sqL_of h) hd) c⟩
theorem El.non : El K H .non := ⟨⟨_, Kn.non K H⟩, _, .non, by simp [PyData.canLay0], by simp [PyData.depth]⟩
theorem El.bl (b : Bool) : El K H (.bl b) := ⟨⟨_, Kn.bl K H b⟩, _, .bl b, by simp [PyData.canLay0], by simp [PyData.depth]⟩
theorem El.l0 {a : Addr} (h : H a = some (.lst [.int 0])) : El K H (.ref a) := ⟨⟨_, Kn.lst (sqL_of h)⟩, .list [.int 0], .lst (sqL_of h) (.cons (.int 0) .nil), by decide, by decide⟩
end
theorem bools4 (i : Nat) : ((List.range 4).map fun k : Nat => V.bl (decide (V.int (k : Int) = V.int (i : Int)))) = [.bl (decide (i = 0)), .bl (decide (i = 1)), .bl (decide (i = 2)), .bl (decide (i = 3))] := by
  have e : ∀ k : Nat, decide (V.int (k : Int) = V.int (i : Int)) = decide (i = k) := fun k => decide_eq_decide.mpr ⟨fun h => by
    have := V.int.inj h
    omega, fun h => by rw [h]⟩
  show [V.bl (decide (V.int ((0 : Nat) : Int) = V.int (i : Int))), V.bl (decide (V.int ((1 : Nat) : Int) = V.int (i : Int))), V.bl (decide (V.int ((2 : Nat) : Int) = V.int (i : Int))), V.bl (decide (V.int ((3 : Nat) : Int) = V.int (i : Int)))] = _
  rw [e, e, e, e]
section
variable {P : Program} {w : World} {K : PySem.W.Frag} {mg : Str → Option Value} {base : Heap} {CL : Addr} {D : Dx} {C0 : Addr}
def spRef (CL : Addr) : Sp := fun vs H Q _ => ∃ a held st, vs = [.ref a] ∧ Lt CL H a held st ∧ ∀ H', Same H H' → Q (.bl true) H'
theorem cl_refused (De : De K mg "_law_refused" (top 45)) (Bn : Bns mg) (c__law_caught : ClG P w K mg base (L2.CX P w) 7 "_law_caught" (spCaught K CL)) : ClG P w K mg base CX0 8 "_law_refused" (spRef CL) := by
  refine clG0 De sc__law_refused (fun vs H Q E ⟨a, held, st, e, _⟩ => by rw [e]; rfl) (fun _ _ _ _ _ _ us hl => match us, hl with | [_], _ => rfl) (fun f cdv A outer s H vs Q E hg hr h => ?_)
  obtain ⟨a, held, st, rfl, lt, q⟩ := h
  have gd : (A.deeper (envOfC "_law_refused" (defScope (top 45)) s.heap.objs.size f cdv)).guards = some [] := hg
  have hu12 := hu12_of hr
  have hu64 := hu64_of hr
  refine ⟨_, (pss_cons (ps_for PassesOwn.never rfl (pi_enum (by rfl) Bn.enumerate (pa_cons (pe_lst (pa_cons (pe_lst (pa_cons pe_non (pa_cons pe_int (pa_cons (pe_lst (pa_cons pe_int pa_nil)) (pa_cons pe_str pa_nil))))) (pa_cons (pe_lst (pa_cons pe_non (pa_cons pe_int (pa_cons (pe_tup (pa_cons pe_int pa_nil)) (pa_cons (pe_lst (pa_cons (pe_un un_neg pe_int) pa_nil)) (pa_cons (pe_lst (pa_cons pe_bl pa_nil)) (pa_cons (pe_op op_rep (pe_lst (pa_cons pe_int pa_nil)) pe_int) (pa_cons (pe_lst (pa_cons pe_non (pa_cons pe_int pa_nil))) (pa_cons (pe_lst (pa_cons (pe_un un_neg pe_int) (pa_cons pe_int pa_nil))) (pa_cons (pe_lst (pa_cons pe_int (pa_cons (pe_un un_neg pe_int) (pa_cons pe_int pa_nil)))) (pa_cons (pe_lst (pa_cons (pe_lst (pa_cons pe_int pa_nil)) (pa_cons pe_int pa_nil))) pa_nil))))))))))) (pa_cons (pe_lst (pa_cons pe_non (pa_cons pe_int (pa_cons (pe_tup (pa_cons pe_int pa_nil)) (pa_cons pe_str (pa_cons pe_dnewK pa_nil)))))) pa_nil)))) pa_nil)) (pg_tup rfl (pgs_cons (pg_name (i := 1) sc__law_refused.nd rfl (.inr rfl)) (pgs_cons (pg_name (i := 2) sc__law_refused.nd rfl (.inl rfl)) pgs_nil)))
  (pss_one (ps_for PassesOwn.never rfl (pi_list (pv 2)) (pg_name (i := 3) sc__law_refused.nd rfl (.inl rfl))
  (pss_cons (ps_set (i := 4) sc__law_refused.nd rfl (.inl rfl) (pe_ix ix_list (pe_lst (pa_cons (pe_lst (pa_cons (pv 3) (pa_cons pe_non (pa_cons pe_non pa_nil)))) (pa_cons (pe_lst (pa_cons (pv 0) (pa_cons (pv 3) (pa_cons pe_non pa_nil)))) (pa_cons (pe_lst (pa_cons (pv 0) (pa_cons (pe_lst (pa_cons pe_int (pa_cons pe_int pa_nil))) (pa_cons (pv 3) pa_nil)))) pa_nil)))) (pv 1) fun _ _ => rfl))
  (pss_cons (ps_if (pt_cmpR (op_neD hu64) (pe_clG c__law_caught gd hr (by decide) (by rfl) (passes_call (E := E0) takes0 (fun _ _ _ _ h => h)) (pa_cons (pe_ix ix_list (pv 4) pe_int fun _ _ => rfl) (pa_cons (pe_ix ix_list (pv 4) pe_int fun _ _ => rfl) (pa_cons (pe_ix ix_list (pv 4) pe_int fun _ _ => rfl) pa_nil)))) (pe_lst (pa_cons (pe_lc rfl sc__law_refused.nd (pi_range1 (by rfl) Bn.range (pa_cons pe_int pa_nil)) (own := [("_law_at", 5)]) (by refine blkOk_by ?_; show blkC ["_law_lets_here", "_law_place", "_law_bads", "_law_bad", "_law_handed", "_law_at"] (defScope (top 45)) _ [("_law_at", 5)] = true; decide +kernel) (fun _ _ _ _ _ => (pg_name (i := 5) sc__law_refused.nd rfl (.inl rfl))) (fun _ _ _ _ _ => pts_nil) (fun _ _ _ _ _ => (pe_cmpR op_eq (pv 5) (pv 1) (nomark _)))) (pa_cons (pe_callB (Gr.call_tx gd hu12) (by rfl) Bn.repr bt_repr (pa_cons (pv 3) pa_nil)) pa_nil))) (nomark _))
  (pss_one (ps_ret pe_bl))
  pss_nil)
  (pss_cons (ps_set (i := 4) sc__law_refused.nd rfl (.inl rfl) (pe_ix ix_list (pe_lst (pa_cons (pe_lst (pa_cons (pv 3) (pa_cons (pe_lst pa_nil) (pa_cons (pe_lst pa_nil) pa_nil)))) (pa_cons (pe_lst (pa_cons (pv 0) (pa_cons (pv 3) (pa_cons (pe_lst pa_nil) pa_nil)))) (pa_cons (pe_lst (pa_cons (pv 0) (pa_cons (pe_lst pa_nil) (pa_cons (pv 3) pa_nil)))) pa_nil)))) (pv 1) fun _ _ => rfl))
  (pss_one (ps_if (pt_cmpR (op_neD hu64) (pe_clG c__law_caught gd hr (by decide) (by rfl) (passes_call (E := E0) takes0 (fun _ _ _ _ h => h)) (pa_cons (pe_ix ix_list (pv 4) pe_int fun _ _ => rfl) (pa_cons (pe_ix ix_list (pv 4) pe_int fun _ _ => rfl) (pa_cons (pe_ix ix_list (pv 4) pe_int fun _ _ => rfl) pa_nil)))) (pe_lst (pa_cons (pe_lc rfl sc__law_refused.nd (pi_range1 (by rfl) Bn.range (pa_cons pe_int pa_nil)) (own := [("_law_at", 5)]) (by refine blkOk_by ?_; show blkC ["_law_lets_here", "_law_place", "_law_bads", "_law_bad", "_law_handed", "_law_at"] (defScope (top 45)) _ [("_law_at", 5)] = true; decide +kernel) (fun _ _ _ _ _ => (pg_name (i := 5) sc__law_refused.nd rfl (.inl rfl))) (fun _ _ _ _ _ => pts_nil) (fun _ _ _ _ _ => (pe_cmpR op_eq (pv 5) (pv 1) (nomark _)))) (pa_cons (pe_callB (Gr.call_tx gd hu12) (by rfl) Bn.repr bt_repr (pa_cons (pv 3) pa_nil)) pa_nil))) (nomark _))
  (pss_one (ps_ret pe_bl))
  pss_nil))))))))
  (pss_cons (ps_for PassesOwn.never rfl (pi_list (pe_lst (pa_cons pe_non (pa_cons pe_bl (pa_cons (pe_un un_neg pe_int) (pa_cons pe_int (pa_cons pe_str (pa_cons (pe_lst (pa_cons pe_int pa_nil)) pa_nil)))))))) (pg_name (i := 3) sc__law_refused.nd rfl (.inl rfl))
  (pss_one (ps_if (pt_cmpR (op_neD hu64) (pe_clG c__law_caught gd hr (by decide) (by rfl) (passes_call (E := E0) takes0 (fun _ _ _ _ h => h)) (pa_cons (pv 0) (pa_cons (pe_lst (pa_cons pe_int (pa_cons pe_int (pa_cons pe_int pa_nil)))) (pa_cons (pe_lst (pa_cons (pv 3) (pa_cons pe_non pa_nil))) pa_nil)))) (pe_lst (pa_cons (pe_lst (pa_cons pe_bl (pa_cons pe_bl (pa_cons pe_bl (pa_cons pe_bl pa_nil))))) (pa_cons (pe_callB (Gr.call_tx gd hu12) (by rfl) Bn.repr bt_repr (pa_cons (pv 3) pa_nil)) pa_nil))) (nomark _))
  (pss_one (ps_ret pe_bl))
  pss_nil)))
  (pss_one (ps_ret pe_bl)))), ?_⟩
  refine ⟨by show 1 ≤ sizeLine; decide, fun x1 nx1 => ?_⟩
  have s1 : Same H (upd H x1 (.lst [.int 1])) := same_upd nx1
  have hx1 : (upd H x1 (.lst [.int 1])) x1 = some (.lst [.int 1]) := upd_same
  generalize upd H x1 (.lst [.int 1]) = H1 at s1 hx1 ⊢
  have sA := s1
  refine ⟨by show 4 ≤ sizeLine; decide, fun b0 nb0 => ?_⟩
  have s2 : Same H1 (upd H1 b0 (.lst [.non, .int 1, .ref x1, .str "1"])) := same_upd nb0
  have hb0 : (upd H1 b0 (.lst [.non, .int 1, .ref x1, .str "1"])) b0 = some (.lst [.non, .int 1, .ref x1, .str "1"]) := upd_same
  generalize upd H1 b0 (.lst [.non, .int 1, .ref x1, .str "1"]) = H2 at s2 hb0 ⊢
  replace sA := sA.trans s2
  replace hx1 := s2 _ _ hx1
  refine ⟨by show 1 ≤ sizeLine; decide, fun y1 ny1 => ?_⟩
  have s3 : Same H2 (upd H2 y1 (.tup [.int 0])) := same_upd ny1
  have hy1 : (upd H2 y1 (.tup [.int 0])) y1 = some (.tup [.int 0]) := upd_same
  generalize upd H2 y1 (.tup [.int 0]) = H3 at s3 hy1 ⊢
  replace sA := sA.trans s3
  replace hx1 := s3 _ _ hx1
  replace hb0 := s3 _ _ hb0
  refine ⟨1, rfl, by show 1 ≤ sizeLine; decide, fun y2 ny2 => ?_⟩
  have s4 : Same H3 (upd H3 y2 (.lst [.int (-1)])) := same_upd ny2
  have hy2 : (upd H3 y2 (.lst [.int (-1)])) y2 = some (.lst [.int (-1)]) := upd_same
  generalize upd H3 y2 (.lst [.int (-1)]) = H4 at s4 hy2 ⊢
  replace sA := sA.trans s4
  replace hx1 := s4 _ _ hx1
  replace hb0 := s4 _ _ hb0
  replace hy1 := s4 _ _ hy1
  refine ⟨by show 1 ≤ sizeLine; decide, fun y3 ny3 => ?_⟩
  have s5 : Same H4 (upd H4 y3 (.lst [.bl true])) := same_upd ny3
  have hy3 : (upd H4 y3 (.lst [.bl true])) y3 = some (.lst [.bl true]) := upd_same
  generalize upd H4 y3 (.lst [.bl true]) = H5 at s5 hy3 ⊢
  replace sA := sA.trans s5
  replace hx1 := s5 _ _ hx1
  replace hb0 := s5 _ _ hb0
  replace hy1 := s5 _ _ hy1
  replace hy2 := s5 _ _ hy2
  refine ⟨by show 1 ≤ sizeLine; decide, fun z0 nz0 => ?_⟩
  have s6 : Same H5 (upd H5 z0 (.lst [.int 0])) := same_upd nz0
  have hz0 : (upd H5 z0 (.lst [.int 0])) z0 = some (.lst [.int 0]) := upd_same
  generalize upd H5 z0 (.lst [.int 0]) = H6 at s6 hz0 ⊢
  replace sA := sA.trans s6
  replace hx1 := s6 _ _ hx1
  replace hb0 := s6 _ _ hb0
  replace hy1 := s6 _ _ hy1
  replace hy2 := s6 _ _ hy2
  replace hy3 := s6 _ _ hy3
  refine ⟨z0, 201, _, rfl, rfl, hz0, by decide, by decide, by show 1 * 201 ≤ sizeLine; decide, fun y4 ny4 => ?_⟩
  have s7 : Same H6 (upd H6 y4 (.lst (List.replicate (201 : Int).toNat [V.int 0]).flatten)) := same_upd ny4
  have hy4 : (upd H6 y4 (.lst (List.replicate (201 : Int).toNat [V.int 0]).flatten)) y4 = some (.lst (List.replicate (201 : Int).toNat [V.int 0]).flatten) := upd_same
  generalize upd H6 y4 (.lst (List.replicate (201 : Int).toNat [V.int 0]).flatten) = H7 at s7 hy4 ⊢
  replace sA := sA.trans s7
  replace hx1 := s7 _ _ hx1
  replace hb0 := s7 _ _ hb0
  replace hy1 := s7 _ _ hy1
  replace hy2 := s7 _ _ hy2
  replace hy3 := s7 _ _ hy3
  replace hz0 := s7 _ _ hz0
  refine ⟨by show 2 ≤ sizeLine; decide, fun y5 ny5 => ?_⟩
  have s8 : Same H7 (upd H7 y5 (.lst [.non, .int 0])) := same_upd ny5
  have hy5 : (upd H7 y5 (.lst [.non, .int 0])) y5 = some (.lst [.non, .int 0]) := upd_same
  generalize upd H7 y5 (.lst [.non, .int 0]) = H8 at s8 hy5 ⊢
  replace sA := sA.trans s8
  replace hx1 := s8 _ _ hx1
  replace hb0 := s8 _ _ hb0
  replace hy1 := s8 _ _ hy1
  replace hy2 := s8 _ _ hy2
  replace hy3 := s8 _ _ hy3
  replace hz0 := s8 _ _ hz0
  replace hy4 := s8 _ _ hy4
  refine ⟨1, rfl, by show 2 ≤ sizeLine; decide, fun y6 ny6 => ?_⟩
  have s9 : Same H8 (upd H8 y6 (.lst [.int (-1), .int 0])) := same_upd ny6
  have hy6 : (upd H8 y6 (.lst [.int (-1), .int 0])) y6 = some (.lst [.int (-1), .int 0]) := upd_same
  generalize upd H8 y6 (.lst [.int (-1), .int 0]) = H9 at s9 hy6 ⊢
  replace sA := sA.trans s9
  replace hx1 := s9 _ _ hx1
  replace hb0 := s9 _ _ hb0
  replace hy1 := s9 _ _ hy1
  replace hy2 := s9 _ _ hy2
  replace hy3 := s9 _ _ hy3
  replace hz0 := s9 _ _ hz0
  replace hy4 := s9 _ _ hy4
  replace hy5 := s9 _ _ hy5
  refine ⟨1, rfl, by show 3 ≤ sizeLine; decide, fun y7 ny7 => ?_⟩
  have s10 : Same H9 (upd H9 y7 (.lst [.int 0, .int (-1), .int 0])) := same_upd ny7
  have hy7 : (upd H9 y7 (.lst [.int 0, .int (-1), .int 0])) y7 = some (.lst [.int 0, .int (-1), .int 0]) := upd_same
  generalize upd H9 y7 (.lst [.int 0, .int (-1), .int 0]) = H10 at s10 hy7 ⊢
  replace sA := sA.trans s10
  replace hx1 := s10 _ _ hx1
  replace hb0 := s10 _ _ hb0
  replace hy1 := s10 _ _ hy1
  replace hy2 := s10 _ _ hy2
  replace hy3 := s10 _ _ hy3
  replace hz0 := s10 _ _ hz0
  replace hy4 := s10 _ _ hy4
  replace hy5 := s10 _ _ hy5
  replace hy6 := s10 _ _ hy6
  refine ⟨by show 1 ≤ sizeLine; decide, fun w0 nw0 => ?_⟩
  have s11 : Same H10 (upd H10 w0 (.lst [.int 0])) := same_upd nw0
  have hw0 : (upd H10 w0 (.lst [.int 0])) w0 = some (.lst [.int 0]) := upd_same
  generalize upd H10 w0 (.lst [.int 0]) = H11 at s11 hw0 ⊢
  replace sA := sA.trans s11
  replace hx1 := s11 _ _ hx1
  replace hb0 := s11 _ _ hb0
  replace hy1 := s11 _ _ hy1
  replace hy2 := s11 _ _ hy2
  replace hy3 := s11 _ _ hy3
  replace hz0 := s11 _ _ hz0
  replace hy4 := s11 _ _ hy4
  replace hy5 := s11 _ _ hy5
  replace hy6 := s11 _ _ hy6
  replace hy7 := s11 _ _ hy7
  refine ⟨by show 2 ≤ sizeLine; decide, fun y8 ny8 => ?_⟩
  have s12 : Same H11 (upd H11 y8 (.lst [.ref w0, .int 0])) := same_upd ny8
  have hy8 : (upd H11 y8 (.lst [.ref w0, .int 0])) y8 = some (.lst [.ref w0, .int 0]) := upd_same
  generalize upd H11 y8 (.lst [.ref w0, .int 0]) = H12 at s12 hy8 ⊢
  replace sA := sA.trans s12
  replace hx1 := s12 _ _ hx1
  replace hb0 := s12 _ _ hb0
  replace hy1 := s12 _ _ hy1
  replace hy2 := s12 _ _ hy2
  replace hy3 := s12 _ _ hy3
  replace hz0 := s12 _ _ hz0
  replace hy4 := s12 _ _ hy4
  replace hy5 := s12 _ _ hy5
  replace hy6 := s12 _ _ hy6
  replace hy7 := s12 _ _ hy7
  replace hw0 := s12 _ _ hw0
  refine ⟨by show 10 ≤ sizeLine; decide, fun b1 nb1 => ?_⟩
  have s13 : Same H12 (upd H12 b1 (.lst [.non, .int 0, .ref y1, .ref y2, .ref y3, .ref y4, .ref y5, .ref y6, .ref y7, .ref y8])) := same_upd nb1
  have hb1 : (upd H12 b1 (.lst [.non, .int 0, .ref y1, .ref y2, .ref y3, .ref y4, .ref y5, .ref y6, .ref y7, .ref y8])) b1 = some (.lst [.non, .int 0, .ref y1, .ref y2, .ref y3, .ref y4, .ref y5, .ref y6, .ref y7, .ref y8]) := upd_same
  generalize upd H12 b1 (.lst [.non, .int 0, .ref y1, .ref y2, .ref y3, .ref y4, .ref y5, .ref y6, .ref y7, .ref y8]) = H13 at s13 hb1 ⊢
  replace sA := sA.trans s13
  replace hx1 := s13 _ _ hx1
  replace hb0 := s13 _ _ hb0
  replace hy1 := s13 _ _ hy1
  replace hy2 := s13 _ _ hy2
  replace hy3 := s13 _ _ hy3
  replace hz0 := s13 _ _ hz0
  replace hy4 := s13 _ _ hy4
  replace hy5 := s13 _ _ hy5
  replace hy6 := s13 _ _ hy6
  replace hy7 := s13 _ _ hy7
  replace hw0 := s13 _ _ hw0
  replace hy8 := s13 _ _ hy8
  refine ⟨by show 1 ≤ sizeLine; decide, fun u1 nu1 => ?_⟩
  have s14 : Same H13 (upd H13 u1 (.tup [.int 0])) := same_upd nu1
  have hu1 : (upd H13 u1 (.tup [.int 0])) u1 = some (.tup [.int 0]) := upd_same
  generalize upd H13 u1 (.tup [.int 0]) = H14 at s14 hu1 ⊢
  replace sA := sA.trans s14
  replace hx1 := s14 _ _ hx1
  replace hb0 := s14 _ _ hb0
  replace hy1 := s14 _ _ hy1
  replace hy2 := s14 _ _ hy2
  replace hy3 := s14 _ _ hy3
  replace hz0 := s14 _ _ hz0
  replace hy4 := s14 _ _ hy4
  replace hy5 := s14 _ _ hy5
  replace hy6 := s14 _ _ hy6
  replace hy7 := s14 _ _ hy7
  replace hw0 := s14 _ _ hw0
  replace hy8 := s14 _ _ hy8
  replace hb1 := s14 _ _ hb1
  refine fun u2 nu2 => ?_
  have s15 : Same H14 (upd H14 u2 (.dK [])) := same_upd nu2
  have hu2 : (upd H14 u2 (.dK [])) u2 = some (.dK []) := upd_same
  generalize upd H14 u2 (.dK []) = H15 at s15 hu2 ⊢
  replace sA := sA.trans s15
  replace hx1 := s15 _ _ hx1
  replace hb0 := s15 _ _ hb0
  replace hy1 := s15 _ _ hy1
  replace hy2 := s15 _ _ hy2
  replace hy3 := s15 _ _ hy3
  replace hz0 := s15 _ _ hz0
  replace hy4 := s15 _ _ hy4
  replace hy5 := s15 _ _ hy5
  replace hy6 := s15 _ _ hy6
  replace hy7 := s15 _ _ hy7
  replace hw0 := s15 _ _ hw0
  replace hy8 := s15 _ _ hy8
  replace hb1 := s15 _ _ hb1
  replace hu1 := s15 _ _ hu1
  refine ⟨by show 5 ≤ sizeLine; decide, fun b2 nb2 => ?_⟩
  have s16 : Same H15 (upd H15 b2 (.lst [.non, .int 0, .ref u1, .str "0", .ref u2])) := same_upd nb2
  have hb2 : (upd H15 b2 (.lst [.non, .int 0, .ref u1, .str "0", .ref u2])) b2 = some (.lst [.non, .int 0, .ref u1, .str "0", .ref u2]) := upd_same
  generalize upd H15 b2 (.lst [.non, .int 0, .ref u1, .str "0", .ref u2]) = H16 at s16 hb2 ⊢
  replace sA := sA.trans s16
  replace hx1 := s16 _ _ hx1
  replace hb0 := s16 _ _ hb0
  replace hy1 := s16 _ _ hy1
  replace hy2 := s16 _ _ hy2
  replace hy3 := s16 _ _ hy3
  replace hz0 := s16 _ _ hz0
  replace hy4 := s16 _ _ hy4
  replace hy5 := s16 _ _ hy5
  replace hy6 := s16 _ _ hy6
  replace hy7 := s16 _ _ hy7
  replace hw0 := s16 _ _ hw0
  replace hy8 := s16 _ _ hy8
  replace hb1 := s16 _ _ hb1
  replace hu1 := s16 _ _ hu1
  replace hu2 := s16 _ _ hu2
  refine ⟨by show 3 ≤ sizeLine; decide, fun PP nPP => ?_⟩
  have s17 : Same H16 (upd H16 PP (.lst [.ref b0, .ref b1, .ref b2])) := same_upd nPP
  have hPP : (upd H16 PP (.lst [.ref b0, .ref b1, .ref b2])) PP = some (.lst [.ref b0, .ref b1, .ref b2]) := upd_same
  generalize upd H16 PP (.lst [.ref b0, .ref b1, .ref b2]) = H17 at s17 hPP ⊢
  replace sA := sA.trans s17
  replace hx1 := s17 _ _ hx1
  replace hb0 := s17 _ _ hb0
  replace hy1 := s17 _ _ hy1
  replace hy2 := s17 _ _ hy2
  replace hy3 := s17 _ _ hy3
  replace hz0 := s17 _ _ hz0
  replace hy4 := s17 _ _ hy4
  replace hy5 := s17 _ _ hy5
  replace hy6 := s17 _ _ hy6
  replace hy7 := s17 _ _ hy7
  replace hw0 := s17 _ _ hw0
  replace hy8 := s17 _ _ hy8
  replace hb1 := s17 _ _ hb1
  replace hu1 := s17 _ _ hu1
  replace hu2 := s17 _ _ hu2
  replace hb2 := s17 _ _ hb2
  have e4 : (List.replicate (201 : Int).toNat [V.int 0]).flatten = List.replicate 201 (V.int 0) := by decide +kernel
  rw [e4] at hy4
  have dpR : ∀ m : Nat, DpAll K H17 (List.replicate m (V.int 0)) (List.replicate m (.int 0)) := fun m => by
    induction m with
    | zero => exact .nil
    | succ m ih => exact .cons (.int 0) ih
  have ba0 : ∀ v ∈ [V.non, .int 1, .ref x1, .str "1"], BadAt K H17 0 v := fun v hv => by
    simp only [List.mem_cons, List.not_mem_nil, or_false] at hv
    rcases hv with rfl | rfl | rfl | rfl
    · exact ba_non 0
    · exact ba_int 0 (by decide)
    · exact ⟨.inr (.inl ⟨rfl, _, Kn.lst (sqL_of hx1)⟩), tq_dat (d := .list [.int 1]) (.lst (sqL_of hx1) (.cons (.int 1) .nil)) (by decide +kernel)⟩
    · exact ba_str 0 (by rw [sizeLine_eq]; decide +kernel) (by decide +kernel)
  have ba1 : ∀ v ∈ [V.non, .int 0, .ref y1, .ref y2, .ref y3, .ref y4, .ref y5, .ref y6, .ref y7, .ref y8], BadAt K H17 1 v := fun v hv => by
    simp only [List.mem_cons, List.not_mem_nil, or_false] at hv
    rcases hv with rfl | rfl | rfl | rfl | rfl | rfl | rfl | rfl | rfl | rfl
    · exact ba_non 1
    · exact ba_int 1 (by decide)
    · exact ba_t0 1 hy1
    · exact ba_row hy2 (ds := [.int (-1)]) (.cons (.int _) .nil) (fun y hy => by rw [List.mem_singleton.mp hy]; exact El.int _) (by decide +kernel) (by decide +kernel)
    · exact ba_row hy3 (ds := [.bool true]) (.cons (.bl _) .nil) (fun y hy => by rw [List.mem_singleton.mp hy]; exact El.bl _) (by decide +kernel) (by decide +kernel)
    · exact ba_row hy4 (dpR 201) (fun y hy => by rw [List.eq_of_mem_replicate hy]; exact El.int 0) (by decide +kernel) (by decide +kernel)
    · refine ba_row hy5 (ds := [.none, .int 0]) (.cons .non (.cons (.int _) .nil)) (fun y hy => ?_) (by decide +kernel) (by decide +kernel)
      simp only [List.mem_cons, List.not_mem_nil, or_false] at hy
      rcases hy with rfl | rfl
      · exact El.non
      · exact El.int 0
    · refine ba_row hy6 (ds := [.int (-1), .int 0]) (.cons (.int _) (.cons (.int _) .nil)) (fun y hy => ?_) (by decide +kernel) (by decide +kernel)
      simp only [List.mem_cons, List.not_mem_nil, or_false] at hy
      rcases hy with rfl | rfl <;> exact El.int _
    · refine ba_row hy7 (ds := [.int 0, .int (-1), .int 0]) (.cons (.int _) (.cons (.int _) (.cons (.int _) .nil))) (fun y hy => ?_) (by decide +kernel) (by decide +kernel)
      simp only [List.mem_cons, List.not_mem_nil, or_false] at hy
      rcases hy with rfl | rfl | rfl <;> exact El.int _
    · refine ba_row hy8 (ds := [.list [.int 0], .int 0]) (.cons (.lst (sqL_of hw0) (.cons (.int 0) .nil)) (.cons (.int _) .nil)) (fun y hy => ?_) (by rfl) (by decide +kernel)
      simp only [List.mem_cons, List.not_mem_nil, or_false] at hy
      rcases hy with rfl | rfl
      · exact El.l0 hw0
      · exact El.int 0
  have ba2 : ∀ v ∈ [V.non, .int 0, .ref u1, .str "0", .ref u2], BadAt K H17 2 v := fun v hv => by
    simp only [List.mem_cons, List.not_mem_nil, or_false] at hv
    rcases hv with rfl | rfl | rfl | rfl | rfl
    · exact ba_non 2
    · exact ba_int 2 (by decide)
    · exact ba_t0 2 hu1
    · exact ba_str 2 (by rw [sizeLine_eq]; decide +kernel) (by decide +kernel)
    · exact ba_d0 2 hu2
  have hall : ∀ i, i < 3 → ∃ b xs, [V.ref b0, .ref b1, .ref b2][i]? = some (.ref b) ∧ H17 b = some (.lst xs) ∧ ∀ v ∈ xs, BadAt K H17 i v := fun i hi => by
    match i, hi with
    | 0, _ => exact ⟨b0, _, rfl, hb0, ba0⟩
    | 1, _ => exact ⟨b1, _, rfl, hb1, ba1⟩
    | 2, _ => exact ⟨b2, _, rfl, hb2, ba2⟩
  have lt0 := lt.same sA
  refine ⟨PP, _, rfl, sqL_of hPP, ?_⟩
  refine for_it (walk_enum (xs := [V.ref b0, .ref b1, .ref b2])) (fun i σ H1 => ∃ y1 y2 y3 y4 y5, σ = [some (.ref a), y1, y2, y3, y4, y5] ∧ Same H17 H1) ⟨_, _, _, _, _, rfl, Same.refl _⟩ (fun i σ H1 _ ⟨_, _, _, _, _, _, s⟩ => sqL_of (s _ _ hPP)) (fun i x σ H1 H2 hi hv hY => ?_) (fun σ H1 hv => ?_)
  · obtain ⟨_, _, _, _, _, rfl, sB⟩ := hv
    obtain ⟨T, xi, xb, rfl, nT, rfl, hxi, hxb⟩ := hY
    obtain ⟨b, xs, e1, hb, hbad⟩ := hall i hi
    rw [show xb = .ref b from Option.some.inj (hxb.symm.trans e1), show xi = .int (i : Nat) from (Option.some.inj hxi).symm]
    have i3 : i < 3 := hi
    refine ⟨T, _, rfl, sqT_of upd_same, rfl, .int (i : Nat), _, rfl, .ref b, [], rfl, rfl, ?_⟩
    have sC : Same H17 (upd H1 T (.tup [.int (i : Nat), .ref b])) := sB.trans (same_upd nT)
    refine ⟨.ref b, rfl, b, rfl, ⟨xs, sqL_of (sC _ _ hb)⟩, ?_⟩
    refine for_list (xs := xs) (fun j σ H2 => ∃ y3 y4 y5, σ = [some (.ref a), some (.int (i : Nat)), some (.ref b), y3, y4, y5] ∧ Same H17 H2) ⟨_, _, _, rfl, sC⟩ (fun j σ H2 _ ⟨_, _, _, _, s⟩ => sqL_of (s _ _ hb)) (fun j v σ H2 hv' hv => ?_) (fun σ H2 hv => ?_)
    · obtain ⟨_, _, _, rfl, sD⟩ := hv
      have bv := hbad v (List.mem_of_getElem? hv')
      obtain ⟨tv, tq⟩ := bv.tx

      -- handed, 1
      refine ⟨v, rfl, by show 3 ≤ sizeLine; decide, fun p0 np0 => ?_⟩
      have t11 : Same H2 (upd H2 p0 (.lst [v, .non, .non])) := same_upd np0
      have hp0 : (upd H2 p0 (.lst [v, .non, .non])) p0 = some (.lst [v, .non, .non]) := upd_same
      generalize upd H2 p0 (.lst [v, .non, .non]) = G11 at t11 hp0 ⊢
      have sD11 := sD.trans t11
      refine ⟨.ref a, rfl, v, rfl, by show 3 ≤ sizeLine; decide, fun p1 np1 => ?_⟩
      have t12 : Same G11 (upd G11 p1 (.lst [.ref a, v, .non])) := same_upd np1
      have hp1 : (upd G11 p1 (.lst [.ref a, v, .non])) p1 = some (.lst [.ref a, v, .non]) := upd_same
      generalize upd G11 p1 (.lst [.ref a, v, .non]) = G12 at t12 hp1 ⊢
      have sD12 := sD11.trans t12
      replace hp0 := t12 _ _ hp0
      refine ⟨.ref a, rfl, by show 2 ≤ sizeLine; decide, fun q0 nq0 => ?_⟩
      have t13 : Same G12 (upd G12 q0 (.lst [.int 3, .int 1])) := same_upd nq0
      have hq0 : (upd G12 q0 (.lst [.int 3, .int 1])) q0 = some (.lst [.int 3, .int 1]) := upd_same
      generalize upd G12 q0 (.lst [.int 3, .int 1]) = G13 at t13 hq0 ⊢
      have sD13 := sD12.trans t13
      replace hp0 := t13 _ _ hp0
      replace hp1 := t13 _ _ hp1
      refine ⟨v, rfl, by show 3 ≤ sizeLine; decide, fun p2 np2 => ?_⟩
      have t14 : Same G13 (upd G13 p2 (.lst [.ref a, .ref q0, v])) := same_upd np2
      have hp2 : (upd G13 p2 (.lst [.ref a, .ref q0, v])) p2 = some (.lst [.ref a, .ref q0, v]) := upd_same
      generalize upd G13 p2 (.lst [.ref a, .ref q0, v]) = G14 at t14 hp2 ⊢
      have sD14 := sD13.trans t14
      replace hp0 := t14 _ _ hp0
      replace hp1 := t14 _ _ hp1
      replace hq0 := t14 _ _ hq0
      refine ⟨by show 3 ≤ sizeLine; decide, fun hh nhh => ?_⟩
      have t15 : Same G14 (upd G14 hh (.lst [.ref p0, .ref p1, .ref p2])) := same_upd nhh
      have hhh : (upd G14 hh (.lst [.ref p0, .ref p1, .ref p2])) hh = some (.lst [.ref p0, .ref p1, .ref p2]) := upd_same
      generalize upd G14 hh (.lst [.ref p0, .ref p1, .ref p2]) = G15 at t15 hhh ⊢
      have sD15 := sD14.trans t15
      replace hp0 := t15 _ _ hp0
      replace hp1 := t15 _ _ hp1
      replace hq0 := t15 _ _ hq0
      replace hp2 := t15 _ _ hp2
      have lt1 := lt0.same sD15
      have bv1 := bv.same sD15
      obtain ⟨hd, vl, vr, vp, hat, hhd, hBad⟩ : ∃ hd vl vr vp, atI [V.ref p0, .ref p1, .ref p2] ((i : Nat) : Int) = some (.ref hd) ∧ G15 hd = some (.lst [vl, vr, vp]) ∧ Bad K CL vl vr vp G15 i v := by
        match i, i3, bv1 with
        | 0, _, bv1 => exact ⟨p0, _, _, _, atI_nat (j := 0) rfl, hp0, .inl ⟨rfl, rfl, bv1.any⟩⟩
        | 1, _, bv1 => exact ⟨p1, _, _, _, atI_nat (j := 1) rfl, hp1, .inr ⟨a, held, st, rfl, lt1, .inl ⟨rfl, rfl, bv1.row⟩⟩⟩
        | 2, _, bv1 => exact ⟨p2, _, _, _, atI_nat (j := 2) rfl, hp2, .inr ⟨a, held, st, rfl, lt1, .inr ⟨q0, [3, 1], rfl, sqL_of hq0, ⟨by decide, by decide⟩, .inl ⟨rfl, rfl, bv1.pl⟩⟩⟩⟩
      refine ⟨.int (i : Nat), rfl, hh, _, ((i : Nat) : Int), .ref hd, rfl, rfl, sqL_of hhh, hat, ?_⟩
      refine ⟨.ref hd, rfl, hd, _, 0, vl, rfl, rfl, sqL_of hhd, rfl, .ref hd, rfl, hd, _, 1, vr, rfl, rfl, sqL_of hhd, rfl, .ref hd, rfl, hd, _, 2, vp, rfl, rfl, sqL_of hhd, rfl, ?_⟩
      refine ⟨vl, vr, vp, i, v, tv, rfl, by omega, hBad, (tq.same sD15).1, fun HC1 pc sc hc => ?_⟩
      have sE1 := sD15.trans sc
      refine ⟨4, rfl, by decide, by decide, fun Z nZ => ?_⟩
      refine lc_range (fun m H5 => Same HC1 H5 ∧ H5 Z = some (.lst ((List.range m).map fun k : Nat => V.bl (decide (V.int (k : Int) = V.int (i : Int)))))) ⟨same_upd nZ, upd_same⟩ (fun m H5 hm hv => ?_) (fun H5 hv => ?_)
      · obtain ⟨s5, hZ⟩ := hv
        have m4 : m < 4 := hm
        refine ⟨rfl, _, rfl, .int (i : Nat), rfl, rfl, _, hZ, by rw [List.length_map, List.length_range, sizeLine_eq]; omega, same_put s5 nZ, ?_⟩
        rw [upd_same, List.range_succ, List.map_append, Int.zero_add]
        rfl
      · obtain ⟨s5, hZ⟩ := hv
        refine ⟨v, rfl, v, tv, rfl, (tq.same (sE1.trans s5)).1, by show 2 ≤ sizeLine; decide, fun W nW => ?_⟩
        have s6 : Same H5 (upd H5 W (.lst [.ref Z, .str tv])) := same_upd nW
        have hc2 : CaughtAt (upd H5 W (.lst [.ref Z, .str tv])) W i tv := by
          refine ⟨Z, upd_same, ?_⟩
          rw [s6 _ _ hZ]
          exact congrArg (fun l => some (HO.lst l)) (bools4 i)
        refine ne_of' ((dq_caught hc tq.2).same (s5.trans s6)) (dq_caught hc2 tq.2) ⟨_, rfl, itF (by rw [eqv_caught]; rfl) ?_⟩
        have sDB := sE1.trans (s5.trans s6)
        generalize upd H5 W (.lst [.ref Z, .str tv]) = HB at sDB ⊢
        clear hhd hBad hat hc hc2 s6
        -- handed, 2
        refine ⟨v, rfl, by show 0 ≤ sizeLine; decide, fun q1 nq1 => ?_⟩
        have t21 : Same HB (upd HB q1 (.lst [])) := same_upd nq1
        have hq1 : (upd HB q1 (.lst [])) q1 = some (.lst []) := upd_same
        generalize upd HB q1 (.lst []) = G21 at t21 hq1 ⊢
        have sD21 := sDB.trans t21
        refine ⟨by show 0 ≤ sizeLine; decide, fun q2 nq2 => ?_⟩
        have t22 : Same G21 (upd G21 q2 (.lst [])) := same_upd nq2
        have hq2 : (upd G21 q2 (.lst [])) q2 = some (.lst []) := upd_same
        generalize upd G21 q2 (.lst []) = G22 at t22 hq2 ⊢
        have sD22 := sD21.trans t22
        replace hq1 := t22 _ _ hq1
        refine ⟨by show 3 ≤ sizeLine; decide, fun p0 np0 => ?_⟩
        have t23 : Same G22 (upd G22 p0 (.lst [v, .ref q1, .ref q2])) := same_upd np0
        have hp0 : (upd G22 p0 (.lst [v, .ref q1, .ref q2])) p0 = some (.lst [v, .ref q1, .ref q2]) := upd_same
        generalize upd G22 p0 (.lst [v, .ref q1, .ref q2]) = G23 at t23 hp0 ⊢
        have sD23 := sD22.trans t23
        replace hq1 := t23 _ _ hq1
        replace hq2 := t23 _ _ hq2
        refine ⟨.ref a, rfl, v, rfl, by show 0 ≤ sizeLine; decide, fun q3 nq3 => ?_⟩
        have t24 : Same G23 (upd G23 q3 (.lst [])) := same_upd nq3
        have hq3 : (upd G23 q3 (.lst [])) q3 = some (.lst []) := upd_same
        generalize upd G23 q3 (.lst []) = G24 at t24 hq3 ⊢
        have sD24 := sD23.trans t24
        replace hq1 := t24 _ _ hq1
        replace hq2 := t24 _ _ hq2
        replace hp0 := t24 _ _ hp0
        refine ⟨by show 3 ≤ sizeLine; decide, fun p1 np1 => ?_⟩
        have t25 : Same G24 (upd G24 p1 (.lst [.ref a, v, .ref q3])) := same_upd np1
        have hp1 : (upd G24 p1 (.lst [.ref a, v, .ref q3])) p1 = some (.lst [.ref a, v, .ref q3]) := upd_same
        generalize upd G24 p1 (.lst [.ref a, v, .ref q3]) = G25 at t25 hp1 ⊢
        have sD25 := sD24.trans t25
        replace hq1 := t25 _ _ hq1
        replace hq2 := t25 _ _ hq2
        replace hp0 := t25 _ _ hp0
        replace hq3 := t25 _ _ hq3
        refine ⟨.ref a, rfl, by show 0 ≤ sizeLine; decide, fun q0 nq0 => ?_⟩
        have t26 : Same G25 (upd G25 q0 (.lst [])) := same_upd nq0
        have hq0 : (upd G25 q0 (.lst [])) q0 = some (.lst []) := upd_same
        generalize upd G25 q0 (.lst []) = G26 at t26 hq0 ⊢
        have sD26 := sD25.trans t26
        replace hq1 := t26 _ _ hq1
        replace hq2 := t26 _ _ hq2
        replace hp0 := t26 _ _ hp0
        replace hq3 := t26 _ _ hq3
        replace hp1 := t26 _ _ hp1
        refine ⟨v, rfl, by show 3 ≤ sizeLine; decide, fun p2 np2 => ?_⟩
        have t27 : Same G26 (upd G26 p2 (.lst [.ref a, .ref q0, v])) := same_upd np2
        have hp2 : (upd G26 p2 (.lst [.ref a, .ref q0, v])) p2 = some (.lst [.ref a, .ref q0, v]) := upd_same
        generalize upd G26 p2 (.lst [.ref a, .ref q0, v]) = G27 at t27 hp2 ⊢
        have sD27 := sD26.trans t27
        replace hq1 := t27 _ _ hq1
        replace hq2 := t27 _ _ hq2
        replace hp0 := t27 _ _ hp0
        replace hq3 := t27 _ _ hq3
        replace hp1 := t27 _ _ hp1
        replace hq0 := t27 _ _ hq0
        refine ⟨by show 3 ≤ sizeLine; decide, fun hh nhh => ?_⟩
        have t28 : Same G27 (upd G27 hh (.lst [.ref p0, .ref p1, .ref p2])) := same_upd nhh
        have hhh : (upd G27 hh (.lst [.ref p0, .ref p1, .ref p2])) hh = some (.lst [.ref p0, .ref p1, .ref p2]) := upd_same
        generalize upd G27 hh (.lst [.ref p0, .ref p1, .ref p2]) = G28 at t28 hhh ⊢
        have sD28 := sD27.trans t28
        replace hq1 := t28 _ _ hq1
        replace hq2 := t28 _ _ hq2
        replace hp0 := t28 _ _ hp0
        replace hq3 := t28 _ _ hq3
        replace hp1 := t28 _ _ hp1
        replace hq0 := t28 _ _ hq0
        replace hp2 := t28 _ _ hp2
        have lt2 := lt0.same sD28
        have bv2 := bv.same sD28
        obtain ⟨hd, vl, vr, vp, hat, hhd, hBad⟩ : ∃ hd vl vr vp, atI [V.ref p0, .ref p1, .ref p2] ((i : Nat) : Int) = some (.ref hd) ∧ G28 hd = some (.lst [vl, vr, vp]) ∧ Bad K CL vl vr vp G28 i v := by
          match i, i3, bv2 with
          | 0, _, bv2 => exact ⟨p0, _, _, _, atI_nat (j := 0) rfl, hp0, .inl ⟨rfl, rfl, bv2.any⟩⟩
          | 1, _, bv2 => exact ⟨p1, _, _, _, atI_nat (j := 1) rfl, hp1, .inr ⟨a, held, st, rfl, lt2, .inl ⟨rfl, rfl, bv2.row⟩⟩⟩
          | 2, _, bv2 => exact ⟨p2, _, _, _, atI_nat (j := 2) rfl, hp2, .inr ⟨a, held, st, rfl, lt2, .inr ⟨q0, [], rfl, sqL_of hq0, ⟨by decide, by decide⟩, .inl ⟨rfl, rfl, bv2.pl⟩⟩⟩⟩
        refine ⟨.int (i : Nat), rfl, hh, _, ((i : Nat) : Int), .ref hd, rfl, rfl, sqL_of hhh, hat, ?_⟩
        refine ⟨.ref hd, rfl, hd, _, 0, vl, rfl, rfl, sqL_of hhd, rfl, .ref hd, rfl, hd, _, 1, vr, rfl, rfl, sqL_of hhd, rfl, .ref hd, rfl, hd, _, 2, vp, rfl, rfl, sqL_of hhd, rfl, ?_⟩
        refine ⟨vl, vr, vp, i, v, tv, rfl, by omega, hBad, (tq.same sD28).1, fun HC2 pc sc hc => ?_⟩
        have sE2 := sD28.trans sc
        refine ⟨4, rfl, by decide, by decide, fun Z nZ => ?_⟩
        refine lc_range (fun m H5 => Same HC2 H5 ∧ H5 Z = some (.lst ((List.range m).map fun k : Nat => V.bl (decide (V.int (k : Int) = V.int (i : Int)))))) ⟨same_upd nZ, upd_same⟩ (fun m H5 hm hv => ?_) (fun H5 hv => ?_)
        · obtain ⟨s5, hZ⟩ := hv
          have m4 : m < 4 := hm
          refine ⟨rfl, _, rfl, .int (i : Nat), rfl, rfl, _, hZ, by rw [List.length_map, List.length_range, sizeLine_eq]; omega, same_put s5 nZ, ?_⟩
          rw [upd_same, List.range_succ, List.map_append, Int.zero_add]
          rfl
        · obtain ⟨s5, hZ⟩ := hv
          refine ⟨v, rfl, v, tv, rfl, (tq.same (sE2.trans s5)).1, by show 2 ≤ sizeLine; decide, fun W nW => ?_⟩
          have s6 : Same H5 (upd H5 W (.lst [.ref Z, .str tv])) := same_upd nW
          have hc2 : CaughtAt (upd H5 W (.lst [.ref Z, .str tv])) W i tv := by
            refine ⟨Z, upd_same, ?_⟩
            rw [s6 _ _ hZ]
            exact congrArg (fun l => some (HO.lst l)) (bools4 i)
          refine ne_of' ((dq_caught hc tq.2).same (s5.trans s6)) (dq_caught hc2 tq.2) ⟨_, rfl, itF (by rw [eqv_caught]; rfl) ?_⟩
          exact ⟨_, _, _, rfl, sE2.trans (s5.trans s6)⟩
    · obtain ⟨_, _, _, rfl, sD⟩ := hv
      exact ⟨_, _, _, _, _, rfl, sD⟩
  · obtain ⟨_, _, _, _, _, rfl, sB⟩ := hv
    refine ⟨1, rfl, by show 1 ≤ sizeLine; decide, fun x2 nx2 => ?_⟩
    have c1 : Same H1 (upd H1 x2 (.lst [.int 0])) := same_upd nx2
    have hx2 : (upd H1 x2 (.lst [.int 0])) x2 = some (.lst [.int 0]) := upd_same
    generalize upd H1 x2 (.lst [.int 0]) = J1 at c1 hx2 ⊢
    refine ⟨by show 6 ≤ sizeLine; decide, fun L2 nL2 => ?_⟩
    have c2 : Same J1 (upd J1 L2 (.lst [.non, .bl true, .int (-1), .int 3, .str "0", .ref x2])) := same_upd nL2
    have hL2 : (upd J1 L2 (.lst [.non, .bl true, .int (-1), .int 3, .str "0", .ref x2])) L2 = some (.lst [.non, .bl true, .int (-1), .int 3, .str "0", .ref x2]) := upd_same
    generalize upd J1 L2 (.lst [.non, .bl true, .int (-1), .int 3, .str "0", .ref x2]) = J2 at c2 hL2 ⊢
    replace hx2 := c2 _ _ hx2
    have sJ := sA.trans (sB.trans (c1.trans c2))
    have ltJ := lt.same sJ
    have allB : ∀ v ∈ [V.non, .bl true, .int (-1), .int 3, .str "0", .ref x2], BadV K J2 (letD held st) [4, 4, 4] v := fun v hv => by
      simp only [List.mem_cons, List.not_mem_nil, or_false] at hv
      rcases hv with rfl | rfl | rfl | rfl | rfl | rfl
      · exact badV_non
      · exact badV_bl true
      · exact badV_neg
      · exact badV_int (k := 3) (deed_none (by decide)) (by decide)
      · exact ⟨rfl, ⟨_, Kn.str K _ _⟩, (ba_str 0 (by rw [sizeLine_eq]; decide +kernel) (by decide +kernel)).tx⟩
      · exact badV_l0 hx2
    refine ⟨L2, rfl, ⟨_, sqL_of hL2⟩, ?_⟩
    refine for_list (xs := [V.non, .bl true, .int (-1), .int 3, .str "0", .ref x2]) (fun j σ H2 => ∃ y1 y2 y3 y4 y5, σ = [some (.ref a), y1, y2, y3, y4, y5] ∧ Same J2 H2) ⟨_, _, _, _, _, rfl, Same.refl _⟩ (fun j σ H2 _ ⟨_, _, _, _, _, _, s⟩ => sqL_of (s _ _ hL2)) (fun j v σ H2 hv' hv => ?_) (fun σ H2 hv => ?_)
    · obtain ⟨_, _, _, _, _, rfl, sK⟩ := hv
      have bv := (allB v (List.mem_of_getElem? hv')).same sK
      obtain ⟨tv, tq⟩ := bv.tx
      obtain ⟨nv, knv⟩ := bv.kn
      refine ⟨.ref a, rfl, by show 3 ≤ sizeLine; decide, fun r4 nr4 => ?_⟩
      have d1 : Same H2 (upd H2 r4 (.lst [.int 4, .int 4, .int 4])) := same_upd nr4
      have hr4 : (upd H2 r4 (.lst [.int 4, .int 4, .int 4])) r4 = some (.lst [.int 4, .int 4, .int 4]) := upd_same
      generalize upd H2 r4 (.lst [.int 4, .int 4, .int 4]) = M1 at d1 hr4 ⊢
      refine ⟨v, rfl, by show 2 ≤ sizeLine; decide, fun p4 np4 => ?_⟩
      have d2 : Same M1 (upd M1 p4 (.lst [v, .non])) := same_upd np4
      have hp4 : (upd M1 p4 (.lst [v, .non])) p4 = some (.lst [v, .non]) := upd_same
      generalize upd M1 p4 (.lst [v, .non]) = M2 at d2 hp4 ⊢
      have d12 := d1.trans d2
      refine ⟨.ref a, .ref r4, .ref p4, 3, v, tv, rfl, by decide, .inr ⟨a, held, st, rfl, ltJ.same (sK.trans d12), .inr ⟨r4, [4, 4, 4], rfl, sqL_of (d2 _ _ hr4), ⟨by decide, by decide⟩, .inr ⟨rfl, p4, _, rfl, sqL_of hp4, fun x hx => ?_, ?_⟩⟩⟩, (tq.same d12).1, fun M3 pc sc hc => ?_⟩
      · simp only [List.mem_cons, List.not_mem_nil, or_false] at hx
        rcases hx with rfl | rfl
        · exact ⟨nv, knv.same d12⟩
        · exact ⟨_, Kn.non K _⟩
      · show (match deedV (letD held st) [4, 4, 4] v with | some l' => ledV (letD held st) l' [.non] | none => .inr v) = .inr v
        rw [bv.no]
      · refine ⟨by show 4 ≤ sizeLine; decide, fun q5 nq5 => ?_⟩
        have d3 : Same M3 (upd M3 q5 (.lst [.bl false, .bl false, .bl false, .bl true])) := same_upd nq5
        have hq5 : (upd M3 q5 (.lst [.bl false, .bl false, .bl false, .bl true])) q5 = some (.lst [.bl false, .bl false, .bl false, .bl true]) := upd_same
        generalize upd M3 q5 (.lst [.bl false, .bl false, .bl false, .bl true]) = M4 at d3 hq5 ⊢
        have d14 := d12.trans (sc.trans d3)
        refine ⟨v, rfl, v, tv, rfl, (tq.same d14).1, by show 2 ≤ sizeLine; decide, fun W nW => ?_⟩
        have d5 : Same M4 (upd M4 W (.lst [.ref q5, .str tv])) := same_upd nW
        have hc2 : CaughtAt (upd M4 W (.lst [.ref q5, .str tv])) W 3 tv := ⟨q5, upd_same, d5 _ _ hq5⟩
        refine ne_of' ((dq_caught hc tq.2).same (d3.trans d5)) (dq_caught hc2 tq.2) ⟨_, rfl, itF (by rw [eqv_caught]; rfl) ?_⟩
        exact ⟨_, _, _, _, _, rfl, sK.trans (d14.trans d5)⟩
    · obtain ⟨_, _, _, _, _, rfl, sK⟩ := hv
      exact q H2 (sJ.trans sK)
end
end Gs


/-! The law. -/
namespace Gs
open PySem PySem.Spec PyProof.Rows L2
theorem sc_law : FnScope ["_law_script", "_law_index", "_law_generator_here", "_law_way", "_law_lets_here", "_law_turn", "_law_length", "_law_most", "_law_row", "_law_place"] ["_law_script"] (defScope (top 46)) := ⟨rfl, rfl, rfl, by decide +kernel, rfl, by decide +kernel, by decide +kernel⟩
theorem sg_out {g : Addr} {H H0 H1 : Hp} (ng : H g = none) (s : Same H H0) (s1 : Sg g H0 H1) : Same H H1 := fun b o e => s1 b o (ne_of_none e ng) (s b o e)
section
variable {P : Program} {w : World} {K : PySem.W.Frag} {mg : Str → Option Value} {base : Heap} {CL : Addr} {D : Dx} {C0 : Addr}
def spLaw (K : PySem.W.Frag) : Sp := fun vs H Q _ => ∃ (sc : Addr) (ns : List Int), vs = [.ref sc] ∧ SqL K H sc (ns.map V.int) ∧ ∀ H', Q (.bl true) H'
theorem fn_law {f : Addr} {fd : FuncData} (F : Fun K "law" "law" (top 46) f fd) (L : LetsC K mg CL) (Bn : Bns mg)
    (c__law_generator : Cl P w K mg base CX0 2 "_law_generator" (spGenr K)) (c__law_menu : Cl P w K mg base CX0 1 "_law_menu" spMenu) (c__law_random : Cl P w K mg base CX0 2 "_law_random" spRandom) (c__law_lets : Cl P w K mg base CX0 6 "_law_lets" (spLets CL))
    (c__law_drawn_log : Cl P w K mg base CX0 3 "_law_drawn_log" spLog) (c__law_class_right : Cl P w K mg base CX0 4 "_law_class_right" (spClass K)) (c__law_row_right : ClG P w K mg base CX0 9 "_law_row_right" (spRow K CL))
    (c__law_refused : ClG P w K mg base CX0 8 "_law_refused" (spRef CL)) (c__law_caught : ClG P w K mg base (L2.CX P w) 7 "_law_caught" (spCaught K CL)) (c_followed : Cl P w K mg base (L2.CX P w) 6 "followed" (spFol K CL D))
    (c_numbers : ClM P w K mg base CX0 1 CL "numbers" (spNums CL)) (c_start : ClM P w K mg base CX0 1 CL "start" (spStart CL)) (c_eq : ClM P w K mg base CX0 2 CL "__eq__" (spEq (EqL CL))) (cLets : ClI P w K mg base 4 CL (spInit K CL)) :
    Gr.FnG P w K mg base CX0 12 f fd ["_law_script"] (spLaw K) := by
  refine Gr.okG0 F sc_law (fun vs H Q E ⟨sc, ns, e, _⟩ => by rw [e]; rfl) (fun cdv A outer s H vs Q E hg hr h => ?_)
  obtain ⟨sc, ns0, rfl, hSc, q⟩ := h
  have gd : (A.deeper (envOfC "law" (defScope (top 46)) s.heap.objs.size f cdv)).guards = some [] := hg
  have hu64 := hu64_of hr
  refine ⟨_, (pss_cons (ps_for PassesOwn.never rfl (pi_range1 (by rfl) Bn.range (pa_cons pe_int pa_nil)) (pg_name (i := 1) sc_law.nd rfl (.inl rfl))
  (pss_cons (ps_set (i := 2) sc_law.nd rfl (.inr rfl) (pe_cl c__law_generator hr (by decide) (by rfl) pass0 (pa_cons (pv 0) (pa_cons (pv 1) pa_nil))))
  (pss_cons (ps_set (i := 3) sc_law.nd rfl (.inl rfl) (pe_ix ix_list (pe_cl0 c__law_menu hr (by decide) (by rfl) pass0) (pe_cl c__law_random hr (by decide) (by rfl) pass0 (pa_cons (pv 2) (pa_cons pe_int pa_nil))) fun _ _ => rfl))
  (pss_cons (ps_set (i := 4) sc_law.nd rfl (.inl rfl) (pe_cl c__law_lets hr (by decide) (by rfl) pass0 (pa_cons (pv 3) pa_nil)))
  (pss_cons (ps_for PassesOwn.never rfl (pi_range1 (by rfl) Bn.range (pa_cons pe_int pa_nil)) (pg_name (i := 5) sc_law.nd rfl (.inl rfl))
  (pss_cons (ps_set (i := 6) sc_law.nd rfl (.inl rfl) (pe_cl c__law_random hr (by decide) (by rfl) pass0 (pa_cons (pv 2) (pa_cons pe_int pa_nil))))
  (pss_cons (ps_set (i := 7) sc_law.nd rfl (.inr rfl) (pe_ix ix_list (pe_lst (pa_cons pe_int (pa_cons pe_int (pa_cons pe_int (pa_cons pe_int (pa_cons (pe_op Gr.op_powW pe_int pe_int) pa_nil)))))) (pe_cl c__law_random hr (by decide) (by rfl) pass0 (pa_cons (pv 2) (pa_cons pe_int pa_nil))) fun _ _ => rfl))
  (C8.pss_cut (ps_set (i := 8) sc_law.nd rfl (.inl rfl) (pe_ifExp (pt_cmpR op_lt (pv 5) pe_int (nomark _)) (pe_cl c__law_drawn_log hr (by decide) (by rfl) pass0 (pa_cons (pv 2) (pa_cons (pv 6) pa_nil))) (pe_lc rfl sc_law.nd (pi_range1 (by rfl) Bn.range (pa_cons (pv 6) pa_nil)) (own := [("_law_place", 9)]) (by refine blkOk_by ?_; show blkC ["_law_script", "_law_index", "_law_generator_here", "_law_way", "_law_lets_here", "_law_turn", "_law_length", "_law_most", "_law_row", "_law_place"] (defScope (top 46)) _ [("_law_place", 9)] = true; decide +kernel) (fun _ _ _ _ _ => (pg_name (i := 9) sc_law.nd rfl (.inl rfl))) (fun _ _ _ _ _ => pts_nil) (fun _ _ _ _ _ => (pe_cl c__law_random hr (by decide) (by rfl) pass0 (pa_cons (pv 2) (pa_cons (pv 7) pa_nil)))))))
  (pss_one (ps_if (PW.pt (pw_or (pt_not (pt_val (pe_cl c__law_class_right hr (by decide) (by rfl) pass0 (pa_cons (pv 3) (pa_cons (pv 8) pa_nil))))) (pw_or1 (pt_not (pt_val (pe_clG c__law_row_right gd hr (by decide) (by rfl) pass0 (pa_cons (pv 2) (pa_cons (pv 3) (pa_cons (pv 4) (pa_cons (pv 8) pa_nil))))))))))
  (pss_one (ps_ret pe_bl))
  pss_nil))))))
  (pss_cons (ps_if (PW.pt (pw_or (pt_not (pt_val (pe_clG c__law_refused gd hr (by decide) (by rfl) pass0 (pa_cons (pv 4) pa_nil)))) (pw_or1 (pt_cmpR op_notBl (pe_cmpR (op_eqM c_eq hr (by decide)) (pv 4) (pe_cl c__law_lets hr (by decide) (by rfl) pass0 (pa_cons (pv 3) pa_nil)) (nomark _)) pe_bl (nomark _)))))
  (pss_one (ps_ret pe_bl))
  pss_nil)
  (pss_one (ps_if (PW.pt (pw_or (pt_cmpR (op_neD hu64) (pe_m0 c_numbers L.cl hr (by decide) pass0 (pv 4)) (pe_m0 c_numbers L.cl hr (by decide) pass0 (pe_cl c__law_lets hr (by decide) (by rfl) pass0 (pa_cons (pv 3) pa_nil))) (nomark _)) (pw_or1 (pt_cmpR op_ne (pe_m0 c_start L.cl hr (by decide) pass0 (pv 4)) (pe_m0 c_start L.cl hr (by decide) pass0 (pe_cl c__law_lets hr (by decide) (by rfl) pass0 (pa_cons (pv 3) pa_nil))) (nomark _)))))
  (pss_one (ps_ret pe_bl))
  pss_nil))))))))
  (pss_cons (ps_if (pt_cmpR (op_neD hu64) (pe_clG c__law_caught gd hr (by decide) (by rfl) (passes_call (E := E0) takes0 (fun _ _ _ _ h => h)) (pa_cons (pe_mkL1 cLets L.gL hr (by decide) (by rfl) (passes_call (E := E0) takes0 (fun _ _ _ _ h => h)) (pa_cons (pe_lst (pa_cons pe_int pa_nil)) pa_nil)) (pa_cons (pe_lst (pa_cons pe_int (pa_cons pe_int pa_nil))) (pa_cons (pe_lst (pa_cons pe_int pa_nil)) pa_nil)))) (pe_lst (pa_cons (pe_lst (pa_cons pe_bl (pa_cons pe_bl (pa_cons pe_bl (pa_cons pe_bl pa_nil))))) (pa_cons pe_str pa_nil))) (nomark _))
  (pss_one (ps_ret pe_bl))
  pss_nil)
  (pss_cons (ps_if (pt_cmpR (op_neD hu64) (pe_clG c__law_caught gd hr (by decide) (by rfl) (passes_call (E := E0) takes0 (fun _ _ _ _ h => h)) (pa_cons (pe_mkL1 cLets L.gL hr (by decide) (by rfl) (passes_call (E := E0) takes0 (fun _ _ _ _ h => h)) (pa_cons (pe_lst (pa_cons pe_int pa_nil)) pa_nil)) (pa_cons (pe_lst (pa_cons pe_int (pa_cons pe_int (pa_cons pe_int (pa_cons pe_int (pa_cons pe_int pa_nil)))))) (pa_cons (pe_lst (pa_cons pe_int (pa_cons pe_int pa_nil))) pa_nil)))) (pe_lst (pa_cons (pe_lst (pa_cons pe_bl (pa_cons pe_bl (pa_cons pe_bl (pa_cons pe_bl pa_nil))))) (pa_cons pe_str pa_nil))) (nomark _))
  (pss_one (ps_ret pe_bl))
  pss_nil)
  (pss_cons (ps_if (pt_cmpR (op_neD hu64) (pe_cl c_followed hr (by decide) (by rfl) (passes_call (E := E0) takes0 (fun _ _ _ _ h => h)) (pa_cons (pe_mkL2 cLets L.gL hr (by decide) (by rfl) (passes_call (E := E0) takes0 (fun _ _ _ _ h => h)) (pa_cons (pe_lst pa_nil) (pa_cons pe_int pa_nil))) (pa_cons (pe_lst (pa_cons pe_int (pa_cons pe_int (pa_cons pe_int pa_nil)))) (pa_cons (pe_lst (pa_cons pe_int (pa_cons pe_int (pa_cons pe_int (pa_cons pe_int (pa_cons pe_int (pa_cons pe_int pa_nil))))))) pa_nil)))) (pe_lst (pa_cons pe_int (pa_cons pe_int (pa_cons pe_int pa_nil)))) (nomark _))
  (pss_one (ps_ret pe_bl))
  pss_nil)
  (pss_one (ps_ret (pe_and (pe_cmpR (op_eqD hu64) (pe_cl c_followed hr (by decide) (by rfl) (passes_call (E := E0) takes0 (fun _ _ _ _ h => h)) (pa_cons (pe_mkL1 cLets L.gL hr (by decide) (by rfl) (passes_call (E := E0) takes0 (fun _ _ _ _ h => h)) (pa_cons (pe_lst (pa_cons pe_int pa_nil)) pa_nil)) (pa_cons (pe_lst (pa_cons pe_int (pa_cons pe_int (pa_cons pe_int (pa_cons pe_int (pa_cons pe_int pa_nil)))))) (pa_cons (pe_lst (pa_cons pe_int (pa_cons pe_int (pa_cons pe_int pa_nil)))) pa_nil)))) (pe_lst (pa_cons pe_int (pa_cons pe_int (pa_cons pe_int (pa_cons pe_int (pa_cons pe_int pa_nil)))))) (nomark _)) (pe_one (pe_cmpR (op_eqD hu64) (pe_cl c_followed hr (by decide) (by rfl) (passes_call (E := E0) takes0 (fun _ _ _ _ h => h)) (pa_cons (pe_mkL1 cLets L.gL hr (by decide) (by rfl) (passes_call (E := E0) takes0 (fun _ _ _ _ h => h)) (pa_cons (pe_lst (pa_cons pe_int pa_nil)) pa_nil)) (pa_cons (pe_lst pa_nil) (pa_cons (pe_lst pa_nil) pa_nil)))) (pe_lst pa_nil) (nomark _)))))))))), ?_⟩
  have two100 : (2 : Nat) ^ 5 ≤ 2 ^ 100 := Nat.pow_le_pow_right (by decide) (by decide)
  have p100 : ((10 : Int) ^ (29 : Int).toNat).natAbs < 2 ^ 100 := by decide +kernel
  have p0 : (0 : Int) < (10 : Int) ^ (29 : Int).toNat := by decide +kernel
  refine ⟨3, rfl, by decide, by decide, ?_⟩
  refine for_range (fun i σ H1 => ∃ y1 y2 y3 y4 y5 y6 y7 y8 y9, σ = [some (.ref sc), y1, y2, y3, y4, y5, y6, y7, y8, y9] ∧ Same H H1) ⟨_, _, _, _, _, _, _, _, _, rfl, Same.refl H⟩ (fun i σ H1 hi hv => ?_) (fun σ H1 hv => ?_)
  · obtain ⟨_, _, _, _, _, _, _, _, _, rfl, s1⟩ := hv
    have i3 : i < 3 := hi
    refine ⟨.ref sc, rfl, _, rfl, sc, ns0, i, by rw [Int.zero_add]; rfl, by omega, s1.seq hSc, fun Hg g sg ng hG => ?_⟩
    -- way
    refine ⟨rfl, fun H2 pm ws s2 npm hpm hws lws => ?_⟩
    have hG2 := hG.same s2
    have pmg : pm ≠ g := gen_ne hG npm
    refine ⟨.ref g, rfl, g, 3000, 16, rfl, hG2, by omega, by omega, by omega, fun H3 z s3 hG3 z1 z2 => ?_⟩
    have hz : z.toNat < ws.length := by omega
    have hw : ws[z.toNat]? = some ws[z.toNat] := List.getElem?_eq_getElem hz
    obtain ⟨t, ns, st, ew, wy0⟩ := hws _ (List.mem_of_getElem? hw)
    rw [ew] at hw
    have wy3 : Way (hid g H3) t ns st := wy0.same fun b o e => by
      obtain ⟨e1, e2⟩ := nw_of e
      have bg := gen_ne hG e1
      rw [hid_at bg]
      exact s3 _ _ bg e2
    refine ⟨pm, ws, z, .ref t, rfl, rfl, sqL_of (s3 _ _ pmg hpm), at_of (j := z.toNat) (by omega) hw, ?_⟩
    -- lets
    refine ⟨.ref t, rfl, t, ns, st, rfl, wy3.same (hid_same g H3), fun H4 a s4 na lt4 => ?_⟩
    have wy4 := wy3.same (hid_mono s4 (g := g))
    have hG4 := hG3.same s4
    have eD := lets_same wy0.bn wy0.bs
    have len64 : (fillOf (ns.reverse ++ ns) st).1.length < 64 := by
      have h1 := fillOf_length (ns.reverse ++ ns) st
      have h2 := wy0.len
      rw [List.length_append, List.length_reverse] at h1
      omega
    generalize hh : (fillOf (ns.reverse ++ ns) st).1 = held at lt4 eD len64
    generalize hs : (fillOf (ns.reverse ++ ns) st).2 = st' at lt4 eD
    have sH4 : Same H H4 := sg_out (s1.free ng) ((s1.trans sg).trans s2) (s3.trans (s4.sg g))
    -- five rows
    refine ⟨5, rfl, by decide, by decide, ?_⟩
    refine for_range (fun j σ H5 => ∃ y1 y5 y6 y7 y8 y9, σ = [some (.ref sc), y1, some (.ref g), some (.ref t), some (.ref a), y5, y6, y7, y8, y9] ∧ Sg g H4 H5 ∧ Gen g (3004 + 400 * j) H5) ⟨_, _, _, _, _, _, rfl, Sg.refl g H4, hG4⟩ (fun j σ H5 hj hv => ?_) (fun σ H5 hv => ?_)
    · obtain ⟨_, _, _, _, _, _, rfl, s5, hG5⟩ := hv
      have j5 : j < 5 := hj
      refine ⟨.ref g, rfl, g, 3004 + 400 * j, 7, rfl, hG5, by omega, by omega, by omega, fun H6 z6 s6 hG6 z61 z62 => ?_⟩
      obtain ⟨k, rfl⟩ : ∃ k : Nat, z6 = (k : Int) := ⟨z6.toNat, by omega⟩
      have hk : k < 7 := by omega
      -- most
      refine ⟨10, 29, rfl, rfl, ⟨by decide, by decide⟩, by show 5 ≤ sizeLine; decide, fun pl npl => ?_⟩
      have s7 : Same H6 (upd H6 pl (.lst [.int 5, .int 5, .int 5, .int 3000, .int ((10 : Int) ^ (29 : Int).toNat)])) := same_upd npl
      refine ⟨.ref g, rfl, g, 3004 + 400 * j + 4, 5, rfl, hG6.same s7, by omega, by omega, by omega, fun H8 z8 s8 hG8 z81 z82 => ?_⟩
      have hpl : H8 pl = some (.lst [.int 5, .int 5, .int 5, .int 3000, .int ((10 : Int) ^ (29 : Int).toNat)]) := s8 _ _ (gen_ne hG6 npl) upd_same
      have hz8 : z8.toNat < [V.int 5, .int 5, .int 5, .int 3000, .int ((10 : Int) ^ (29 : Int).toNat)].length := by show z8.toNat < 5; omega
      have a8 : [V.int 5, .int 5, .int 5, .int 3000, .int ((10 : Int) ^ (29 : Int).toNat)][z8.toNat]? = some [V.int 5, .int 5, .int 5, .int 3000, .int ((10 : Int) ^ (29 : Int).toNat)][z8.toNat] := List.getElem?_eq_getElem hz8
      have m8 : ∀ v ∈ [V.int 5, .int 5, .int 5, .int 3000, .int ((10 : Int) ^ (29 : Int).toNat)], ∃ m : Int, v = .int m ∧ 0 < m ∧ m.natAbs < 2 ^ 100 := fun v hv => by
        have big : (2 : Nat) ^ 12 ≤ 2 ^ 100 := Nat.pow_le_pow_right (by decide) (by decide)
        simp only [List.mem_cons, List.not_mem_nil, or_false] at hv
        rcases hv with rfl | rfl | rfl | rfl | rfl
        · exact ⟨5, rfl, by decide, by omega⟩
        · exact ⟨5, rfl, by decide, by omega⟩
        · exact ⟨5, rfl, by decide, by omega⟩
        · exact ⟨3000, rfl, by decide, by omega⟩
        · exact ⟨_, rfl, p0, p100⟩
      obtain ⟨m, em, m1, m2⟩ := m8 _ (List.mem_of_getElem? a8)
      rw [em] at a8
      refine ⟨pl, _, z8, .int m, rfl, rfl, sqL_of hpl, at_of (j := z8.toNat) (by omega) a8, ?_⟩
      have s58 : Sg g H4 H8 := s5.trans (s6.trans ((s7.sg g).trans s8))
      -- the row
      refine ⟨fun σ H9 => ∃ (p : Addr) (l : List Int), ∃ y1 y5 y6 y7 y9, σ = [some (.ref sc), y1, some (.ref g), some (.ref t), some (.ref a), y5, y6, y7, some (.ref p), y9] ∧ Sg g H4 H9 ∧ Gen g (3004 + 400 * j + 36) H9 ∧ p ≠ g ∧ H9 p = some (.lst (l.map V.int)) ∧ l.length ≤ 7 ∧ ∀ x ∈ l, 0 ≤ x, ?_, fun σ H9 hM => ?_⟩
      · refine ⟨_, rfl, _, 2, rfl, rfl, _, rfl, ?_⟩
        by_cases c : (0 : Int) + ((j : Nat) : Int) < 2
        · refine itT (decide_eq_true c) ?_
          refine ⟨.ref g, rfl, .int k, rfl, g, 3004 + 400 * j + 8, k, rfl, by omega, hG8, by omega, fun H9 p l s9 hG9 np hp hl hx => ?_⟩
          exact ⟨p, l, _, _, _, _, _, rfl, s58.trans s9, hG9, gen_ne hG8 np, hp, by omega, hx⟩
        · refine itF (decide_eq_false c) ?_
          refine ⟨.int k, rfl, (k : Int), rfl, by omega, by omega, fun B nB => ?_⟩
          have Bg : B ≠ g := gen_ne hG8 nB
          refine lc_range (fun i H9 => ∃ l : List Int, Sg g H8 H9 ∧ Gen g (3004 + 400 * j + 8 + 4 * i) H9 ∧ H9 B = some (.lst (l.map V.int)) ∧ l.length = i ∧ ∀ x ∈ l, 0 ≤ x) ⟨[], sg_put (Sg.refl g H8) nB, (hG8.same (same_upd nB)).mono (by omega), upd_same, rfl, fun x hx => by cases hx⟩ (fun i H9 hi hv => ?_) (fun H9 hv => ?_)
          · obtain ⟨l, s9, hG9, hB, hl, hx⟩ := hv
            have hi' : i < k := by omega
            refine ⟨rfl, ?_⟩
            refine ⟨.ref g, rfl, .int m, rfl, g, 3004 + 400 * j + 8 + 4 * i, m, rfl, hG9, by omega, m1, m2, fun H10 r s10 hG10 r1 r2 => ?_⟩
            refine ⟨l.map V.int, s10 _ _ Bg hB, by rw [List.length_map]; exact small1000 (by omega), l ++ [r], sg_put (s9.trans s10) nB, ?_, by rw [upd_same, List.map_append]; rfl, by rw [List.length_append, hl]; rfl, fun x h => ?_⟩
            · obtain ⟨a0, sd, c0, hg0, h0⟩ := hG10
              exact ⟨a0, sd, c0, by rw [upd_ne (Ne.symm Bg)]; exact hg0, h0.1, h0.2.1, h0.2.2.1, by have := h0.2.2.2; omega⟩
            · rcases List.mem_append.mp h with h | h
              · exact hx x h
              · rw [List.mem_singleton.mp h]; exact r1
          · obtain ⟨l, s9, hG9, hB, hl, hx⟩ := hv
            rw [show ((k : Int)).toNat = k from Int.toNat_natCast k] at hG9 hl
            exact ⟨B, l, _, _, _, _, _, rfl, s58.trans s9, hG9.mono (by omega), Bg, hB, by omega, hx⟩
      · obtain ⟨p, l, _, _, _, _, _, rfl, s9, hG9, pg, hp, hl, hx⟩ := hM
        have wy9 := wy4.same (hid_sg s9)
        have lt9 := lt4.sg s9 hG4
        have hp9 : hid g H9 p = some (.lst (l.map V.int)) := by rw [hid_at pg]; exact hp
        refine ⟨.ref t, rfl, .ref p, rfl, t, ns, st, p, l, rfl, wy9.same (hid_same g H9), sqL_of hp, hl, fun H10 s10 => ⟨_, rfl, itF rfl ?_⟩⟩
        refine ⟨.ref g, rfl, .ref t, rfl, .ref a, rfl, .ref p, rfl, g, 3004 + 400 * j + 36, t, ns, st, a, held, st', p, l, rfl, hG9.same s10, by omega, wy9.same (hid_mono s10), lt9.same s10, eD, sqL_of (hid_mono s10 _ _ hp9), hl, ⟨by omega, hx⟩, fun H11 s11 hG11 => ⟨_, rfl, itF rfl ?_⟩⟩
        exact ⟨_, _, _, _, _, _, rfl, (same_sg s9 s10).trans s11, hG11.mono (by omega)⟩
    · obtain ⟨_, _, _, _, _, _, rfl, s5, hG5⟩ := hv
      have wy5 := wy4.same (hid_sg s5)
      have lt5 := lt4.sg s5 hG4
      have wyP := wy5.same (hid_same g H5)
      have sH5 : Same H H5 := sg_out (s1.free ng) ((s1.trans sg).trans s2) ((s3.trans (s4.sg g)).trans s5)
      refine ⟨.ref a, rfl, a, held, st', rfl, lt5, fun H6 s6 => ⟨_, rfl, itF rfl ?_⟩⟩
      -- lets == _law_lets(way)
      refine ⟨.ref a, rfl, .ref t, rfl, t, ns, st, rfl, wyP.same s6, fun H7 a2 s7 na2 lt2 => ?_⟩
      rw [hh, hs] at lt2
      have s57 := s6.trans s7
      have lt7 := lt5.same s57
      obtain ⟨dx, hd, e1, e2⟩ := lt7.ex
      obtain ⟨dy, hd2, g1, g2⟩ := lt2.ex
      refine ⟨⟨a, a2, dx, dy, _, _, rfl, rfl, e1, g1, held, st', lt7, lt2, len64⟩, fun H8 s8 => ⟨true, true, rfl, rfl, _, rfl, itF (by decide) ?_⟩⟩
      have s8' : Same H7 H8 := s8
      have s58 := s57.trans s8'
      -- the numbers
      refine ⟨.ref a, rfl, a, dx, _, rfl, s8' _ _ e1, rfl, a, held, st', rfl, lt7.same s8', len64, fun n1 H9 q1 pm1 sr1 s9 hq1 => ?_⟩
      have s59 := s58.trans s9
      refine ⟨.ref t, rfl, t, ns, st, rfl, wyP.same s59, fun H10 a3 s10 na3 lt3 => ?_⟩
      rw [hh, hs] at lt3
      obtain ⟨dz, hd3, g3, g4⟩ := lt3.ex
      refine ⟨a3, dz, _, rfl, g3, rfl, a3, held, st', rfl, lt3, len64, fun n2 H11 q2 pm2 sr2 s11 hq2 => ?_⟩
      have en : n1 = n2 := sorted_one (pm1.trans pm2.symm) sr1 sr2
      subst en
      have s911 := s10.trans s11
      refine ne_of' (dq_ints (sqL_of (s911 _ _ hq1))) (dq_ints (sqL_of hq2)) ⟨_, rfl, itF (by rw [eqv_ints]; simp) ?_⟩
      have s511 := s59.trans s911
      have lt11 := lt5.same s511
      obtain ⟨dw, hd5, g5, g6⟩ := lt11.ex
      -- the starts
      refine ⟨.ref a, rfl, a, dw, _, rfl, g5, rfl, a, held, st', rfl, lt11, ?_⟩
      refine ⟨.ref t, rfl, t, ns, st, rfl, wyP.same s511, fun H12 a4 s12 na4 lt6 => ?_⟩
      rw [hh, hs] at lt6
      obtain ⟨dv, hd7, g7, g8⟩ := lt6.ex
      refine ⟨a4, dv, _, rfl, g7, rfl, a4, held, st', rfl, lt6, by cases st' <;> rfl, _, rfl, itF (by rw [decide_eq_true rfl]; rfl) ?_⟩
      exact ⟨_, _, _, _, _, _, _, _, _, rfl, sH5.trans (s511.trans s12)⟩
  · obtain ⟨_, _, _, _, _, _, _, _, _, rfl, s1⟩ := hv
    clear s1
    have tx0 : ∀ {H' : Hp}, Gr.Tx K H' (.int 0) ("0" : Str) := fun {H'} => by
      have e : (Str.ofString (toString (0 : Int))) = ("0" : Str) := by decide +kernel
      exact e ▸ Gr.Tx.int (by decide)

    refine ⟨by show 1 ≤ sizeLine; decide, fun m1 nm1 => ?_⟩
    have l1 : Same H1 (upd H1 m1 (.lst [.int 1])) := same_upd nm1
    have hm1 : (upd H1 m1 (.lst [.int 1])) m1 = some (.lst [.int 1]) := upd_same
    generalize upd H1 m1 (.lst [.int 1]) = L1 at l1 hm1 ⊢
    refine fun x1 d1 nx1 nd1 ne1 => ⟨x1, m1, none, d1, [1], rfl, upd_same, sqL_of (((same_upd nd1).trans (same_upd (show (upd L1 d1 (.own x1)) x1 = none by rw [upd_ne (Ne.symm ne1)]; exact nx1))) _ _ hm1), by decide, by decide, fun s e => (by cases e), fun K1 sg1 lt1 => ⟨rfl, ?_⟩⟩
    have k1 : Same L1 K1 := fun b o e => sg1 b o (ne_of_none e nx1) (((same_upd nd1).trans (same_upd (show (upd L1 d1 (.own x1)) x1 = none by rw [upd_ne (Ne.symm ne1)]; exact nx1))) _ _ e)
    have eD1 : letD (fillOf [1] none).1 (fillOf [1] none).2 = letD [1] none := (fillOf_let (by decide) (fun s e => (by cases e))).2.2.2
    refine ⟨by show 2 ≤ sizeLine; decide, fun r1 nr1 => ?_⟩
    have l2 : Same K1 (upd K1 r1 (.lst [.int 0, .int 0])) := same_upd nr1
    have hr1 : (upd K1 r1 (.lst [.int 0, .int 0])) r1 = some (.lst [.int 0, .int 0]) := upd_same
    generalize upd K1 r1 (.lst [.int 0, .int 0]) = L2 at l2 hr1 ⊢
    refine ⟨by show 1 ≤ sizeLine; decide, fun p1 np1 => ?_⟩
    have l3 : Same L2 (upd L2 p1 (.lst [.int 0])) := same_upd np1
    have hp1 : (upd L2 p1 (.lst [.int 0])) p1 = some (.lst [.int 0]) := upd_same
    generalize upd L2 p1 (.lst [.int 0]) = L3 at l3 hp1 ⊢
    replace hr1 := l3 _ _ hr1
    refine ⟨.ref x1, .ref r1, .ref p1, 3, .int 0, "0", rfl, by decide, .inr ⟨x1, _, _, rfl, lt1.same (l2.trans l3), .inr ⟨r1, [0, 0], rfl, sqL_of hr1, ⟨by decide, by decide⟩, .inr ⟨rfl, p1, _, rfl, sqL_of hp1, fun x hx => ?_, by rw [eD1]; rfl⟩⟩⟩, tx0, fun C1 pc1 sc1 hc1 => ?_⟩
    · obtain ⟨i, _, rfl⟩ := List.mem_map.mp (show x ∈ ([0] : List Int).map V.int from hx)
      exact ⟨_, Kn.int K _ i⟩
    refine ⟨by show 4 ≤ sizeLine; decide, fun q1 nq1 => ?_⟩
    have l4 : Same C1 (upd C1 q1 (.lst [.bl false, .bl false, .bl false, .bl true])) := same_upd nq1
    have hq1 : (upd C1 q1 (.lst [.bl false, .bl false, .bl false, .bl true])) q1 = some (.lst [.bl false, .bl false, .bl false, .bl true]) := upd_same
    generalize upd C1 q1 (.lst [.bl false, .bl false, .bl false, .bl true]) = L4 at l4 hq1 ⊢
    refine ⟨by show 2 ≤ sizeLine; decide, fun w1 nw1 => ?_⟩
    have l5 : Same L4 (upd L4 w1 (.lst [.ref q1, .str "0"])) := same_upd nw1
    have hw1 : (upd L4 w1 (.lst [.ref q1, .str "0"])) w1 = some (.lst [.ref q1, .str "0"]) := upd_same
    generalize upd L4 w1 (.lst [.ref q1, .str "0"]) = L5 at l5 hw1 ⊢
    refine ne_of' ((dq_caught hc1 (by decide +kernel)).same (l4.trans l5)) (dq_caught (j := 3) ⟨q1, hw1, l5 _ _ hq1⟩ (by decide +kernel)) ⟨_, rfl, itF (by rw [eqv_caught]; rfl) ?_⟩
    refine ⟨by show 1 ≤ sizeLine; decide, fun m2 nm2 => ?_⟩
    have l6 : Same L5 (upd L5 m2 (.lst [.int 1])) := same_upd nm2
    have hm2 : (upd L5 m2 (.lst [.int 1])) m2 = some (.lst [.int 1]) := upd_same
    generalize upd L5 m2 (.lst [.int 1]) = L6 at l6 hm2 ⊢
    refine fun x2 d2 nx2 nd2 ne2 => ⟨x2, m2, none, d2, [1], rfl, upd_same, sqL_of (((same_upd nd2).trans (same_upd (show (upd L6 d2 (.own x2)) x2 = none by rw [upd_ne (Ne.symm ne2)]; exact nx2))) _ _ hm2), by decide, by decide, fun s e => (by cases e), fun K2 sg2 lt2 => ⟨rfl, ?_⟩⟩
    have k2 : Same L6 K2 := fun b o e => sg2 b o (ne_of_none e nx2) (((same_upd nd2).trans (same_upd (show (upd L6 d2 (.own x2)) x2 = none by rw [upd_ne (Ne.symm ne2)]; exact nx2))) _ _ e)
    have eD2 : letD (fillOf [1] none).1 (fillOf [1] none).2 = letD [1] none := (fillOf_let (by decide) (fun s e => (by cases e))).2.2.2
    refine ⟨by show 5 ≤ sizeLine; decide, fun r2 nr2 => ?_⟩
    have l7 : Same K2 (upd K2 r2 (.lst [.int 0, .int 1, .int 0, .int 1, .int 2])) := same_upd nr2
    have hr2 : (upd K2 r2 (.lst [.int 0, .int 1, .int 0, .int 1, .int 2])) r2 = some (.lst [.int 0, .int 1, .int 0, .int 1, .int 2]) := upd_same
    generalize upd K2 r2 (.lst [.int 0, .int 1, .int 0, .int 1, .int 2]) = L7 at l7 hr2 ⊢
    refine ⟨by show 2 ≤ sizeLine; decide, fun p2 np2 => ?_⟩
    have l8 : Same L7 (upd L7 p2 (.lst [.int 1, .int 0])) := same_upd np2
    have hp2 : (upd L7 p2 (.lst [.int 1, .int 0])) p2 = some (.lst [.int 1, .int 0]) := upd_same
    generalize upd L7 p2 (.lst [.int 1, .int 0]) = L8 at l8 hp2 ⊢
    replace hr2 := l8 _ _ hr2
    refine ⟨.ref x2, .ref r2, .ref p2, 3, .int 0, "0", rfl, by decide, .inr ⟨x2, _, _, rfl, lt2.same (l7.trans l8), .inr ⟨r2, [0, 1, 0, 1, 2], rfl, sqL_of hr2, ⟨by decide, by decide⟩, .inr ⟨rfl, p2, _, rfl, sqL_of hp2, fun x hx => ?_, by rw [eD2]; rfl⟩⟩⟩, tx0, fun C2 pc2 sc2 hc2 => ?_⟩
    · obtain ⟨i, _, rfl⟩ := List.mem_map.mp (show x ∈ ([1, 0] : List Int).map V.int from hx)
      exact ⟨_, Kn.int K _ i⟩
    refine ⟨by show 4 ≤ sizeLine; decide, fun q2 nq2 => ?_⟩
    have l9 : Same C2 (upd C2 q2 (.lst [.bl false, .bl false, .bl false, .bl true])) := same_upd nq2
    have hq2 : (upd C2 q2 (.lst [.bl false, .bl false, .bl false, .bl true])) q2 = some (.lst [.bl false, .bl false, .bl false, .bl true]) := upd_same
    generalize upd C2 q2 (.lst [.bl false, .bl false, .bl false, .bl true]) = L9 at l9 hq2 ⊢
    refine ⟨by show 2 ≤ sizeLine; decide, fun w2 nw2 => ?_⟩
    have l10 : Same L9 (upd L9 w2 (.lst [.ref q2, .str "0"])) := same_upd nw2
    have hw2 : (upd L9 w2 (.lst [.ref q2, .str "0"])) w2 = some (.lst [.ref q2, .str "0"]) := upd_same
    generalize upd L9 w2 (.lst [.ref q2, .str "0"]) = L10 at l10 hw2 ⊢
    refine ne_of' ((dq_caught hc2 (by decide +kernel)).same (l9.trans l10)) (dq_caught (j := 3) ⟨q2, hw2, l10 _ _ hq2⟩ (by decide +kernel)) ⟨_, rfl, itF (by rw [eqv_caught]; rfl) ?_⟩
    refine ⟨by show 0 ≤ sizeLine; decide, fun m3 nm3 => ?_⟩
    have l11 : Same L10 (upd L10 m3 (.lst [])) := same_upd nm3
    have hm3 : (upd L10 m3 (.lst [])) m3 = some (.lst []) := upd_same
    generalize upd L10 m3 (.lst []) = L11 at l11 hm3 ⊢
    refine fun x3 d3 nx3 nd3 ne3 => ⟨x3, m3, some 1, d3, [], rfl, upd_same, sqL_of (((same_upd nd3).trans (same_upd (show (upd L11 d3 (.own x3)) x3 = none by rw [upd_ne (Ne.symm ne3)]; exact nx3))) _ _ hm3), by decide, by decide, fun s e => (by cases e; decide), fun K3 sg3 lt3 => ⟨rfl, ?_⟩⟩
    have k3 : Same L11 K3 := fun b o e => sg3 b o (ne_of_none e nx3) (((same_upd nd3).trans (same_upd (show (upd L11 d3 (.own x3)) x3 = none by rw [upd_ne (Ne.symm ne3)]; exact nx3))) _ _ e)
    have eD3 : letD (fillOf [] (some 1)).1 (fillOf [] (some 1)).2 = letD [] (some 1) := (fillOf_let (by decide) (fun s e => (by cases e; decide))).2.2.2
    refine ⟨by show 3 ≤ sizeLine; decide, fun r3 nr3 => ?_⟩
    have l12 : Same K3 (upd K3 r3 (.lst [.int 2, .int 1, .int 0])) := same_upd nr3
    have hr3 : (upd K3 r3 (.lst [.int 2, .int 1, .int 0])) r3 = some (.lst [.int 2, .int 1, .int 0]) := upd_same
    generalize upd K3 r3 (.lst [.int 2, .int 1, .int 0]) = L12 at l12 hr3 ⊢
    refine ⟨by show 6 ≤ sizeLine; decide, fun p3 np3 => ?_⟩
    have l13 : Same L12 (upd L12 p3 (.lst [.int 0, .int 1, .int 0, .int 1, .int 0, .int 1])) := same_upd np3
    have hp3 : (upd L12 p3 (.lst [.int 0, .int 1, .int 0, .int 1, .int 0, .int 1])) p3 = some (.lst [.int 0, .int 1, .int 0, .int 1, .int 0, .int 1]) := upd_same
    generalize upd L12 p3 (.lst [.int 0, .int 1, .int 0, .int 1, .int 0, .int 1]) = L13 at l13 hp3 ⊢
    replace hr3 := l13 _ _ hr3
    refine ⟨_, _, _, rfl, asked_ok (l := [2, 1, 0]) (l' := [2, 1, 0]) (is := [0, 1, 0, 1, 0, 1]) (lt3.same (l12.trans l13)) (sqL_of hr3) ⟨by decide, by decide⟩ (sqL_of hp3) (by rw [eD3]; rfl) fun js3 ej3 F3 f3 sf3 nf3 hf3 => ?_⟩
    cases is_inj ej3
    refine ⟨by show 3 ≤ sizeLine; decide, fun u3 nu3 => ?_⟩
    have l14 : Same F3 (upd F3 u3 (.lst [.int 0, .int 1, .int 2])) := same_upd nu3
    have hu3 : (upd F3 u3 (.lst [.int 0, .int 1, .int 2])) u3 = some (.lst [.int 0, .int 1, .int 2]) := upd_same
    generalize upd F3 u3 (.lst [.int 0, .int 1, .int 2]) = L14 at l14 hu3 ⊢
    refine ne_of' (dq_ints (sqL_of (l14 _ _ hf3))) (dq_ints (l := [0, 1, 2]) (sqL_of hu3)) ⟨_, rfl, itF (by rw [eqv_ints]; decide) ?_⟩
    refine ⟨by show 1 ≤ sizeLine; decide, fun m4 nm4 => ?_⟩
    have l15 : Same L14 (upd L14 m4 (.lst [.int 1])) := same_upd nm4
    have hm4 : (upd L14 m4 (.lst [.int 1])) m4 = some (.lst [.int 1]) := upd_same
    generalize upd L14 m4 (.lst [.int 1]) = L15 at l15 hm4 ⊢
    refine fun x4 d4 nx4 nd4 ne4 => ⟨x4, m4, none, d4, [1], rfl, upd_same, sqL_of (((same_upd nd4).trans (same_upd (show (upd L15 d4 (.own x4)) x4 = none by rw [upd_ne (Ne.symm ne4)]; exact nx4))) _ _ hm4), by decide, by decide, fun s e => (by cases e), fun K4 sg4 lt4 => ⟨rfl, ?_⟩⟩
    have k4 : Same L15 K4 := fun b o e => sg4 b o (ne_of_none e nx4) (((same_upd nd4).trans (same_upd (show (upd L15 d4 (.own x4)) x4 = none by rw [upd_ne (Ne.symm ne4)]; exact nx4))) _ _ e)
    have eD4 : letD (fillOf [1] none).1 (fillOf [1] none).2 = letD [1] none := (fillOf_let (by decide) (fun s e => (by cases e))).2.2.2
    refine ⟨by show 5 ≤ sizeLine; decide, fun r4 nr4 => ?_⟩
    have l16 : Same K4 (upd K4 r4 (.lst [.int 0, .int 1, .int 0, .int 1, .int 2])) := same_upd nr4
    have hr4 : (upd K4 r4 (.lst [.int 0, .int 1, .int 0, .int 1, .int 2])) r4 = some (.lst [.int 0, .int 1, .int 0, .int 1, .int 2]) := upd_same
    generalize upd K4 r4 (.lst [.int 0, .int 1, .int 0, .int 1, .int 2]) = L16 at l16 hr4 ⊢
    refine ⟨by show 3 ≤ sizeLine; decide, fun p4 np4 => ?_⟩
    have l17 : Same L16 (upd L16 p4 (.lst [.int 1, .int 2, .int 3])) := same_upd np4
    have hp4 : (upd L16 p4 (.lst [.int 1, .int 2, .int 3])) p4 = some (.lst [.int 1, .int 2, .int 3]) := upd_same
    generalize upd L16 p4 (.lst [.int 1, .int 2, .int 3]) = L17 at l17 hp4 ⊢
    replace hr4 := l17 _ _ hr4
    refine ⟨_, _, _, rfl, asked_ok (l := [0, 1, 0, 1, 2]) (l' := [0, 0, 1, 2, 4]) (is := [1, 2, 3]) (lt4.same (l16.trans l17)) (sqL_of hr4) ⟨by decide, by decide⟩ (sqL_of hp4) (by rw [eD4]; rfl) fun js4 ej4 F4 f4 sf4 nf4 hf4 => ?_⟩
    cases is_inj ej4
    refine ⟨by show 5 ≤ sizeLine; decide, fun u4 nu4 => ?_⟩
    have l18 : Same F4 (upd F4 u4 (.lst [.int 0, .int 2, .int 3, .int 4, .int 1])) := same_upd nu4
    have hu4 : (upd F4 u4 (.lst [.int 0, .int 2, .int 3, .int 4, .int 1])) u4 = some (.lst [.int 0, .int 2, .int 3, .int 4, .int 1]) := upd_same
    generalize upd F4 u4 (.lst [.int 0, .int 2, .int 3, .int 4, .int 1]) = L18 at l18 hu4 ⊢
    refine eq_of (dq_ints (sqL_of (l18 _ _ hf4))) (dq_ints (l := [0, 2, 3, 4, 1]) (sqL_of hu4)) ⟨_, rfl, itT (by rw [eqv_ints]; decide) ?_⟩
    refine ⟨by show 1 ≤ sizeLine; decide, fun m5 nm5 => ?_⟩
    have l19 : Same L18 (upd L18 m5 (.lst [.int 1])) := same_upd nm5
    have hm5 : (upd L18 m5 (.lst [.int 1])) m5 = some (.lst [.int 1]) := upd_same
    generalize upd L18 m5 (.lst [.int 1]) = L19 at l19 hm5 ⊢
    refine fun x5 d5 nx5 nd5 ne5 => ⟨x5, m5, none, d5, [1], rfl, upd_same, sqL_of (((same_upd nd5).trans (same_upd (show (upd L19 d5 (.own x5)) x5 = none by rw [upd_ne (Ne.symm ne5)]; exact nx5))) _ _ hm5), by decide, by decide, fun s e => (by cases e), fun K5 sg5 lt5 => ⟨rfl, ?_⟩⟩
    have k5 : Same L19 K5 := fun b o e => sg5 b o (ne_of_none e nx5) (((same_upd nd5).trans (same_upd (show (upd L19 d5 (.own x5)) x5 = none by rw [upd_ne (Ne.symm ne5)]; exact nx5))) _ _ e)
    have eD5 : letD (fillOf [1] none).1 (fillOf [1] none).2 = letD [1] none := (fillOf_let (by decide) (fun s e => (by cases e))).2.2.2
    refine ⟨by show 0 ≤ sizeLine; decide, fun r5 nr5 => ?_⟩
    have l20 : Same K5 (upd K5 r5 (.lst [])) := same_upd nr5
    have hr5 : (upd K5 r5 (.lst [])) r5 = some (.lst []) := upd_same
    generalize upd K5 r5 (.lst []) = L20 at l20 hr5 ⊢
    refine ⟨by show 0 ≤ sizeLine; decide, fun p5 np5 => ?_⟩
    have l21 : Same L20 (upd L20 p5 (.lst [])) := same_upd np5
    have hp5 : (upd L20 p5 (.lst [])) p5 = some (.lst []) := upd_same
    generalize upd L20 p5 (.lst []) = L21 at l21 hp5 ⊢
    replace hr5 := l21 _ _ hr5
    refine ⟨_, _, _, rfl, asked_ok (l := []) (l' := []) (is := []) (lt5.same (l20.trans l21)) (sqL_of hr5) ⟨by decide, by decide⟩ (sqL_of hp5) (by rw [eD5]; rfl) fun js5 ej5 F5 f5 sf5 nf5 hf5 => ?_⟩
    cases is_inj ej5
    refine ⟨by show 0 ≤ sizeLine; decide, fun u5 nu5 => ?_⟩
    have l22 : Same F5 (upd F5 u5 (.lst [])) := same_upd nu5
    have hu5 : (upd F5 u5 (.lst [])) u5 = some (.lst []) := upd_same
    generalize upd F5 u5 (.lst []) = L22 at l22 hu5 ⊢
    refine eq_of (dq_ints (sqL_of (l22 _ _ hf5))) (dq_ints (l := []) (sqL_of hu5)) ?_
    rw [eqv_ints]
    exact q _
end
end Gs


/-! From what the written part says to the law's promise. -/
namespace Gs
open PySem PySem.Spec PyProof.Rows L2
theorem sup_of {K : PySem.W.Frag} {C C0 : Addr} {oc oc0 : Value} {od od0 : Option Addr} {cd cd0 : ClassData} {sl sl0 : Array (Option Value)} {bm0 : List Value} {r : Option (Option Value)} (hC : K.lookup C = some ⟨oc, od, .cls cd, sl⟩) (em : cd.mro = .ref C :: .ref C0 :: bm0)
    (h0 : K.lookup C0 = some ⟨oc0, od0, .cls cd0, sl0⟩) (em0 : cd0.mro = .ref C0 :: bm0) (f : PySem.W.findIn K (.ref C0) "__init__" = r) : PySem.W.ks_superIn K C C "__init__" = r := by
  have e1 : PySem.W.clsIn K C = some cd := by unfold PySem.W.clsIn; rw [hC]
  have e2 : PySem.W.findIn K (.ref C0) "__init__" = PySem.W.alongIn K "__init__" cd0.mro := by
    show (match K.lookup C0 with | some ⟨_, _, .cls cd, _⟩ => PySem.W.alongIn K "__init__" cd.mro | _ => none) = _
    rw [h0]
  unfold PySem.W.ks_superIn
  rw [e1]
  show PySem.W.alongIn K "__init__" ((cd.mro.dropWhile (· != .ref C)).drop 1) = r
  have e3 : (cd.mro.dropWhile (· != .ref C)).drop 1 = .ref C0 :: bm0 := by
    rw [em, List.dropWhile_cons_of_neg (by simp)]
    rfl
  rw [e3, ← em0, ← e2, f]
theorem all_mk {l : PySem.W.OpenLaw} {w : World} {K : PySem.W.Frag} {h : Heap} {mg : Str → Option Value} {fa : Addr} (X : K.In h) (G : h.Ns mainGlobals mg) (hfa : mg "law" = some (.ref fa))
    {f_0 : Addr} {od_0 an_0 : Option Addr} {sl_0 : Array (Option Value)} {oc_0 kV_0 dc_0 pm_0 cd_0 ct_0 : Value}
    {f_1 : Addr} {od_1 an_1 : Option Addr} {sl_1 : Array (Option Value)} {oc_1 kV_1 dc_1 pm_1 cd_1 ct_1 : Value}
    {f_2 : Addr} {od_2 an_2 : Option Addr} {sl_2 : Array (Option Value)} {oc_2 kV_2 dc_2 pm_2 cd_2 ct_2 : Value}
    {f_3 : Addr} {od_3 an_3 : Option Addr} {sl_3 : Array (Option Value)} {oc_3 kV_3 dc_3 pm_3 cd_3 ct_3 : Value}
    {f_4 : Addr} {od_4 an_4 : Option Addr} {sl_4 : Array (Option Value)} {oc_4 kV_4 dc_4 pm_4 cd_4 ct_4 : Value}
    {f_5 : Addr} {od_5 an_5 : Option Addr} {sl_5 : Array (Option Value)} {oc_5 kV_5 dc_5 pm_5 cd_5 ct_5 : Value}
    {f_6 : Addr} {od_6 an_6 : Option Addr} {sl_6 : Array (Option Value)} {oc_6 kV_6 dc_6 pm_6 cd_6 ct_6 : Value}
    {f_7 : Addr} {od_7 an_7 : Option Addr} {sl_7 : Array (Option Value)} {oc_7 kV_7 dc_7 pm_7 cd_7 ct_7 : Value}
    {f_8 : Addr} {od_8 an_8 : Option Addr} {sl_8 : Array (Option Value)} {oc_8 kV_8 dc_8 pm_8 cd_8 ct_8 : Value}
    {f_9 : Addr} {od_9 an_9 : Option Addr} {sl_9 : Array (Option Value)} {oc_9 kV_9 dc_9 pm_9 cd_9 ct_9 : Value}
    {f_10 : Addr} {od_10 an_10 : Option Addr} {sl_10 : Array (Option Value)} {oc_10 kV_10 dc_10 pm_10 cd_10 ct_10 : Value}
    {f_11 : Addr} {od_11 an_11 : Option Addr} {sl_11 : Array (Option Value)} {oc_11 kV_11 dc_11 pm_11 cd_11 ct_11 : Value}
    {f_12 : Addr} {od_12 an_12 : Option Addr} {sl_12 : Array (Option Value)} {oc_12 kV_12 dc_12 pm_12 cd_12 ct_12 : Value}
    {f_13 : Addr} {od_13 an_13 : Option Addr} {sl_13 : Array (Option Value)} {oc_13 kV_13 dc_13 pm_13 cd_13 ct_13 : Value}
    {f_14 : Addr} {od_14 an_14 : Option Addr} {sl_14 : Array (Option Value)} {oc_14 kV_14 dc_14 pm_14 cd_14 ct_14 : Value}
    {f_15 : Addr} {od_15 an_15 : Option Addr} {sl_15 : Array (Option Value)} {oc_15 kV_15 dc_15 pm_15 cd_15 ct_15 : Value}
    {f_16 : Addr} {od_16 an_16 : Option Addr} {sl_16 : Array (Option Value)} {oc_16 kV_16 dc_16 pm_16 cd_16 ct_16 : Value}
    {f_17 : Addr} {od_17 an_17 : Option Addr} {sl_17 : Array (Option Value)} {oc_17 kV_17 dc_17 pm_17 cd_17 ct_17 : Value}
    {f_18 : Addr} {od_18 an_18 : Option Addr} {sl_18 : Array (Option Value)} {oc_18 kV_18 dc_18 pm_18 cd_18 ct_18 : Value}
    {f_19 : Addr} {od_19 an_19 : Option Addr} {sl_19 : Array (Option Value)} {oc_19 kV_19 dc_19 pm_19 cd_19 ct_19 : Value}
    {f_20 : Addr} {od_20 an_20 : Option Addr} {sl_20 : Array (Option Value)} {oc_20 kV_20 dc_20 pm_20 cd_20 ct_20 : Value}
    {f_21 : Addr} {od_21 an_21 : Option Addr} {sl_21 : Array (Option Value)} {oc_21 kV_21 dc_21 pm_21 cd_21 ct_21 : Value}
    {f_22 : Addr} {od_22 an_22 : Option Addr} {sl_22 : Array (Option Value)} {oc_22 kV_22 dc_22 pm_22 cd_22 ct_22 : Value}
    {f_23 : Addr} {od_23 an_23 : Option Addr} {sl_23 : Array (Option Value)} {oc_23 kV_23 dc_23 pm_23 cd_23 ct_23 : Value}
    {f_24 : Addr} {od_24 an_24 : Option Addr} {sl_24 : Array (Option Value)} {oc_24 kV_24 dc_24 pm_24 cd_24 ct_24 : Value}
    {f_25 : Addr} {od_25 an_25 : Option Addr} {sl_25 : Array (Option Value)} {oc_25 kV_25 dc_25 pm_25 cd_25 ct_25 : Value}
    {f_26 : Addr} {od_26 an_26 : Option Addr} {sl_26 : Array (Option Value)} {oc_26 kV_26 dc_26 pm_26 cd_26 ct_26 : Value}
    {f_27 : Addr} {od_27 an_27 : Option Addr} {sl_27 : Array (Option Value)} {oc_27 kV_27 dc_27 pm_27 cd_27 ct_27 : Value}
    {f_28 : Addr} {od_28 an_28 : Option Addr} {sl_28 : Array (Option Value)} {oc_28 kV_28 dc_28 pm_28 cd_28 ct_28 : Value}
    {CL : Addr}
    {fm1 : Addr} {odm1 anm1 : Option Addr} {slm1 : Array (Option Value)} {ocm1 kVm1 dcm1 pmm1 cdm1 ctm1 : Value}
    {fm2 : Addr} {odm2 anm2 : Option Addr} {slm2 : Array (Option Value)} {ocm2 kVm2 dcm2 pmm2 cdm2 ctm2 : Value}
    {fm3 : Addr} {odm3 anm3 : Option Addr} {slm3 : Array (Option Value)} {ocm3 kVm3 dcm3 pmm3 cdm3 ctm3 : Value}
    {fm4 : Addr} {odm4 anm4 : Option Addr} {slm4 : Array (Option Value)} {ocm4 kVm4 dcm4 pmm4 cdm4 ctm4 : Value}
    {fm5 : Addr} {odm5 anm5 : Option Addr} {slm5 : Array (Option Value)} {ocm5 kVm5 dcm5 pmm5 cdm5 ctm5 : Value}
    {fm0 : Addr} {odm0 anm0 : Option Addr} {slm0 : Array (Option Value)} {ocm0 dVm0 kVm0 dcm0 pmm0 cdm0 ctm0 : Value} {Tm0 : Addr} {oTm0 : Obj} {nTm0 : Nat}
    {itm0 : List Value}
    {C0 : Addr} {oc0 : Value} {od0 : Option Addr} {cd0 : ClassData} {sl0 : Array (Option Value)} {bm0 : List Value}
    {CN1 fN ccN cdaN : Addr} {nmN qN : Str} {NN : Addr} {bsN bmN : List Value} {snN : List Str} {subN : List Value} {abN : Bool} {colN : Option Bool} {ddN : Option Addr} {m0N m1N m2N m3N m5N : Option Value} {odN anN : Option Addr} {slN : Array (Option Value)} {ocN dVN kVN dcN pmN ctN : Value}
    {cclN clN : Value} {cddN cldN : Option Addr} {ccsN cslN : Array (Option Value)} {vsN : Array Value} {TN : Addr} {oTN : Obj} {nTN : Nat} {itN : List Value} {flN : Str} {tfN : Tok} {p1N p2N p3N q0N q1N q2N q3N q4N q5N r1N r2N r3N r4N : Pos}
    {CR1 fR ccR cdaR : Addr} {nmR qR : Str} {NR : Addr} {bsR bmR : List Value} {snR : List Str} {subR : List Value} {abR : Bool} {colR : Option Bool} {ddR : Option Addr} {m0R m1R m2R m3R m5R : Option Value} {odR anR : Option Addr} {slR : Array (Option Value)} {ocR dVR kVR dcR pmR ctR : Value}
    {cclR clR : Value} {cddR cldR : Option Addr} {ccsR cslR : Array (Option Value)} {vsR : Array Value} {TR : Addr} {oTR : Obj} {nTR : Nat} {itR : List Value} {flR : Str} {tfR : Tok} {p1R p2R p3R q0R q1R q2R q3R q4R q5R r1R r2R r3R r4R : Pos}
    {CL1 fL ccL cdaL : Addr} {nmL qL : Str} {NL : Addr} {bsL bmL : List Value} {snL : List Str} {subL : List Value} {abL : Bool} {colL : Option Bool} {ddL : Option Addr} {m0L m1L m2L m3L m5L : Option Value} {odL anL : Option Addr} {slL : Array (Option Value)} {ocL dVL kVL dcL pmL ctL : Value}
    {cclL clL : Value} {cddL cldL : Option Addr} {ccsL cslL : Array (Option Value)} {vsL : Array Value} {TL : Addr} {oTL : Obj} {nTL : Nat} {itL : List Value} {flL : Str} {tfL : Tok} {p1L p2L p3L q0L q1L q2L q3L q4L q5L r1L r2L r3L r4L : Pos}
    {CI1 fI ccI cdaI : Addr} {nmI qI : Str} {NI : Addr} {bsI bmI : List Value} {snI : List Str} {subI : List Value} {abI : Bool} {colI : Option Bool} {ddI : Option Addr} {m0I m1I m2I m3I m5I : Option Value} {odI anI : Option Addr} {slI : Array (Option Value)} {ocI dVI kVI dcI pmI ctI : Value}
    {cclI clI : Value} {cddI cldI : Option Addr} {ccsI cslI : Array (Option Value)} {vsI : Array Value} {TI : Addr} {oTI : Obj} {nTI : Nat} {itI : List Value} {flI : Str} {tfI : Tok} {p1I p2I p3I q0I q1I q2I q3I q4I q5I r1I r2I r3I r4I : Pos}
    {CP1 fP ccP cdaP : Addr} {nmP qP : Str} {NP : Addr} {bsP bmP : List Value} {snP : List Str} {subP : List Value} {abP : Bool} {colP : Option Bool} {ddP : Option Addr} {m0P m1P m2P m3P m5P : Option Value} {odP anP : Option Addr} {slP : Array (Option Value)} {ocP dVP kVP dcP pmP ctP : Value}
    {cclP clP : Value} {cddP cldP : Option Addr} {ccsP cslP : Array (Option Value)} {vsP : Array Value} {TP : Addr} {oTP : Obj} {nTP : Nat} {itP : List Value} {flP : Str} {tfP : Tok} {p1P p2P p3P q0P q1P q2P q3P q4P q5P r1P r2P r3P r4P : Pos}
    {tMOST_LENGTH : Tok}
    {tMOST_NUMBERS : Tok}
    {tMOST_COUNT : Tok}
    (a_0 : PySem.W.nsIn K mainGlobals "is_whole" = some (some (.ref f_0)))
    (l_0 : K.lookup f_0 = some ⟨oc_0, od_0, .func (PySem.W.fnOf "is_whole" "is_whole" (defArgs (top 9)) (defBody (top 9)) (defScope (top 9)) .none kV_0 dc_0 pm_0 an_0 cd_0 ct_0), sl_0⟩)
    (c_0 : PySem.W.codeIn K cd_0 "is_whole" = true)
    (k_0 : PySem.W.keepIn K (.ref f_0) = true)
    (a_1 : PySem.W.nsIn K mainGlobals "is_between" = some (some (.ref f_1)))
    (l_1 : K.lookup f_1 = some ⟨oc_1, od_1, .func (PySem.W.fnOf "is_between" "is_between" (defArgs (top 10)) (defBody (top 10)) (defScope (top 10)) .none kV_1 dc_1 pm_1 an_1 cd_1 ct_1), sl_1⟩)
    (c_1 : PySem.W.codeIn K cd_1 "is_between" = true)
    (k_1 : PySem.W.keepIn K (.ref f_1) = true)
    (a_2 : PySem.W.nsIn K mainGlobals "is_row_list" = some (some (.ref f_2)))
    (l_2 : K.lookup f_2 = some ⟨oc_2, od_2, .func (PySem.W.fnOf "is_row_list" "is_row_list" (defArgs (top 11)) (defBody (top 11)) (defScope (top 11)) .none kV_2 dc_2 pm_2 an_2 cd_2 ct_2), sl_2⟩)
    (c_2 : PySem.W.codeIn K cd_2 "is_row_list" = true)
    (k_2 : PySem.W.keepIn K (.ref f_2) = true)
    (a_3 : PySem.W.nsIn K mainGlobals "check_row" = some (some (.ref f_3)))
    (l_3 : K.lookup f_3 = some ⟨oc_3, od_3, .func (PySem.W.fnOf "check_row" "check_row" (defArgs (top 12)) (defBody (top 12)) (defScope (top 12)) .none kV_3 dc_3 pm_3 an_3 cd_3 ct_3), sl_3⟩)
    (c_3 : PySem.W.codeIn K cd_3 "check_row" = true)
    (k_3 : PySem.W.keepIn K (.ref f_3) = true)
    (a_4 : PySem.W.nsIn K mainGlobals "check_lets" = some (some (.ref f_4)))
    (l_4 : K.lookup f_4 = some ⟨oc_4, od_4, .func (PySem.W.fnOf "check_lets" "check_lets" (defArgs (top 17)) (defBody (top 17)) (defScope (top 17)) .none kV_4 dc_4 pm_4 an_4 cd_4 ct_4), sl_4⟩)
    (c_4 : PySem.W.codeIn K cd_4 "check_lets" = true)
    (k_4 : PySem.W.keepIn K (.ref f_4) = true)
    (a_5 : PySem.W.nsIn K mainGlobals "exchanged" = some (some (.ref f_5)))
    (l_5 : K.lookup f_5 = some ⟨oc_5, od_5, .func (PySem.W.fnOf "exchanged" "exchanged" (defArgs (top 19)) (defBody (top 19)) (defScope (top 19)) .none kV_5 dc_5 pm_5 an_5 cd_5 ct_5), sl_5⟩)
    (c_5 : PySem.W.codeIn K cd_5 "exchanged" = true)
    (k_5 : PySem.W.keepIn K (.ref f_5) = true)
    (a_6 : PySem.W.nsIn K mainGlobals "row_behind" = some (some (.ref f_6)))
    (l_6 : K.lookup f_6 = some ⟨oc_6, od_6, .func (PySem.W.fnOf "row_behind" "row_behind" (defArgs (top 20)) (defBody (top 20)) (defScope (top 20)) .none kV_6 dc_6 pm_6 an_6 cd_6 ct_6), sl_6⟩)
    (c_6 : PySem.W.codeIn K cd_6 "row_behind" = true)
    (k_6 : PySem.W.keepIn K (.ref f_6) = true)
    (a_7 : PySem.W.nsIn K mainGlobals "led_by" = some (some (.ref f_7)))
    (l_7 : K.lookup f_7 = some ⟨oc_7, od_7, .func (PySem.W.fnOf "led_by" "led_by" (defArgs (top 21)) (defBody (top 21)) (defScope (top 21)) .none kV_7 dc_7 pm_7 an_7 cd_7 ct_7), sl_7⟩)
    (c_7 : PySem.W.codeIn K cd_7 "led_by" = true)
    (k_7 : PySem.W.keepIn K (.ref f_7) = true)
    (a_8 : PySem.W.nsIn K mainGlobals "led" = some (some (.ref f_8)))
    (l_8 : K.lookup f_8 = some ⟨oc_8, od_8, .func (PySem.W.fnOf "led" "led" (defArgs (top 22)) (defBody (top 22)) (defScope (top 22)) .none kV_8 dc_8 pm_8 an_8 cd_8 ct_8), sl_8⟩)
    (c_8 : PySem.W.codeIn K cd_8 "led" = true)
    (k_8 : PySem.W.keepIn K (.ref f_8) = true)
    (a_9 : PySem.W.nsIn K mainGlobals "followed" = some (some (.ref f_9)))
    (l_9 : K.lookup f_9 = some ⟨oc_9, od_9, .func (PySem.W.fnOf "followed" "followed" (defArgs (top 23)) (defBody (top 23)) (defScope (top 23)) .none kV_9 dc_9 pm_9 an_9 cd_9 ct_9), sl_9⟩)
    (c_9 : PySem.W.codeIn K cd_9 "followed" = true)
    (k_9 : PySem.W.keepIn K (.ref f_9) = true)
    (a_10 : PySem.W.nsIn K mainGlobals "_law_hash" = some (some (.ref f_10)))
    (l_10 : K.lookup f_10 = some ⟨oc_10, od_10, .func (PySem.W.fnOf "_law_hash" "_law_hash" (defArgs (top 25)) (defBody (top 25)) (defScope (top 25)) .none kV_10 dc_10 pm_10 an_10 cd_10 ct_10), sl_10⟩)
    (c_10 : PySem.W.codeIn K cd_10 "_law_hash" = true)
    (k_10 : PySem.W.keepIn K (.ref f_10) = true)
    (a_11 : PySem.W.nsIn K mainGlobals "_law_random" = some (some (.ref f_11)))
    (l_11 : K.lookup f_11 = some ⟨oc_11, od_11, .func (PySem.W.fnOf "_law_random" "_law_random" (defArgs (top 26)) (defBody (top 26)) (defScope (top 26)) .none kV_11 dc_11 pm_11 an_11 cd_11 ct_11), sl_11⟩)
    (c_11 : PySem.W.codeIn K cd_11 "_law_random" = true)
    (k_11 : PySem.W.keepIn K (.ref f_11) = true)
    (a_12 : PySem.W.nsIn K mainGlobals "_law_cell" = some (some (.ref f_12)))
    (l_12 : K.lookup f_12 = some ⟨oc_12, od_12, .func (PySem.W.fnOf "_law_cell" "_law_cell" (defArgs (top 27)) (defBody (top 27)) (defScope (top 27)) .none kV_12 dc_12 pm_12 an_12 cd_12 ct_12), sl_12⟩)
    (c_12 : PySem.W.codeIn K cd_12 "_law_cell" = true)
    (k_12 : PySem.W.keepIn K (.ref f_12) = true)
    (a_13 : PySem.W.nsIn K mainGlobals "_law_generator" = some (some (.ref f_13)))
    (l_13 : K.lookup f_13 = some ⟨oc_13, od_13, .func (PySem.W.fnOf "_law_generator" "_law_generator" (defArgs (top 28)) (defBody (top 28)) (defScope (top 28)) .none kV_13 dc_13 pm_13 an_13 cd_13 ct_13), sl_13⟩)
    (c_13 : PySem.W.codeIn K cd_13 "_law_generator" = true)
    (k_13 : PySem.W.keepIn K (.ref f_13) = true)
    (a_14 : PySem.W.nsIn K mainGlobals "_law_drawn_log" = some (some (.ref f_14)))
    (l_14 : K.lookup f_14 = some ⟨oc_14, od_14, .func (PySem.W.fnOf "_law_drawn_log" "_law_drawn_log" (defArgs (top 31)) (defBody (top 31)) (defScope (top 31)) .none kV_14 dc_14 pm_14 an_14 cd_14 ct_14), sl_14⟩)
    (c_14 : PySem.W.codeIn K cd_14 "_law_drawn_log" = true)
    (k_14 : PySem.W.keepIn K (.ref f_14) = true)
    (a_15 : PySem.W.nsIn K mainGlobals "_law_menu" = some (some (.ref f_15)))
    (l_15 : K.lookup f_15 = some ⟨oc_15, od_15, .func (PySem.W.fnOf "_law_menu" "_law_menu" (defArgs (top 32)) (defBody (top 32)) (defScope (top 32)) .none kV_15 dc_15 pm_15 an_15 cd_15 ct_15), sl_15⟩)
    (c_15 : PySem.W.codeIn K cd_15 "_law_menu" = true)
    (k_15 : PySem.W.keepIn K (.ref f_15) = true)
    (a_16 : PySem.W.nsIn K mainGlobals "_law_let" = some (some (.ref f_16)))
    (l_16 : K.lookup f_16 = some ⟨oc_16, od_16, .func (PySem.W.fnOf "_law_let" "_law_let" (defArgs (top 33)) (defBody (top 33)) (defScope (top 33)) .none kV_16 dc_16 pm_16 an_16 cd_16 ct_16), sl_16⟩)
    (c_16 : PySem.W.codeIn K cd_16 "_law_let" = true)
    (k_16 : PySem.W.keepIn K (.ref f_16) = true)
    (a_17 : PySem.W.nsIn K mainGlobals "_law_pair" = some (some (.ref f_17)))
    (l_17 : K.lookup f_17 = some ⟨oc_17, od_17, .func (PySem.W.fnOf "_law_pair" "_law_pair" (defArgs (top 34)) (defBody (top 34)) (defScope (top 34)) .none kV_17 dc_17 pm_17 an_17 cd_17 ct_17), sl_17⟩)
    (c_17 : PySem.W.codeIn K cd_17 "_law_pair" = true)
    (k_17 : PySem.W.keepIn K (.ref f_17) = true)
    (a_18 : PySem.W.nsIn K mainGlobals "_law_near" = some (some (.ref f_18)))
    (l_18 : K.lookup f_18 = some ⟨oc_18, od_18, .func (PySem.W.fnOf "_law_near" "_law_near" (defArgs (top 35)) (defBody (top 35)) (defScope (top 35)) .none kV_18 dc_18 pm_18 an_18 cd_18 ct_18), sl_18⟩)
    (c_18 : PySem.W.codeIn K cd_18 "_law_near" = true)
    (k_18 : PySem.W.keepIn K (.ref f_18) = true)
    (a_19 : PySem.W.nsIn K mainGlobals "_law_lets" = some (some (.ref f_19)))
    (l_19 : K.lookup f_19 = some ⟨oc_19, od_19, .func (PySem.W.fnOf "_law_lets" "_law_lets" (defArgs (top 37)) (defBody (top 37)) (defScope (top 37)) .none kV_19 dc_19 pm_19 an_19 cd_19 ct_19), sl_19⟩)
    (c_19 : PySem.W.codeIn K cd_19 "_law_lets" = true)
    (k_19 : PySem.W.keepIn K (.ref f_19) = true)
    (a_20 : PySem.W.nsIn K mainGlobals "_law_exchanged" = some (some (.ref f_20)))
    (l_20 : K.lookup f_20 = some ⟨oc_20, od_20, .func (PySem.W.fnOf "_law_exchanged" "_law_exchanged" (defArgs (top 38)) (defBody (top 38)) (defScope (top 38)) .none kV_20 dc_20 pm_20 an_20 cd_20 ct_20), sl_20⟩)
    (c_20 : PySem.W.codeIn K cd_20 "_law_exchanged" = true)
    (k_20 : PySem.W.keepIn K (.ref f_20) = true)
    (a_21 : PySem.W.nsIn K mainGlobals "_law_class_right" = some (some (.ref f_21)))
    (l_21 : K.lookup f_21 = some ⟨oc_21, od_21, .func (PySem.W.fnOf "_law_class_right" "_law_class_right" (defArgs (top 39)) (defBody (top 39)) (defScope (top 39)) .none kV_21 dc_21 pm_21 an_21 cd_21 ct_21), sl_21⟩)
    (c_21 : PySem.W.codeIn K cd_21 "_law_class_right" = true)
    (k_21 : PySem.W.keepIn K (.ref f_21) = true)
    (a_22 : PySem.W.nsIn K mainGlobals "_law_walk" = some (some (.ref f_22)))
    (l_22 : K.lookup f_22 = some ⟨oc_22, od_22, .func (PySem.W.fnOf "_law_walk" "_law_walk" (defArgs (top 40)) (defBody (top 40)) (defScope (top 40)) .none kV_22 dc_22 pm_22 an_22 cd_22 ct_22), sl_22⟩)
    (c_22 : PySem.W.codeIn K cd_22 "_law_walk" = true)
    (k_22 : PySem.W.keepIn K (.ref f_22) = true)
    (a_23 : PySem.W.nsIn K mainGlobals "_law_row_right" = some (some (.ref f_23)))
    (l_23 : K.lookup f_23 = some ⟨oc_23, od_23, .func (PySem.W.fnOf "_law_row_right" "_law_row_right" (defArgs (top 41)) (defBody (top 41)) (defScope (top 41)) .none kV_23 dc_23 pm_23 an_23 cd_23 ct_23), sl_23⟩)
    (c_23 : PySem.W.codeIn K cd_23 "_law_row_right" = true)
    (k_23 : PySem.W.keepIn K (.ref f_23) = true)
    (a_24 : PySem.W.nsIn K mainGlobals "_law_bad_place_right" = some (some (.ref f_24)))
    (l_24 : K.lookup f_24 = some ⟨oc_24, od_24, .func (PySem.W.fnOf "_law_bad_place_right" "_law_bad_place_right" (defArgs (top 42)) (defBody (top 42)) (defScope (top 42)) .none kV_24 dc_24 pm_24 an_24 cd_24 ct_24), sl_24⟩)
    (c_24 : PySem.W.codeIn K cd_24 "_law_bad_place_right" = true)
    (k_24 : PySem.W.keepIn K (.ref f_24) = true)
    (a_25 : PySem.W.nsIn K mainGlobals "_law_changed_right" = some (some (.ref f_25)))
    (l_25 : K.lookup f_25 = some ⟨oc_25, od_25, .func (PySem.W.fnOf "_law_changed_right" "_law_changed_right" (defArgs (top 43)) (defBody (top 43)) (defScope (top 43)) .none kV_25 dc_25 pm_25 an_25 cd_25 ct_25), sl_25⟩)
    (c_25 : PySem.W.codeIn K cd_25 "_law_changed_right" = true)
    (k_25 : PySem.W.keepIn K (.ref f_25) = true)
    (a_26 : PySem.W.nsIn K mainGlobals "_law_caught" = some (some (.ref f_26)))
    (l_26 : K.lookup f_26 = some ⟨oc_26, od_26, .func (PySem.W.fnOf "_law_caught" "_law_caught" (defArgs (top 44)) (defBody (top 44)) (defScope (top 44)) .none kV_26 dc_26 pm_26 an_26 cd_26 ct_26), sl_26⟩)
    (c_26 : PySem.W.codeIn K cd_26 "_law_caught" = true)
    (k_26 : PySem.W.keepIn K (.ref f_26) = true)
    (a_27 : PySem.W.nsIn K mainGlobals "_law_refused" = some (some (.ref f_27)))
    (l_27 : K.lookup f_27 = some ⟨oc_27, od_27, .func (PySem.W.fnOf "_law_refused" "_law_refused" (defArgs (top 45)) (defBody (top 45)) (defScope (top 45)) .none kV_27 dc_27 pm_27 an_27 cd_27 ct_27), sl_27⟩)
    (c_27 : PySem.W.codeIn K cd_27 "_law_refused" = true)
    (k_27 : PySem.W.keepIn K (.ref f_27) = true)
    (a_28 : PySem.W.nsIn K mainGlobals "law" = some (some (.ref f_28)))
    (l_28 : K.lookup f_28 = some ⟨oc_28, od_28, .func (PySem.W.fnOf "law" "law" (defArgs (top 46)) (defBody (top 46)) (defScope (top 46)) .none kV_28 dc_28 pm_28 an_28 cd_28 ct_28), sl_28⟩)
    (c_28 : PySem.W.codeIn K cd_28 "law" = true)
    (k_28 : PySem.W.keepIn K (.ref f_28) = true)
    (aCL : PySem.W.nsIn K mainGlobals "Lets" = some (some (.ref CL)))
    (am1 : PySem.W.findIn K (.ref CL) "_fill" = some (some (.ref fm1)))
    (im1 : PySem.W.isFn K (.ref fm1) = true)
    (lm1 : K.lookup fm1 = some ⟨ocm1, odm1, .func (PySem.W.fnOf "_fill" "Lets._fill" (defArgs (inClass (top 16) 1)) (defBody (inClass (top 16) 1)) (defScope (inClass (top 16) 1)) .none kVm1 dcm1 pmm1 anm1 cdm1 ctm1), slm1⟩)
    (cm1 : PySem.W.codeIn K cdm1 "Lets._fill" = true)
    (km1 : PySem.W.keepIn K (.ref fm1) = true)
    (am2 : PySem.W.findIn K (.ref CL) "numbers" = some (some (.ref fm2)))
    (im2 : PySem.W.isFn K (.ref fm2) = true)
    (lm2 : K.lookup fm2 = some ⟨ocm2, odm2, .func (PySem.W.fnOf "numbers" "Lets.numbers" (defArgs (inClass (top 16) 2)) (defBody (inClass (top 16) 2)) (defScope (inClass (top 16) 2)) .none kVm2 dcm2 pmm2 anm2 cdm2 ctm2), slm2⟩)
    (cm2 : PySem.W.codeIn K cdm2 "Lets.numbers" = true)
    (km2 : PySem.W.keepIn K (.ref fm2) = true)
    (am3 : PySem.W.findIn K (.ref CL) "start" = some (some (.ref fm3)))
    (im3 : PySem.W.isFn K (.ref fm3) = true)
    (lm3 : K.lookup fm3 = some ⟨ocm3, odm3, .func (PySem.W.fnOf "start" "Lets.start" (defArgs (inClass (top 16) 3)) (defBody (inClass (top 16) 3)) (defScope (inClass (top 16) 3)) .none kVm3 dcm3 pmm3 anm3 cdm3 ctm3), slm3⟩)
    (cm3 : PySem.W.codeIn K cdm3 "Lets.start" = true)
    (km3 : PySem.W.keepIn K (.ref fm3) = true)
    (am4 : PySem.W.findIn K (.ref CL) "__contains__" = some (some (.ref fm4)))
    (im4 : PySem.W.isFn K (.ref fm4) = true)
    (lm4 : K.lookup fm4 = some ⟨ocm4, odm4, .func (PySem.W.fnOf "__contains__" "Lets.__contains__" (defArgs (inClass (top 16) 4)) (defBody (inClass (top 16) 4)) (defScope (inClass (top 16) 4)) .none kVm4 dcm4 pmm4 anm4 cdm4 ctm4), slm4⟩)
    (cm4 : PySem.W.codeIn K cdm4 "Lets.__contains__" = true)
    (km4 : PySem.W.keepIn K (.ref fm4) = true)
    (am5 : PySem.W.findIn K (.ref CL) "__eq__" = some (some (.ref fm5)))
    (im5 : PySem.W.isFn K (.ref fm5) = true)
    (lm5 : K.lookup fm5 = some ⟨ocm5, odm5, .func (PySem.W.fnOf "__eq__" "Lets.__eq__" (defArgs (inClass (top 16) 5)) (defBody (inClass (top 16) 5)) (defScope (inClass (top 16) 5)) .none kVm5 dcm5 pmm5 anm5 cdm5 ctm5), slm5⟩)
    (cm5 : PySem.W.codeIn K cdm5 "Lets.__eq__" = true)
    (km5 : PySem.W.keepIn K (.ref fm5) = true)
    (am0 : PySem.W.findIn K (.ref CL) "__init__" = some (some (.ref fm0)))
    (im0 : PySem.W.isFn K (.ref fm0) = true)
    (lm0 : K.lookup fm0 = some ⟨ocm0, odm0, .func (PySem.W.fnOf "__init__" "Lets.__init__" (defArgs (inClass (top 16) 0)) (defBody (inClass (top 16) 0)) (defScope (inClass (top 16) 0)) dVm0 kVm0 dcm0 pmm0 anm0 cdm0 ctm0), slm0⟩)
    (cm0 : PySem.W.codeIn K cdm0 "Lets.__init__" = true)
    (km0 : PySem.W.keepIn K (.ref fm0) = true)
    (dm0 : dVm0 = .ref Tm0)
    (tm0 : K.lookup Tm0 = some oTm0)
    (um0 : oTm0.data = .seq itm0.toArray nTm0)
    (vm0 : itm0 = [.none])
    (pgZ : PySem.W.plainGet K CL Str.empty = true)
    (hdZ : PySem.W.hasDictIn K CL = true)
    (poZ : PySem.W.plainOver K CL = true)
    (saZ : PySem.W.findIn K (.ref CL) "__setattr__" = some (some (.builtin "object.__setattr__")))
    (mkZ : PySem.W.makesIn K CL = true)
    (kcZ : PySem.W.keepIn K (.ref CL) = true)
    (nhZ : PySem.W.findIn K (.ref CL) "_held" = some none)
    (nsZ : PySem.W.findIn K (.ref CL) "_start" = some none)
    (haZ : PySem.W.findIn K (.ref CL) "__class__" = some (some (.builtin "object.__class__")))
    (hnZ : PySem.W.specialIn K (.builtin "object.__class__") "__get__" = some (some (.builtin "getset_descriptor.__get__")))
    (htZ : PySem.W.takesIn K (.builtin "object.__class__") = some true)
    (hmZ : PySem.W.mroIn K CL (.type "object") = some true)
    (tyZ : PySem.W.typeIn K (.ref CL) = some (.type "type"))
    (a0 : PySem.W.nsIn K mainGlobals "GapError" = some (some (.ref C0)))
    (x0 : K.lookup C0 = some ⟨oc0, od0, .cls cd0, sl0⟩)
    (e0 : cd0.mro = .ref C0 :: bm0)
    (i0 : PySem.W.findIn K (.ref C0) "__init__" = some (some (.builtin "ValueError.__init__")))
    (k0 : PySem.W.keepIn K (.ref C0) = true)
    (s0 : PySem.W.subIn K (.ref C0) (.type "BaseException") = some true)
    (h0 : PySem.W.hasDictIn K C0 = true)
    (t0 : PySem.W.typeIn K (.ref C0) = some (.type "type"))
    (gS : PySem.W.nsIn K mainGlobals "super" = some none)
    (gO : PySem.W.nsIn K PySem.cStatics "thirdparty.any" = some none)
    (tp : (l.prog.main.scope.names.lookup ("super" : Str)).isSome = false)
    (aN : PySem.W.nsIn K mainGlobals "InvalidNumber" = some (some (.ref CN1)))
    (xN : K.lookup CN1 = some (excClassObj nmN qN CN1 NN bsN bmN true snN subN abN colN ddN m0N m1N m2N m3N m5N "ValueError.__new__"))
    (bN : bmN = .ref C0 :: bm0)
    (reN : PySem.HandSPX.refsVE bmN = true)
    (iN : PySem.W.findIn K (.ref CN1) "__init__" = some (some (.ref fN)))
    (tfN_ : PySem.W.typeIn K (.ref fN) = some (.type "function"))
    (lN : K.lookup fN = some ⟨ocN, odN, .func (PySem.W.ksFn "__init__" "InvalidNumber.__init__" (defArgs (inClass (top 2) 0)) (defBody (inClass (top 2) 0)) (defScope (inClass (top 2) 0)) dVN kVN dcN pmN anN (.ref cdaN) ctN ccN), slN⟩)
    (eAN : defArgs (inClass (top 2) 0) = Gx.iA p1N p2N p3N)
    (eBN : defBody (inClass (top 2) 0) = Gx.iB q0N q1N q2N q3N q4N q5N r1N r2N r3N r4N)
    (eSN : defScope (inClass (top 2) 0) = Gx.iS)
    (eLN : (q2N.endLine == q4N.line) = true)
    (cN : PySem.W.codeIn K (.ref cdaN) "InvalidNumber.__init__" = true)
    (uN : K.lookup cdaN = some ⟨cclN, cddN, .fields vsN, ccsN⟩)
    (u2N : vsN[2]? = some (.str flN tfN))
    (u3N : (l.prog.main.file == flN) = true)
    (wN : K.lookup ccN = some ⟨clN, cldN, .cell (some (.ref CN1)), cslN⟩)
    (dN : dVN = .ref TN)
    (d2N : K.lookup TN = some oTN)
    (d3N : oTN.data = .seq itN.toArray nTN)
    (d4N : itN = [.none])
    (kN : PySem.W.keepIn K (.ref CN1) = true)
    (s1N : PySem.W.subIn K (.ref CN1) (.type "BaseException") = some true)
    (s2N : PySem.W.subIn K (.ref CN1) (.type "ValueError") = some true)
    (s3N : PySem.W.subIn K (.ref CN1) (.ref C0) = some true)
    (s4N : PySem.W.subIn K (.ref CN1) (.ref CN1) = some true)
    (saN : PySem.W.findIn K (.ref CN1) "__setattr__" = some (some (.builtin "object.__setattr__")))
    (gaN : PySem.W.findIn K (.ref CN1) "__getattribute__" = some (some (.builtin "BaseException.__getattribute__")))
    (ggN : PySem.W.findIn K (.ref CN1) "__getattr__" = some none)
    (nvN : PySem.W.findIn K (.ref CN1) "value" = some none)
    (haN : PySem.W.findIn K (.ref CN1) "__class__" = some (some (.builtin "object.__class__")))
    (hmN : PySem.W.mroIn K CN1 (.type "object") = some true)
    (hsN : PySem.W.mroIn K CN1 (.ref CN1) = some true)
    (tyN : PySem.W.typeIn K (.ref CN1) = some (.type "type"))
    (hdN : PySem.W.hasDictIn K CN1 = true)
    (aR : PySem.W.nsIn K mainGlobals "InvalidRow" = some (some (.ref CR1)))
    (xR : K.lookup CR1 = some (excClassObj nmR qR CR1 NR bsR bmR true snR subR abR colR ddR m0R m1R m2R m3R m5R "ValueError.__new__"))
    (bR : bmR = .ref C0 :: bm0)
    (reR : PySem.HandSPX.refsVE bmR = true)
    (iR : PySem.W.findIn K (.ref CR1) "__init__" = some (some (.ref fR)))
    (tfR_ : PySem.W.typeIn K (.ref fR) = some (.type "function"))
    (lR : K.lookup fR = some ⟨ocR, odR, .func (PySem.W.ksFn "__init__" "InvalidRow.__init__" (defArgs (inClass (top 3) 0)) (defBody (inClass (top 3) 0)) (defScope (inClass (top 3) 0)) dVR kVR dcR pmR anR (.ref cdaR) ctR ccR), slR⟩)
    (eAR : defArgs (inClass (top 3) 0) = Gx.iA p1R p2R p3R)
    (eBR : defBody (inClass (top 3) 0) = Gx.iB q0R q1R q2R q3R q4R q5R r1R r2R r3R r4R)
    (eSR : defScope (inClass (top 3) 0) = Gx.iS)
    (eLR : (q2R.endLine == q4R.line) = true)
    (cR : PySem.W.codeIn K (.ref cdaR) "InvalidRow.__init__" = true)
    (uR : K.lookup cdaR = some ⟨cclR, cddR, .fields vsR, ccsR⟩)
    (u2R : vsR[2]? = some (.str flR tfR))
    (u3R : (l.prog.main.file == flR) = true)
    (wR : K.lookup ccR = some ⟨clR, cldR, .cell (some (.ref CR1)), cslR⟩)
    (dR : dVR = .ref TR)
    (d2R : K.lookup TR = some oTR)
    (d3R : oTR.data = .seq itR.toArray nTR)
    (d4R : itR = [.none])
    (kR : PySem.W.keepIn K (.ref CR1) = true)
    (s1R : PySem.W.subIn K (.ref CR1) (.type "BaseException") = some true)
    (s2R : PySem.W.subIn K (.ref CR1) (.type "ValueError") = some true)
    (s3R : PySem.W.subIn K (.ref CR1) (.ref C0) = some true)
    (s4R : PySem.W.subIn K (.ref CR1) (.ref CR1) = some true)
    (saR : PySem.W.findIn K (.ref CR1) "__setattr__" = some (some (.builtin "object.__setattr__")))
    (gaR : PySem.W.findIn K (.ref CR1) "__getattribute__" = some (some (.builtin "BaseException.__getattribute__")))
    (ggR : PySem.W.findIn K (.ref CR1) "__getattr__" = some none)
    (nvR : PySem.W.findIn K (.ref CR1) "value" = some none)
    (haR : PySem.W.findIn K (.ref CR1) "__class__" = some (some (.builtin "object.__class__")))
    (hmR : PySem.W.mroIn K CR1 (.type "object") = some true)
    (hsR : PySem.W.mroIn K CR1 (.ref CR1) = some true)
    (tyR : PySem.W.typeIn K (.ref CR1) = some (.type "type"))
    (hdR : PySem.W.hasDictIn K CR1 = true)
    (aL : PySem.W.nsIn K mainGlobals "InvalidLets" = some (some (.ref CL1)))
    (xL : K.lookup CL1 = some (excClassObj nmL qL CL1 NL bsL bmL true snL subL abL colL ddL m0L m1L m2L m3L m5L "ValueError.__new__"))
    (bL : bmL = .ref C0 :: bm0)
    (reL : PySem.HandSPX.refsVE bmL = true)
    (iL : PySem.W.findIn K (.ref CL1) "__init__" = some (some (.ref fL)))
    (tfL_ : PySem.W.typeIn K (.ref fL) = some (.type "function"))
    (lL : K.lookup fL = some ⟨ocL, odL, .func (PySem.W.ksFn "__init__" "InvalidLets.__init__" (defArgs (inClass (top 4) 0)) (defBody (inClass (top 4) 0)) (defScope (inClass (top 4) 0)) dVL kVL dcL pmL anL (.ref cdaL) ctL ccL), slL⟩)
    (eAL : defArgs (inClass (top 4) 0) = Gx.iA p1L p2L p3L)
    (eBL : defBody (inClass (top 4) 0) = Gx.iB q0L q1L q2L q3L q4L q5L r1L r2L r3L r4L)
    (eSL : defScope (inClass (top 4) 0) = Gx.iS)
    (eLL : (q2L.endLine == q4L.line) = true)
    (cL : PySem.W.codeIn K (.ref cdaL) "InvalidLets.__init__" = true)
    (uL : K.lookup cdaL = some ⟨cclL, cddL, .fields vsL, ccsL⟩)
    (u2L : vsL[2]? = some (.str flL tfL))
    (u3L : (l.prog.main.file == flL) = true)
    (wL : K.lookup ccL = some ⟨clL, cldL, .cell (some (.ref CL1)), cslL⟩)
    (dL : dVL = .ref TL)
    (d2L : K.lookup TL = some oTL)
    (d3L : oTL.data = .seq itL.toArray nTL)
    (d4L : itL = [.none])
    (kL : PySem.W.keepIn K (.ref CL1) = true)
    (s1L : PySem.W.subIn K (.ref CL1) (.type "BaseException") = some true)
    (s2L : PySem.W.subIn K (.ref CL1) (.type "ValueError") = some true)
    (s3L : PySem.W.subIn K (.ref CL1) (.ref C0) = some true)
    (s4L : PySem.W.subIn K (.ref CL1) (.ref CL1) = some true)
    (saL : PySem.W.findIn K (.ref CL1) "__setattr__" = some (some (.builtin "object.__setattr__")))
    (gaL : PySem.W.findIn K (.ref CL1) "__getattribute__" = some (some (.builtin "BaseException.__getattribute__")))
    (ggL : PySem.W.findIn K (.ref CL1) "__getattr__" = some none)
    (nvL : PySem.W.findIn K (.ref CL1) "value" = some none)
    (haL : PySem.W.findIn K (.ref CL1) "__class__" = some (some (.builtin "object.__class__")))
    (hmL : PySem.W.mroIn K CL1 (.type "object") = some true)
    (hsL : PySem.W.mroIn K CL1 (.ref CL1) = some true)
    (tyL : PySem.W.typeIn K (.ref CL1) = some (.type "type"))
    (hdL : PySem.W.hasDictIn K CL1 = true)
    (aI : PySem.W.nsIn K mainGlobals "InvalidList" = some (some (.ref CI1)))
    (xI : K.lookup CI1 = some (excClassObj nmI qI CI1 NI bsI bmI true snI subI abI colI ddI m0I m1I m2I m3I m5I "ValueError.__new__"))
    (bI : bmI = .ref C0 :: bm0)
    (reI : PySem.HandSPX.refsVE bmI = true)
    (iI : PySem.W.findIn K (.ref CI1) "__init__" = some (some (.ref fI)))
    (tfI_ : PySem.W.typeIn K (.ref fI) = some (.type "function"))
    (lI : K.lookup fI = some ⟨ocI, odI, .func (PySem.W.ksFn "__init__" "InvalidList.__init__" (defArgs (inClass (top 5) 0)) (defBody (inClass (top 5) 0)) (defScope (inClass (top 5) 0)) dVI kVI dcI pmI anI (.ref cdaI) ctI ccI), slI⟩)
    (eAI : defArgs (inClass (top 5) 0) = Gx.iA p1I p2I p3I)
    (eBI : defBody (inClass (top 5) 0) = Gx.iB q0I q1I q2I q3I q4I q5I r1I r2I r3I r4I)
    (eSI : defScope (inClass (top 5) 0) = Gx.iS)
    (eLI : (q2I.endLine == q4I.line) = true)
    (cI : PySem.W.codeIn K (.ref cdaI) "InvalidList.__init__" = true)
    (uI : K.lookup cdaI = some ⟨cclI, cddI, .fields vsI, ccsI⟩)
    (u2I : vsI[2]? = some (.str flI tfI))
    (u3I : (l.prog.main.file == flI) = true)
    (wI : K.lookup ccI = some ⟨clI, cldI, .cell (some (.ref CI1)), cslI⟩)
    (dI : dVI = .ref TI)
    (d2I : K.lookup TI = some oTI)
    (d3I : oTI.data = .seq itI.toArray nTI)
    (d4I : itI = [.none])
    (kI : PySem.W.keepIn K (.ref CI1) = true)
    (s1I : PySem.W.subIn K (.ref CI1) (.type "BaseException") = some true)
    (s2I : PySem.W.subIn K (.ref CI1) (.type "ValueError") = some true)
    (s3I : PySem.W.subIn K (.ref CI1) (.ref C0) = some true)
    (s4I : PySem.W.subIn K (.ref CI1) (.ref CI1) = some true)
    (saI : PySem.W.findIn K (.ref CI1) "__setattr__" = some (some (.builtin "object.__setattr__")))
    (gaI : PySem.W.findIn K (.ref CI1) "__getattribute__" = some (some (.builtin "BaseException.__getattribute__")))
    (ggI : PySem.W.findIn K (.ref CI1) "__getattr__" = some none)
    (nvI : PySem.W.findIn K (.ref CI1) "value" = some none)
    (haI : PySem.W.findIn K (.ref CI1) "__class__" = some (some (.builtin "object.__class__")))
    (hmI : PySem.W.mroIn K CI1 (.type "object") = some true)
    (hsI : PySem.W.mroIn K CI1 (.ref CI1) = some true)
    (tyI : PySem.W.typeIn K (.ref CI1) = some (.type "type"))
    (hdI : PySem.W.hasDictIn K CI1 = true)
    (aP : PySem.W.nsIn K mainGlobals "InvalidPlace" = some (some (.ref CP1)))
    (xP : K.lookup CP1 = some (excClassObj nmP qP CP1 NP bsP bmP true snP subP abP colP ddP m0P m1P m2P m3P m5P "ValueError.__new__"))
    (bP : bmP = .ref C0 :: bm0)
    (reP : PySem.HandSPX.refsVE bmP = true)
    (iP : PySem.W.findIn K (.ref CP1) "__init__" = some (some (.ref fP)))
    (tfP_ : PySem.W.typeIn K (.ref fP) = some (.type "function"))
    (lP : K.lookup fP = some ⟨ocP, odP, .func (PySem.W.ksFn "__init__" "InvalidPlace.__init__" (defArgs (inClass (top 6) 0)) (defBody (inClass (top 6) 0)) (defScope (inClass (top 6) 0)) dVP kVP dcP pmP anP (.ref cdaP) ctP ccP), slP⟩)
    (eAP : defArgs (inClass (top 6) 0) = Gx.iA p1P p2P p3P)
    (eBP : defBody (inClass (top 6) 0) = Gx.iB q0P q1P q2P q3P q4P q5P r1P r2P r3P r4P)
    (eSP : defScope (inClass (top 6) 0) = Gx.iS)
    (eLP : (q2P.endLine == q4P.line) = true)
    (cP : PySem.W.codeIn K (.ref cdaP) "InvalidPlace.__init__" = true)
    (uP : K.lookup cdaP = some ⟨cclP, cddP, .fields vsP, ccsP⟩)
    (u2P : vsP[2]? = some (.str flP tfP))
    (u3P : (l.prog.main.file == flP) = true)
    (wP : K.lookup ccP = some ⟨clP, cldP, .cell (some (.ref CP1)), cslP⟩)
    (dP : dVP = .ref TP)
    (d2P : K.lookup TP = some oTP)
    (d3P : oTP.data = .seq itP.toArray nTP)
    (d4P : itP = [.none])
    (kP : PySem.W.keepIn K (.ref CP1) = true)
    (s1P : PySem.W.subIn K (.ref CP1) (.type "BaseException") = some true)
    (s2P : PySem.W.subIn K (.ref CP1) (.type "ValueError") = some true)
    (s3P : PySem.W.subIn K (.ref CP1) (.ref C0) = some true)
    (s4P : PySem.W.subIn K (.ref CP1) (.ref CP1) = some true)
    (saP : PySem.W.findIn K (.ref CP1) "__setattr__" = some (some (.builtin "object.__setattr__")))
    (gaP : PySem.W.findIn K (.ref CP1) "__getattribute__" = some (some (.builtin "BaseException.__getattribute__")))
    (ggP : PySem.W.findIn K (.ref CP1) "__getattr__" = some none)
    (nvP : PySem.W.findIn K (.ref CP1) "value" = some none)
    (haP : PySem.W.findIn K (.ref CP1) "__class__" = some (some (.builtin "object.__class__")))
    (hmP : PySem.W.mroIn K CP1 (.type "object") = some true)
    (hsP : PySem.W.mroIn K CP1 (.ref CP1) = some true)
    (tyP : PySem.W.typeIn K (.ref CP1) = some (.type "type"))
    (hdP : PySem.W.hasDictIn K CP1 = true)
    (zLR : PySem.W.subIn K (.ref CL1) (.ref CR1) = some false)
    (zLI : PySem.W.subIn K (.ref CL1) (.ref CI1) = some false)
    (zLP : PySem.W.subIn K (.ref CL1) (.ref CP1) = some false)
    (zRL : PySem.W.subIn K (.ref CR1) (.ref CL1) = some false)
    (zRI : PySem.W.subIn K (.ref CR1) (.ref CI1) = some false)
    (zRP : PySem.W.subIn K (.ref CR1) (.ref CP1) = some false)
    (zIL : PySem.W.subIn K (.ref CI1) (.ref CL1) = some false)
    (zIR : PySem.W.subIn K (.ref CI1) (.ref CR1) = some false)
    (zIP : PySem.W.subIn K (.ref CI1) (.ref CP1) = some false)
    (zPL : PySem.W.subIn K (.ref CP1) (.ref CL1) = some false)
    (zPR : PySem.W.subIn K (.ref CP1) (.ref CR1) = some false)
    (zPI : PySem.W.subIn K (.ref CP1) (.ref CI1) = some false)
    (gMOST_LENGTH : PySem.W.nsIn K mainGlobals "MOST_LENGTH" = some (some (.int 200 tMOST_LENGTH)))
    (gMOST_NUMBERS : PySem.W.nsIn K mainGlobals "MOST_NUMBERS" = some (some (.int 200 tMOST_NUMBERS)))
    (gMOST_COUNT : PySem.W.nsIn K mainGlobals "MOST_COUNT" = some (some (.int 1000 tMOST_COUNT)))
    (o_isinstance : PySem.W.nsIn K mainGlobals "isinstance" = some none)
    (o_len : PySem.W.nsIn K mainGlobals "len" = some none)
    (o_sorted : PySem.W.nsIn K mainGlobals "sorted" = some none)
    (o_sum : PySem.W.nsIn K mainGlobals "sum" = some none)
    (o_max : PySem.W.nsIn K mainGlobals "max" = some none)
    (o_repr : PySem.W.nsIn K mainGlobals "repr" = some none)
    (o_int : PySem.W.nsIn K mainGlobals "int" = some none)
    (o_bool : PySem.W.nsIn K mainGlobals "bool" = some none)
    (o_list : PySem.W.nsIn K mainGlobals "list" = some none)
    (o_tuple : PySem.W.nsIn K mainGlobals "tuple" = some none)
    (o_dict : PySem.W.nsIn K mainGlobals "dict" = some none)
    (o_range : PySem.W.nsIn K mainGlobals "range" = some none)
    (o_enumerate : PySem.W.nsIn K mainGlobals "enumerate" = some none) :
    ∃ fd : FuncData, (∀ (s : Shared) (v : Value), BindsTo s fd ⟨[v], []⟩ [("_law_script", v)]) ∧ ∀ base : Heap, K.In base → base.Ns mainGlobals mg → Gr.FnG l.prog w K mg base CX0 12 fa fd ["_law_script"] (spLaw K) := by
  have go := fun {x : Str} {v : Value} (a : PySem.W.nsIn K mainGlobals x = some (some v)) => PySem.W.mg_of X G a
  have no := fun {x : Str} (a : PySem.W.nsIn K mainGlobals x = some none) => PySem.W.mg_none_of X G a
  cases hfa.symm.trans (go a_28)
  have Dis_whole : De K mg "is_whole" (top 9) := ⟨_, _, fun_mk l_0 c_0 k_0, go a_0⟩
  have Dis_between : De K mg "is_between" (top 10) := ⟨_, _, fun_mk l_1 c_1 k_1, go a_1⟩
  have Dis_row_list : De K mg "is_row_list" (top 11) := ⟨_, _, fun_mk l_2 c_2 k_2, go a_2⟩
  have Dcheck_row : De K mg "check_row" (top 12) := ⟨_, _, fun_mk l_3 c_3 k_3, go a_3⟩
  have Dcheck_lets : De K mg "check_lets" (top 17) := ⟨_, _, fun_mk l_4 c_4 k_4, go a_4⟩
  have Dexchanged : De K mg "exchanged" (top 19) := ⟨_, _, fun_mk l_5 c_5 k_5, go a_5⟩
  have Drow_behind : De K mg "row_behind" (top 20) := ⟨_, _, fun_mk l_6 c_6 k_6, go a_6⟩
  have Dled_by : De K mg "led_by" (top 21) := ⟨_, _, fun_mk l_7 c_7 k_7, go a_7⟩
  have Dled : De K mg "led" (top 22) := ⟨_, _, fun_mk l_8 c_8 k_8, go a_8⟩
  have Dfollowed : De K mg "followed" (top 23) := ⟨_, _, fun_mk l_9 c_9 k_9, go a_9⟩
  have D_law_hash : De K mg "_law_hash" (top 25) := ⟨_, _, fun_mk l_10 c_10 k_10, go a_10⟩
  have D_law_random : De K mg "_law_random" (top 26) := ⟨_, _, fun_mk l_11 c_11 k_11, go a_11⟩
  have D_law_cell : De K mg "_law_cell" (top 27) := ⟨_, _, fun_mk l_12 c_12 k_12, go a_12⟩
  have D_law_generator : De K mg "_law_generator" (top 28) := ⟨_, _, fun_mk l_13 c_13 k_13, go a_13⟩
  have D_law_drawn_log : De K mg "_law_drawn_log" (top 31) := ⟨_, _, fun_mk l_14 c_14 k_14, go a_14⟩
  have D_law_menu : De K mg "_law_menu" (top 32) := ⟨_, _, fun_mk l_15 c_15 k_15, go a_15⟩
  have D_law_let : De K mg "_law_let" (top 33) := ⟨_, _, fun_mk l_16 c_16 k_16, go a_16⟩
  have D_law_pair : De K mg "_law_pair" (top 34) := ⟨_, _, fun_mk l_17 c_17 k_17, go a_17⟩
  have D_law_near : De K mg "_law_near" (top 35) := ⟨_, _, fun_mk l_18 c_18 k_18, go a_18⟩
  have D_law_lets : De K mg "_law_lets" (top 37) := ⟨_, _, fun_mk l_19 c_19 k_19, go a_19⟩
  have D_law_exchanged : De K mg "_law_exchanged" (top 38) := ⟨_, _, fun_mk l_20 c_20 k_20, go a_20⟩
  have D_law_class_right : De K mg "_law_class_right" (top 39) := ⟨_, _, fun_mk l_21 c_21 k_21, go a_21⟩
  have D_law_walk : De K mg "_law_walk" (top 40) := ⟨_, _, fun_mk l_22 c_22 k_22, go a_22⟩
  have D_law_row_right : De K mg "_law_row_right" (top 41) := ⟨_, _, fun_mk l_23 c_23 k_23, go a_23⟩
  have D_law_bad_place_right : De K mg "_law_bad_place_right" (top 42) := ⟨_, _, fun_mk l_24 c_24 k_24, go a_24⟩
  have D_law_changed_right : De K mg "_law_changed_right" (top 43) := ⟨_, _, fun_mk l_25 c_25 k_25, go a_25⟩
  have D_law_caught : De K mg "_law_caught" (top 44) := ⟨_, _, fun_mk l_26 c_26 k_26, go a_26⟩
  have D_law_refused : De K mg "_law_refused" (top 45) := ⟨_, _, fun_mk l_27 c_27 k_27, go a_27⟩
  have M_fill : Me K CL "_fill" "Lets._fill" (inClass (top 16) 1) := ⟨_, _, fun_mk lm1 cm1 km1, ⟨am1, im1, km1⟩⟩
  have Mnumbers : Me K CL "numbers" "Lets.numbers" (inClass (top 16) 2) := ⟨_, _, fun_mk lm2 cm2 km2, ⟨am2, im2, km2⟩⟩
  have Mstart : Me K CL "start" "Lets.start" (inClass (top 16) 3) := ⟨_, _, fun_mk lm3 cm3 km3, ⟨am3, im3, km3⟩⟩
  have M__contains__ : Me K CL "__contains__" "Lets.__contains__" (inClass (top 16) 4) := ⟨_, _, fun_mk lm4 cm4 km4, ⟨am4, im4, km4⟩⟩
  have M__eq__ : Me K CL "__eq__" "Lets.__eq__" (inClass (top 16) 5) := ⟨_, _, fun_mk lm5 cm5 km5, ⟨am5, im5, km5⟩⟩
  have Mi : In0 K CL := ⟨fm0, _, ⟨⟨_, _, _, _, _, _, _, _, _, _, rfl, lm0, cm0, .inr ⟨by simp, Tm0, oTm0, itm0, nTm0, dm0, tm0, um0, by rw [vm0]; exact .cons rfl .nil⟩, .inl rfl⟩, km0⟩, ⟨mkZ, am0, im0, kcZ⟩⟩
  have L : LetsC K mg CL := ⟨⟨pgZ, hdZ, poZ, saZ⟩, go aCL, nhZ, nsZ, haZ, hnZ, htZ, hmZ, tyZ⟩
  have Bn : Bns mg := ⟨no o_isinstance, no o_len, no o_sorted, no o_sum, no o_max, no o_repr, no o_int, no o_bool, no o_list, no o_tuple, no o_dict, no o_range, no o_enumerate⟩
  have CMOST_LENGTH : Cn mg "MOST_LENGTH" 200 := ⟨_, go gMOST_LENGTH, _, rfl⟩
  have CMOST_NUMBERS : Cn mg "MOST_NUMBERS" 200 := ⟨_, go gMOST_NUMBERS, _, rfl⟩
  have CMOST_COUNT : Cn mg "MOST_COUNT" 1000 := ⟨_, go gMOST_COUNT, _, rfl⟩
  have TN : Gx.Txt l.prog K mg "InvalidNumber" "InvalidNumber.__init__" CN1 fN cdaN ccN := by
    rw [eAN, eBN, eSN, dN] at lN
    refine ⟨go aN, ⟨_, _, _, _, _, _, _, _, _, _, _, _, _, _, _, xN, reN⟩, saN, gaN, ggN, nvN, iN, tfN_, kN, s1N, s2N, tyN, hdN, haN, hnZ, htZ, hmN, hsN, ⟨_, _, _, _, _, _, _, _, _, _, _, _, _, _, _, _, _, _, _, _, _, _, lN, cN, eLN, _, nTN, d2N, by rw [d3N, d4N]⟩, ⟨_, _, _, _, _, _, uN, u2N, u3N⟩, ⟨_, _, _, wN⟩, ?_, gO, no gS, tp⟩
    exact sup_of xN (by show Value.ref CN1 :: bmN = _; rw [bN]) x0 e0 i0
  have TR : Gx.Txt l.prog K mg "InvalidRow" "InvalidRow.__init__" CR1 fR cdaR ccR := by
    rw [eAR, eBR, eSR, dR] at lR
    refine ⟨go aR, ⟨_, _, _, _, _, _, _, _, _, _, _, _, _, _, _, xR, reR⟩, saR, gaR, ggR, nvR, iR, tfR_, kR, s1R, s2R, tyR, hdR, haR, hnZ, htZ, hmR, hsR, ⟨_, _, _, _, _, _, _, _, _, _, _, _, _, _, _, _, _, _, _, _, _, _, lR, cR, eLR, _, nTR, d2R, by rw [d3R, d4R]⟩, ⟨_, _, _, _, _, _, uR, u2R, u3R⟩, ⟨_, _, _, wR⟩, ?_, gO, no gS, tp⟩
    exact sup_of xR (by show Value.ref CR1 :: bmR = _; rw [bR]) x0 e0 i0
  have TL : Gx.Txt l.prog K mg "InvalidLets" "InvalidLets.__init__" CL1 fL cdaL ccL := by
    rw [eAL, eBL, eSL, dL] at lL
    refine ⟨go aL, ⟨_, _, _, _, _, _, _, _, _, _, _, _, _, _, _, xL, reL⟩, saL, gaL, ggL, nvL, iL, tfL_, kL, s1L, s2L, tyL, hdL, haL, hnZ, htZ, hmL, hsL, ⟨_, _, _, _, _, _, _, _, _, _, _, _, _, _, _, _, _, _, _, _, _, _, lL, cL, eLL, _, nTL, d2L, by rw [d3L, d4L]⟩, ⟨_, _, _, _, _, _, uL, u2L, u3L⟩, ⟨_, _, _, wL⟩, ?_, gO, no gS, tp⟩
    exact sup_of xL (by show Value.ref CL1 :: bmL = _; rw [bL]) x0 e0 i0
  have TI : Gx.Txt l.prog K mg "InvalidList" "InvalidList.__init__" CI1 fI cdaI ccI := by
    rw [eAI, eBI, eSI, dI] at lI
    refine ⟨go aI, ⟨_, _, _, _, _, _, _, _, _, _, _, _, _, _, _, xI, reI⟩, saI, gaI, ggI, nvI, iI, tfI_, kI, s1I, s2I, tyI, hdI, haI, hnZ, htZ, hmI, hsI, ⟨_, _, _, _, _, _, _, _, _, _, _, _, _, _, _, _, _, _, _, _, _, _, lI, cI, eLI, _, nTI, d2I, by rw [d3I, d4I]⟩, ⟨_, _, _, _, _, _, uI, u2I, u3I⟩, ⟨_, _, _, wI⟩, ?_, gO, no gS, tp⟩
    exact sup_of xI (by show Value.ref CI1 :: bmI = _; rw [bI]) x0 e0 i0
  have TP : Gx.Txt l.prog K mg "InvalidPlace" "InvalidPlace.__init__" CP1 fP cdaP ccP := by
    rw [eAP, eBP, eSP, dP] at lP
    refine ⟨go aP, ⟨_, _, _, _, _, _, _, _, _, _, _, _, _, _, _, xP, reP⟩, saP, gaP, ggP, nvP, iP, tfP_, kP, s1P, s2P, tyP, hdP, haP, hnZ, htZ, hmP, hsP, ⟨_, _, _, _, _, _, _, _, _, _, _, _, _, _, _, _, _, _, _, _, _, _, lP, cP, eLP, _, nTP, d2P, by rw [d3P, d4P]⟩, ⟨_, _, _, _, _, _, uP, u2P, u3P⟩, ⟨_, _, _, wP⟩, ?_, gO, no gS, tp⟩
    exact sup_of xP (by show Value.ref CP1 :: bmP = _; rw [bP]) x0 e0 i0
  have Er : Errs l.prog K mg ⟨CL1, CR1, CI1, CP1⟩ C0 := by
    refine ⟨go a0, k0, ⟨_, _, _, TL⟩, ⟨_, _, _, TR⟩, ⟨_, _, _, TI⟩, ⟨_, _, _, TP⟩, fun j => ?_, fun i j hi hj => ?_⟩
    · match j with
      | 0 => exact PySem.W.exm_ref s0 h0 t0 s3L
      | 1 => exact PySem.W.exm_ref s0 h0 t0 s3R
      | 2 => exact PySem.W.exm_ref s0 h0 t0 s3I
      | _ + 3 => exact PySem.W.exm_ref s0 h0 t0 s3P
    · match i, hi, j, hj with
      | 0, _, 0, _ => exact Gx.kit_self TL
      | 0, _, 1, _ => exact Gx.kit_other (b := true) hdR tyR s4L zLR
      | 0, _, 2, _ => exact Gx.kit_other (b := true) hdI tyI s4L zLI
      | 0, _, 3, _ => exact Gx.kit_other (b := true) hdP tyP s4L zLP
      | 1, _, 0, _ => exact Gx.kit_other (b := true) hdL tyL s4R zRL
      | 1, _, 1, _ => exact Gx.kit_self TR
      | 1, _, 2, _ => exact Gx.kit_other (b := true) hdI tyI s4R zRI
      | 1, _, 3, _ => exact Gx.kit_other (b := true) hdP tyP s4R zRP
      | 2, _, 0, _ => exact Gx.kit_other (b := true) hdL tyL s4I zIL
      | 2, _, 1, _ => exact Gx.kit_other (b := true) hdR tyR s4I zIR
      | 2, _, 2, _ => exact Gx.kit_self TI
      | 2, _, 3, _ => exact Gx.kit_other (b := true) hdP tyP s4I zIP
      | 3, _, 0, _ => exact Gx.kit_other (b := true) hdL tyL s4P zPL
      | 3, _, 1, _ => exact Gx.kit_other (b := true) hdR tyR s4P zPR
      | 3, _, 2, _ => exact Gx.kit_other (b := true) hdI tyI s4P zPI
      | 3, _, 3, _ => exact Gx.kit_self TP
  refine ⟨PySem.W.fnOf "law" "law" (defArgs (top 46)) (defBody (top 46)) (defScope (top 46)) .none kV_28 dc_28 pm_28 an_28 cd_28 ct_28, fun s v => .of_eq rfl, fun base _ _ => ?_⟩
  have c1 := cl_whole (P := l.prog) (w := w) (base := base) Dis_whole Bn
  have c2 := cl_between Dis_between c1
  have c3 := cl_rowlist Dis_row_list Bn CMOST_LENGTH c2
  have c4 := cl_checkrow Dcheck_row TR c3
  have c5 := cl_checklets (w := w) (base := base) Dcheck_lets L Bn TL
  have mi := cl_contains M__contains__ L c1
  have c6 := cl_exchanged Dexchanged mi
  have c7 := cl_behind Drow_behind Bn c2 c6
  have c8 := cl_ledby Dled_by Bn c7
  have c9 := cl_led (fL := CL) (cL := CL) (xL := CL) (fR := CL) (cR := CL) (xR := CL) (D := ⟨CL1, CR1, CI1, CP1⟩) Dled Bn TI TP c5 c4 c8
  have c10 := cl_followed (D := ⟨CL1, CR1, CI1, CP1⟩) Dfollowed Bn TI TP c5 c4 c8
  have k10 := cl_followedK (D := ⟨CL1, CR1, CI1, CP1⟩) Dfollowed Bn TI TP c5 c4 c8
  have mf := cl_fill (P := l.prog) (w := w) (base := base) M_fill L
  have ci := cl_init Mi L Bn CMOST_NUMBERS CMOST_COUNT TI TN c2 mf
  have mn := cl_numbers (P := l.prog) (w := w) (base := base) Mnumbers L Bn
  have ms := cl_start (P := l.prog) (w := w) (base := base) Mstart L
  have me := cl_eq M__eq__ L Bn mn ms
  have h1 := cl_hash (P := l.prog) (w := w) (base := base) D_law_hash Bn
  have h2 := cl_random D_law_random Bn h1
  have h3 := cl_cell (P := l.prog) (w := w) (base := base) D_law_cell Bn
  have h4 := cl_generator D_law_generator Bn h3
  have h5 := cl_drawnlog D_law_drawn_log Bn h2
  have h6 := cl_menu (P := l.prog) (w := w) (base := base) D_law_menu
  have h7 := cl_let (P := l.prog) (w := w) (base := base) D_law_let
  have h8 := cl_pair D_law_pair h7
  have h9 := cl_lawexch (P := l.prog) (w := w) (base := base) D_law_exchanged
  have h10 := cl_near D_law_near Bn h8
  have h11 := cl_lets D_law_lets L ci
  have h12 := cl_class D_law_class_right Bn h10 h9
  have h13 := cl_walk D_law_walk Bn h2 h10 h9
  have h14 := cl_changed D_law_changed_right Bn c10 h9
  have h15 := cl_caught D_law_caught Bn Er c10
  have h16 := cl_badplace D_law_bad_place_right Bn h2 h10 h15
  have h17 := cl_rowright D_law_row_right Bn h2 h13 c10 k10 c9 h16 h14
  have h18 := cl_refused D_law_refused Bn h15
  exact fn_law (fun_mk l_28 c_28 k_28) L Bn h4 h6 h2 h11 h5 h12 h17 h18 h15 c10 mn ms me ci
end Gs


open PySem PySem.W PyProof.Rows in
set_option maxRecDepth 100000 in
set_option maxHeartbeats 0 in
theorem PySem.Challenge.cw_gapswaps_k28_whole_nobody_comes_back_in_holds : PySem.Challenge.rw_gapswaps_k28_whole_nobody_comes_back_in.Holds := by
  w_on; o_law; k_head; (case hw => w_witness2)
  k_fill
  refine Gr.walk_ofG (l := PySem.Challenge.rw_gapswaps_k28_whole_nobody_comes_back_in) (n := 63) (k := 12) (x := "_law_script") (CX := fun _ => L2.CX0) (sp := fun w => Gs.spLaw _) rfl (by decide) rfl ⟨rfl, by decide, by decide⟩ (fun w h Y => PySem.W.kIn_of Y) ?F (fun _ _ a ns _ _ hS => ⟨a, ns, rfl, hS, fun _ => rfl⟩) (fun _ _ _ _ _ h => h)
  case F =>
    intro w mg fa h KX G hmg
    refine' Gs.all_mk KX G hmg ?a_0 ?l_0 ?c_0 ?k_0 ?a_1 ?l_1 ?c_1 ?k_1 ?a_2 ?l_2 ?c_2 ?k_2 ?a_3 ?l_3 ?c_3 ?k_3 ?a_4 ?l_4 ?c_4 ?k_4 ?a_5 ?l_5 ?c_5 ?k_5 ?a_6 ?l_6 ?c_6 ?k_6 ?a_7 ?l_7 ?c_7 ?k_7 ?a_8 ?l_8 ?c_8 ?k_8 ?a_9 ?l_9 ?c_9 ?k_9 ?a_10 ?l_10 ?c_10 ?k_10 ?a_11 ?l_11 ?c_11 ?k_11 ?a_12 ?l_12 ?c_12 ?k_12 ?a_13 ?l_13 ?c_13 ?k_13 ?a_14 ?l_14 ?c_14 ?k_14 ?a_15 ?l_15 ?c_15 ?k_15 ?a_16 ?l_16 ?c_16 ?k_16 ?a_17 ?l_17 ?c_17 ?k_17 ?a_18 ?l_18 ?c_18 ?k_18 ?a_19 ?l_19 ?c_19 ?k_19 ?a_20 ?l_20 ?c_20 ?k_20 ?a_21 ?l_21 ?c_21 ?k_21 ?a_22 ?l_22 ?c_22 ?k_22 ?a_23 ?l_23 ?c_23 ?k_23 ?a_24 ?l_24 ?c_24 ?k_24 ?a_25 ?l_25 ?c_25 ?k_25 ?a_26 ?l_26 ?c_26 ?k_26 ?a_27 ?l_27 ?c_27 ?k_27 ?a_28 ?l_28 ?c_28 ?k_28 ?aCL ?am1 ?im1 ?lm1 ?cm1 ?km1 ?am2 ?im2 ?lm2 ?cm2 ?km2 ?am3 ?im3 ?lm3 ?cm3 ?km3 ?am4 ?im4 ?lm4 ?cm4 ?km4 ?am5 ?im5 ?lm5 ?cm5 ?km5 ?am0 ?im0 ?lm0 ?cm0 ?km0 ?dm0 ?tm0 ?um0 ?vm0 ?pgZ ?hdZ ?poZ ?saZ ?mkZ ?kcZ ?nhZ ?nsZ ?haZ ?hnZ ?htZ ?hmZ ?tyZ ?a0 ?x0 ?e0 ?i0 ?k0 ?s0 ?h0 ?t0 ?gS ?gO ?tp ?aN ?xN ?bN ?reN ?iN ?tfN_ ?lN ?eAN ?eBN ?eSN ?eLN ?cN ?uN ?u2N ?u3N ?wN ?dN ?d2N ?d3N ?d4N ?kN ?s1N ?s2N ?s3N ?s4N ?saN ?gaN ?ggN ?nvN ?haN ?hmN ?hsN ?tyN ?hdN ?aR ?xR ?bR ?reR ?iR ?tfR_ ?lR ?eAR ?eBR ?eSR ?eLR ?cR ?uR ?u2R ?u3R ?wR ?dR ?d2R ?d3R ?d4R ?kR ?s1R ?s2R ?s3R ?s4R ?saR ?gaR ?ggR ?nvR ?haR ?hmR ?hsR ?tyR ?hdR ?aL ?xL ?bL ?reL ?iL ?tfL_ ?lL ?eAL ?eBL ?eSL ?eLL ?cL ?uL ?u2L ?u3L ?wL ?dL ?d2L ?d3L ?d4L ?kL ?s1L ?s2L ?s3L ?s4L ?saL ?gaL ?ggL ?nvL ?haL ?hmL ?hsL ?tyL ?hdL ?aI ?xI ?bI ?reI ?iI ?tfI_ ?lI ?eAI ?eBI ?eSI ?eLI ?cI ?uI ?u2I ?u3I ?wI ?dI ?d2I ?d3I ?d4I ?kI ?s1I ?s2I ?s3I ?s4I ?saI ?gaI ?ggI ?nvI ?haI ?hmI ?hsI ?tyI ?hdI ?aP ?xP ?bP ?reP ?iP ?tfP_ ?lP ?eAP ?eBP ?eSP ?eLP ?cP ?uP ?u2P ?u3P ?wP ?dP ?d2P ?d3P ?d4P ?kP ?s1P ?s2P ?s3P ?s4P ?saP ?gaP ?ggP ?nvP ?haP ?hmP ?hsP ?tyP ?hdP ?zLR ?zLI ?zLP ?zRL ?zRI ?zRP ?zIL ?zIR ?zIP ?zPL ?zPR ?zPI ?gMOST_LENGTH ?gMOST_NUMBERS ?gMOST_COUNT ?o_isinstance ?o_len ?o_sorted ?o_sum ?o_max ?o_repr ?o_int ?o_bool ?o_list ?o_tuple ?o_dict ?o_range ?o_enumerate
    (case a_0 => k_is)
    (case l_0 => k_is)
    (case c_0 => k_is)
    (case k_0 => k_is)
    (case a_1 => k_is)
    (case l_1 => k_is)
    (case c_1 => k_is)
    (case k_1 => k_is)
    (case a_2 => k_is)
    (case l_2 => k_is)
    (case c_2 => k_is)
    (case k_2 => k_is)
    (case a_3 => k_is)
    (case l_3 => k_is)
    (case c_3 => k_is)
    (case k_3 => k_is)
    (case a_4 => k_is)
    (case l_4 => k_is)
    (case c_4 => k_is)
    (case k_4 => k_is)
    (case a_5 => k_is)
    (case l_5 => k_is)
    (case c_5 => k_is)
    (case k_5 => k_is)
    (case a_6 => k_is)
    (case l_6 => k_is)
    (case c_6 => k_is)
    (case k_6 => k_is)
    (case a_7 => k_is)
    (case l_7 => k_is)
    (case c_7 => k_is)
    (case k_7 => k_is)
    (case a_8 => k_is)
    (case l_8 => k_is)
    (case c_8 => k_is)
    (case k_8 => k_is)
    (case a_9 => k_is)
    (case l_9 => k_is)
    (case c_9 => k_is)
    (case k_9 => k_is)
    (case a_10 => k_is)
    (case l_10 => k_is)
    (case c_10 => k_is)
    (case k_10 => k_is)
    (case a_11 => k_is)
    (case l_11 => k_is)
    (case c_11 => k_is)
    (case k_11 => k_is)
    (case a_12 => k_is)
    (case l_12 => k_is)
    (case c_12 => k_is)
    (case k_12 => k_is)
    (case a_13 => k_is)
    (case l_13 => k_is)
    (case c_13 => k_is)
    (case k_13 => k_is)
    (case a_14 => k_is)
    (case l_14 => k_is)
    (case c_14 => k_is)
    (case k_14 => k_is)
    (case a_15 => k_is)
    (case l_15 => k_is)
    (case c_15 => k_is)
    (case k_15 => k_is)
    (case a_16 => k_is)
    (case l_16 => k_is)
    (case c_16 => k_is)
    (case k_16 => k_is)
    (case a_17 => k_is)
    (case l_17 => k_is)
    (case c_17 => k_is)
    (case k_17 => k_is)
    (case a_18 => k_is)
    (case l_18 => k_is)
    (case c_18 => k_is)
    (case k_18 => k_is)
    (case a_19 => k_is)
    (case l_19 => k_is)
    (case c_19 => k_is)
    (case k_19 => k_is)
    (case a_20 => k_is)
    (case l_20 => k_is)
    (case c_20 => k_is)
    (case k_20 => k_is)
    (case a_21 => k_is)
    (case l_21 => k_is)
    (case c_21 => k_is)
    (case k_21 => k_is)
    (case a_22 => k_is)
    (case l_22 => k_is)
    (case c_22 => k_is)
    (case k_22 => k_is)
    (case a_23 => k_is)
    (case l_23 => k_is)
    (case c_23 => k_is)
    (case k_23 => k_is)
    (case a_24 => k_is)
    (case l_24 => k_is)
    (case c_24 => k_is)
    (case k_24 => k_is)
    (case a_25 => k_is)
    (case l_25 => k_is)
    (case c_25 => k_is)
    (case k_25 => k_is)
    (case a_26 => k_is)
    (case l_26 => k_is)
    (case c_26 => k_is)
    (case k_26 => k_is)
    (case a_27 => k_is)
    (case l_27 => k_is)
    (case c_27 => k_is)
    (case k_27 => k_is)
    (case a_28 => k_is)
    (case l_28 => k_is)
    (case c_28 => k_is)
    (case k_28 => k_is)
    (case aCL => k_is)
    (case am1 => k_is)
    (case im1 => k_is)
    (case lm1 => k_is)
    (case cm1 => k_is)
    (case km1 => k_is)
    (case am2 => k_is)
    (case im2 => k_is)
    (case lm2 => k_is)
    (case cm2 => k_is)
    (case km2 => k_is)
    (case am3 => k_is)
    (case im3 => k_is)
    (case lm3 => k_is)
    (case cm3 => k_is)
    (case km3 => k_is)
    (case am4 => k_is)
    (case im4 => k_is)
    (case lm4 => k_is)
    (case cm4 => k_is)
    (case km4 => k_is)
    (case am5 => k_is)
    (case im5 => k_is)
    (case lm5 => k_is)
    (case cm5 => k_is)
    (case km5 => k_is)
    (case am0 => k_is)
    (case im0 => k_is)
    (case lm0 => k_is)
    (case cm0 => k_is)
    (case km0 => k_is)
    (case dm0 => rfl)
    (case tm0 => k_is)
    (case um0 => rfl)
    (case vm0 => rfl)
    (case pgZ => k_is)
    (case hdZ => k_is)
    (case poZ => k_is)
    (case saZ => k_is)
    (case mkZ => k_is)
    (case kcZ => k_is)
    (case nhZ => k_is)
    (case nsZ => k_is)
    (case haZ => k_is)
    (case hnZ => k_is)
    (case htZ => k_is)
    (case hmZ => k_is)
    (case tyZ => k_is)
    (case a0 => k_is)
    (case x0 => k_is)
    (case e0 => rfl)
    (case i0 => k_is)
    (case k0 => k_is)
    (case s0 => k_is)
    (case h0 => k_is)
    (case t0 => k_is)
    (case gS => k_is)
    (case gO => k_is)
    (case tp => decide +kernel)
    (case aN => k_is)
    (case xN => k_is)
    (case bN => rfl)
    (case reN => decide +kernel)
    (case iN => k_is)
    (case tfN_ => k_is)
    (case lN => k_is)
    (case eAN => rfl)
    (case eBN => rfl)
    (case eSN => rfl)
    (case eLN => rfl)
    (case cN => k_is)
    (case uN => k_is)
    (case u2N => rfl)
    (case u3N => decide +kernel)
    (case wN => k_is)
    (case dN => rfl)
    (case d2N => k_is)
    (case d3N => rfl)
    (case d4N => rfl)
    (case kN => k_is)
    (case s1N => k_is)
    (case s2N => k_is)
    (case s3N => k_is)
    (case s4N => k_is)
    (case saN => k_is)
    (case gaN => k_is)
    (case ggN => k_is)
    (case nvN => k_is)
    (case haN => k_is)
    (case hmN => k_is)
    (case hsN => k_is)
    (case tyN => k_is)
    (case hdN => k_is)
    (case aR => k_is)
    (case xR => k_is)
    (case bR => rfl)
    (case reR => decide +kernel)
    (case iR => k_is)
    (case tfR_ => k_is)
    (case lR => k_is)
    (case eAR => rfl)
    (case eBR => rfl)
    (case eSR => rfl)
    (case eLR => rfl)
    (case cR => k_is)
    (case uR => k_is)
    (case u2R => rfl)
    (case u3R => decide +kernel)
    (case wR => k_is)
    (case dR => rfl)
    (case d2R => k_is)
    (case d3R => rfl)
    (case d4R => rfl)
    (case kR => k_is)
    (case s1R => k_is)
    (case s2R => k_is)
    (case s3R => k_is)
    (case s4R => k_is)
    (case saR => k_is)
    (case gaR => k_is)
    (case ggR => k_is)
    (case nvR => k_is)
    (case haR => k_is)
    (case hmR => k_is)
    (case hsR => k_is)
    (case tyR => k_is)
    (case hdR => k_is)
    (case aL => k_is)
    (case xL => k_is)
    (case bL => rfl)
    (case reL => decide +kernel)
    (case iL => k_is)
    (case tfL_ => k_is)
    (case lL => k_is)
    (case eAL => rfl)
    (case eBL => rfl)
    (case eSL => rfl)
    (case eLL => rfl)
    (case cL => k_is)
    (case uL => k_is)
    (case u2L => rfl)
    (case u3L => decide +kernel)
    (case wL => k_is)
    (case dL => rfl)
    (case d2L => k_is)
    (case d3L => rfl)
    (case d4L => rfl)
    (case kL => k_is)
    (case s1L => k_is)
    (case s2L => k_is)
    (case s3L => k_is)
    (case s4L => k_is)
    (case saL => k_is)
    (case gaL => k_is)
    (case ggL => k_is)
    (case nvL => k_is)
    (case haL => k_is)
    (case hmL => k_is)
    (case hsL => k_is)
    (case tyL => k_is)
    (case hdL => k_is)
    (case aI => k_is)
    (case xI => k_is)
    (case bI => rfl)
    (case reI => decide +kernel)
    (case iI => k_is)
    (case tfI_ => k_is)
    (case lI => k_is)
    (case eAI => rfl)
    (case eBI => rfl)
    (case eSI => rfl)
    (case eLI => rfl)
    (case cI => k_is)
    (case uI => k_is)
    (case u2I => rfl)
    (case u3I => decide +kernel)
    (case wI => k_is)
    (case dI => rfl)
    (case d2I => k_is)
    (case d3I => rfl)
    (case d4I => rfl)
    (case kI => k_is)
    (case s1I => k_is)
    (case s2I => k_is)
    (case s3I => k_is)
    (case s4I => k_is)
    (case saI => k_is)
    (case gaI => k_is)
    (case ggI => k_is)
    (case nvI => k_is)
    (case haI => k_is)
    (case hmI => k_is)
    (case hsI => k_is)
    (case tyI => k_is)
    (case hdI => k_is)
    (case aP => k_is)
    (case xP => k_is)
    (case bP => rfl)
    (case reP => decide +kernel)
    (case iP => k_is)
    (case tfP_ => k_is)
    (case lP => k_is)
    (case eAP => rfl)
    (case eBP => rfl)
    (case eSP => rfl)
    (case eLP => rfl)
    (case cP => k_is)
    (case uP => k_is)
    (case u2P => rfl)
    (case u3P => decide +kernel)
    (case wP => k_is)
    (case dP => rfl)
    (case d2P => k_is)
    (case d3P => rfl)
    (case d4P => rfl)
    (case kP => k_is)
    (case s1P => k_is)
    (case s2P => k_is)
    (case s3P => k_is)
    (case s4P => k_is)
    (case saP => k_is)
    (case gaP => k_is)
    (case ggP => k_is)
    (case nvP => k_is)
    (case haP => k_is)
    (case hmP => k_is)
    (case hsP => k_is)
    (case tyP => k_is)
    (case hdP => k_is)
    (case zLR => k_is)
    (case zLI => k_is)
    (case zLP => k_is)
    (case zRL => k_is)
    (case zRI => k_is)
    (case zRP => k_is)
    (case zIL => k_is)
    (case zIR => k_is)
    (case zIP => k_is)
    (case zPL => k_is)
    (case zPR => k_is)
    (case zPI => k_is)
    (case gMOST_LENGTH => k_is)
    (case gMOST_NUMBERS => k_is)
    (case gMOST_COUNT => k_is)
    (case o_isinstance => k_is)
    (case o_len => k_is)
    (case o_sorted => k_is)
    (case o_sum => k_is)
    (case o_max => k_is)
    (case o_repr => k_is)
    (case o_int => k_is)
    (case o_bool => k_is)
    (case o_list => k_is)
    (case o_tuple => k_is)
    (case o_dict => k_is)
    (case o_range => k_is)
    (case o_enumerate => k_is)
