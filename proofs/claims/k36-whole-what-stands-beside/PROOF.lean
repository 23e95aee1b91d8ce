import PyProof.Rows.All
import Wide.All
import OpenK.AllK
import Wide.FinOn
import HandS.ForMost
import HandS.Walk
import KE.GoesMore
import HandS.Style
import KE.KRevSl
import PyProof.LongRange
import PyProof.Rows.StrRevBuild
import PyProof.SliceStr2
import HandS.Defaults
import HandS.MakeKwOnly
import HandS.Set
import HandS.SetFor
import KE.KSetDisp
import PyProof.SeqIndex
import HandS.SetTxtIn
import PyProof.FactsAll.set_1
import PyProof.FactsAll.set_2
import HandS.SetKeys
import HandS.More
import HandS.Conv
import HandS.DictSubView
import PyProof.Rows.SortShellAny
import KE.KDictSum
import HandS.IsInst
import HandS.StrMore
import HandS.DictComp
import HandS.Finally
import PySem.Challenge.RW_mirrorpress_k36_whole_what_stands_beside
import PyProof.StrLawsLast
import PyProof.Rows.StrFirst
import HandS.SetIn
import KE.DataEq
import PyProof.ReprRoads
import PyProof.ReprLen
set_option Elab.async false
set_option linter.all false
set_option maxRecDepth 100000
set_option maxHeartbeats 4000000
namespace Mp
abbrev W := List Nat

/-- each letter that isn't x has x ahead of it -/
def phi (x : Nat) : W → W
  | [] => []
  | y :: r => if y = x then x :: phi x r else x :: y :: phi x r
/-- spread by x -/
def spr (x : Nat) (w : W) : W := phi x w ++ [x]
/-- the mirror, by what its first press spreads -/
def M : W → W
  | [] => []
  | x :: v => spr x (M v)
def L (v : W) : Nat := (M v).length

theorem phi_append (x : Nat) : ∀ a b : W, phi x (a ++ b) = phi x a ++ phi x b
  | [], b => rfl
  | y :: r, b => by
    rw [List.cons_append, phi, phi]
    split <;> rw [phi_append x r b] <;> rfl
theorem phi_one (x y : Nat) : phi x [y] = if y = x then [x] else [x, y] := rfl
theorem phi_cons (x y : Nat) (r : W) : phi x (y :: r) = phi x [y] ++ phi x r := phi_append x [y] r
theorem spr_nil (x : Nat) : spr x [] = [x] := rfl
theorem spr_cons (x y : Nat) (r : W) : spr x (y :: r) = phi x [y] ++ spr x r := by
  unfold spr; rw [phi_cons, List.append_assoc]
theorem spr_cons_eq (x : Nat) (r : W) : spr x (x :: r) = x :: spr x r := by
  rw [spr_cons, phi_one, if_pos rfl]; rfl
theorem spr_cons_ne {x y : Nat} (h : y ≠ x) (r : W) : spr x (y :: r) = x :: y :: spr x r := by
  rw [spr_cons, phi_one, if_neg h]; rfl
theorem spr_append (x : Nat) (a b : W) : spr x (a ++ b) = phi x a ++ spr x b := by
  unfold spr; rw [phi_append, List.append_assoc]
/-- a spread text begins with x -/
theorem spr_head (x : Nat) : ∀ w : W, ∃ r, spr x w = x :: r
  | [] => ⟨[], rfl⟩
  | y :: r => by
    by_cases h : y = x
    · subst h; exact ⟨_, spr_cons_eq y r⟩
    · exact ⟨_, spr_cons_ne h r⟩
theorem spr_ne_nil (x : Nat) (w : W) : spr x w ≠ [] := by
  obtain ⟨r, h⟩ := spr_head x w; rw [h]; exact List.cons_ne_nil _ _
/-- x behind: phi w, x = x, turned phi -/
theorem phi_shift (x : Nat) : ∀ w : W, phi x w ++ [x] = x :: (phi x w.reverse).reverse
  | [] => rfl
  | y :: r => by
    have ih := phi_shift x r
    rw [List.reverse_cons, phi_append, List.reverse_append, phi_cons, List.append_assoc, ih, phi_one]
    by_cases h : y = x
    · subst h; rw [if_pos rfl]; rfl
    · rw [if_neg h]; rfl
theorem spr_reverse (x : Nat) (w : W) : (spr x w).reverse = spr x w.reverse := by
  have h := phi_shift x w.reverse
  unfold spr
  rw [h, List.reverse_reverse, List.reverse_append]
  rfl
theorem M_pal : ∀ v : W, (M v).reverse = M v
  | [] => rfl
  | x :: v => by rw [M, spr_reverse, M_pal v]
theorem mem_phi {x a : Nat} : ∀ {w : W}, a ∈ phi x w → a = x ∨ a ∈ w
  | [], h => by cases h
  | y :: r, h => by
    rw [phi_cons, List.mem_append, phi_one] at h
    rcases h with h | h
    · split at h
      · rename_i e; simp at h; exact .inl h
      · simp at h; rcases h with h | h
        · exact .inl h
        · exact .inr (by rw [h]; exact List.mem_cons_self)
    · rcases mem_phi h with h | h
      · exact .inl h
      · exact .inr (List.mem_cons_of_mem _ h)
theorem mem_phi_of {x a : Nat} : ∀ {w : W}, a ∈ w → a ∈ phi x w
  | [], h => by cases h
  | y :: r, h => by
    rw [phi_cons, List.mem_append, phi_one]
    rcases List.mem_cons.mp h with h | h
    · left; split
      · rename_i e; rw [h, e]; exact List.mem_cons_self
      · rw [h]; simp
    · exact .inr (mem_phi_of h)
theorem mem_spr {x a : Nat} {w : W} : a ∈ spr x w ↔ a = x ∨ a ∈ w := by
  unfold spr
  rw [List.mem_append]
  constructor
  · rintro (h | h)
    · exact mem_phi h
    · exact .inl (by simpa using h)
  · rintro (h | h)
    · exact .inr (by simp [h])
    · exact .inl (mem_phi_of h)
theorem mem_M {a : Nat} : ∀ {v : W}, a ∈ M v ↔ a ∈ v
  | [] => by simp [M]
  | x :: v => by rw [M, mem_spr, mem_M, List.mem_cons]

/-! ### the copies: what a press behind adds -/
/-- M(v) begins with M of each beginning -/
theorem M_prefix : ∀ (u r : W), ∃ d, M (u ++ r) = M u ++ d
  | [], r => ⟨M r, rfl⟩
  | x :: u, r => by
    obtain ⟨d, h⟩ := M_prefix u r
    obtain ⟨e, he⟩ := spr_head x d
    refine ⟨e, ?_⟩
    rw [List.cons_append, M, M, h, spr_append, he]
    unfold spr; rw [List.append_assoc]; rfl
theorem M_new {x : Nat} : ∀ {v : W}, x ∉ v → M (v ++ [x]) = M v ++ x :: M v
  | [], _ => rfl
  | y :: v, h => by
    have hy : x ≠ y := fun e => h (e ▸ List.mem_cons_self)
    have ih := M_new (x := x) (v := v) fun z => h (List.mem_cons_of_mem _ z)
    rw [List.cons_append, M, ih, spr_append, spr_cons_ne hy, M]
    unfold spr; rw [List.append_assoc]; rfl
/-- v = s x r, x not in r: the copies share M(s) -/
theorem M_old {x : Nat} : ∀ {s r : W}, x ∉ r → M (s ++ x :: r ++ [x]) = M (s ++ x :: r) ++ (M (s ++ x :: r)).drop (L s)
  | [], r, h => by
    have ih := M_new h
    show M (x :: (r ++ [x])) = _
    rw [M, ih, spr_append, spr_cons_eq]
    show _ = M (x :: r) ++ (M (x :: r)).drop 0
    rw [List.drop_zero, M]
    unfold spr; rw [List.append_assoc]; rfl
  | y :: s, r, h => by
    have ih := M_old (x := x) (s := s) (r := r) h
    obtain ⟨d, hd⟩ := M_prefix s (x :: r)
    have e0 : (M (s ++ x :: r)).drop (L s) = d := by rw [hd]; unfold L; rw [List.drop_left]
    rw [e0] at ih
    obtain ⟨e, he⟩ := spr_head y d
    have e1 : M (y :: s ++ x :: r ++ [x]) = phi y (M (s ++ x :: r)) ++ spr y d := by
      show M (y :: (s ++ x :: r ++ [x])) = _
      rw [M, ih, spr_append]
    have e2 : M (y :: s ++ x :: r) = spr y (M s) ++ e := by
      show M (y :: (s ++ x :: r)) = _
      rw [M, hd, spr_append, he]
      unfold spr; rw [List.append_assoc]; rfl
    have e3 : (M (y :: s ++ x :: r)).drop (L (y :: s)) = e := by
      rw [e2]; unfold L; rw [M, List.drop_left]
    rw [e3, e1, he]
    show _ = M (y :: (s ++ x :: r)) ++ e
    rw [M]; unfold spr; rw [List.append_assoc]; rfl
end Mp

namespace Mp

/-! ### lengths -/
theorem L_nil : L [] = 0 := rfl
theorem L_new {x : Nat} {v : W} (h : x ∉ v) : L (v ++ [x]) = 2 * L v + 1 := by
  unfold L; rw [M_new h, List.length_append, List.length_cons]; omega
theorem L_prefix (u r : W) : L u ≤ L (u ++ r) := by
  obtain ⟨d, h⟩ := M_prefix u r
  unfold L; rw [h, List.length_append]; omega
theorem L_old {x : Nat} {s r : W} (h : x ∉ r) : L (s ++ x :: r ++ [x]) + L s = 2 * L (s ++ x :: r) := by
  have h1 := L_prefix s (x :: r)
  have h2 : L (s ++ x :: r ++ [x]) = L (s ++ x :: r) + (L (s ++ x :: r) - L s) := by
    unfold L; rw [M_old h, List.length_append, List.length_drop]; rfl
  omega
theorem spr_length_pos (x : Nat) (w : W) : 0 < (spr x w).length := by
  obtain ⟨r, h⟩ := spr_head x w; rw [h]; simp
theorem phi_length_lt (x y : Nat) (d : W) : 0 < (phi x (y :: d)).length := by
  rw [phi_cons, phi_one, List.length_append]; split <;> simp <;> omega
/-- strictly longer -/
theorem L_lt : ∀ (u : W) (x : Nat) (r : W), L u < L (u ++ x :: r)
  | [], x, r => by unfold L; exact spr_length_pos x (M r)
  | c :: u, x, r => by
    have ih := L_lt u x r
    obtain ⟨d, h⟩ := M_prefix u (x :: r)
    unfold L at *
    rw [h, List.length_append] at ih
    cases d with
    | nil => simp at ih
    | cons y d =>
      rw [List.cons_append, M, M, h, spr_append]
      have h2 := phi_length_lt c y d
      have h3 : (spr c (y :: d)).length = (phi c (y :: d)).length + 1 := by unfold spr; simp
      have h4 : (spr c (M u)).length = (phi c (M u)).length + 1 := by unfold spr; simp
      rw [List.length_append, h3, h4]; omega
theorem L_take_le (v : W) (k : Nat) : L (v.take k) ≤ L v := by
  have := L_prefix (v.take k) (v.drop k)
  rwa [List.take_append_drop] at this
theorem L_take_mono (v : W) {j k : Nat} (h : j ≤ k) : L (v.take j) ≤ L (v.take k) := by
  have e : v.take j = (v.take k).take j := by rw [List.take_take, Nat.min_eq_left h]
  rw [e]; exact L_take_le _ _
theorem M_take (v : W) (k : Nat) : (M v).take (L (v.take k)) = M (v.take k) := by
  obtain ⟨d, h⟩ := M_prefix (v.take k) (v.drop k)
  rw [List.take_append_drop] at h
  rw [h]; unfold L; exact List.take_left
theorem M_ne_nil {v : W} (h : v ≠ []) : M v ≠ [] := by
  cases v with
  | nil => exact absurd rfl h
  | cons x v => exact spr_ne_nil x _

/-! ### what stands behind each occurrence -/
/-- the letters behind each occurrence of z in a text, in their order; none at the end -/
def fol (z : W) : W → List (Option Nat)
  | [] => if z = [] then [none] else []
  | a :: r => if z.isPrefixOf (a :: r) then (a :: r)[z.length]? :: fol z r else fol z r
def cnt (z m : W) : Nat := (fol z m).length

theorem isPrefixOf_iff {z m : W} : z.isPrefixOf m = true ↔ z <+: m := List.isPrefixOf_iff_prefix
theorem pre_get {z m : W} (h : z <+: m) {i : Nat} (hi : i < z.length) : m[i]? = z[i]? := by
  obtain ⟨t, rfl⟩ := h
  rw [List.getElem?_append_left hi]
theorem phi_prefix (c : Nat) {w m : W} (h : w <+: m) : phi c w <+: phi c m := by
  obtain ⟨t, rfl⟩ := h
  exact ⟨phi c t, (phi_append c w t).symm⟩
theorem spr_prefix (c : Nat) {w m : W} (h : w <+: m) : spr c w <+: spr c m := by
  obtain ⟨t, rfl⟩ := h
  obtain ⟨e, he⟩ := spr_head c t
  refine ⟨e, ?_⟩
  rw [spr_append, he]; unfold spr; rw [List.append_assoc]; rfl
theorem of_spr_prefix (c : Nat) : ∀ {w m : W}, spr c w <+: spr c m → w <+: m
  | [], m, _ => List.nil_prefix
  | y :: w, [], h => by
    exfalso
    have h1 := h.length_le
    have h2 := spr_length_pos c w
    rw [spr_cons, phi_one, List.length_append] at h1
    split at h1 <;> simp [spr_nil] at h1 <;> omega
  | y :: w, a :: m, h => by
    by_cases hy : y = c
    · subst hy
      rw [spr_cons_eq] at h
      by_cases ha : a = y
      · subst ha
        rw [spr_cons_eq, List.cons_prefix_cons] at h
        exact List.cons_prefix_cons.mpr ⟨rfl, of_spr_prefix _ h.2⟩
      · rw [spr_cons_ne ha, List.cons_prefix_cons] at h
        obtain ⟨e, he⟩ := spr_head y w
        rw [he, List.cons_prefix_cons] at h
        exact absurd h.2.1 (Ne.symm ha)
    · rw [spr_cons_ne hy] at h
      by_cases ha : a = c
      · subst ha
        rw [spr_cons_eq, List.cons_prefix_cons] at h
        obtain ⟨e, he⟩ := spr_head a m
        rw [he, List.cons_prefix_cons] at h
        exact absurd h.2.1 hy
      · rw [spr_cons_ne ha, List.cons_prefix_cons, List.cons_prefix_cons] at h
        obtain ⟨_, e, h⟩ := h
        exact List.cons_prefix_cons.mpr ⟨e, of_spr_prefix _ h⟩
theorem spr_prefix_iff (c : Nat) {w m : W} : (spr c w).isPrefixOf (spr c m) = w.isPrefixOf m := by
  rw [Bool.eq_iff_iff, isPrefixOf_iff, isPrefixOf_iff]
  exact ⟨of_spr_prefix c, spr_prefix c⟩
/-- the letter behind -/
theorem spr_behind (c : Nat) {w m : W} (h : w <+: m) : (spr c m)[(spr c w).length]? = m[w.length]? := by
  obtain ⟨t, rfl⟩ := h
  have e1 : (spr c w).length = (phi c w).length + 1 := by unfold spr; simp
  rw [spr_append, e1, List.getElem?_append_right (by omega), List.getElem?_append_right (Nat.le_refl _)]
  have e2 : (phi c w).length + 1 - (phi c w).length = 1 := by omega
  rw [e2, Nat.sub_self]
  cases t with
  | nil => rfl
  | cons a t =>
    by_cases ha : a = c
    · subst ha
      rw [spr_cons_eq]
      obtain ⟨e, he⟩ := spr_head a t
      rw [he]; rfl
    · rw [spr_cons_ne ha]; rfl
theorem not_spr_prefix {c a : Nat} (ha : a ≠ c) (w r : W) : (spr c w).isPrefixOf (a :: r) = false := by
  rw [Bool.eq_false_iff]
  intro h
  rw [isPrefixOf_iff] at h
  obtain ⟨e, he⟩ := spr_head c w
  rw [he, List.cons_prefix_cons] at h
  exact ha h.1.symm
/-- SPREAD: what stands behind a spread text is what stands behind the text -/
theorem fol_spr (c : Nat) (w : W) : ∀ m : W, fol (spr c w) (spr c m) = fol w m
  | [] => by
    have h0 : fol (spr c w) [] = [] := by rw [fol, if_neg (spr_ne_nil c w)]
    rw [spr_nil, fol.eq_2, h0]
    have e := spr_prefix_iff c (w := w) (m := [])
    rw [spr_nil] at e
    rw [e]
    cases w with
    | nil => rfl
    | cons y w => rfl
  | a :: m => by
    have ih := fol_spr c w m
    have e := spr_prefix_iff c (w := w) (m := a :: m)
    by_cases ha : a = c
    · subst ha
      rw [spr_cons_eq] at e ⊢
      rw [fol, e, ih, fol]
      by_cases hp : w.isPrefixOf (a :: m) = true
      · rw [if_pos hp, if_pos hp]
        have b := spr_behind a (isPrefixOf_iff.mp hp)
        rw [spr_cons_eq] at b
        rw [b]
      · rw [if_neg hp, if_neg hp]
    · rw [spr_cons_ne ha] at e ⊢
      rw [fol, e, fol, not_spr_prefix ha, if_neg Bool.false_ne_true, ih, fol]
      by_cases hp : w.isPrefixOf (a :: m) = true
      · rw [if_pos hp, if_pos hp]
        have b := spr_behind c (isPrefixOf_iff.mp hp)
        rw [spr_cons_ne ha] at b
        rw [b]
      · rw [if_neg hp, if_neg hp]
/-- a letter that isn't c has c ahead of it -/
theorem fol_ahead {c y : Nat} (hy : y ≠ c) (z : W) : ∀ m : W, fol (c :: y :: z) (spr c m) = fol (y :: z) (spr c m)
  | [] => by
    show fol (c :: y :: z) [c] = fol (y :: z) [c]
    have h1 : (c :: y :: z).isPrefixOf [c] = false := by simp [List.isPrefixOf]
    have h2 : (y :: z).isPrefixOf [c] = false := by simp [List.isPrefixOf, hy]
    rw [fol.eq_2, fol.eq_2, h1, h2, if_neg Bool.false_ne_true, if_neg Bool.false_ne_true, fol.eq_1, fol.eq_1, if_neg (List.cons_ne_nil _ _), if_neg (List.cons_ne_nil _ _)]
  | a :: m => by
    have ih := fol_ahead hy z m
    by_cases ha : a = c
    · subst ha
      rw [spr_cons_eq]
      obtain ⟨e, he⟩ := spr_head a m
      have h1 : (a :: y :: z).isPrefixOf (a :: spr a m) = false := by
        rw [he]; simp [List.isPrefixOf, hy]
      have h2 : (y :: z).isPrefixOf (a :: spr a m) = false := by simp [List.isPrefixOf, hy]
      rw [fol, fol, h1, h2, if_neg Bool.false_ne_true, if_neg Bool.false_ne_true, ih]
    · rw [spr_cons_ne ha]
      have h1 : (c :: y :: z).isPrefixOf (c :: a :: spr c m) = (y :: z).isPrefixOf (a :: spr c m) := by simp [List.isPrefixOf]
      have h2 : (y :: z).isPrefixOf (c :: a :: spr c m) = false := by simp [List.isPrefixOf, hy]
      have h3 : (c :: y :: z).isPrefixOf (a :: spr c m) = false := by simp [List.isPrefixOf, Ne.symm ha]
      rw [fol, h1, fol, h3, if_neg Bool.false_ne_true, ih]
      rw [fol.eq_2 (y :: z) c, h2, if_neg Bool.false_ne_true, fol.eq_2 (y :: z) a]
      rfl
/-- each letter that isn't c has c behind it -/
def Good (c : Nat) (s : W) : Prop := ∀ i y, s[i]? = some y → y ≠ c → s[i + 1]? = some c
theorem Good.tail {c a : Nat} {s : W} (h : Good c (a :: s)) : Good c s := fun i y hi hy => by
  have := h (i + 1) y (by simpa using hi) hy
  simpa using this
theorem good_spr (c : Nat) : ∀ m : W, Good c (spr c m)
  | [] => fun i y hi hy => by
    rw [spr_nil] at hi
    cases i with
    | zero => simp at hi; exact absurd hi.symm hy
    | succ i => simp at hi
  | a :: m => by
    have ih := good_spr c m
    obtain ⟨e, he⟩ := spr_head c m
    intro i y hi hy
    by_cases ha : a = c
    · subst ha
      rw [spr_cons_eq] at hi ⊢
      cases i with
      | zero => simp at hi; exact absurd hi.symm hy
      | succ i => simp at hi ⊢; exact ih i y hi hy
    · rw [spr_cons_ne ha] at hi ⊢
      match i, hi with
      | 0, hi => simp at hi; exact absurd hi.symm hy
      | 1, _ => rw [he]; rfl
      | i + 2, hi => simp at hi ⊢; exact ih i y hi hy
theorem concat_prefix {z m : W} {c : Nat} (h : z <+: m) (hc : m[z.length]? = some c) : z ++ [c] <+: m := by
  obtain ⟨t, rfl⟩ := h
  rw [List.getElem?_append_right (Nat.le_refl _), Nat.sub_self] at hc
  cases t with
  | nil => simp at hc
  | cons a t =>
    simp at hc; subst hc
    exact ⟨t, by simp⟩
theorem fol_behind {c y : Nat} (hy : y ≠ c) (z : W) : ∀ {s : W}, Good c s → fol (z ++ [y]) s = List.replicate (fol (z ++ [y, c]) s).length (some c)
  | [], _ => by rw [fol, fol, if_neg (by simp), if_neg (by simp)]; rfl
  | a :: r, g => by
    have ih := fol_behind hy z g.tail
    have e : (z ++ [y]).isPrefixOf (a :: r) = (z ++ [y, c]).isPrefixOf (a :: r) := by
      rw [Bool.eq_iff_iff, isPrefixOf_iff, isPrefixOf_iff]
      constructor
      · intro h
        have h1 := pre_get h (i := z.length) (by simp)
        rw [List.getElem?_append_right (Nat.le_refl _), Nat.sub_self] at h1
        have h2 := g z.length y (by simpa using h1) hy
        have h3 := concat_prefix h (c := c) (by simpa using h2)
        simpa using h3
      · intro h
        exact List.IsPrefix.trans ⟨[c], by simp⟩ h
    rw [fol, fol.eq_2 (z ++ [y, c]), ← e]
    by_cases hp : (z ++ [y]).isPrefixOf (a :: r) = true
    · rw [if_pos hp, if_pos hp, ih]
      have h := isPrefixOf_iff.mp hp
      have h1 := pre_get h (i := z.length) (by simp)
      rw [List.getElem?_append_right (Nat.le_refl _), Nat.sub_self] at h1
      have h2 := g z.length y (by simpa using h1) hy
      have h3 : (a :: r)[(z ++ [y]).length]? = some c := by simpa using h2
      rw [h3]; simp [List.replicate_succ]
    · rw [if_neg hp, if_neg hp, ih]
end Mp

namespace Mp
theorem fol_nil_any (m : W) : fol [] m = m.map some ++ [none] := by
  induction m with
  | nil => rfl
  | cons a r ih => rw [fol, ih]; rfl
theorem infix_cons_iff {z r : W} {a : Nat} : z <:+: a :: r ↔ z <+: a :: r ∨ z <:+: r := List.infix_cons_iff
theorem fol_ne {z : W} : ∀ {m : W}, fol z m ≠ [] ↔ z <:+: m
  | [] => by
    rw [fol]
    by_cases h : z = []
    · subst h; simp
    · rw [if_neg h]; simp [h]
  | a :: r => by
    have ih := fol_ne (z := z) (m := r)
    rw [fol, infix_cons_iff, ← ih]
    by_cases hp : z.isPrefixOf (a :: r) = true
    · rw [if_pos hp]
      exact ⟨fun _ => .inl (isPrefixOf_iff.mp hp), fun _ => List.cons_ne_nil _ _⟩
    · rw [if_neg hp]
      exact ⟨.inr, fun h => h.elim (fun q => absurd (isPrefixOf_iff.mpr q) hp) id⟩
theorem cnt_pos {z m : W} : 0 < cnt z m ↔ z <:+: m := by
  rw [← fol_ne]; unfold cnt
  exact List.length_pos_iff
theorem cnt_zero {z m : W} (h : ¬ z <:+: m) : cnt z m = 0 := by
  have := mt cnt_pos.mp h; omega

/-- no two letters side by side that aren't c -/
def NoAdj (c : Nat) (u : W) : Prop := ∀ i a b, u[i]? = some a → u[i + 1]? = some b → a = c ∨ b = c
theorem Good.noAdj {c : Nat} {s : W} (h : Good c s) : NoAdj c s := fun i a b h1 h2 => by
  by_cases ha : a = c
  · exact .inl ha
  · have := h i a h1 ha
    rw [this] at h2; exact .inr (Option.some.inj h2).symm
theorem NoAdj.infix {c : Nat} {u s : W} (h : NoAdj c s) (hi : u <:+: s) : NoAdj c u := by
  obtain ⟨p, q, rfl⟩ := hi
  intro i a b h1 h2
  have g : ∀ {j x}, u[j]? = some x → (p ++ u ++ q)[p.length + j]? = some x := by
    intro j x e
    have hj : j < u.length := (List.getElem?_eq_some_iff.mp e).1
    rw [List.append_assoc, List.getElem?_append_right (by omega), List.getElem?_append_left (by omega)]
    rw [show p.length + j - p.length = j by omega]; exact e
  exact h (p.length + i) a b (g h1) (g h2)
theorem NoAdj.tail {c a : Nat} {u : W} (h : NoAdj c (a :: u)) : NoAdj c u := fun i x y h1 h2 => h (i + 1) x y (by simpa using h1) (by simpa using h2)
theorem unspread {c : Nat} : ∀ (n : Nat) (u : W), u.length ≤ n → NoAdj c (c :: u) → (c :: u).getLast? = some c → ∃ w, c :: u = spr c w
  | _, [], _, _, _ => ⟨[], rfl⟩
  | 0, _ :: _, h, _, _ => by simp at h
  | n + 1, a :: u, h, na, hl => by
    by_cases ha : a = c
    · subst ha
      obtain ⟨w, hw⟩ := unspread n u (by simp at h; omega) na.tail (by rw [List.getLast?_cons_cons] at hl; exact hl)
      exact ⟨a :: w, by rw [spr_cons_eq, hw]⟩
    · match u, h, na, hl with
      | [], _, _, hl => simp at hl; exact absurd hl ha
      | b :: u, h, na, hl =>
        have hb : b = c := by
          rcases na 1 a b (by simp) (by simp) with e | e
          · exact absurd e ha
          · exact e
        subst hb
        obtain ⟨w, hw⟩ := unspread n u (by simp at h; omega) na.tail.tail (by rw [List.getLast?_cons_cons, List.getLast?_cons_cons] at hl; exact hl)
        exact ⟨a :: w, by rw [spr_cons_ne ha, hw]⟩
/-- the piece with c about it -/
theorem ext_ahead {c : Nat} {z : W} (hz : z ≠ []) (h : NoAdj c z) : ∃ u, (∀ m, fol z (spr c m) = fol (c :: u) (spr c m)) ∧ NoAdj c (c :: u) ∧ (c :: u).getLast? = z.getLast? := by
  cases z with
  | nil => exact absurd rfl hz
  | cons y z =>
    by_cases hy : y = c
    · subst hy
      exact ⟨z, fun _ => rfl, h, rfl⟩
    · refine ⟨y :: z, fun m => (fol_ahead hy z m).symm, fun i a b h1 h2 => ?_, by rw [List.getLast?_cons_cons]⟩
      cases i with
      | zero => left; simpa using h1.symm
      | succ i => exact h i a b (by simpa using h1) (by simpa using h2)
theorem ext_of {c : Nat} {z : W} (hz : z ≠ []) (h : NoAdj c z) : ∃ w, (∀ m, fol z (spr c m) = fol w m) ∨ ∀ m, fol z (spr c m) = List.replicate (cnt w m) (some c) := by
  obtain ⟨u, h1, h2, h3⟩ := ext_ahead hz h
  have hl : ∃ y, (c :: u).getLast? = some y := by
    cases e : (c :: u).getLast? with
    | none => simp at e
    | some y => exact ⟨y, rfl⟩
  obtain ⟨y, hy⟩ := hl
  by_cases e : y = c
  · subst e
    obtain ⟨w, hw⟩ := unspread u.length u (Nat.le_refl _) h2 hy
    exact ⟨w, .inl fun m => by rw [h1, hw, fol_spr]⟩
  · have hn : NoAdj c (c :: (u ++ [c])) := by
      intro i a b e1 e2
      rw [← List.cons_append] at e1 e2
      by_cases hi : i + 1 < (c :: u).length
      · rw [List.getElem?_append_left (by omega)] at e1
        rw [List.getElem?_append_left hi] at e2
        exact h2 i a b e1 e2
      · have hlt := (List.getElem?_eq_some_iff.mp e2).1
        rw [List.length_append] at hlt
        rw [List.getElem?_append_right (by omega)] at e2
        have : i + 1 - (c :: u).length = 0 := by simp at hlt hi ⊢; omega
        rw [this] at e2
        exact .inr (by simpa using e2.symm)
    obtain ⟨w, hw⟩ := unspread (u ++ [c]).length (u ++ [c]) (Nat.le_refl _) hn (by rw [← List.cons_append, List.getLast?_concat])
    refine ⟨w, .inr fun m => ?_⟩
    obtain ⟨z0, hz0⟩ : ∃ z0, c :: u = z0 ++ [y] := ⟨(c :: u).dropLast, by
      obtain ⟨l, hl⟩ := List.getLast?_eq_some_iff.mp hy
      rw [hl]; simp⟩
    rw [h1, hz0, fol_behind e z0 (good_spr c m)]
    unfold cnt
    rw [← fol_spr c w m, ← hw, ← List.cons_append, hz0, List.append_assoc]; rfl
theorem take_succ_cons (x : Nat) (v : W) (k : Nat) : (x :: v).take (k + 1) = x :: v.take k := rfl
/-- THE LAW of homes: K the least with z in M of the first K -/
theorem home_law : ∀ (v z : W) (K : Nat), K ≤ v.length → z <:+: M (v.take K) → (∀ k, k < K → ¬ z <:+: M (v.take k)) →
    (fol z (M (v.take K)) = [none] ∧ fol z (M v) = (M (v.drop K)).map some ++ [none]) ∨
      ∃ c, fol z (M (v.take K)) = [some c] ∧ fol z (M v) = List.replicate (L (v.drop K) + 1) (some c)
  | v, [], K, _, _, hn => by
    have : K = 0 := by
      rcases Nat.eq_zero_or_pos K with h | h
      · exact h
      · exact absurd (List.nil_infix) (hn 0 h)
    subst this
    exact .inl ⟨rfl, fol_nil_any _⟩
  | [], y :: z, K, hK, ho, _ => by
    simp [M] at ho
  | c :: v, y :: z, 0, _, ho, _ => by simp [M] at ho
  | c :: v, y :: z, K + 1, hK, ho, hn => by
    rw [take_succ_cons, M] at ho
    obtain ⟨w, hw⟩ := ext_of (c := c) (z := y :: z) (List.cons_ne_nil _ _) ((good_spr c _).noAdj.infix ho)
    have occ : ∀ m, y :: z <:+: spr c m ↔ w <:+: m := by
      intro m
      rw [← cnt_pos, ← cnt_pos]
      unfold cnt
      rcases hw with h | h
      · rw [h]
      · rw [h]; simp [cnt]
    have ih := home_law v w K (by simpa using hK) ((occ _).mp ho) fun k hk q => hn (k + 1) (by omega) (by rw [take_succ_cons, M]; exact (occ _).mpr q)
    rw [take_succ_cons, List.drop_succ_cons, M, M]
    rcases hw with h | h
    · rw [h, h]; exact ih
    · right
      refine ⟨c, ?_⟩
      rw [h, h]
      rcases ih with ⟨h1, h2⟩ | ⟨d, h1, h2⟩
      · unfold cnt; rw [h1, h2]; simp [L]
      · unfold cnt; rw [h1, h2]; simp
termination_by v _ _ => v.length

/-- it stands in M(v): then some first K presses are its home's -/
theorem home_exists {v z : W} (h : z <:+: M v) : ∃ K, K ≤ v.length ∧ z <:+: M (v.take K) ∧ ∀ k, k < K → ¬ z <:+: M (v.take k) := by
  have : ∀ n, n ≤ v.length → z <:+: M (v.take n) → ∃ K, K ≤ v.length ∧ z <:+: M (v.take K) ∧ ∀ k, k < K → ¬ z <:+: M (v.take k) := by
    intro n
    induction n using Nat.strongRecOn with
    | _ n ih =>
      intro hn ho
      by_cases q : ∃ k, k < n ∧ z <:+: M (v.take k)
      · obtain ⟨k, hk, hz⟩ := q
        exact ih k hk (by omega) hz
      · exact ⟨n, hn, ho, fun k hk hz => q ⟨k, hk, hz⟩⟩
  exact this v.length (Nat.le_refl _) (by rw [List.take_length]; exact h)
/-- how often it stands -/
theorem home_cnt {v z : W} {K : Nat} (hK : K ≤ v.length) (ho : z <:+: M (v.take K)) (hn : ∀ k, k < K → ¬ z <:+: M (v.take k)) : cnt z (M v) = L (v.drop K) + 1 ∧ cnt z (M (v.take K)) = 1 := by
  rcases home_law v z K hK ho hn with ⟨h1, h2⟩ | ⟨c, h1, h2⟩
  · unfold cnt; rw [h1, h2]; simp [L]
  · unfold cnt; rw [h1, h2]; simp
end Mp

namespace Mp
/-! ### press by press -/
/-- the press at i is a letter that isn't pressed ahead -/
def IsNew (v : W) (i : Nat) : Prop := ∀ k, k < i → v[k]? ≠ v[i]?
/-- j is the last press ahead of i that is like it -/
def IsLast (v : W) (i j : Nat) : Prop := j < i ∧ v[j]? = v[i]? ∧ ∀ k, j < k → k < i → v[k]? ≠ v[i]?
theorem take_one {v : W} {i : Nat} {x : Nat} (h : v[i]? = some x) : v.take (i + 1) = v.take i ++ [x] := by
  rw [List.take_add_one, h]; rfl
theorem new_notin {v : W} {i x : Nat} (h : v[i]? = some x) (hn : IsNew v i) : x ∉ v.take i := fun hm => by
  obtain ⟨k, hk⟩ := List.mem_iff_getElem?.mp hm
  rw [List.getElem?_take] at hk
  split at hk
  · rename_i hlt
    exact hn k hlt (hk.trans h.symm)
  · cases hk
theorem step_new {v : W} {i x : Nat} (h : v[i]? = some x) (hn : IsNew v i) : M (v.take (i + 1)) = M (v.take i) ++ x :: M (v.take i) := by
  rw [take_one h]; exact M_new (new_notin h hn)
theorem last_split {v : W} {i j x : Nat} (h : v[i]? = some x) (hl : IsLast v i j) : ∃ r, v.take i = v.take j ++ x :: r ∧ x ∉ r := by
  obtain ⟨h1, h2, h3⟩ := hl
  refine ⟨(v.take i).drop (j + 1), ?_, fun hm => ?_⟩
  · have e : v.take j = (v.take i).take j := by rw [List.take_take, Nat.min_eq_left (Nat.le_of_lt h1)]
    have e2 : (v.take i)[j]? = some x := by rw [List.getElem?_take, if_pos h1, h2, h]
    rw [e]
    conv => lhs; rw [← List.take_append_drop j (v.take i)]
    have hj := (List.getElem?_eq_some_iff.mp e2).1
    rw [List.drop_eq_getElem_cons hj, (List.getElem?_eq_some_iff.mp e2).2]
  · obtain ⟨k, hk⟩ := List.mem_iff_getElem?.mp hm
    rw [List.getElem?_drop, List.getElem?_take] at hk
    split at hk
    · rename_i hlt
      exact h3 (j + 1 + k) (by omega) hlt (hk.trans h.symm)
    · cases hk
theorem step_old {v : W} {i j x : Nat} (h : v[i]? = some x) (hl : IsLast v i j) : M (v.take (i + 1)) = M (v.take i) ++ (M (v.take i)).drop (L (v.take j)) := by
  obtain ⟨r, e, hr⟩ := last_split h hl
  rw [take_one h, e]; exact M_old hr
theorem len_new {v : W} {i x : Nat} (h : v[i]? = some x) (hn : IsNew v i) : L (v.take (i + 1)) = 2 * L (v.take i) + 1 := by
  unfold L; rw [step_new h hn]; simp; omega
theorem len_old {v : W} {i j x : Nat} (h : v[i]? = some x) (hl : IsLast v i j) : L (v.take (i + 1)) + L (v.take j) = 2 * L (v.take i) ∧ L (v.take j) < L (v.take i) := by
  obtain ⟨r, e, hr⟩ := last_split h hl
  have h1 := L_lt (v.take j) x r
  rw [← e] at h1
  refine ⟨?_, h1⟩
  have h2 : L (v.take (i + 1)) = L (v.take i) + (L (v.take i) - L (v.take j)) := by
    unfold L; rw [step_old h hl, List.length_append, List.length_drop]; rfl
  omega
theorem last_or_new (v : W) (i : Nat) : IsNew v i ∨ ∃ j, IsLast v i j := by
  have : ∀ n, n ≤ i → (∀ k, k < n → v[k]? ≠ v[i]?) ∨ ∃ j, j < n ∧ v[j]? = v[i]? ∧ ∀ k, j < k → k < n → v[k]? ≠ v[i]? := by
    intro n
    induction n with
    | zero => intro _; exact .inl fun k hk => absurd hk (Nat.not_lt_zero k)
    | succ n ih =>
      intro hn
      by_cases e : v[n]? = v[i]?
      · exact .inr ⟨n, by omega, e, fun k h1 h2 => by omega⟩
      · rcases ih (by omega) with q | ⟨j, h1, h2, h3⟩
        · refine .inl fun k hk => ?_
          by_cases hkn : k = n
          · subst hkn; exact e
          · exact q k (by omega)
        · refine .inr ⟨j, by omega, h2, fun k hk1 hk2 => ?_⟩
          by_cases hkn : k = n
          · subst hkn; exact e
          · exact h3 k hk1 (by omega)
  exact this i (Nat.le_refl _)
theorem new_not_last {v : W} {i j : Nat} (hn : IsNew v i) (hl : IsLast v i j) : False := hn j hl.1 hl.2.1
/-- by the lengths: a new letter -/
theorem new_iff {v : W} {i x : Nat} (h : v[i]? = some x) : L (v.take (i + 1)) = 2 * L (v.take i) + 1 ↔ IsNew v i := by
  constructor
  · intro e
    rcases last_or_new v i with q | ⟨j, hl⟩
    · exact q
    · have := len_old h hl; omega
  · exact len_new h
theorem rev_copy {A B : W} (hB : B.reverse = B) (hA : A.reverse = A) {d : W} (h : B = A ++ d) : B = d.reverse ++ A := by
  have := congrArg List.reverse h
  rw [hB, List.reverse_append, hA] at this
  exact this
/-- M(vx) ends with M(v) -/
theorem step_pre {v : W} (i : Nat) : ∃ d, M (v.take (i + 1)) = M (v.take i) ++ d ∧ M (v.take (i + 1)) = d.reverse ++ M (v.take i) := by
  have e : v.take (i + 1) = v.take i ++ v[i]?.toList := List.take_add_one
  obtain ⟨d, h⟩ := M_prefix (v.take i) v[i]?.toList
  rw [← e] at h
  exact ⟨d, h, rev_copy (M_pal _) (M_pal _) h⟩
/-! ### a letter's place, press by press -/
theorem at_less {v : W} {i p : Nat} (hp : p < L (v.take i)) : (M (v.take (i + 1)))[p]? = (M (v.take i))[p]? := by
  obtain ⟨d, h, _⟩ := step_pre (v := v) i
  rw [h, List.getElem?_append_left hp]
theorem at_new {v : W} {i x : Nat} (h : v[i]? = some x) (hn : IsNew v i) : (M (v.take (i + 1)))[L (v.take i)]? = some x := by
  unfold L; rw [step_new h hn, List.getElem?_append_right (Nat.le_refl _), Nat.sub_self]; rfl
theorem at_more {v : W} {i x p : Nat} (h : v[i]? = some x) (hp : L (v.take i) ≤ p) (hn : ¬ (p = L (v.take i) ∧ IsNew v i)) :
    L (v.take (i + 1)) - L (v.take i) ≤ p ∧ (M (v.take (i + 1)))[p]? = (M (v.take i))[p - (L (v.take (i + 1)) - L (v.take i))]? := by
  obtain ⟨d, h1, h2⟩ := step_pre (v := v) i
  have hd : d.reverse.length = L (v.take (i + 1)) - L (v.take i) := by
    have : L (v.take (i + 1)) = d.reverse.length + L (v.take i) := by
      unfold L; rw [h2, List.length_append]
    omega
  have hle : L (v.take (i + 1)) - L (v.take i) ≤ p := by
    rcases last_or_new v i with q | ⟨j, hl⟩
    · have := len_new h q
      have : p ≠ L (v.take i) := fun e => hn ⟨e, q⟩
      omega
    · have := len_old h hl; omega
  refine ⟨hle, ?_⟩
  rw [h2, List.getElem?_append_right (by rw [hd]; exact hle), hd]
/-- the letter behind M of a beginning is the next press -/
theorem next_press : ∀ (v : W) (j : Nat), j < v.length → (M v)[L (v.take j)]? = v[j]?
  | [], _, h => by simp at h
  | c :: v, 0, _ => by
    obtain ⟨e, he⟩ := spr_head c (M v)
    rw [M, he]; rfl
  | c :: v, j + 1, h => by
    have ih := next_press v j (by simpa using h)
    obtain ⟨d, hd⟩ := M_prefix (v.take j) (v.drop j)
    rw [List.take_append_drop] at hd
    have := spr_behind c (w := M (v.take j)) (m := M v) ⟨d, hd.symm⟩
    show (spr c (M v))[(spr c (M (v.take j))).length]? = _
    rw [this]
    simpa [L] using ih

/-! ### the text about the midst of a press -/
/-- what stands about the midst: a of the first copy's last letters, then what the second copy adds, as far as a of its letters -/
def mids (v : W) (i a : Nat) (b : W) : W := ((M (v.take i)).take a).reverse ++ b
theorem take_pal {A : W} (hA : A.reverse = A) (a : Nat) : (A.take a).reverse = A.drop (A.length - a) := by
  have h : (A.take a).reverse = A.reverse.drop (A.length - a) := by rw [List.reverse_take]
  rw [h, hA]
theorem drop_len_take {A : W} (hA : A.reverse = A) (a : Nat) : (A.take a).reverse = A.drop (A.length - min A.length a) := by
  rw [take_pal hA]
  congr 1
  omega
/-- it stands there: from L(v.take i) less a on -/
theorem mids_new {v : W} {i x a : Nat} (h : v[i]? = some x) (hn : IsNew v i) : ∃ q, (M (v.take (i + 1))).drop (L (v.take i) - ((M (v.take i)).take a).length) = ((M (v.take i)).take a).reverse ++ x :: (M (v.take i)).take a ++ q := by
  refine ⟨(M (v.take i)).drop a, ?_⟩
  rw [step_new h hn, List.drop_append_of_le_length (by unfold L; omega)]
  have e : (M (v.take i)).drop (L (v.take i) - ((M (v.take i)).take a).length) = ((M (v.take i)).take a).reverse := by
    rw [drop_len_take (M_pal _), List.length_take]; unfold L; congr 1; omega
  rw [e, List.append_assoc, List.cons_append, List.take_append_drop]
theorem mids_old {v : W} {i j x a : Nat} (h : v[i]? = some x) (hl : IsLast v i j) : ∃ q, (M (v.take (i + 1))).drop (L (v.take i) - ((M (v.take i)).take a).length) = ((M (v.take i)).take a).reverse ++ ((M (v.take i)).take a).drop (L (v.take j)) ++ q := by
  have e : (M (v.take i)).drop (L (v.take i) - ((M (v.take i)).take a).length) = ((M (v.take i)).take a).reverse := by
    rw [drop_len_take (M_pal _), List.length_take]; unfold L; congr 1; omega
  by_cases hs : L (v.take j) ≤ a
  · refine ⟨(M (v.take i)).drop a, ?_⟩
    rw [step_old h hl, List.drop_append_of_le_length (by unfold L; omega), e, List.append_assoc]
    congr 1
    conv => lhs; rw [← List.take_append_drop a (M (v.take i))]
    rw [List.drop_append]
    by_cases hlen : a ≤ (M (v.take i)).length
    · rw [List.length_take, Nat.min_eq_left hlen, Nat.sub_eq_zero_of_le hs, List.drop_zero]
    · rw [List.drop_eq_nil_of_le (by omega : (M (v.take i)).length ≤ a), List.drop_nil]
  · refine ⟨(M (v.take i)).drop (L (v.take j)), ?_⟩
    rw [step_old h hl, List.drop_append_of_le_length (by unfold L; omega), e, List.append_assoc]
    congr 1
    rw [List.drop_eq_nil_of_le (by rw [List.length_take]; omega : ((M (v.take i)).take a).length ≤ L (v.take j))]; rfl
theorem drop_take_infix {B z : W} {p q r : Nat} (h : z <+: B.drop p) (h1 : q ≤ p) (h2 : p + z.length ≤ q + r) : z <:+: (B.drop q).take r := by
  obtain ⟨t, ht⟩ := h
  have e1 : B.drop p = (B.drop q).drop (p - q) := by rw [List.drop_drop]; congr 1; omega
  have e2 : (B.drop q).take r = (B.drop q).take (p - q) ++ (((B.drop q).drop (p - q)).take (r - (p - q))) := by
    rw [← List.take_add]; congr 1; omega
  rw [e2, ← e1, ← ht]
  refine ⟨(B.drop q).take (p - q), t.take (r - (p - q) - z.length), ?_⟩
  rw [List.append_assoc]
  congr 1
  rw [List.take_append, List.take_of_length_le (by omega : z.length ≤ r - (p - q))]
theorem infix_at {z m : W} : z <:+: m ↔ ∃ p, z <+: m.drop p ∧ p + z.length ≤ m.length := by
  constructor
  · rintro ⟨s, t, rfl⟩
    refine ⟨s.length, ⟨t, ?_⟩, ?_⟩
    · rw [List.append_assoc, List.drop_left]
    · simp
  · rintro ⟨p, ⟨t, h⟩, _⟩
    exact ⟨m.take p, t, by rw [List.append_assoc, h, List.take_append_drop]⟩
/-- a piece of M(vx) that doesn't stand in M(v) goes beyond both copies -/
theorem crosses {v z : W} {i p : Nat} (hp : z <+: (M (v.take (i + 1))).drop p) (hz : z ≠ []) (hno : ¬ z <:+: M (v.take i)) :
    L (v.take i) < p + z.length ∧ p < L (v.take (i + 1)) - L (v.take i) ∧ p + z.length ≤ L (v.take (i + 1)) := by
  obtain ⟨d, h1, h2⟩ := step_pre (v := v) i
  have hle := hp.length_le
  rw [List.length_drop] at hle
  have hzl := List.length_pos_iff.mpr hz
  have e1 : (M (v.take (i + 1))).length = (M (v.take i)).length + d.length := by rw [h1, List.length_append]
  unfold L
  refine ⟨?_, ?_, by omega⟩
  · rcases Nat.lt_or_ge (M (v.take i)).length (p + z.length) with q | q
    · exact q
    · exfalso
      refine hno (infix_at.mpr ⟨p, ?_, q⟩)
      rw [h1, List.drop_append_of_le_length (by omega)] at hp
      exact List.prefix_of_prefix_length_le hp (List.prefix_append _ _) (by rw [List.length_drop]; omega)
  · rcases Nat.lt_or_ge p ((M (v.take (i + 1))).length - (M (v.take i)).length) with q | q
    · exact q
    · exfalso
      have e2 : d.reverse.length = d.length := List.length_reverse
      rw [h2, List.drop_append, List.drop_eq_nil_of_le (by omega : d.reverse.length ≤ p), List.nil_append] at hp
      exact hno (hp.isInfix.trans (List.drop_suffix _ _).isInfix)
theorem take_left_of {A q : W} {n : Nat} (h : n = A.length) : (A ++ q).take n = A := by subst h; exact List.take_left
theorem mids_holds_new {v z : W} {i x : Nat} (h : v[i]? = some x) (hn : IsNew v i) (hz : z ≠ []) (ho : z <:+: M (v.take (i + 1))) (hno : ¬ z <:+: M (v.take i)) :
    z <:+: ((M (v.take i)).take (z.length - 1)).reverse ++ x :: (M (v.take i)).take (z.length - 1) := by
  obtain ⟨p, hp, hple⟩ := infix_at.mp ho
  obtain ⟨c1, c2, c3⟩ := crosses hp hz hno
  obtain ⟨q, hq⟩ := mids_new (a := z.length - 1) h hn
  have hl := len_new h hn
  have hzl := List.length_pos_iff.mpr hz
  have e : ((M (v.take i)).take (z.length - 1)).reverse ++ x :: (M (v.take i)).take (z.length - 1) =
      ((M (v.take (i + 1))).drop (L (v.take i) - ((M (v.take i)).take (z.length - 1)).length)).take (2 * ((M (v.take i)).take (z.length - 1)).length + 1) := by
    rw [hq]
    exact (take_left_of (by rw [List.length_append, List.length_cons, List.length_reverse]; omega)).symm
  rw [e]
  have hb : ((M (v.take i)).take (z.length - 1)).length = min (z.length - 1) (L (v.take i)) := List.length_take
  exact drop_take_infix hp (by omega) (by omega)
theorem mids_holds_old {v z : W} {i j x : Nat} (h : v[i]? = some x) (hl : IsLast v i j) (hz : z ≠ []) (ho : z <:+: M (v.take (i + 1))) (hno : ¬ z <:+: M (v.take i)) :
    z <:+: ((M (v.take i)).take (z.length - 1)).reverse ++ ((M (v.take i)).take (z.length - 1)).drop (L (v.take j)) := by
  obtain ⟨p, hp, hple⟩ := infix_at.mp ho
  obtain ⟨c1, c2, c3⟩ := crosses hp hz hno
  obtain ⟨q, hq⟩ := mids_old (a := z.length - 1) h hl
  have hlen := len_old h hl
  have hzl := List.length_pos_iff.mpr hz
  have hb : ((M (v.take i)).take (z.length - 1)).length = min (z.length - 1) (L (v.take i)) := List.length_take
  have e : ((M (v.take i)).take (z.length - 1)).reverse ++ ((M (v.take i)).take (z.length - 1)).drop (L (v.take j)) =
      ((M (v.take (i + 1))).drop (L (v.take i) - ((M (v.take i)).take (z.length - 1)).length)).take (2 * ((M (v.take i)).take (z.length - 1)).length - L (v.take j)) := by
    rw [hq]
    exact (take_left_of (by rw [List.length_append, List.length_reverse, List.length_drop]; omega)).symm
  rw [e]
  exact drop_take_infix hp (by omega) (by omega)
end Mp

namespace Mp
/-! ### palindromic beginnings; the law's own closing -/
theorem spr_inj {c : Nat} {a b : W} (h : spr c a = spr c b) : a = b := by
  have h1 : a <+: b := of_spr_prefix c (by rw [h]; exact List.prefix_refl _)
  have h2 : b <+: a := of_spr_prefix c (by rw [h]; exact List.prefix_refl _)
  exact List.IsPrefix.eq_of_length h1 (Nat.le_antisymm h1.length_le h2.length_le)
theorem pal_prefix : ∀ (v Q : W), Q.reverse = Q → Q <+: M v → ∃ j, j ≤ v.length ∧ Q = M (v.take j)
  | [], Q, _, h => ⟨0, Nat.le_refl _, List.prefix_nil.mp h⟩
  | c :: v, [], _, _ => ⟨0, Nat.zero_le _, rfl⟩
  | c :: v, y :: Q, hp, h => by
    rw [M] at h
    have hy : y = c := by
      obtain ⟨e, he⟩ := spr_head c (M v)
      rw [he, List.cons_prefix_cons] at h; exact h.1
    subst hy
    have hl : (y :: Q).getLast? = some y := by
      rw [← hp, List.getLast?_reverse]; rfl
    obtain ⟨w, hw⟩ := unspread Q.length Q (Nat.le_refl _) ((good_spr y (M v)).noAdj.infix h.isInfix) hl
    rw [hw] at h hp
    rw [spr_reverse] at hp
    obtain ⟨j, hj, e⟩ := pal_prefix v w (spr_inj hp) (of_spr_prefix y h)
    exact ⟨j + 1, by simpa using hj, by rw [hw, e]; rfl⟩
/-- what is put behind M(v)x -/
theorem closing_some (v : W) (x : Nat) : ∃ k, k < L v + 1 ∧ ((M v ++ [x]).drop k).reverse = (M v ++ [x]).drop k ∧ M (v ++ [x]) = M v ++ [x] ++ ((M v ++ [x]).take k).reverse ∧
    ∀ i, i < k → ((M v ++ [x]).drop i).reverse ≠ (M v ++ [x]).drop i := by
  have hx : (v ++ [x])[v.length]? = some x := by simp
  have tk : (v ++ [x]).take (v.length + 1) = v ++ [x] := by rw [List.take_of_length_le]; simp
  have tk0 : (v ++ [x]).take v.length = v := List.take_left
  -- M(vx) begins with M(v)x
  have hb : ∃ e, M (v ++ [x]) = M v ++ [x] ++ e := by
    have h1 := next_press (v ++ [x]) v.length (by simp)
    rw [tk0, hx] at h1
    obtain ⟨d, hd⟩ := M_prefix v [x]
    rw [hd] at h1 ⊢
    cases d with
    | nil => simp [L] at h1
    | cons a d =>
      rw [show L v = (M v).length from rfl, List.getElem?_append_right (Nat.le_refl _), Nat.sub_self] at h1
      simp at h1; subst h1
      exact ⟨d, by simp⟩
  obtain ⟨e, he⟩ := hb
  have hlen : L (v ++ [x]) ≤ 2 * L v + 1 ∧ L (v ++ [x]) = L v + 1 + e.length := by
    refine ⟨?_, by unfold L; rw [he]; simp; omega⟩
    rcases last_or_new (v ++ [x]) v.length with q | ⟨j, hl⟩
    · have := len_new hx q; rw [tk, tk0] at this; omega
    · have := len_old hx hl; rw [tk, tk0] at this; omega
  have hgl : (M v ++ [x]).length = L v + 1 := by simp [L]
  have hek : e.length ≤ (M v ++ [x]).length := by omega
  have hpal := M_pal (v ++ [x])
  rw [he, List.reverse_append] at hpal
  -- e reversed is the beginning of M(v)x
  have he1 : e.reverse = (M v ++ [x]).take e.length := by
    have := congrArg (List.take e.length) hpal
    rw [List.take_append_of_le_length (by simp), List.take_append_of_le_length hek, List.take_of_length_le (by simp)] at this
    exact this
  have he2 : (M v ++ [x]).reverse = (M v ++ [x]).drop e.length ++ e := by
    have := congrArg (List.drop e.length) hpal
    rw [List.drop_append_of_le_length (by simp), List.drop_eq_nil_of_le (by simp), List.nil_append, List.drop_append_of_le_length hek] at this
    exact this
  refine ⟨e.length, by omega, ?_, ?_, ?_⟩
  · have h3 : (M v ++ [x]).reverse = ((M v ++ [x]).drop e.length).reverse ++ ((M v ++ [x]).take e.length).reverse := by
      rw [← List.reverse_append, List.take_append_drop]
    rw [h3, ← he1, List.reverse_reverse] at he2
    exact (List.append_inj_left' he2 rfl)
  · rw [← he1, List.reverse_reverse]; exact he
  · intro i hi hp
    -- the palindrome P = g.drop i, longer than what the press shares
    have hPl : ((M v ++ [x]).drop i).length = L v + 1 - i := by rw [List.length_drop, hgl]
    have hsp : (M v ++ [x]).drop i = (M v).drop i ++ [x] := List.drop_append_of_le_length (by unfold L at *; omega)
    have hil : i < L v := by omega
    rw [hsp, List.reverse_append] at hp
    -- P = x Q x
    have hdl : ((M v).drop i).length = L v - i := by rw [List.length_drop]; rfl
    obtain ⟨Q, hQ⟩ : ∃ Q, (M v).drop i = x :: Q := by
      cases hc : (M v).drop i with
      | nil => rw [hc] at hdl; simp at hdl; omega
      | cons a Q =>
        rw [hc] at hp
        simp at hp
        exact ⟨Q, by rw [hp.1]⟩
    rw [hQ] at hp hdl
    have hQp : Q.reverse = Q := by
      simp at hp
      exact hp
    -- Qx begins M(v)
    have hpre : Q ++ [x] <+: M v := by
      have h4 : (M v).reverse = M v := M_pal v
      have h5 : M v = (M v).take i ++ x :: Q := by rw [← hQ, List.take_append_drop]
      refine ⟨((M v).take i).reverse, ?_⟩
      have h6 := congrArg List.reverse h5
      rw [h4, List.reverse_append, List.reverse_cons, hQp] at h6
      exact h6.symm
    obtain ⟨j, hj, hQj⟩ := pal_prefix v Q hQp (List.IsPrefix.trans ⟨[x], rfl⟩ hpre)
    have hQlen : Q.length = L (v.take j) := by rw [hQj]; rfl
    have hjlt : j < v.length := by
      rcases Nat.lt_or_ge j v.length with q | q
      · exact q
      · rw [List.take_of_length_le q] at hQlen; simp at hdl; omega
    have hvj : v[j]? = some x := by
      have h7 := next_press v j hjlt
      rw [← h7, ← hQlen]
      obtain ⟨t, ht⟩ := hpre
      rw [← ht, List.append_assoc, List.getElem?_append_right (Nat.le_refl _), Nat.sub_self]; rfl
    have hvj2 : (v ++ [x])[j]? = (v ++ [x])[v.length]? := by rw [hx, List.getElem?_append_left hjlt, hvj]
    rcases last_or_new (v ++ [x]) v.length with q | ⟨s, hl⟩
    · exact q j hjlt hvj2
    · have h8 := len_old hx hl
      rw [tk, tk0] at h8
      have hjs : j ≤ s := by
        rcases Nat.lt_or_ge s j with q | q
        · exact absurd hvj2 (hl.2.2 j q hjlt)
        · exact q
      have h9 := L_take_mono (v ++ [x]) hjs
      rw [List.take_append_of_le_length (Nat.le_of_lt hjlt)] at h9
      simp at hdl
      omega

/-! ### letters counted -/
theorem fol_one (a : Nat) : ∀ m : W, cnt [a] m = m.count a
  | [] => by simp [cnt, fol]
  | b :: r => by
    have ih := fol_one a r
    unfold cnt at ih ⊢
    rw [fol, List.count_cons]
    by_cases h : b = a
    · subst h
      simp [List.isPrefixOf, ih]
    · have : ([a] : W).isPrefixOf (b :: r) = false := by simp [List.isPrefixOf]; exact fun e => h e.symm
      rw [this, if_neg Bool.false_ne_true, ih]
      simp [h]
theorem one_infix {a : Nat} {m : W} : [a] <:+: m ↔ a ∈ m := by
  constructor
  · rintro ⟨s, t, rfl⟩; simp
  · intro h
    obtain ⟨s, t, rfl⟩ := List.append_of_mem h
    exact ⟨s, t, by simp⟩
/-- a letter stands once more than what is pressed behind its first press has letters -/
theorem count_first {v : W} {a i : Nat} (h : v[i]? = some a) (hn : IsNew v i) : (M v).count a = L (v.drop (i + 1)) + 1 := by
  rw [← fol_one]
  refine (home_cnt (K := i + 1) ?_ ?_ ?_).1
  · exact (List.getElem?_eq_some_iff.mp h).1
  · rw [one_infix, mem_M, take_one h]; simp
  · intro k hk hq
    rw [one_infix, mem_M] at hq
    have hmem : v.take k <+: v.take i := by
      have : v.take k = (v.take i).take k := by rw [List.take_take, Nat.min_eq_left (by omega)]
      rw [this]; exact List.take_prefix _ _
    exact new_notin h hn (hmem.subset hq)

/-! ### read at M(u) -/
theorem fol_len_ext {c : Nat} (x : Nat) (w : W) (y : Nat) (m : W) : cnt (x :: spr c w ++ [y]) (spr c m) = cnt (x :: w ++ [y]) m := by
  -- with c about it, it is spread
  have e1 : cnt (x :: spr c w ++ [y]) (spr c m) = cnt (phi c [x] ++ spr c w ++ [y]) (spr c m) := by
    rw [phi_one]
    by_cases hx : x = c
    · subst hx; rw [if_pos rfl]; rfl
    · rw [if_neg hx]
      unfold cnt
      show (fol (x :: (spr c w ++ [y])) _).length = (fol (c :: x :: (spr c w ++ [y])) _).length
      rw [fol_ahead hx]
  have e2 : cnt (phi c [x] ++ spr c w ++ [y]) (spr c m) = cnt (spr c (x :: w ++ [y])) (spr c m) := by
    have hw : spr c w = phi c w ++ [c] := rfl
    have e3 : spr c (x :: w ++ [y]) = phi c [x] ++ phi c w ++ (phi c [y] ++ [c]) := by
      unfold spr
      rw [List.cons_append, phi_cons, phi_append, List.append_assoc, List.append_assoc, List.append_assoc]
    rw [e3, hw, phi_one c y]
    by_cases hy : y = c
    · subst hy
      rw [if_pos rfl]
      simp [List.append_assoc]
    · rw [if_neg hy]
      unfold cnt
      have := fol_behind hy (phi c [x] ++ phi c w ++ [c]) (good_spr c m)
      rw [show phi c [x] ++ (phi c w ++ [c]) ++ [y] = phi c [x] ++ phi c w ++ [c] ++ [y] by simp [List.append_assoc], this, List.length_replicate]
      congr 2
      simp [List.append_assoc]
  rw [e1, e2]
  unfold cnt
  rw [fol_spr]
/-- x M(u) y stands in M(ut) as often as xy in M(t) -/
theorem read_at (x y : Nat) : ∀ (u t : W), cnt (x :: M u ++ [y]) (M (u ++ t)) = cnt [x, y] (M t)
  | [], t => rfl
  | c :: u, t => by
    have ih := read_at x y u t
    show cnt (x :: spr c (M u) ++ [y]) (spr c (M (u ++ t))) = _
    rw [fol_len_ext, ih]
end Mp

namespace Mp
/-! ### the places of a piece -/
def pos (z m : W) : List Nat := (List.range (m.length + 1)).filter fun i => z.isPrefixOf (m.drop i)
theorem mem_pos {z m : W} {i : Nat} : i ∈ pos z m ↔ i ≤ m.length ∧ z <+: m.drop i := by
  unfold pos
  rw [List.mem_filter, List.mem_range, isPrefixOf_iff]
  exact ⟨fun h => ⟨by omega, h.2⟩, fun h => ⟨by omega, h.2⟩⟩
theorem pos_le {z m : W} {i : Nat} (h : i ∈ pos z m) : i + z.length ≤ m.length := by
  obtain ⟨h1, h2⟩ := mem_pos.mp h
  have := h2.length_le
  rw [List.length_drop] at this
  omega
theorem pos_cons (z : W) (a : Nat) (r : W) : pos z (a :: r) = (if z.isPrefixOf (a :: r) then [0] else []) ++ (pos z r).map (· + 1) := by
  unfold pos
  rw [List.length_cons, List.range_succ_eq_map, List.filter_cons, List.drop_zero, List.filter_map]
  split <;> rfl
theorem fol_pos (z : W) : ∀ m : W, fol z m = (pos z m).map fun i => m[i + z.length]?
  | [] => by
    unfold pos fol
    cases z with
    | nil => rfl
    | cons y z => rfl
  | a :: r => by
    have ih := fol_pos z r
    rw [pos_cons, fol, ih]
    have e : ∀ i : Nat, (a :: r)[i + 1 + z.length]? = r[i + z.length]? := fun i => by
      rw [show i + 1 + z.length = i + z.length + 1 by omega, List.getElem?_cons_succ]
    split
    · simp [e]
    · simp [e]
theorem pos_nodup (z m : W) : (pos z m).Nodup := List.Pairwise.filter _ List.nodup_range
/-- the letter ahead of each -/
def aheads (z m : W) : List (Option Nat) := (pos z m).map fun i => if i = 0 then none else m[i - 1]?
theorem infix_reverse {z m : W} (h : z <:+: m) : z.reverse <:+: m.reverse := List.reverse_infix.mpr h
theorem pre_reverse {z m : W} {i : Nat} (h : z <+: m.drop i) (hi : i + z.length ≤ m.length) : z.reverse <+: m.reverse.drop (m.length - z.length - i) := by
  obtain ⟨t, ht⟩ := h
  have hm : m = m.take i ++ (z ++ t) := by rw [ht, List.take_append_drop]
  have hl : t.length = m.length - z.length - i := by
    have := congrArg List.length ht
    rw [List.length_append, List.length_drop] at this
    omega
  refine ⟨(m.take i).reverse, ?_⟩
  conv => rhs; rw [hm, List.reverse_append, List.reverse_append, List.append_assoc]
  rw [List.drop_append_of_le_length (by rw [List.length_reverse, hl]; rw [← hm]; exact Nat.le_refl _), List.drop_eq_nil_of_le (by rw [List.length_reverse, hl]; rw [← hm]; exact Nat.le_refl _), List.nil_append]
theorem aheads_perm (z m : W) : (aheads z m).Perm (fol z.reverse m.reverse) := by
  have hp : (pos z.reverse m.reverse).Perm ((pos z m).map fun i => m.length - z.length - i) := by
    refine (List.perm_ext_iff_of_nodup (pos_nodup _ _) ?_).mpr fun j => ?_
    · refine List.pairwise_map.mpr (List.pairwise_iff_forall_sublist.mpr fun {a b} hs e => ?_)
      have ha := pos_le (hs.subset (List.mem_cons_self))
      have hb := pos_le (hs.subset (List.mem_cons_of_mem _ List.mem_cons_self))
      have := List.pairwise_iff_forall_sublist.mp (pos_nodup z m) hs
      omega
    · rw [List.mem_map]
      constructor
      · intro h
        have hle := pos_le h
        obtain ⟨h1, h2⟩ := mem_pos.mp h
        have h3 := pre_reverse h2 hle
        rw [List.reverse_reverse, List.reverse_reverse, List.length_reverse, List.length_reverse] at h3
        rw [List.length_reverse, List.length_reverse] at hle
        exact ⟨m.length - z.length - j, mem_pos.mpr ⟨by omega, h3⟩, by omega⟩
      · rintro ⟨i, h, rfl⟩
        have hle := pos_le h
        obtain ⟨h1, h2⟩ := mem_pos.mp h
        exact mem_pos.mpr ⟨by rw [List.length_reverse]; omega, pre_reverse h2 hle⟩
  rw [fol_pos]
  refine List.Perm.symm (List.Perm.trans (hp.map _) ?_)
  unfold aheads
  rw [List.map_map]
  refine List.Perm.of_eq (List.map_congr_left fun i hi => ?_)
  have hle := pos_le hi
  show m.reverse[m.length - z.length - i + z.reverse.length]? = _
  rw [List.length_reverse, show m.length - z.length - i + z.length = m.length - i by omega]
  by_cases h0 : i = 0
  · subst h0; rw [if_pos rfl]; exact List.getElem?_eq_none (by simp)
  · rw [if_neg h0, List.getElem?_reverse (by omega)]
    congr 1; omega

/-! ### a home -/
structure IsHome (v z : W) (K a : Nat) : Prop where
  le : K ≤ v.length
  at_ : z <+: (M (v.take K)).drop a
  fits : a + z.length ≤ L (v.take K)
  least : ∀ k, k < K → ¬ z <:+: M (v.take k)
theorem IsHome.occ {v z : W} {K a : Nat} (h : IsHome v z K a) : z <:+: M (v.take K) := infix_at.mpr ⟨a, h.at_, h.fits⟩
theorem IsHome.stands {v z : W} {K a : Nat} (h : IsHome v z K a) : z <:+: M v := by
  obtain ⟨d, e⟩ := M_prefix (v.take K) (v.drop K)
  rw [List.take_append_drop] at e
  rw [e]; exact h.occ.trans (List.prefix_append _ _).isInfix
theorem IsHome.pos_eq {v z : W} {K a : Nat} (h : IsHome v z K a) : pos z (M (v.take K)) = [a] := by
  have h1 := (home_cnt h.le h.occ h.least).2
  have h2 : a ∈ pos z (M (v.take K)) := mem_pos.mpr ⟨by have := h.fits; unfold L at this; omega, h.at_⟩
  unfold cnt at h1
  rw [fol_pos, List.length_map] at h1
  match hp : pos z (M (v.take K)), h1, h2 with
  | [b], _, h2 => simp at h2; rw [h2]
theorem IsHome.uniq {v z : W} {K a K' a' : Nat} (h : IsHome v z K a) (h' : IsHome v z K' a') : K = K' ∧ a = a' := by
  have e : K = K' := by
    rcases Nat.lt_trichotomy K K' with q | q | q
    · exact absurd h.occ (h'.least K q)
    · exact q
    · exact absurd h'.occ (h.least K' q)
  subst e
  have := h.pos_eq.symm.trans h'.pos_eq
  simp at this
  exact ⟨rfl, this⟩
theorem IsHome.cnt_eq {v z : W} {K a : Nat} (h : IsHome v z K a) : cnt z (M v) = L (v.drop K) + 1 := (home_cnt h.le h.occ h.least).1
theorem isHome_nil (v : W) : IsHome v [] 0 0 := ⟨Nat.zero_le _, List.nil_prefix, by simp, fun k hk => absurd hk (Nat.not_lt_zero k)⟩
theorem occ_reverse {z v : W} : z.reverse <:+: M v ↔ z <:+: M v := by
  constructor
  · intro h; have := infix_reverse h; rwa [List.reverse_reverse, M_pal] at this
  · intro h; have := infix_reverse h; rwa [M_pal] at this
theorem IsHome.rev {v z : W} {K a : Nat} (h : IsHome v z K a) : IsHome v z.reverse K (L (v.take K) - z.length - a) := by
  refine ⟨h.le, ?_, by have := h.fits; rw [List.length_reverse]; omega, fun k hk q => h.least k hk (occ_reverse.mp q)⟩
  have := pre_reverse h.at_ h.fits
  rwa [M_pal] at this

/-! ### counts by letters -/
abbrev Tal := List (Nat × Nat)
/-- how often each stands, rising; below 128 -/
def tal (S : List Nat) : Tal := ((List.range 128).filter fun c => decide (c ∈ S)).map fun c => (c, S.count c)
theorem tal_perm {S T : List Nat} (h : S.Perm T) : tal S = tal T := by
  unfold tal
  rw [show (fun c => decide (c ∈ S)) = fun c => decide (c ∈ T) by funext c; simp [h.mem_iff]]
  exact List.map_congr_left fun c _ => by rw [h.count_eq]
def dn : Option Nat → Nat := fun o => o.getD 0
def countsN (t : W) : Tal := ((List.range 128).filter fun c => decide (c ∈ t)).map fun c => (c, (M t).count c)
def besideN (t : W) : Option Nat → Tal
  | some c => [(c, L t + 1)]
  | none => (0, 1) :: countsN t
/-- letters: codes from 1 to 127 -/
def Ltr (v : W) : Prop := ∀ a ∈ v, 0 < a ∧ a < 128
theorem Ltr.take {v : W} (h : Ltr v) (k : Nat) : Ltr (v.take k) := fun a ha => h a (List.mem_of_mem_take ha)
theorem Ltr.drop {v : W} (h : Ltr v) (k : Nat) : Ltr (v.drop k) := fun a ha => h a (List.mem_of_mem_drop ha)
theorem filter_one {c n : Nat} (hc : c < n) : (List.range n).filter (fun d => decide (d = c)) = [c] := by
  induction n with
  | zero => omega
  | succ n ih =>
    rw [List.range_succ, List.filter_append]
    by_cases h : n = c
    · subst h
      have : (List.range n).filter (fun d => decide (d = n)) = [] := by
        rw [List.filter_eq_nil_iff]
        intro a ha
        rw [List.mem_range] at ha
        simp; omega
      rw [this]; simp
    · rw [ih (by omega)]
      simp [h]
theorem tal_replicate {n c : Nat} (hn : 0 < n) (hc : c < 128) : tal (List.replicate n c) = [(c, n)] := by
  unfold tal
  have e : (fun d => decide (d ∈ List.replicate n c)) = fun d => decide (d = c) := by
    funext d
    have : d ∈ List.replicate n c ↔ d = c := by rw [List.mem_replicate]; exact ⟨fun h => h.2, fun h => ⟨by omega, h⟩⟩
    simp [this]
  rw [e, filter_one hc]
  simp
theorem tal_zero {t : W} (h : Ltr t) : tal (0 :: M t) = (0, 1) :: countsN t := by
  unfold tal countsN
  have hz : (0 : Nat) ∉ M t := fun q => by have := h 0 (mem_M.mp q); omega
  rw [show (128 : Nat) = 127 + 1 from rfl, List.range_succ_eq_map, List.filter_cons, if_pos (by simp), List.map_cons]
  congr 1
  · rw [List.count_cons]; simp [List.count_eq_zero_of_not_mem hz]
  · have hz' : (0 : Nat) ∉ t := fun q => hz (mem_M.mpr q)
    rw [List.filter_cons, if_neg (by simp [hz'])]
    have e : ((List.range 127).map Nat.succ).filter (fun c => decide (c ∈ 0 :: M t)) = ((List.range 127).map Nat.succ).filter (fun c => decide (c ∈ t)) := by
      refine List.filter_congr fun c hc => ?_
      obtain ⟨d, _, rfl⟩ := List.mem_map.mp hc
      simp [mem_M]
    rw [e]
    refine List.map_congr_left fun c hc => ?_
    obtain ⟨d, _, rfl⟩ := List.mem_map.mp (List.mem_filter.mp hc).1
    rw [List.count_cons]; simp
/-- what stands beside: of one law for both sides -/
theorem beside_tal {v z : W} {K : Nat} {S : List (Option Nat)} {o : Option Nat} (hv : Ltr v) (hK : K ≤ v.length) (ho : z <:+: M (v.take K)) (hn : ∀ k, k < K → ¬ z <:+: M (v.take k))
    (hS : S.Perm (fol z (M v))) (h1 : fol z (M (v.take K)) = [o]) : tal (S.map dn) = besideN (v.drop K) o := by
  rw [tal_perm (hS.map dn)]
  rcases home_law v z K hK ho hn with ⟨e1, e2⟩ | ⟨c, e1, e2⟩
  · rw [h1] at e1
    injection e1 with e1 _
    subst e1
    rw [e2, List.map_append, List.map_map]
    have e3 : (M (v.drop K)).map (dn ∘ some) = M (v.drop K) := by
      rw [show (dn ∘ some : Nat → Nat) = id from rfl, List.map_id]
    rw [e3]
    rw [tal_perm (T := 0 :: M (v.drop K)) (by exact List.perm_append_comm)]
    exact tal_zero (hv.drop K)
  · rw [h1] at e1
    injection e1 with e1 _
    subst e1
    rw [e2, List.map_replicate]
    refine tal_replicate (Nat.succ_pos _) ?_
    -- the letter is one of M(v)
    have : some c ∈ fol z (M v) := by rw [e2]; simp
    rw [fol_pos, List.mem_map] at this
    obtain ⟨i, _, hi⟩ := this
    have hm : c ∈ M v := List.mem_of_getElem? hi
    exact (hv c (mem_M.mp hm)).2
theorem followed_tal {v z : W} {K a : Nat} (hv : Ltr v) (h : IsHome v z K a) : tal ((fol z (M v)).map dn) = besideN (v.drop K) (M (v.take K))[a + z.length]? :=
  beside_tal hv h.le h.occ h.least (List.Perm.refl _) (by rw [fol_pos, h.pos_eq]; rfl)
theorem led_tal {v z : W} {K a : Nat} (hv : Ltr v) (h : IsHome v z K a) : tal ((aheads z (M v)).map dn) = besideN (v.drop K) (if a = 0 then none else (M (v.take K))[a - 1]?) := by
  have p1 := aheads_perm z (M v)
  rw [M_pal] at p1
  refine beside_tal hv h.le (occ_reverse.mpr h.occ) (fun k hk q => h.least k hk (occ_reverse.mp q)) p1 ?_
  have p2 := aheads_perm z (M (v.take K))
  rw [M_pal] at p2
  have : aheads z (M (v.take K)) = [if a = 0 then none else (M (v.take K))[a - 1]?] := by unfold aheads; rw [h.pos_eq]; rfl
  rw [this] at p2
  exact (List.perm_singleton.mp p2.symm)
/-- ahead of z stands what stands behind it turned -/
theorem led_rev {v z : W} : tal ((aheads z.reverse (M v)).map dn) = tal ((fol z (M v)).map dn) := by
  have p1 := aheads_perm z.reverse (M v)
  rw [M_pal, List.reverse_reverse] at p1
  exact tal_perm (p1.map dn)
/-- all values together -/
theorem sum_filter_count (S : List Nat) (n : Nat) (h : ∀ a ∈ S, a < n) : (((List.range n).filter fun c => decide (c ∈ S)).map fun c => S.count c).sum = S.length := by
  induction n generalizing S with
  | zero =>
    cases S with
    | nil => rfl
    | cons a S => exact absurd (h a List.mem_cons_self) (Nat.not_lt_zero a)
  | succ n ih =>
    rw [List.range_succ, List.filter_append, List.map_append, List.sum_append_nat]
    have e1 := ih (S.filter fun a => decide (a ≠ n)) (fun a ha => by
      have h1 := h a (List.mem_filter.mp ha).1
      have h2 := of_decide_eq_true (List.mem_filter.mp ha).2
      omega)
    have e2 : ((List.range n).filter fun c => decide (c ∈ S.filter fun a => decide (a ≠ n))) = (List.range n).filter fun c => decide (c ∈ S) := by
      refine List.filter_congr fun c hc => ?_
      rw [List.mem_range] at hc
      have hcn : c ≠ n := by omega
      simp [List.mem_filter, hcn]
    have e3 : (((List.range n).filter fun c => decide (c ∈ S)).map fun c => (S.filter fun a => decide (a ≠ n)).count c) = ((List.range n).filter fun c => decide (c ∈ S)).map fun c => S.count c := by
      refine List.map_congr_left fun c hc => ?_
      have hc' := (List.mem_filter.mp hc).1
      rw [List.mem_range] at hc'
      exact List.count_filter (by simp; omega)
    rw [e2, e3] at e1
    rw [e1]
    have e4 : ((List.filter (fun c => decide (c ∈ S)) [n]).map fun c => S.count c).sum = S.count n := by
      by_cases hm : n ∈ S
      · simp [hm]
      · simp [hm, List.count_eq_zero_of_not_mem hm]
    rw [e4]
    have e5 : S.length = (S.filter fun a => decide (a ≠ n)).length + S.count n := by
      clear ih e1 e2 e3 e4 h
      induction S with
      | nil => rfl
      | cons a S ihS =>
        rw [List.length_cons, ihS, List.filter_cons, List.count_cons]
        by_cases han : a = n
        · subst han; simp; omega
        · simp [han]; omega
    omega
theorem besideN_sum {t : W} (ht : Ltr t) (o : Option Nat) : ((besideN t o).map (·.2)).sum = L t + 1 := by
  cases o with
  | some c => simp [besideN]
  | none =>
    have e : (countsN t).map (·.2) = ((List.range 128).filter fun c => decide (c ∈ M t)).map fun c => (M t).count c := by
      unfold countsN
      rw [List.map_map]
      have : (fun c => decide (c ∈ t)) = fun c => decide (c ∈ M t) := by funext c; simp [mem_M]
      rw [this]; rfl
    show 1 + ((countsN t).map (·.2)).sum = _
    rw [e, sum_filter_count (M t) 128 fun a ha => (ht a (mem_M.mp ha)).2]
    unfold L; omega
end Mp

namespace L2
open PySem PySem.Spec PyProof.Rows

/-! ### enumerate(text), zip(text, list) -/
/-- the number of a sign and the sign, in a new pair -/
def ItES (x : Str) : It := ⟨fun i _ => i < x.cps.size, fun i H v H' => ∃ T c, v = .ref T ∧ H T = none ∧ H' = upd H T (.tup [.int (i : Nat), .str ⟨#[c]⟩]) ∧ x.cps[i]? = some c, fun i _ => x.cps.size ≤ i⟩
theorem turn_enumS {P : Program} {w : World} {K : PySem.W.Frag} {elts : List Expr} {kk : Nat} {tpos : Pos} (x : Str) (t : Tok) (e it : Addr) :
    Turn P w K (.Tuple elts kk tpos) (ItES x) [e, it] e (fun i h => i ≤ x.cps.size ∧ (∃ old, IsEnum h e it ((i : Nat) : Int) old) ∧ h.IsStrIter it (strIterType x) x t i ∧ e ≠ it) where
  mem := by simp
  obj := fun i h st b hb => by
    obtain ⟨_, ⟨old, he⟩, ⟨o, ho, hc, hd⟩, _⟩ := st
    have e' : b = e ∨ b = it := by simpa using hb
    rcases e' with z | z
    · rw [z]; exact ⟨_, he, fun v q => nomatch q⟩
    · rw [z]; exact ⟨o, ho, fun v q => by rw [hd] at q; cases q⟩
  keep := fun i h h' st k => let ⟨hle, ⟨old, he⟩, ⟨o, ho, r⟩, hne⟩ := st; ⟨hle, ⟨old, k e (by simp) _ he⟩, ⟨o, k it (by simp) o ho, r⟩, hne⟩
  item := by
    intro X hP hw hK hc i pins s σ H E I hf st hg
    subst hP hw hK
    obtain ⟨hle, ⟨old, he⟩, hit, hne⟩ := st
    have hi : i < x.cps.size := hg
    have hel : e < s.heap.objs.size := Heap.lt_size he
    have hil : it < s.heap.objs.size := by obtain ⟨_, q, _⟩ := hit; exact Heap.lt_size q
    have DX := Draws.text (prog := X.prog) (w := X.w) (A := X.A.in1) (I.ok.hd hc) it x t
    refine wpAny_pyNext_enum_itemD DX he hit hi hne (by simpa using hne) fun v h' tk hv ho hit' hT hsz hk => ?_
    obtain ⟨c, u, hcx, rfl⟩ := hv
    refine ⟨_, rfl, wpAny_letOwnedTupleGo_enum (s := { s with heap := h', toks := tk + 1 }) ho fun h'' he' sb => ?_⟩
    have hT2 : h''.get? s.heap.objs.size = some { cls := .type "tuple", data := .seq #[.int i tk, .str ⟨#[c]⟩ u] } := (sb.2 _ (Nat.ne_of_gt hel)).trans hT
    have new : ObjOk X.prog X.w (upd H s.heap.objs.size (.tup [.int (i : Nat), .str ⟨#[c]⟩])) h'' s.heap.objs.size (.tup [.int (i : Nat), .str ⟨#[c]⟩]) :=
      ⟨by show 2 ≤ sizeLine; decide, [.int i tk, .str ⟨#[c]⟩ u], .cons ⟨_, rfl⟩ (.cons ⟨_, rfl⟩ .nil), ⟨_, hT2, rfl, _, rfl⟩⟩
    have I1 : Inv X pins σ (upd H s.heap.objs.size (.tup [.int (i : Nat), .str ⟨#[c]⟩])) { s with heap := h'', toks := tk + 1 } :=
      I.turnedNew (ch := [e, it]) (fun b ob hb q => (sb.2 b (fun z => hb (by simp [z]))).trans (hk b ob (fun z => hb (by simp [z])) (fun z => hb (by simp [z])) q)) hf (Nat.le_refl _) new
    refine ⟨.ref s.heap.objs.size, _, I1, rfl, ⟨_, c, rfl, I.hok.fresh (Nat.le_refl _), rfl, hcx⟩, ⟨hi, ⟨.str ⟨#[c]⟩ u, ?_⟩, ?_, hne⟩, fun b hb => ?_⟩
    · have e1 : ((i + 1 : Nat) : Int) = (i : Int) + 1 := by omega
      rw [e1]; exact he'
    · obtain ⟨o, q, r⟩ := hit'
      exact ⟨o, (sb.2 it (Ne.symm hne)).trans q, r⟩
    · have hb' : b < s.heap.objs.size := by
        have e' : b = e ∨ b = it := by simpa using hb
        rcases e' with z | z
        · rw [z]; exact hel
        · rw [z]; exact hil
      rw [upd_ne (Nat.ne_of_lt hb')]
      exact (hf b hb).1
  done := by
    intro X hP hw hK hc i pins s σ H E I hf st hg
    subst hP hw hK
    obtain ⟨hle, ⟨old, he⟩, hit, hne⟩ := st
    have hi : x.cps.size ≤ i := hg
    have e0 : i = x.cps.size := by omega
    subst e0
    obtain ⟨f0, f1, f2, f3, f4, f5⟩ := hf it (by simp)
    have DX := Draws.text (prog := X.prog) (w := X.w) (A := X.A.in1) (I.ok.hd hc) it x t
    exact wpAny_pyNext_enum_endD DX he hit fun h' eb => ⟨rfl, I.turned (t' := s.toks) (fun b o hb q => eb b o hb q) f0 f1 f3 f4 f5⟩
  self := fun A i s Q E st h => let ⟨_, ⟨_, he⟩, _⟩ := st; wpAny_pyIter_enum he h
def iEnumS (ta : TA) : TI := fun σ H R => ta σ H fun vs H1 => ∃ x, vs = [.str x] ∧ R (ItES x) H1
theorem pi_enumS {X : Cx} {e : Expr} {ta : TA} {p pos tpos : Pos} {elts : List Expr} {kk : Nat} (hg : Gl X "enumerate") (hm : X.mg "enumerate" = none) (ha : PA X [e] ta) (hs : starEach [e] X.env = [(false, eval e X.env)] := by rfl) :
    PI X (.Tuple elts kk tpos) (.Call (.Name "enumerate" p) [e] [] pos) (iEnumS ta) := by
  refine ⟨fun pins s σ H R I h => ?_⟩
  refine Call_ (ld_blt I hg hm boot_enumerate (PyProof.Rows.callWith_type1 (thn (ha.run pos pins s σ H _ I h) fun us s1 ⟨vs, H1, I1, r1, q1⟩ => ?_) hs rfl))
  obtain ⟨x, ex, q⟩ := q1
  subst ex
  cases r1 with
  | cons r rr =>
    cases rr
    obtain ⟨t, rfl⟩ := r
    refine call_enumerate_str fun h' he hit hsz hk => wpAny_pyIter_enum he ?_
    have I2 : Inv X pins σ H1 { s1 with heap := h' } := I1.kept (t' := s1.toks) hk
    refine ⟨s1.heap.objs.size + 1, [s1.heap.objs.size + 1, s1.heap.objs.size], _, _, H1, rfl, I2, turn_enumS x t (s1.heap.objs.size + 1) s1.heap.objs.size, ⟨Nat.zero_le _, ⟨.none, he⟩, hit, Nat.succ_ne_self _⟩, fun b hb => ?_, q⟩
    have e' : b = s1.heap.objs.size + 1 ∨ b = s1.heap.objs.size := by simpa using hb
    have hle : s1.heap.objs.size ≤ b := by
      rcases e' with z | z
      · rw [z]; exact Nat.le_add_right _ _
      · rw [z]; exact Nat.le_refl _
    exact I1.fpOk hle (I1.hok.fresh hle)
/-- what enumerate gives of a text -/
def YES (x : Str) : Nat → Hp → V → Hp → Prop := fun i H v H' => ∃ T c, v = .ref T ∧ H T = none ∧ H' = upd H T (.tup [.int (i : Nat), .str ⟨#[c]⟩]) ∧ x.cps[i]? = some c
theorem walk_enumS {x : Str} : Walk (ItES x) x.cps.size (fun _ => True) (YES x) := ⟨fun _ _ hi _ => hi, fun _ _ => Nat.le_refl _, fun _ _ _ _ _ _ y => y⟩

/-- a text's signs beside the items of the list at b -/
def ItZS (K : PySem.W.Frag) (x : Str) (b : Addr) : It :=
  ⟨fun i H => i < x.cps.size ∧ ∃ ys : List V, SqL K H b ys ∧ ys.length = x.cps.size,
    fun i H v H' => ∃ T c y, v = .ref T ∧ H T = none ∧ H' = upd H T (.tup [.str ⟨#[c]⟩, y]) ∧ x.cps[i]? = some c ∧ ∀ ys, SqL K H b ys → ys[i]? = some y,
    fun i H => x.cps.size ≤ i ∧ ∃ ys : List V, SqL K H b ys ∧ ys.length = x.cps.size⟩
theorem turn_zipS {P : Program} {w : World} {K : PySem.W.Frag} {elts : List Expr} {kk : Nat} {tpos : Pos} {x : Str} {t : Tok} {b z TI TO i1 i2 : Addr} (D : ZipSep2 z TI TO i1 i2 [i1] [i2, b]) (hb2 : b ≠ i2) :
    Turn P w K (.Tuple elts kk tpos) (ItZS K x b) [z, TI, TO, i1, i2] z (fun i h => i ≤ x.cps.size ∧ IsZip h z TI TO .none ∧ IsTupOf2 h TI (.ref i1) (.ref i2) ∧ (∃ x y, IsTupOf2 h TO x y) ∧ h.IsStrIter i1 (strIterType x) x t i ∧ h.IsListIter i2 b i) where
  mem := by simp
  obj := fun i h st c hc => by
    obtain ⟨_, hz, hTI, ⟨x, y, hTO⟩, ⟨o1, e1, _, d1⟩, ⟨o2, e2, _, d2⟩⟩ := st
    have e' : c = z ∨ c = TI ∨ c = TO ∨ c = i1 ∨ c = i2 := by simpa using hc
    rcases e' with q | q | q | q | q
    · rw [q]; exact ⟨_, hz, fun v q => nomatch q⟩
    · rw [q]; exact ⟨_, hTI, fun v q => nomatch q⟩
    · rw [q]; exact ⟨_, hTO, fun v q => nomatch q⟩
    · rw [q]; exact ⟨o1, e1, fun v q => by rw [d1] at q; cases q⟩
    · rw [q]; exact ⟨o2, e2, fun v q => by rw [d2] at q; cases q⟩
  keep := fun i h h' st k => by
    obtain ⟨hle, hz, hTI, ⟨x, y, hTO⟩, ⟨o1, e1, r1⟩, h2⟩ := st
    exact ⟨hle, k z (by simp) _ hz, k TI (by simp) _ hTI, ⟨x, y, k TO (by simp) _ hTO⟩, ⟨o1, k i1 (by simp) o1 e1, r1⟩, h2.at fun o q => k i2 (by simp) o q⟩
  item := by
    intro X hP hw hK hc i pins s σ H E I hf st hg
    subst hP hw hK
    obtain ⟨hle, hz, hTI, ⟨x0, y0, hTO⟩, h1, h2⟩ := st
    obtain ⟨hi, ys, hq, hlen⟩ := hg
    obtain ⟨its, rv, p, _⟩ := I.list hq
    have hl := rv.length
    have hzl : z < s.heap.objs.size := Heap.lt_size hz
    have hi2 : i < its.toArray.size := by simp only [List.size_toArray]; omega
    have DX := Draws.text (prog := X.prog) (w := X.w) (A := X.A.in1) (I.ok.hd hc) i1 x t
    have DY := Draws.list (prog := X.prog) (w := X.w) (A := X.A.in1) (I.ok.hd hc) i2 b hb2 its.toArray
    refine wpAny_pyNext_zipD2_item D DX DY hz hTI hTO h1 ⟨h2, p.isList⟩ hi hi2 fun v1 v2 h' tk y1 y2 z' TO' h1' h2' hT hsz hk => ?_
    obtain ⟨c, u, hcx, rfl⟩ := y1
    obtain ⟨h2', _⟩ := h2'
    have hyi : i < ys.length := by omega
    obtain ⟨v2', hv2, r2⟩ := rv.get (List.getElem?_eq_getElem hyi)
    have ev : v2' = v2 := by
      have y2' : its.toArray[i]? = some v2 := y2
      rw [List.getElem?_toArray, hv2] at y2'
      exact Option.some.inj y2'
    subst ev
    refine ⟨_, rfl, wpAny_letOwnedTupleGo_zip (s := { s with heap := h', toks := tk }) z' fun h'' z'' sb => ?_⟩
    have hT2 : h''.get? s.heap.objs.size = some { cls := .type "tuple", data := .seq #[.str ⟨#[c]⟩ u, v2'] } := (sb.2 _ (Nat.ne_of_gt hzl)).trans hT
    have new : ObjOk X.prog X.w (upd H s.heap.objs.size (.tup [.str ⟨#[c]⟩, ys[i]])) h'' s.heap.objs.size (.tup [.str ⟨#[c]⟩, ys[i]]) :=
      ⟨by show 2 ≤ sizeLine; decide, [.str ⟨#[c]⟩ u, v2'], .cons ⟨_, rfl⟩ (.cons r2 .nil), ⟨_, hT2, rfl, _, rfl⟩⟩
    have I1 : Inv X pins σ (upd H s.heap.objs.size (.tup [.str ⟨#[c]⟩, ys[i]])) { s with heap := h'', toks := tk } :=
      I.turnedNew (ch := [z, TI, TO, i1, i2]) (fun c o hb q => (sb.2 c (fun q' => hb (by simp [q']))).trans (hk c o (fun q' => hb (by simp [q'])) (fun q' => hb (by simp [q'])) (fun q' => hb (by simp [q'])) (fun q' => hb (by simp [q'])) q)) hf (Nat.le_refl _) new
    refine ⟨.ref s.heap.objs.size, _, I1, rfl, ⟨_, c, ys[i], rfl, I.hok.fresh (Nat.le_refl _), rfl, hcx, fun l hl' => by rw [I.list_inj hl' hq]; simp [hyi]⟩, ⟨hi, z'', ?_, ⟨.str ⟨#[c]⟩ u, v2', ?_⟩, ?_, ?_⟩, fun c hcm => ?_⟩
    · exact (sb.2 _ D.TIz).trans (hk _ _ D.TIz D.TITO D.TIi1 D.TIi2 hTI)
    · exact (sb.2 _ D.TOz).trans TO'
    · obtain ⟨o, q, r⟩ := h1'
      exact ⟨o, (sb.2 _ (Ne.symm D.zi1)).trans q, r⟩
    · exact h2'.at fun o q => (sb.2 _ (Ne.symm D.zi2)).trans q
    · have hlt : c < s.heap.objs.size := by
        have e' : c = z ∨ c = TI ∨ c = TO ∨ c = i1 ∨ c = i2 := by simpa using hcm
        rcases e' with q | q | q | q | q
        · rw [q]; exact hzl
        · rw [q]; exact Heap.lt_size hTI
        · rw [q]; exact Heap.lt_size hTO
        · rw [q]; obtain ⟨_, e1, _⟩ := h1; exact Heap.lt_size e1
        · rw [q]; obtain ⟨_, e2, _⟩ := h2; exact Heap.lt_size e2
      rw [upd_ne (Nat.ne_of_lt hlt)]
      exact (hf c hcm).1
  done := by
    intro X hP hw hK hc i pins s σ H E I hf st hg
    subst hP hw hK
    obtain ⟨hle, hz, hTI, ⟨x0, y0, hTO⟩, h1, h2⟩ := st
    obtain ⟨hi, ys, hq, hlen⟩ := hg
    obtain ⟨its, rv, p, _⟩ := I.list hq
    have hl := rv.length
    have e0 : i = x.cps.size := by omega
    have DX := Draws.text (prog := X.prog) (w := X.w) (A := X.A.in1) (I.ok.hd hc) i1 x t
    have DY := Draws.list (prog := X.prog) (w := X.w) (A := X.A.in1) (I.ok.hd hc) i2 b hb2 its.toArray
    refine wpAny_pyNext_zipD2_end D DX DY hz hTI hTO h1 ⟨h2, p.isList⟩ hle (by show i ≤ its.toArray.size; simp only [List.size_toArray]; omega) (.inl e0) fun h' tk hk => ⟨rfl, I.turnedL (t' := tk) (ch := [z, TI, TO, i1, i2]) (fun c o hb q =>
      hk c o (fun q' => hb (by simp [q'])) (fun q' => hb (by simp [q'])) (fun q' => hb (by simp [q'])) (fun q' => hb (by simp [q'])) q) hf⟩
  self := fun A i s Q E st h => wpAny_pyIter_zip st.2.1 h
theorem nadd {n a b : Nat} (h : a ≠ b) : ¬ n + a = n + b := fun e => h (Nat.add_left_cancel e)
theorem nadd0 {n a : Nat} (h : 0 < a) : ¬ n + a = n := by omega
theorem nlt {n a b : Nat} (h : b < n) : ¬ n + a = b := by omega
theorem nlt0 {n b : Nat} (h : b < n) : ¬ n = b := by omega
def iZipS (K : PySem.W.Frag) (ta : TA) : TI := fun σ H R => ta σ H fun vs H1 => ∃ x b ys, vs = [.str x, .ref b] ∧ SqL K H1 b ys ∧ R (ItZS K x b) H1
theorem pi_zipS {X : Cx} {e e2 : Expr} {ta : TA} {p pos tpos : Pos} {elts : List Expr} {kk : Nat} (hg : Gl X "zip") (hm : X.mg "zip" = none) (ha : PA X [e, e2] ta)
    (hs : starEach [e, e2] X.env = (false, eval e X.env) :: starEach [e2] X.env := by rfl) (hpl : (backTo pos (starEach [e2] X.env)).any (·.1) = false := by rfl) :
    PI X (.Tuple elts kk tpos) (.Call (.Name "zip" p) [e, e2] [] pos) (iZipS X.K ta) := by
  refine ⟨fun pins s σ H R I h => ?_⟩
  refine Call_ (ld_blt I hg hm PyProof.Rows.boot_zip (PyProof.Rows.callWith_type1 (thn (ha.run pos pins s σ H _ I h) fun us s1 ⟨vs, H1, I1, r1, q1⟩ => ?_) hs hpl))
  obtain ⟨x, b, ys, ex, hqy, q⟩ := q1
  subst ex
  cases r1 with
  | cons r rr =>
    cases rr with
    | cons r' rr =>
      cases rr
      obtain ⟨t, rfl⟩ := r
      cases r'
      obtain ⟨its2, rv2, p2, _⟩ := I1.list hqy
      have lb : b < s1.heap.objs.size := p2.lt
      refine zip_begins2 (begins_text x t) (begins_list b its2.toArray) trivial p2.isList fun h' hz hTI hTO h1 h2 hsz hk => wpAny_pyIter_zip hz ?_
      have I2 : Inv X pins σ H1 { s1 with heap := h' } := I1.kept (t' := s1.toks) hk
      have S : ZipSep2 (s1.heap.objs.size + 4) (s1.heap.objs.size + 2) (s1.heap.objs.size + 3) s1.heap.objs.size (s1.heap.objs.size + 1) [s1.heap.objs.size] [s1.heap.objs.size + 1, b] := by
        refine ⟨?_, ?_, ?_, ?_, ?_, ?_, ?_, ?_, ?_, ?_, ?_, ?_, ?_⟩ <;> simp only [List.mem_cons, List.mem_singleton, List.not_mem_nil, or_false, true_or, not_or, ne_eq]
        all_goals first | trivial | exact nadd (by decide) | exact nadd0 (by decide) | exact ⟨nadd (by decide), nlt lb⟩ | exact ⟨fun q => nadd0 (by decide) q.symm, nlt0 lb⟩ | skip
      refine ⟨s1.heap.objs.size + 4, [s1.heap.objs.size + 4, s1.heap.objs.size + 2, s1.heap.objs.size + 3, s1.heap.objs.size, s1.heap.objs.size + 1], _, _, H1, rfl, I2, turn_zipS (x := x) (t := t) S (Ne.symm (nlt lb)), ⟨Nat.zero_le _, hz, hTI, ⟨_, _, hTO⟩, ⟨_, h1, rfl, rfl⟩, ⟨_, h2, rfl, rfl⟩⟩, fun c hcm => ?_, q⟩
      have e' : c = s1.heap.objs.size + 4 ∨ c = s1.heap.objs.size + 2 ∨ c = s1.heap.objs.size + 3 ∨ c = s1.heap.objs.size ∨ c = s1.heap.objs.size + 1 := by simpa using hcm
      have hle : s1.heap.objs.size ≤ c := by
        rcases e' with z | z | z | z | z
        · rw [z]; exact Nat.le_add_right _ _
        · rw [z]; exact Nat.le_add_right _ _
        · rw [z]; exact Nat.le_add_right _ _
        · rw [z]; exact Nat.le_refl _
        · rw [z]; exact Nat.le_add_right _ _
      exact I1.fpOk hle (I1.hok.fresh hle)
/-- what zip gives of a text and a list -/
def YZS (x : Str) (ys : List V) : Nat → Hp → V → Hp → Prop := fun i H v H' => ∃ T c y, v = .ref T ∧ H T = none ∧ H' = upd H T (.tup [.str ⟨#[c]⟩, y]) ∧ x.cps[i]? = some c ∧ ys[i]? = some y
theorem walk_zipS {K : PySem.W.Frag} {x : Str} {b : Addr} {ys : List V} (hl : ys.length = x.cps.size) : Walk (ItZS K x b) x.cps.size (fun H => SqL K H b ys) (YZS x ys) :=
  ⟨fun _ _ hi q => ⟨hi, ys, q, hl⟩, fun _ q => ⟨Nat.le_refl _, ys, q, hl⟩, fun _ _ _ _ _ q y => let ⟨T, c, z, h1, h2, h3, h4, h5⟩ := y; ⟨T, c, z, h1, h2, h3, h4, h5 ys q⟩⟩
end L2

namespace L2
open PySem PySem.Spec PyProof.Rows

/-! ### text[::-1] -/
def revS (z : Str) : Str := ⟨z.cps.toList.reverse.toArray⟩
theorem revS_of (z : Str) (u : Tok) : PySem.Txt.sliceBy z none none (-1, u) = revS z := by
  rw [← fold_front_eq_rev z ⟨#[]⟩ rfl u]
  have h := fold_front_list z ⟨#[]⟩ rfl
  generalize List.foldl (fun (T : Str) (a : Str) => a ++ T) (⟨#[]⟩ : Str) (signs z) = y at h
  cases y with
  | mk c => show (⟨c⟩ : Str) = ⟨z.cps.toList.reverse.toArray⟩; rw [← h]
theorem revS_length (z : Str) : (revS z).length = z.length := by
  show z.cps.toList.reverse.toArray.size = z.cps.size
  simp
def tRevS (te : TE) : TE := fun σ H Q => te σ H fun x H1 => ∃ z, x = .str z ∧ z.length ≤ sizeLine ∧ Q (.str (revS z)) H1
theorem pe_revS {X : Cx} {e : Expr} {te : TE} {k : Nat} {p1 p2 p3 pos : Pos} (he : PE X e te) : PE X (.Subscript e (.Slice none none (some (.UnaryOp .USub (.Constant (.int 1) k p1) p2)) p3) pos) (tRevS te) := by
  refine ⟨fun pins s σ H Q I h => ?_⟩
  refine Subscript_ (thn (he.run pins s σ H _ I h) fun v s1 ⟨x, H1, I1, r1, q1⟩ => ?_)
  obtain ⟨z, ex, hz, q⟩ := q1
  subst ex
  obtain ⟨t, rfl⟩ := r1
  have hst : PO X (some (.UnaryOp .USub (.Constant (.int 1) k p1) p2)) (tPart (tUn (rU fun i => .int (-i)) (tC (.int 1)))) := po_some (pe_un un_neg pe_int)
  refine wpAny_Slice (thn (po_none.run pins s1 σ H1 (fun o H2 => o = none ∧ H2 = H1) I1 ⟨rfl, rfl⟩) fun vl s2 ⟨l, H2, I2, pl, el, e2⟩ => ?_)
  subst el e2
  refine thn (po_none.run pins s2 σ H2 (fun o H3 => o = none ∧ H3 = H2) I2 ⟨rfl, rfl⟩) fun vu s3 ⟨u, H3, I3, pu, eu, e3⟩ => ?_
  subst eu e3
  refine thn (hst.run pins s3 σ H3 (fun o H4 => o = some (-1) ∧ H4 = H3) I3 ⟨1, rfl, -1, rfl, rfl, rfl⟩) fun vs s4 ⟨o, H4, I4, ps, eo, e4⟩ => ?_
  subst eo e4
  have I5 : Inv X pins σ H4 { s4 with heap := s4.heap.push { cls := .type "slice", data := .fields #[vl, vu, vs] } } := I4.kept (t' := s4.toks) fun b ob q => Heap.get?_push_of_some _ q
  obtain ⟨l', el, rl⟩ := IsPart.raw pl
  obtain ⟨u', eu, ru⟩ := IsPart.raw pu
  obtain ⟨c', ec, rc⟩ := IsPart.raw ps
  have nl : l' = none := by cases l' with | none => rfl | some _ => simp at rl
  have nu : u' = none := by cases u' with | none => rfl | some _ => simp at ru
  subst nl nu
  obtain ⟨cu, rfl⟩ : ∃ cu, c' = some (-1, cu) := by
    cases c' with
    | none => simp at rc
    | some c => obtain ⟨i, cu⟩ := c; simp at rc; exact ⟨cu, by rw [rc]⟩
  show wpAny (model X.prog X.w) X.A (subscriptTail e (.Slice none none (some (.UnaryOp .USub (.Constant (.int 1) k p1) p2)) p3) (.str z t) (.ref s4.heap.objs.size)) (EP X pins σ Q) X.xe { s4 with heap := s4.heap.push { cls := .type "slice", data := .fields #[vl, vu, vs] } }
  refine tail_any (ops := [.str z t, .ref s4.heap.objs.size]) (typeIs_str _ z t) PySem.F.slot_str_getitem.lookup ?_ (by with_unfolding_all rfl)
  refine wpAny_getItem_str_slice (l := none) (u := none) (st := some (-1, cu)) ⟨_, Heap.get?_push_size _ rfl, rfl, by rw [el, eu, ec]⟩ rfl ?_
  show Made.post (Made.str (PySem.Txt.sliceBy z none none (-1, cu))) (EP X pins σ Q) _
  rw [revS_of]
  exact ⟨by rw [revS_length]; exact hz, .str _, H4, I5.tok _, ⟨_, rfl⟩, q⟩

/-! ### list[k::c], a list of whole numbers: some whole numbers, no more than there were -/
def tStepL (K : PySem.W.Frag) (te tl : TE) : TE := fun σ H Q => te σ H fun x H1 => tl σ H1 fun y H2 => ∃ i : Int, y = .int i ∧ ∃ a, ∃ ns : List Int, x = .ref a ∧ SqL K H2 a (ns.map V.int) ∧
  ∀ (ms : List Int) p, ms.length ≤ ns.length → H2 p = none → Q (.ref p) (upd H2 p (.lst (ms.map V.int)))
theorem pe_stepL {X : Cx} {e lo : Expr} {te tl : TE} {c : Int} {k : Nat} {p1 p3 pos : Pos} (hc : c ≠ 0) (he : PE X e te) (hl : PE X lo tl) : PE X (.Subscript e (.Slice (some lo) none (some (.Constant (.int c) k p1)) p3) pos) (tStepL X.K te tl) := by
  refine ⟨fun pins s σ H Q I h => ?_⟩
  refine Subscript_ (thn (he.run pins s σ H _ I h) fun v s1 ⟨x, H1, I1, r1, q1⟩ => ?_)
  have hlo : PO X (some lo) (tPart tl) := po_some hl
  have hst : PO X (some (.Constant (.int c) k p1)) (tPart (tC (.int c))) := po_some pe_int
  refine wpAny_Slice (thn (hlo.run pins s1 σ H1 (fun o H2 => ∃ a, ∃ ns : List Int, x = .ref a ∧ SqL X.K H2 a (ns.map V.int) ∧
    ∀ (ms : List Int) p, ms.length ≤ ns.length → H2 p = none → Q (.ref p) (upd H2 p (.lst (ms.map V.int)))) I1 q1) fun vl s2 ⟨l, H2, I2, pl, a, ns, ex, hx, q⟩ => ?_)
  subst ex
  cases r1
  refine thn (po_none.run pins s2 σ H2 (fun o H3 => o = none ∧ H3 = H2) I2 ⟨rfl, rfl⟩) fun vu s3 ⟨u, H3, I3, pu, eu, e3⟩ => ?_
  subst eu e3
  refine thn (hst.run pins s3 σ H3 (fun o H4 => o = some c ∧ H4 = H3) I3 ⟨c, rfl, rfl, rfl⟩) fun vs s4 ⟨o, H4, I4, ps, eo, e4⟩ => ?_
  subst eo e4
  have I5 : Inv X pins σ H4 { s4 with heap := s4.heap.push { cls := .type "slice", data := .fields #[vl, vu, vs] } } := I4.kept (t' := s4.toks) fun b ob q => Heap.get?_push_of_some _ q
  obtain ⟨its, r, ht, hz⟩ := I5.list hx
  have hlen := r.length
  have hi := r.ints
  show wpAny (model X.prog X.w) X.A (subscriptTail e (.Slice (some lo) none (some (.Constant (.int c) k p1)) p3) (.ref a) (.ref s4.heap.objs.size)) (EP X pins σ Q) X.xe { s4 with heap := s4.heap.push { cls := .type "slice", data := .fields #[vl, vu, vs] } }
  refine tail_any (ops := [.ref a, .ref s4.heap.objs.size]) ht.isList.typeIs (PySem.slot_list_getitem.lookup) ?_ (by with_unfolding_all rfl)
  refine wpAny_getItem_list_slice ht.isList (Heap.IsSliceOf.new _ vl vu vs) pl pu ps (by simpa using hc) ?_ (by rw [List.size_toArray]; omega)
  have hp := IntsAre.pick hi l none (some c)
  have hsz := PySem.slicePick_size_le its.toArray l none (some c)
  generalize slicePick its.toArray l none (some c) = pk at hp hsz
  generalize pickNums ns l none (some c) = ms at hp
  have hml : ms.length ≤ ns.length := by
    have e1 := hp.length
    have e2 := hi.length
    simp only [Array.length_toList, List.size_toArray] at e1 hsz
    omega
  refine ⟨.ref _, _, I5.laid (t' := s4.toks) (o := .lst (ms.map V.int)) (fun b ob q => Heap.get?_push_of_some _ q) (Nat.le_refl _) ?_, rfl, q ms _ hml (I5.hok.fresh (Nat.le_refl _))⟩
  rw [List.length_map] at hz
  refine ⟨by rw [List.length_map]; omega, pk.toList, 0, vals_ints hp, ?_⟩
  rw [Array.toArray_toList]
  exact Heap.get?_push_size _ rfl
end L2

namespace L2
open PySem PySem.Spec PyProof.Rows
section
variable {X : Cx}
/-! ### one letter * 1, 2, 3 -/
def rRepS : R2 := fun x y H Q => ∃ (c : Nat) (n : Int), x = .str ⟨#[c]⟩ ∧ y = .int n ∧ 1 ≤ n ∧ n ≤ 3 ∧ Q (.str ⟨(List.replicate n.toNat c).toArray⟩) H
theorem repS_ok (c : Nat) {n : Int} (h1 : 1 ≤ n) (h3 : n ≤ 3) : PySem.MulOk ⟨#[c]⟩ n ∧ PySem.Txt.mul ⟨#[c]⟩ n = ⟨(List.replicate n.toNat c).toArray⟩ := by
  have h : n = 1 ∨ n = 2 ∨ n = 3 := by omega
  rcases h with rfl | rfl | rfl
  · exact ⟨⟨by decide, fun _ h => by simp at h, fun _ h => by simp at h⟩, rfl⟩
  · exact ⟨⟨by decide, fun _ _ => by show ¬ ((1 : Int) > _); decide, fun _ _ => by show PySem.Builtin.Str.tooLong (1 * 2) = false; decide⟩, rfl⟩
  · exact ⟨⟨by decide, fun _ _ => by show ¬ ((1 : Int) > _); decide, fun _ _ => by show PySem.Builtin.Str.tooLong (1 * 3) = false; decide⟩, rfl⟩
theorem op_repS : OpR X (binaryOp .Mult) rRepS := by
  intro pins s σ H x y v u Q I rx ry h
  obtain ⟨c, n, rfl, rfl, h1, h3, q⟩ := h
  obtain ⟨t, rfl⟩ := rx
  obtain ⟨t', rfl⟩ := ry
  obtain ⟨ok, e⟩ := repS_ok c h1 h3
  refine PySem.SB.mul ok fun t2 k => ?_
  rw [e]
  exact ⟨.str _, H, I.tok k, ⟨_, rfl⟩, q⟩

/-! ### len of an instance, by its __len__ -/
def rLenOwn (C : Addr) (sp : Sp) : List V → Hp → VK → Prop := fun xs H Q => ∃ a dx fs, xs = [.ref a] ∧ H a = some (.ins C dx fs) ∧ sp [.ref a] H (fun z H' => ∃ i, z = .int i ∧ 0 ≤ i ∧ i < 2 ^ 63 ∧ Q (.int i) H') E0
theorem call_lenOwn {C f : Addr} {fd : FuncData} {k : Nat} {sp : Sp} (hm : Meth X.K C "__len__" f) (F : FnOk X.prog X.w X.K X.mg X.base CX0 k f fd ["self"] sp) (hr : Room (k + 1) X.A) (hb : Binds X.K fd ["self"] []) : CallR X (.builtin "len") (rLenOwn C sp) := by
  intro pins s σ H xs us Q I r h
  obtain ⟨a, dx, fs, rfl, ha, q⟩ := h
  obtain ⟨u, rfl, ru⟩ := vals1 r
  cases (show u = Value.ref a from ru)
  obtain ⟨mA, J, _, _, _, _⟩ := ins_get I.hok ha
  obtain ⟨od, J2, _⟩ := J.look
  obtain ⟨m, hF⟩ := I.fr
  refine PySem.W.len_K hF I.mod.kin J2 hm.at_ hm.fn ?_
  refine wpAny_call (codeAny_mono (F.run X.A.in1 X.stack s H ⟨[.ref a], []⟩ [.ref a] [.ref a] _ _ (Room.in1 hr) I.env0.in1 (hb s [.ref a] I.kIn rfl) (.cons rfl .nil) q) fun r s' hq => ?_)
  cases r with
  | error e => exact False.elim hq
  | ok fl =>
    cases fl with
    | ret u =>
      obtain ⟨v, H', I2, rv, i, ei, h0, h1, q2⟩ := I.after hq
      subst ei
      obtain ⟨t, rfl⟩ := rv
      exact ⟨⟨h0, h1⟩, .int i, H', I2.tok _, ⟨_, rfl⟩, q2⟩
    | next => exact False.elim hq
    | brk => exact False.elim hq
    | cont => exact False.elim hq
end

/-! ### range(i, j) of any size -/
theorem turn_rangeL {P : Program} {w : World} {K : PySem.W.Frag} {tg : Expr} (it : Addr) (lo : Int) (n : Nat) : Turn P w K tg (Itr lo n) [it] it (fun i h => IsLongIter h it (lo + (i : Nat) * 1) ((n : Int) - (i : Nat)) 1) where
  mem := by simp
  obj := fun i h st b hb => by
    have e : b = it := by simpa using hb
    subst e
    exact ⟨_, st, fun v z => nomatch z⟩
  keep := fun i h h' st k => k it (by simp) _ st
  item := by
    intro X hP hw hK hc i pins s σ H E I hf st hg
    subst hP hw hK
    obtain ⟨f0, f1, f2, f3, f4, f5⟩ := hf it (by simp)
    have W := Walks.longrange (prog := X.prog) (w := X.w) (I.ok.hd hc) it lo 1 n
    refine W.item i s _ _ hg st fun v h' tk hv st' kk => ?_
    obtain ⟨t, rfl⟩ := hv
    have I1 : Inv X pins σ H { s with heap := h', toks := tk } := I.turned (fun b o hb e => kk b o (by simpa using hb) e) f0 f1 f3 f4 f5
    refine ⟨_, rfl, go_of (s := { s with heap := h', toks := tk }) (n := "longrange_iterator") st' rfl rfl (by decide) ⟨.int (lo + i), H, I1, ⟨t, ?_⟩, ⟨rfl, rfl⟩, st', fun b hb => (hf b hb).1⟩⟩
    rw [Int.mul_one]
  done := by
    intro X hP hw hK hc i pins s σ H E I hf st hg
    subst hP hw hK
    obtain ⟨f0, f1, f2, f3, f4, f5⟩ := hf it (by simp)
    exact wpAny_pyNext_long_end (I.ok.hd hc) st (by have : n ≤ i := hg; omega) fun h' eb => ⟨rfl, I.turned (t' := s.toks) (fun b o hb e => eb b o hb e) f0 f1 f3 f4 f5⟩
  self := fun _ _ _ _ _ st h => wpAny_pyIter_longiter st h
theorem range_itL {X : Cx} {tg : Expr} {pins : List (Addr × Obj)} {σ : St} {H : Hp} {s : Shared} {R : It → Hp → Prop} {E : Value → Shared → Prop} {lo hi : Int} {t u v : Tok} {tk : Nat} (I : Inv X pins σ H s)
    (q : R (Itr lo (hi - lo).toNat) H) : wpAny (model X.prog X.w) X.A (pyIter (.ref s.heap.objs.size)) (PIE X pins σ tg R) E { s with heap := s.heap.push { cls := .type "range", data := .fields #[.int lo t, .int hi u, .int 1 v] }, toks := tk } := by
  have I1 : Inv X pins σ H { s with heap := s.heap.push { cls := .type "range", data := .fields #[.int lo t, .int hi u, .int 1 v] }, toks := tk } := I.kept fun b o e => Heap.get?_push_of_some _ e
  have e1 : lo + ((0 : Nat) : Int) * 1 = lo := by simp
  have e2 : (((hi - lo).toNat : Nat) : Int) - ((0 : Nat) : Int) = Builtin.Range.rangeSize lo hi 1 := by rw [rangeSize_one]; split <;> omega
  cases hb : Builtin.Range.small lo hi 1 with
  | true =>
    refine wpAny_pyIter_range (IsRange.new ..) hb (pi_one (tk := tk) I1 _ (turn_range _ lo (hi - lo).toNat) ?_ q)
    show IsRangeIter _ _ (lo + ((0 : Nat) : Int) * 1) ((((hi - lo).toNat : Nat) : Int) - ((0 : Nat) : Int)) 1
    rw [e1, e2]
    exact Heap.get?_push_size _ rfl
  | false =>
    refine wpAny_pyIter_longrange (IsRange.new ..) hb (pi_one (tk := tk) I1 _ (turn_rangeL _ lo (hi - lo).toNat) ?_ q)
    show IsLongIter _ _ (lo + ((0 : Nat) : Int) * 1) ((((hi - lo).toNat : Nat) : Int) - ((0 : Nat) : Int)) 1
    rw [e1, e2]
    exact Heap.get?_push_size _ rfl
def iRng2L (ta : TA) : TI := fun σ H R => ta σ H fun vs H1 => ∃ i j : Int, vs = [.int i, .int j] ∧ R (Itr i (j - i).toNat) H1
theorem pi_range2L {X : Cx} {tg a b : Expr} {ta : TA} {p pos : Pos} (hg : Gl X "range") (hm : X.mg "range" = none) (ha : PA X [a, b] ta) (hs : starEach [a, b] X.env = [(false, eval a X.env), (false, eval b X.env)] := by rfl) (hs2 : starEach [b] X.env = [(false, eval b X.env)] := by rfl) :
    PI X tg (.Call (.Name "range" p) [a, b] [] pos) (iRng2L ta) := by
  refine ⟨fun pins s σ H R I h => ?_⟩
  refine Call_ (ld_blt I hg hm boot_range (PyProof.Rows.callWith_type1 (thn (ha.run pos pins s σ H _ I h) fun us s1 ⟨vs, H1, I1, r1, q1⟩ => ?_) (by rw [hs, hs2]) (by rw [hs2]; rfl)))
  obtain ⟨i, j, e, q⟩ := q1
  subst e
  cases r1 with
  | cons r rr =>
    cases rr with
    | cons r' rr =>
      cases rr
      obtain ⟨t, rfl⟩ := r
      obtain ⟨t', rfl⟩ := r'
      exact call_range_2 (range_itL I1 q)
end L2

namespace L2
open PySem PySem.Spec PyProof.Rows

/-! ### a table of 8 or 16 slots takes five -/
def orb (mask : Nat) : Nat → Nat × Nat → Nat × Nat
  | 0, x => x
  | n + 1, x => orb mask n (SetTable.leap mask x.1 x.2)
theorem orb_add (mask : Nat) : ∀ (a b : Nat) (x : Nat × Nat), orb mask (a + b) x = orb mask b (orb mask a x)
  | 0, b, x => by rw [Nat.zero_add]; rfl
  | a + 1, b, x => by
    rw [Nat.add_right_comm]
    exact orb_add mask a b _
theorem orb_snd (mask : Nat) : ∀ (n : Nat) (x : Nat × Nat), (orb mask n x).2 = x.2 / 32 ^ n
  | 0, x => by simp [orb]
  | n + 1, x => by
    show (orb mask n (SetTable.leap mask x.1 x.2)).2 = _
    rw [orb_snd mask n]
    show x.2 / 32 / 32 ^ n = _
    rw [Nat.div_div_eq_div_mul, Nat.pow_succ, Nat.mul_comm]
theorem orb_fst (mask n : Nat) (x : Nat × Nat) : (orb mask (n + 1) x).1 < mask + 1 := by
  rw [orb_add mask n 1]
  exact Nat.mod_lt _ (Nat.succ_pos _)
def ring (mask : Nat) : Nat → Nat → Nat
  | 0, i => i
  | n + 1, i => ring mask n ((i * 5 + 1) % (mask + 1))
theorem orb_ring (mask : Nat) : ∀ (n : Nat) (i : Nat), (orb mask n (i, 0)).1 = ring mask n i
  | 0, i => rfl
  | n + 1, i => by
    show (orb mask n (SetTable.leap mask i 0)).1 = ring mask n _
    have e : SetTable.leap mask i 0 = ((i * 5 + 1) % (mask + 1), 0) := by simp [SetTable.leap]
    rw [e]
    exact orb_ring mask n _
theorem ring7 : ∀ i, i < 8 → ∀ j, j < 8 → ∃ n, n < 8 ∧ ring 7 n i = j := by decide
theorem ring15 : ∀ i, i < 16 → ∀ j, j < 16 → ∃ n, n < 16 ∧ ring 15 n i = j := by decide +kernel
theorem ring_all {mask : Nat} (hm : mask = 7 ∨ mask = 15) {i j : Nat} (hi : i < mask + 1) (hj : j < mask + 1) : ∃ n, n < mask + 1 ∧ ring mask n i = j := by
  rcases hm with rfl | rfl
  · exact ring7 i hi j hj
  · exact ring15 i hi j hj

theorem free_none {mask : Nat} {owner : Array (Option Nat)} : ∀ (fuel i p : Nat), SetTable.layClean.free mask owner fuel i p = none → ∀ n, n < fuel → (owner.getD (orb mask n (i, p)).1 (some 0)).isNone = false
  | 0, _, _, _, n, h => absurd h (Nat.not_lt_zero n)
  | fuel + 1, i, p, e, n, h => by
    unfold SetTable.layClean.free at e
    cases hf : (List.range (SetTable.runEnd mask i + 1 - i)).find? (fun k => (owner.getD (i + k) (some 0)).isNone) with
    | some k => rw [hf] at e; cases e
    | none =>
      rw [hf] at e
      cases n with
      | zero =>
        have h0 := List.find?_eq_none.mp hf 0 (List.mem_range.mpr (by unfold SetTable.runEnd; split <;> omega))
        show (owner.getD i (some 0)).isNone = false
        rw [Nat.add_zero] at h0
        exact (Bool.not_eq_true _).mp h0
      | succ n => exact free_none fuel _ _ e n (Nat.lt_of_succ_lt_succ h)
theorem free_some {mask : Nat} {owner : Array (Option Nat)} : ∀ (fuel i p j : Nat), SetTable.layClean.free mask owner fuel i p = some j → (owner.getD j (some 0)).isNone = true
  | 0, _, _, _, e => by cases e
  | fuel + 1, i, p, j, e => by
    unfold SetTable.layClean.free at e
    cases hf : (List.range (SetTable.runEnd mask i + 1 - i)).find? (fun k => (owner.getD (i + k) (some 0)).isNone) with
    | some k =>
      rw [hf] at e
      have h0 := List.find?_some hf
      cases e
      exact h0
    | none => rw [hf] at e; exact free_some fuel _ _ j e

/-- k of the hashes are laid -/
def Own (mask : Nat) (owner : Array (Option Nat)) (k : Nat) : Prop := owner.size = mask + 1 ∧ (owner.toList.filterMap id).Perm (List.range k)
theorem set_some : ∀ (l : List (Option Nat)) (j k : Nat), l[j]? = some none → ((l.set j (some k)).filterMap id).Perm (k :: l.filterMap id)
  | [], j, k, h => by simp at h
  | x :: l, 0, k, h => by
    have e : x = none := by simpa using h
    subst e
    simp
  | x :: l, j + 1, k, h => by
    have ih := set_some l j k (by simpa using h)
    rw [List.set_cons_succ]
    cases x with
    | none => simpa using ih
    | some y =>
      simp only [List.filterMap_cons, id]
      exact (ih.cons y).trans (List.Perm.swap _ _ _)
theorem getD_none {owner : Array (Option Nat)} {j : Nat} (h : (owner.getD j (some 0)).isNone = true) : owner.toList[j]? = some none := by
  rw [Array.getElem?_toList]
  rw [Array.getD_eq_getD_getElem?] at h
  cases e : owner[j]? with
  | none => rw [e] at h; cases h
  | some x => rw [e] at h; cases x with
    | none => rfl
    | some _ => cases h
theorem own_step {mask : Nat} {owner : Array (Option Nat)} {k j : Nat} (o : Own mask owner k) (h : (owner.getD j (some 0)).isNone = true) : Own mask (owner.setIfInBounds j (some k)) (k + 1) := by
  refine ⟨by rw [Array.size_setIfInBounds]; exact o.1, ?_⟩
  rw [Array.toList_setIfInBounds, List.range_succ]
  refine (set_some _ j k (getD_none h)).trans ((o.2.cons k).trans ?_)
  exact (List.perm_append_singleton k _).symm
theorem all_len : ∀ (l : List (Option Nat)), (∀ x ∈ l, x.isNone = false) → (l.filterMap id).length = l.length
  | [], _ => rfl
  | x :: l, h => by
    have ih := all_len l fun y hy => h y (List.mem_cons_of_mem _ hy)
    have hx := h x List.mem_cons_self
    cases x with
    | none => cases hx
    | some y => simp [ih]
theorem own_free {mask : Nat} (hm : mask = 7 ∨ mask = 15) {owner : Array (Option Nat)} {k : Nat} (o : Own mask owner k) (hk : k ≤ 5) (h : Int) : ∃ j, SetTable.layClean.free mask owner (SetTable.turns mask) (SetTable.bits h % (mask + 1)) (SetTable.bits h) = some j := by
  cases e : SetTable.layClean.free mask owner (SetTable.turns mask) (SetTable.bits h % (mask + 1)) (SetTable.bits h) with
  | some j => exact ⟨j, rfl⟩
  | none =>
    exfalso
    have hn := free_none _ _ _ e
    have hb : SetTable.bits h < 2 ^ 64 := by
      unfold SetTable.bits
      have : (0 : Int) ≤ h % (2 ^ 64 : Int) := Int.emod_nonneg _ (by decide)
      have h2 : h % (2 ^ 64 : Int) < 2 ^ 64 := Int.emod_lt_of_pos _ (by decide)
      omega
    have hp : (orb mask 13 (SetTable.bits h % (mask + 1), SetTable.bits h)).2 = 0 := by
      rw [orb_snd]
      exact Nat.div_eq_of_lt (Nat.lt_of_lt_of_le hb (by decide))
    have hi : (orb mask 13 (SetTable.bits h % (mask + 1), SetTable.bits h)).1 < mask + 1 := orb_fst mask 12 _
    have occ : ∀ j, j < mask + 1 → (owner.getD j (some 0)).isNone = false := fun j hj => by
      obtain ⟨n, hn1, hn2⟩ := ring_all hm hi hj
      have q := hn (13 + n) (by unfold SetTable.turns; omega)
      rw [orb_add] at q
      generalize hz : orb mask 13 (SetTable.bits h % (mask + 1), SetTable.bits h) = z at q hp hi hn2
      obtain ⟨z1, z2⟩ := z
      have hp' : z2 = 0 := hp
      subst hp'
      rw [orb_ring] at q
      rw [← hn2]; exact q
    have al := all_len owner.toList fun x hx => by
      obtain ⟨j, hj, q⟩ := List.getElem_of_mem hx
      have hj' : j < mask + 1 := by rw [← o.1]; simpa using hj
      have q2 := occ j hj'
      rw [Array.getD_eq_getD_getElem?, ← Array.getElem?_toList, List.getElem?_eq_getElem hj, q] at q2
      exact q2
    have e1 := o.2.length_eq
    rw [al, List.length_range, Array.length_toList, o.1] at e1
    omega

theorem lay_fold {mask : Nat} (hm : mask = 7 ∨ mask = 15) : ∀ (hs : List Int) (owner : Array (Option Nat)) (k : Nat), Own mask owner k → k + hs.length ≤ 5 →
    ∃ ow, hs.foldl (init := some (owner, k)) (fun acc h => do
      let (owner, k) ← acc
      let j ← SetTable.layClean.free mask owner (SetTable.turns mask) (SetTable.bits h % (mask + 1)) (SetTable.bits h)
      pure (owner.setIfInBounds j (some k), k + 1)) = some (ow, k + hs.length) ∧ Own mask ow (k + hs.length)
  | [], owner, k, o, _ => ⟨owner, rfl, o⟩
  | h :: hs, owner, k, o, hk => by
    have hk' : k + (hs.length + 1) ≤ 5 := hk
    obtain ⟨j, hj⟩ := own_free hm o (by omega) h
    obtain ⟨ow, e1, e2⟩ := lay_fold hm hs _ (k + 1) (own_step o (free_some _ _ _ _ hj)) (by omega)
    have el : k + (h :: hs).length = k + 1 + hs.length := by rw [List.length_cons]; omega
    refine ⟨ow, ?_, by rw [el]; exact e2⟩
    rw [List.foldl_cons, el, ← e1]
    simp only [Option.bind_eq_bind, Option.bind_some, hj]
    rfl
theorem layClean_ok {mask : Nat} (hm : mask = 7 ∨ mask = 15) (hs : Array Int) (h5 : hs.size ≤ 5) : ∃ ow, SetTable.layClean mask hs = some ow ∧ Own mask ow hs.size := by
  have o0 : Own mask (Array.replicate (mask + 1) none) 0 := by
    refine ⟨Array.size_replicate, ?_⟩
    rw [Array.toList_replicate, List.filterMap_replicate]
    exact List.Perm.refl _
  obtain ⟨ow, e1, e2⟩ := lay_fold hm hs.toList _ 0 o0 (by rw [Array.length_toList]; omega)
  rw [Nat.zero_add, Array.length_toList] at e1 e2
  refine ⟨ow, ?_, e2⟩
  unfold SetTable.layClean
  rw [← Array.foldl_toList]
  first | rw [e1] | erw [e1]
  rfl
theorem live_owner (ow : Array (Option Nat)) (n : Nat) (hn : ow.size = n) : ((List.range n).filterMap fun j => (ow.getD j none).map (j, ·)).map (·.2) = ow.toList.filterMap id := by
  have e : ow.toList = (List.range n).map fun j => ow.getD j none := by
    apply List.ext_getElem?
    intro i
    rw [Array.getElem?_toList, List.getElem?_map]
    by_cases hi : i < n
    · rw [List.getElem?_range hi]
      have : i < ow.size := by rw [hn]; exact hi
      show ow[i]? = some (ow.getD i none)
      rw [Array.getD_eq_getD_getElem?, Array.getElem?_eq_getElem this]
      rfl
    · rw [List.getElem?_eq_none (by rw [List.length_range]; omega), Array.getElem?_eq_none (by omega)]
      rfl
  rw [e, List.map_filterMap, List.filterMap_map]
  congr 1
  funext j
  show Option.map (fun x => x.snd) (Option.map (fun x => (j, x)) (ow.getD j none)) = ow.getD j none
  cases ow.getD j none <;> rfl
theorem laid_ok {mask : Nat} (hm : mask = 7 ∨ mask = 15) (finger moves : Nat) (led plain : Bool) (hs : Array Int) (h5 : hs.size ≤ 5) :
    ∃ t order, SetTable.laid mask finger moves led plain hs = some (t, order) ∧ t.mask = mask ∧ t.dummies = #[] ∧ t.led = led ∧ t.place.size = hs.size ∧ order.toList.Perm (List.range hs.size) := by
  obtain ⟨ow, e1, e2⟩ := layClean_ok hm hs h5
  have hp : (((List.range (mask + 1)).filterMap fun j => (ow.getD j none).map (j, ·)).map (·.2)).Perm (List.range hs.size) := by
    rw [live_owner ow _ e2.1]; exact e2.2
  refine ⟨_, _, by unfold SetTable.laid; rw [e1]; rfl, rfl, rfl, rfl, ?_, ?_⟩
  · have q := hp.length_eq
    rw [List.length_map, List.length_range] at q
    simpa using q
  · simpa using hp
theorem range_get {α : Type} : ∀ (l : List α), (List.range l.length).filterMap (fun j => l[j]?) = l
  | [] => rfl
  | x :: l => by
    rw [List.length_cons, List.range_succ_eq_map, List.filterMap_cons]
    show x :: _ = _
    rw [List.filterMap_map]
    congr 1
    exact range_get l
theorem reord_perm {order : Array Nat} {es : Array (Int × Value)} (h : order.toList.Perm (List.range es.size)) : (order.filterMap (es[·]?)).toList.Perm es.toList := by
  have h1 := h.filterMap (fun j : Nat => es[j]?)
  have h2 : (List.range es.size).filterMap (fun j : Nat => es[j]?) = es.toList := by
    have e : (fun j : Nat => es[j]?) = (fun j : Nat => es.toList[j]?) := by funext j; rw [Array.getElem?_toList]
    rw [e, ← Array.length_toList]
    exact range_get _
  rw [h2] at h1
  simpa using h1
end L2

namespace L2
open PySem PySem.Spec PyProof.Rows

/-! ### a set of texts -/
theorem isT_str {P : Program} {w : World} (k : Str) (u : Tok) : (PySem.strKind P w).is k (.str k u) = true := by
  show Value.isStrOf k (.str k u) = true
  simp [Value.isStrOf]
def keyT (e : Int × Value) : Str := match e.2 with | .str k _ => k | _ => ⟨#[]⟩
def GoodT (w : World) (e : Int × Value) : Prop := ∃ k tk, e.2 = Value.str k tk ∧ e.1 = hashStr w k
/-- the elements es, the table t: the texts l; b: the table rises and can be walked -/
structure SetD (w : World) (b : Bool) (es : Array (Int × Value)) (t : SetTable) (l : List Str) : Prop where
  good : ∀ e ∈ es.toList, GoodT w e
  perm : (es.toList.map keyT).Perm l
  nd : l.Nodup
  bound : es.size < scanBound
  fit : t.fits es.size = true
  walk : b = true → Ris t.place.toList ∧ (w.params.followText "set-order" = true ∨ t.led = true)
def SetX (w : World) (b : Bool) (l : List Str) (a : Addr) (h : Heap) : Prop :=
  ∃ o es ep t, h.get? a = some o ∧ o.ExactSet ∧ o.data = .set es ep t ∧ SetD w b es t l
section
variable {P : Program} {w : World} {h h' : Heap} {a : Addr} {l : List Str} {b : Bool} {es : Array (Int × Value)} {t : SetTable}
theorem SetX.at (R : SetX w b l a h) (k : ∀ o, h.get? a = some o → h'.get? a = some o) : SetX w b l a h' := by
  obtain ⟨o, es, ep, t, ho, r⟩ := R
  exact ⟨o, es, ep, t, k o ho, r⟩
theorem SetX.lt (R : SetX w b l a h) : a < h.objs.size := by
  obtain ⟨o, es, ep, t, ho, r⟩ := R
  exact Heap.lt_size ho
theorem SetD.size (R : SetD w b es t l) : es.size = l.length := by
  have q := R.perm.length_eq
  rwa [List.length_map, Array.length_toList] at q
theorem goodT_elems {l : List (Int × Value)} (g : ∀ e ∈ l, GoodT w e) : ElemsOf (PySem.strKind P w) l := fun e he => by
  obtain ⟨k, tk, h1, h2⟩ := g e he
  exact ⟨⟨k, by rw [h1]; exact isT_str k tk, h2⟩, by rw [h1] <;> rfl⟩
theorem goodT_is {e : Int × Value} (g : GoodT w e) (k : Str) : (PySem.strKind P w).is k e.2 = true ↔ keyT e = k := by
  obtain ⟨k0, tk, h1, _⟩ := g
  have e1 : keyT e = k0 := by unfold keyT; rw [h1]
  rw [e1]
  constructor
  · intro q
    have q1 : (PySem.strKind P w).is k0 e.2 = true := by rw [h1]; exact isT_str k0 tk
    exact (PySem.strKind P w).inj _ _ _ q1 q
  · rintro rfl
    rw [h1]; exact isT_str k0 tk
theorem goodT_mem {l : List (Int × Value)} (g : ∀ e ∈ l, GoodT w e) (k : Str) : k ∈ l.map keyT ↔ ∃ e ∈ l, (PySem.strKind P w).is k e.2 = true := by
  rw [List.mem_map]
  constructor
  · rintro ⟨e, he, q⟩
    exact ⟨e, he, (goodT_is (g e he) k).2 q⟩
  · rintro ⟨e, he, q⟩
    exact ⟨e, he, (goodT_is (g e he) k).1 q⟩
theorem SetX.setOf (R : SetX w b l a h) : h.SetOf (PySem.strKind P w) a (fun k => decide (k ∈ l)) l.length := by
  obtain ⟨o, es, ep, t, ho, hx, hd, D⟩ := R
  exact ⟨o, es, ep, t, ho, hx, hd, goodT_elems D.good, fun k => by rw [decide_eq_true_eq, ← D.perm.mem_iff]; exact goodT_mem D.good k, D.bound, D.fit, D.size⟩
theorem SetX.weak (R : SetX w b l a h) : SetX w false l a h := by
  obtain ⟨o, es, ep, t, ho, hx, hd, D⟩ := R
  exact ⟨o, es, ep, t, ho, hx, hd, D.good, D.perm, D.nd, D.bound, D.fit, fun z => by cases z⟩
theorem SetX.perm {l' : List Str} (R : SetX w b l a h) (p : l.Perm l') : SetX w b l' a h := by
  obtain ⟨o, es, ep, t, ho, hx, hd, D⟩ := R
  exact ⟨o, es, ep, t, ho, hx, hd, D.good, D.perm.trans p, p.nodup_iff.mp D.nd, D.bound, D.fit, D.walk⟩
end
/-- x put into the list -/
def putS (l : List Str) (k : Str) : List Str := if k ∈ l then l else l ++ [k]
theorem putS_mem {l : List Str} {k j : Str} : j ∈ putS l k ↔ j ∈ l ∨ j = k := by
  unfold putS
  split
  · exact ⟨.inl, fun z => z.elim id fun e => e ▸ ‹_›⟩
  · simp
theorem putS_nd {l : List Str} {k : Str} (h : l.Nodup) : (putS l k).Nodup := by
  unfold putS
  split
  · exact h
  · rename_i q
    exact (List.perm_append_singleton k l).nodup_iff.mpr (List.nodup_cons.mpr ⟨q, h⟩)
theorem putS_len {l : List Str} {k : Str} : (putS l k).length ≤ l.length + 1 := by
  unfold putS; split <;> simp
section
variable {P : Program} {w : World} {A : Around} {E : Value → Shared → Prop} {s : Shared} {a : Addr} {l : List Str} {b : Bool}

theorem setX_add_tail {g : Bool → Sem Unit} (hg : ∀ (b : Bool) (s₁ : Shared) (Q' : Unit → Shared → Prop), Q' () s₁ → wpAny (model P w) A (g b) Q' E s₁)
    {o : Obj} {es : Array (Int × Value)} {ep : Nat} {t : SetTable} (ho : s.heap.get? a = some o) (hex : o.ExactSet) (hd : o.data = .set es ep t)
    {es1 : Array (Int × Value)} {t2 : SetTable} {l' : List Str} (D : SetD w b es1 t2 l') {wasDummy : Bool} {R : Option Bool → Shared → Prop}
    (hR : ∀ h', Heap.SameBut a s.heap h' → SetX w b l' a h' → R (some true) { s with heap := h' }) :
    wpAny (model P w) A (do
        storeSet a es1 t2
        if (!wasDummy && t2.tooFull) = true then do
            g (relayAll t2 es1 (SetTable.grown es1.size)).2.2
            storeSet a (relayAll t2 es1 (SetTable.grown es1.size)).1 (relayAll t2 es1 (SetTable.grown es1.size)).2.1
            pure (some true)
          else pure (some true)) R E s := by
  refine wpAny_bind (wpAny_storeSet_of ho hd ?_ (fits_of_scanBound D.bound))
  have ho1 := store_at (es' := es1) (t' := t2) ho hd
  have sb1 := Heap.SameBut.update s.heap a (Obj.putSet es1 t2)
  split
  · have pm := relayAll_perm t2 es1 (SetTable.grown es1.size)
    have hf3 := relayAll_fits t2 es1 (SetTable.grown es1.size)
    have hr3 := relayAll_ris t2 es1 (SetTable.grown es1.size)
    have hl3 := relayAll_led t2 es1 (SetTable.grown es1.size)
    generalize relayAll t2 es1 (SetTable.grown es1.size) = Z at pm hf3 hr3 hl3 ⊢
    obtain ⟨es2, t3, gave⟩ := Z
    dsimp only at pm hf3 hr3 hl3 ⊢
    have hsz : es2.size = es1.size := by rw [← Array.length_toList, pm.length_eq, Array.length_toList]
    have hb2 : es2.size < scanBound := by rw [hsz]; exact D.bound
    refine wpAny_bind (hg _ _ _ ?_)
    refine wpAny_bind (wpAny_storeSet_of ho1 rfl ?_ (fits_of_scanBound hb2))
    have ho2 := store_at (es' := es2) (t' := t3) ho1 rfl
    refine wpAny_pure (hR _ (sb1.trans (Heap.SameBut.update _ a _)) ?_)
    exact ⟨_, es2, _, t3, ho2, hex, rfl, fun e he => D.good e (pm.mem_iff.mp he), (pm.map keyT).trans D.perm, D.nd, hb2, hf3, fun hb => ⟨hr3, (D.walk hb).2.imp id fun z => by rw [hl3]; exact z⟩⟩
  · exact wpAny_pure (hR _ sb1 ⟨_, es1, _, t2, ho1, hex, rfl, D⟩)

theorem setX_add_hashed {k : Str} {tk : Tok} {Q : Bool → Shared → Prop} (R : SetX w b l a s.heap) (room : l.length + 1 < scanBound)
    (hQ : ∀ h', Heap.SameBut a s.heap h' → SetX w b (putS l k) a h' → Q (!decide (k ∈ l)) { s with heap := h' }) :
    wpAny (model P w) A (setAddHashed a (.str k tk) (hashStr w k)) Q E s := by
  obtain ⟨o, es, ep, t, ho, hex, hd, D⟩ := id R
  have hkey : (PySem.strKind P w).is k (.str k tk) = true := isT_str k tk
  have hsc : (Value.str k tk).scannable = true := rfl
  have hel : ElemsOf (PySem.strKind P w) es.toList := goodT_elems D.good
  unfold setAddHashed setAddHashedIn
  refine wpAny_holding (wpAny_bind (wpAny_setState_of ho hd D.fit ?_))
  dsimp only
  rw [byScan_of hsc D.bound hel]
  simp only [↓reduceIte]
  unfold setAddByScan
  refine wpAny_bind ?_
  refine wpAny_bind (wpAny_rule ?_)
  refine wpAny_bind (wpAny_setScan_of (knd := PySem.strKind P w) (k := k) hkey ho hd D.fit hel ?_)
  cases hfi : List.findIdx? (fun e => (PySem.strKind P w).is k e.2) es.toList with
  | some j =>
    dsimp only
    obtain ⟨hj, pj, _⟩ := List.findIdx?_eq_some_iff_getElem.mp hfi
    have hk : k ∈ l := D.perm.mem_iff.mp ((goodT_mem (P := P) (w := w) D.good k).2 ⟨es.toList[j], List.getElem_mem hj, pj⟩)
    refine wpAny_pure (wpAny_pure ?_)
    have q := hQ s.heap (Heap.SameBut.refl a s.heap) (by unfold putS; rw [if_pos hk]; exact R)
    rw [decide_eq_true hk] at q
    exact q
  | none =>
    dsimp only
    have hnk : k ∉ es.toList.map keyT := fun z => by
      obtain ⟨e, he, q⟩ := (goodT_mem (P := P) (w := w) D.good k).1 z
      have c := List.findIdx?_eq_none_iff.mp hfi e he
      rw [q] at c
      cases c
    have hk : k ∉ l := fun z => hnk (D.perm.mem_iff.mpr z)
    have hgw : ∀ (b : Bool) {s₁ : Shared} {Q' : Unit → Shared → Prop}, Q' () s₁ → wpAny (model P w) A (match b with | true => rule "set.scan.the-table-gave-way" | false => pure ()) Q' E s₁ :=
      fun b s₁ Q' q => by cases b <;> first | exact wpAny_pure q | exact wpAny_rule q
    have pm := layNew_perm t es (hashStr w k) (.str k tk)
    have hf1 := layNew_fits t es (hashStr w k) (.str k tk)
    have hr1 := layNew_ris t es (hashStr w k) (.str k tk)
    have hl1 := layNew_led t es (hashStr w k) (.str k tk)
    generalize layNew t es (hashStr w k) (.str k tk) = Z at pm hf1 hr1 hl1 ⊢
    obtain ⟨es1, t1, wasDummy, gave⟩ := Z
    dsimp only at pm hf1 hr1 hl1 ⊢
    rw [Array.toList_push] at pm
    have pk : (es1.toList.map keyT).Perm (l ++ [k]) := by
      refine (pm.map keyT).trans ?_
      rw [List.map_append]
      exact D.perm.append (List.Perm.refl _)
    have g1 : ∀ e ∈ es1.toList, GoodT w e := fun e he => by
      rcases List.mem_append.mp (pm.mem_iff.mp he) with z | z
      · exact D.good e z
      · rw [List.mem_singleton.mp z]; exact ⟨k, tk, rfl, rfl⟩
    have hsz : es1.size = l.length + 1 := by
      have q := pk.length_eq
      rw [List.length_map, Array.length_toList, List.length_append] at q
      exact q
    have hb1 : es1.size < scanBound := by rw [hsz]; exact room
    have D1 : ∀ t', t'.fits es1.size = true → (t'.place = t1.place ∧ t'.led = t1.led) → SetD w b es1 t' (putS l k) := fun t' hf hp => by
      refine ⟨g1, ?_, putS_nd D.nd, hb1, hf, fun hb => ?_⟩
      · unfold putS; rw [if_neg hk]; exact pk
      · obtain ⟨r, q⟩ := D.walk hb
        rw [hp.1, hp.2]
        exact ⟨hr1 r, q.imp id fun z => by rw [hl1]; exact z⟩
    have fin : ∀ h', Heap.SameBut a s.heap h' → SetX w b (putS l k) a h' → Q true { s with heap := h' } := fun h' sb r => by
      have q := hQ h' sb r
      rw [decide_eq_false hk] at q
      exact q
    refine wpAny_bind (hgw _ ?_)
    split
    · refine wpAny_bind ?_
      rw [hashByValue_scannable 8 hsc]
      refine wpAny_pure ?_
      refine setX_add_tail ?_ ho hex hd (D1 _ ?_ ?_) ?_
      · intro b s₁ Q' q; cases b <;> first | exact wpAny_pure q | exact wpAny_rule q
      · first | (split <;> first | exact hf1 | exact SetTable.fits_plain_off hf1) | exact hf1
      · first | (split <;> exact ⟨rfl, rfl⟩) | exact ⟨rfl, rfl⟩
      · intro h' sb r; dsimp only; exact wpAny_pure (fin h' sb r)
    · refine wpAny_bind (wpAny_pure ?_)
      simp only [↓reduceIte]
      refine setX_add_tail ?_ ho hex hd (D1 _ hf1 ⟨rfl, rfl⟩) ?_
      · intro b s₁ Q' q; cases b <;> first | exact wpAny_pure q | exact wpAny_rule q
      · intro h' sb r; dsimp only; exact wpAny_pure (fin h' sb r)
theorem setX_fresh_at {h : Heap} {a : Addr} {led : Bool} (b : Bool) (hb : b = true → w.params.followText "set-order" = true ∨ led = true) (ho : h.get? a = some { cls := .type "set", dict := none, data := .set #[] 0 (.fresh 0 0 led) }) : SetX w b [] a h :=
  ⟨_, #[], 0, _, ho, ⟨rfl, rfl, rfl⟩, rfl, (fun e he => by simp at he), List.Perm.nil, List.nodup_nil, (by decide), (by rfl), fun z => ⟨List.Pairwise.nil, hb z⟩⟩
/-- the text's signs, put one by one -/
def putsS : List Str → List Nat → List Str
  | l, [] => l
  | l, c :: r => putsS (putS l ⟨#[c]⟩) r
theorem putsS_append (l : List Str) : ∀ (a b : List Nat), putsS l (a ++ b) = putsS (putsS l a) b := by
  intro a
  induction a generalizing l with
  | nil => intro b; rfl
  | cons c r ih => intro b; exact ih _ b
theorem putsS_len (l : List Str) : ∀ (a : List Nat), (putsS l a).length ≤ l.length + a.length := by
  intro a
  induction a generalizing l with
  | nil => exact Nat.le_refl _
  | cons c r ih => exact Nat.le_trans (ih _) (by have := putS_len (l := l) (k := ⟨#[c]⟩); rw [List.length_cons]; omega)
theorem set_update_text {I : Addr} {fp wr : List Addr} {G : Array GenState → Array GenState → Prop} {x : Str} {St : Nat → Shared → Prop} {R : Result → Shared → Prop}
    (W : WalksS P w A.in1 I fp wr G x.cps.size (SignAt x) St) (S : Addr) (hSf : S ∉ fp) (hb : x.cps.size + 1 < scanBound) :
    ∀ (k i : Nat) (s : Shared), x.cps.size - i = k → i ≤ x.cps.size → St i s → SetX w b (putsS [] (x.cps.toList.take i)) S s.heap →
      (∀ s', Moved (S :: wr) G s s' → SetX w b (putsS [] x.cps.toList) S s'.heap → R (.ok (.ret .none)) s') →
      codeAny (model P w) A (.builtin "set.update.loop" ⟨[.ref S, .ref I], []⟩) R s := by
  have hSw : S ∉ wr := fun h => hSf (W.sub _ h)
  have hsub : ∀ b ∈ wr, b ∈ S :: wr := fun b hb => List.mem_cons_of_mem _ hb
  intro k
  induction k with
  | zero =>
    intro i s hk' hi hst hS hR
    have hin : i = x.cps.size := by omega
    subst hin
    refine codeAny_builtin F.entry_set_update_loop ?_
    rw [Around.under_plainId F.plain_set_update_loop _]
    show wpAny _ A.in1 (pyNext (.ref I) >>= _) _ _ s
    refine wpAny_bind (W.done s _ _ hst fun s' hm => ?_)
    show wpAny _ A.in1 (ret Value.none) _ _ s'
    have e : x.cps.toList.take x.cps.size = x.cps.toList := List.take_of_length_le (by rw [Array.length_toList]; exact Nat.le_refl _)
    rw [e] at hS
    exact wpAny_pure (hR s' (hm.mono hsub) (hS.at fun o e => hm.heap S o hSw e))
  | succ k ih =>
    intro i s hk' hi hst hS hR
    have hlt : i < x.cps.size := by omega
    refine codeAny_builtin F.entry_set_update_loop ?_
    rw [Around.under_plainId F.plain_set_update_loop _]
    show wpAny _ A.in1 (pyNext (.ref I) >>= _) _ _ s
    refine wpAny_bind (W.item i s _ _ hlt hst fun v s' hP hst' hm => ?_)
    obtain ⟨c, t, hz, rfl⟩ := hP
    have hS' := hS.at (h' := s'.heap) fun o e => hm.heap S o hSw e
    show wpAny _ A.in1 (holding [Value.str ⟨#[c]⟩ t] (setAdd S (.str ⟨#[c]⟩ t)) >>= _) _ _ s'
    refine wpAny_bind (wpAny_holding ?_)
    unfold setAdd
    refine wpAny_holding ?_
    refine wpAny_bind ((PySem.strKind P w).pyHash (k := ⟨#[c]⟩) (isT_str _ _) ?_)
    have hl : (putsS [] (x.cps.toList.take i)).length ≤ i := by
      refine Nat.le_trans (putsS_len [] _) ?_
      rw [List.length_take]
      simp only [List.length_nil, Nat.zero_add]
      exact Nat.min_le_left _ _
    refine setX_add_hashed (s := { s' with toks := s'.toks + 1 }) hS' (by omega) fun h' hsb hS2 => ?_
    have hS3 : SetX w b (putsS [] (x.cps.toList.take (i + 1))) S h' := by
      rw [List.take_add_one, Array.getElem?_toList, hz, putsS_append]
      exact hS2
    refine wpAny_pure ⟨plainId_quiet F.plain_set_update_loop _, ih (i + 1) _ (by omega) hlt (W.frame _ s' _ _ hst' (Nat.le_succ _) fun b hb o e => ?_) hS3 fun s'' hm'' hS'' => ?_⟩
    · rw [hsb.2 b (fun h : b = S => hSf (by rw [← h]; exact hb))]; exact e
    · refine hR s'' (Moved.trans W.gtrans ((hm.mono hsub).then_heap (Nat.le_succ _) fun b o hb e => ?_) hm'') hS''
      rw [hsb.2 b (fun h : b = S => hb (by rw [h]; exact List.mem_cons_self))]; exact e
end
end L2

namespace L2
open PySem PySem.Spec PyProof.Rows
def freshS (w : World) : Obj := { cls := .type "set", dict := none, data := .set #[] 0 (.fresh 0 0 (!w.params.followText "set-order")) }
section
variable {P : Program} {w : World} {A : Around} {E : Value → Shared → Prop} {s : Shared}
set_option maxRecDepth 100000 in
theorem call_set_1 (v : Value) (Good : Heap → Prop) {Q : Value → Shared → Prop} (hh : A.handled = none)
    (up : ∀ (A' : Around) (E' : Value → Shared → Prop) (Q' : Unit → Shared → Prop), A'.handled = none → (∀ h' tk, Good h' → Q' () { s with heap := h', toks := tk }) →
      wpAny (model P w) A' (Builtin.Frozenset.updateFrom "set.__init__" s.heap.objs.size v) Q' E' { s with heap := s.heap.push (freshS w) })
    (h : ∀ h' tk, Good h' → Q (.ref s.heap.objs.size) { s with heap := h', toks := tk }) :
    wpAny (model P w) A (call (.type "set") [v]) Q E s := by
  obtain ⟨c, tl, hmro⟩ := F.called_set.mro
  have hmade := F.called_set.made
  have hsub := F.called_set.sub
  refine wpAny_call (codeAny_of_tree ?_)
  show wpAny _ _ (callAny (.type "set") _) _ _ _
  refine wpAny_pure ⟨Code.quiet_builtin _ (by decide +kernel), codeAny_builtin F.entry_type_call ?_⟩
  rw [Around.under_plain (weight_type_call_type "set" [v] []) rfl]
  have h1 := F.called_set.notType
  have h2 := F.called_set.canCreate
  have hct := F.typeCall_set_1 v
  repeat (any_goals (first | assumption | wp_step))
  refine codeAny_mono (code_set_led1 v (E := E) (Q₁ := fun obj s₁ => obj = .ref s.heap.objs.size ∧ s₁ = { s with heap := s.heap.push { cls := .type "set", dict := none, data := .set #[] 0 (.fresh 0 0 (!w.params.followText "set-order")) } }) ⟨rfl, rfl⟩) fun r s₁ hr => ?_
  cases r with
  | error e => exact hr
  | ok fl =>
    cases fl with
    | ret obj =>
      obtain ⟨rfl, rfl⟩ := hr
      have hS : (s.heap.push { cls := .type "set", dict := none, data := .set #[] 0 (.fresh 0 0 (!w.params.followText "set-order")) }).get? s.heap.objs.size = some { cls := .type "set", dict := none, data := .set #[] 0 (.fresh 0 0 (!w.params.followText "set-order")) } := Heap.get?_push_size _ rfl
      have hT : Shared.TypeIs { s with heap := s.heap.push { cls := .type "set", dict := none, data := .set #[] 0 (.fresh 0 0 (!w.params.followText "set-order")) } } (.ref s.heap.objs.size) "set" := ⟨_, hS, rfl⟩
      have hli := F.called_set.init.lookup
      have hbi := F.called_set.init.bind (.ref s.heap.objs.size)
      repeat (any_goals (first | assumption | wp_step))
      refine codeAny_mono (codeAny_call_builtin (R := wants (fun r s₂ => r = .none ∧ ∃ h' tk, s₂ = { s with heap := h', toks := tk } ∧ Good h') E) F.called_set.init.plain F.entry_set_init (check_set_init_1 hT ?_)) fun r₂ s₂ hr₂ => ?_
      · have hh3 : A.in1.in1.in1.handled = none := by simp [hh]
        have hh2 : A.in1.in1.handled = none := by simp [hh]
        have hh1 : A.in1.handled = none := by simp [hh]
        unfold Builtin.«set.__init__» noKeywords
        generalize hU : Builtin.Frozenset.updateFrom "set.__init__" = U at up ⊢
        wp_walk
        subst hU
        refine up _ _ _ (by first | exact hh3 | exact hh2 | exact hh1 | exact hh) fun h' tk g => ?_
        wp_walk
        exact ⟨rfl, h', tk, rfl, g⟩
      · cases r₂ with
        | error e => exact hr₂
        | ok fl₂ =>
          cases fl₂ with
          | ret r =>
            obtain ⟨rfl, h', tk, rfl, g⟩ := hr₂
            repeat (any_goals (first | assumption | wp_step))
            exact h _ _ g
          | _ => exact hr₂.elim
    | _ => exact hr.elim
end
end L2

namespace L2
open PySem PySem.Spec PyProof.Rows
section
variable {P : Program} {w : World} {A : Around} {E : Value → Shared → Prop} {s : Shared}
theorem fresh_at (h : Heap) (o : Obj) (hc : o.isFreed = false) : (h.push o).get? h.objs.size = some o := Heap.get?_push_size _ hc

theorem anySet_str {y : Str} {t : Tok} {Q : Bool → Shared → Prop} (h : Q false s) : wpAny (model P w) A (Builtin.Frozenset.isAnySet (.str y t)) Q E s := by
  unfold Builtin.Frozenset.isAnySet orM
  refine wpAny_bind (wpAny_isInstance (typeIs_str _ _ _) PySem.F.sub_str_set ?_)
  show wpAny _ _ (isInstance (.str y t) (.type "frozenset")) _ _ s
  exact wpAny_isInstance (typeIs_str _ _ _) PySem.F.sub_str_frozenset h
theorem pairs_get {K : Type} [DecidableEq K] {knd : PySem.KeyKind P w K} : ∀ {es : List DictEntry} {kvs : List (K × Value)} {i : Nat} {e : DictEntry}, Pairs knd es kvs → es[i]? = some e → ∃ kv, kvs[i]? = some kv ∧ knd.is kv.1 e.key = true
  | _, _, _, _, .nil, h => by simp at h
  | _, _, 0, _, .cons a _ _, h => by simp at h; subst h; exact ⟨_, rfl, a⟩
  | _, _, i + 1, e, .cons _ _ r, h => by
    obtain ⟨kv, h1, h2⟩ := pairs_get (i := i) (e := e) r (by simpa using h)
    exact ⟨kv, by simpa using h1, h2⟩
theorem pairs_len {K : Type} [DecidableEq K] {knd : PySem.KeyKind P w K} : ∀ {es : List DictEntry} {kvs : List (K × Value)}, Pairs knd es kvs → es.length = kvs.length
  | _, _, .nil => rfl
  | _, _, .cons _ _ r => by rw [List.length_cons, List.length_cons, pairs_len r]
/-! ### set(text) -/
theorem up_text {x : Str} {t : Tok} (hb : x.cps.size + 1 < scanBound) (A' : Around) (E' : Value → Shared → Prop) (Q' : Unit → Shared → Prop) (hh : A'.handled = none)
    (hQ : ∀ h' tk, (SetX w true (putsS [] x.cps.toList) s.heap.objs.size h' ∧ ∀ b o, s.heap.get? b = some o → h'.get? b = some o) → Q' () { s with heap := h', toks := tk }) :
    wpAny (model P w) A' (Builtin.Frozenset.updateFrom "set.__init__" s.heap.objs.size (.str x t)) Q' E' { s with heap := s.heap.push (freshS w) } := by
  unfold Builtin.Frozenset.updateFrom
  refine wpAny_bind (anySet_str ?_)
  dsimp only
  refine wpAny_bind (wpAny_typeOf (typeIs_str _ _ _) ?_)
  have e1 : (Value.type "str" == Value.type "dict") = false := by decide
  rw [e1]
  simp only [Bool.false_eq_true, if_false]
  refine wpAny_bind (wpAny_pyIter_str fun o St W st0 => ?_)
  have hz : (s.heap.push (freshS w)).objs.size = s.heap.objs.size + 1 := size_push' _ _
  have hh1 : A'.in1.handled = none := by simp [hh]
  refine wpAny_bind (wpAny_runValue (set_update_text (b := true) ((W _ hh1).toS) s.heap.objs.size ?_ hb _ 0 _ rfl (Nat.zero_le _) st0 ?_ fun s' hm hS => ?_))
  · rw [hz]; simp
  · exact setX_fresh_at true (fun _ => by cases w.params.followText "set-order" <;> simp) (Heap.get?_push_of_some _ (fresh_at _ _ rfl))
  · obtain ⟨h', g2, d', tk', os'⟩ := s'
    have eg : g2 = s.gens := hm.gens
    have ed : d' = s.drawn := hm.drawn
    have eo : os' = s.os := hm.os
    subst eg; subst ed; subst eo
    refine wpAny_pure (hQ _ _ ⟨hS, fun b u e => ?_⟩)
    have hb0 : b < s.heap.objs.size := Heap.lt_size e
    refine hm.heap b u (fun z => ?_) (Heap.get?_push_of_some _ (Heap.get?_push_of_some _ e))
    rw [hz] at z
    rcases List.mem_cons.mp z with z | z
    · exact absurd z (Nat.ne_of_lt hb0)
    · exact absurd (List.mem_singleton.mp z) (Nat.ne_of_lt (Nat.lt_succ_of_lt hb0))
theorem call_set_text {x : Str} {t : Tok} (hh : A.handled = none) (hb : x.cps.size + 1 < scanBound) {Q : Value → Shared → Prop}
    (h : ∀ h' tk, SetX w true (putsS [] x.cps.toList) s.heap.objs.size h' → (∀ b o, s.heap.get? b = some o → h'.get? b = some o) → Q (.ref s.heap.objs.size) { s with heap := h', toks := tk }) :
    wpAny (model P w) A (call (.type "set") [.str x t]) Q E s :=
  call_set_1 _ (fun h' => SetX w true (putsS [] x.cps.toList) s.heap.objs.size h' ∧ ∀ b o, s.heap.get? b = some o → h'.get? b = some o) hh (fun A' E' Q' hA hQ => up_text hb A' E' Q' hA hQ) fun h' tk g => h h' tk g.1 g.2

/-! ### set(dict) -/
theorem anySet_dict {d : Addr} {Q : Bool → Shared → Prop} (hT : s.TypeIs (.ref d) "dict") (h : Q false s) : wpAny (model P w) A (Builtin.Frozenset.isAnySet (.ref d)) Q E s := by
  unfold Builtin.Frozenset.isAnySet orM
  refine wpAny_bind (wpAny_isInstance hT PySem.F.sub_dict_set ?_)
  show wpAny _ _ (isInstance (.ref d) (.type "frozenset")) _ _ s
  exact wpAny_isInstance hT PySem.F.sub_dict_frozenset h
theorem anySet_set {d : Addr} {Q : Bool → Shared → Prop} (hT : s.TypeIs (.ref d) "set") (h : Q true s) : wpAny (model P w) A (Builtin.Frozenset.isAnySet (.ref d)) Q E s := by
  unfold Builtin.Frozenset.isAnySet orM
  refine wpAny_bind (wpAny_isInstance hT sub_set_self ?_)
  exact wpAny_pure h
/-- room for up to five in a fresh set -/
theorem relay_fresh {a : Addr} {led : Bool} {n : Nat} (hn : n ≤ 5) (ho : s.heap.get? a = some { cls := .type "set", dict := none, data := .set #[] 0 (.fresh 0 0 led) }) {Q : Unit → Shared → Prop}
    (hQ : ∀ h', Heap.SameBut a s.heap h' → SetX w false [] a h' → Q () { s with heap := h' }) : wpAny (model P w) A (setRoomFor a n) Q E s := by
  unfold setRoomFor
  refine wpAny_bind (wpAny_setState_of ho rfl rfl ?_)
  by_cases h5 : n = 5
  · subst h5
    have e1 : (SetTable.fresh 0 0 led).roomFor 5 = some 10 := rfl
    dsimp only
    rw [e1]
    dsimp only
    unfold setRelay
    refine wpAny_bind (wpAny_setState_of ho rfl rfl ?_)
    have e2 : SetTable.sizeAbove 10 = 16 := by decide
    dsimp only
    rw [e2, if_neg (by decide)]
    obtain ⟨t, order, hl, h1, h2, h3, h4, h5⟩ := laid_ok (mask := 15) (.inr rfl) (SetTable.fresh 0 0 led).finger ((SetTable.fresh 0 0 led).movedTo 15) (SetTable.fresh 0 0 led).led (SetTable.fresh 0 0 led).plain #[] (by decide)
    have e3 : (SetTable.fresh 0 0 led).relaid ((#[] : Array (Int × Value)).map (·.1)) 10 = some (t, order) := by
      unfold SetTable.relaid
      rw [e2]
      simpa using hl
    rw [e3]
    have eo : order = #[] := by
      have : order.toList = [] := by simpa using h5
      exact Array.toList_eq_nil_iff.mp this
    subst eo
    refine wpAny_bind (wpAny_of_eq (a := (#[], t)) rfl ?_)
    dsimp only
    refine wpAny_storeSet_of ho rfl ?_ (by decide)
    refine hQ _ (Heap.SameBut.update _ a _) ⟨_, #[], _, t, store_at ho rfl, ⟨rfl, rfl, rfl⟩, rfl, (fun e he => by simp at he), List.Perm.nil, List.nodup_nil, by decide, ?_, fun z => by cases z⟩
    unfold SetTable.fits SetTable.fill
    rw [h2, h4, h1]
    rfl
  · have e1 : (SetTable.fresh 0 0 led).roomFor n = none := by
      unfold SetTable.roomFor
      rw [if_neg]
      show ¬ ((0 + n) * 5 ≥ 7 * 3)
      omega
    dsimp only
    rw [e1]
    exact wpAny_pure (hQ _ (Heap.SameBut.refl _ _) (setX_fresh_at false (fun z => by cases z) ho))
def putsK : List Str → List Str → List Str
  | l, [] => l
  | l, k :: r => putsK (putS l k) r
theorem putsK_len (l : List Str) : ∀ (a : List Str), (putsK l a).length ≤ l.length + a.length := by
  intro a
  induction a generalizing l with
  | nil => exact Nat.le_refl _
  | cons c r ih => exact Nat.le_trans (ih _) (by have := putS_len (l := l) (k := c); rw [List.length_cons]; omega)
theorem putsK_append (l : List Str) : ∀ (a b : List Str), putsK l (a ++ b) = putsK (putsK l a) b := by
  intro a
  induction a generalizing l with
  | nil => intro b; rfl
  | cons c r ih => intro b; exact ih _ b
theorem up_dict {d : Addr} {kvs : List (Key × Value)} {ks : List Str} (hd : s.heap.DictOf (mixKind P w) d kvs) (lo : (d == sysModules) = false) (hk : kvs.map (·.1) = ks.map Sum.inr) (h5 : ks.length ≤ 5)
    (A' : Around) (E' : Value → Shared → Prop) (Q' : Unit → Shared → Prop) (hh : A'.handled = none)
    (hQ : ∀ h' tk, (SetX w false (putsK [] ks) s.heap.objs.size h' ∧ ∀ b o, s.heap.get? b = some o → h'.get? b = some o) → Q' () { s with heap := h', toks := tk }) :
    wpAny (model P w) A' (Builtin.Frozenset.updateFrom "set.__init__" s.heap.objs.size (.ref d)) Q' E' { s with heap := s.heap.push (freshS w) } := by
  obtain ⟨o, es, ep, ho, hx, hdt, hks, hps, hnd⟩ := hd
  have hlt : d < s.heap.objs.size := Heap.lt_size ho
  have hne : d ≠ s.heap.objs.size := Nat.ne_of_lt hlt
  have hT : Shared.TypeIs { s with heap := s.heap.push (freshS w) } (.ref d) "dict" := ⟨o, Heap.get?_push_of_some _ ho, hx.1⟩
  have hle : es.size = ks.length := by
    have e1 := pairs_len hps
    have e2 := congrArg List.length hk
    rw [List.length_map, List.length_map] at e2
    rw [← Array.length_toList, e1, e2]
  unfold Builtin.Frozenset.updateFrom
  refine wpAny_bind (anySet_dict hT ?_)
  dsimp only
  refine wpAny_bind (wpAny_typeOf hT ?_)
  rw [if_pos (by decide)]
  refine wpAny_bind (wpAny_rule ?_)
  refine wpAny_bind (wpAny_pure ?_)
  try dsimp only
  rw [if_neg (by rw [lo]; decide)]
  refine wpAny_bind (wpAny_dictEpoch (Heap.get?_push_of_some _ ho) hdt ?_)
  refine wpAny_bind (wpAny_dictEntries (Heap.get?_push_of_some _ ho) hdt ?_)
  rw [hle]
  refine wpAny_bind (relay_fresh (w := w) (led := !w.params.followText "set-order") h5 (fresh_at _ _ rfl) fun h1 sb1 S1 => ?_)
  have ho1 : h1.get? d = some o := (sb1.2 d hne).trans (Heap.get?_push_of_some _ ho)
  refine wpAny_bind (wpAny_dictEntries (s := { s with heap := h1 }) ho1 hdt ?_)
  rw [hle]
  refine wpAny_bind ?_
  refine PySem.SeqAt.wpAny_forIn_span 0 ks.length _ (fun i _ s' => ∃ h', s' = { s with heap := h' } ∧ Heap.SameBut s.heap.objs.size (s.heap.push (freshS w)) h' ∧ SetX w false (putsK [] (ks.take i)) s.heap.objs.size h') _ ?_ ?_ _ ⟨h1, rfl, sb1, S1⟩
  · rintro i c s' - hi ⟨h', rfl, sb, hS⟩
    have ho2 : h'.get? d = some o := (sb.2 d hne).trans (Heap.get?_push_of_some _ ho)
    refine wpAny_bind (wpAny_dictEntries (s := { s with heap := h' }) ho2 hdt ?_)
    have hi2 : i < es.size := by omega
    rw [Array.getElem?_eq_getElem hi2]
    dsimp only
    obtain ⟨k0, e1, e2⟩ := hks es[i] (Array.getElem_mem hi2)
    have hkk : kvs.map (·.1) = ks.map Sum.inr := hk
    have e3 : k0 = Sum.inr ks[i] := by
      obtain ⟨kv, q1, q2⟩ := pairs_get (i := i) (e := es[i]) hps (by rw [Array.getElem?_toList]; exact Array.getElem?_eq_getElem hi2)
      have q3 : (kvs.map (·.1))[i]? = some kv.1 := by rw [List.getElem?_map, q1]; rfl
      rw [hk, List.getElem?_map, List.getElem?_eq_getElem hi] at q3
      rw [(mixKind P w).inj _ _ _ e1 q2]
      exact (Option.some.inj q3).symm
    subst e3
    obtain ⟨tk0, ek⟩ := Value.isStrOf_shape (x := ks[i]) (v := es[i].key) e1
    have hl : (putsK [] (ks.take i)).length ≤ i := by
      refine Nat.le_trans (putsK_len [] _) ?_
      rw [List.length_take]
      simp only [List.length_nil, Nat.zero_add]
      exact Nat.min_le_left _ _
    rw [ek, e2]
    refine wpAny_bind (wpAny_holding ?_)
    refine setX_add_hashed (s := { s with heap := h' }) hS (by unfold scanBound; omega) fun h2 sb2 S2 => ?_
    dsimp only
    have ho3 : h2.get? d = some o := (sb2.2 d hne).trans ho2
    refine wpAny_bind (wpAny_dictEpoch (s := { s with heap := h2 }) ho3 hdt ?_)
    rw [if_neg (by simp)]
    refine wpAny_pure ⟨h2, rfl, sb.trans sb2, ?_⟩
    rw [List.take_add_one, List.getElem?_eq_getElem hi, putsK_append]
    exact S2
  · rintro c s' ⟨h', rfl, sb, hS⟩
    rw [Nat.max_eq_right (Nat.zero_le _), List.take_of_length_le (Nat.le_refl _)] at hS
    refine wpAny_pure (hQ _ _ ⟨hS, fun b u e => ?_⟩)
    exact (sb.2 b (Nat.ne_of_lt (Heap.lt_size e))).trans (Heap.get?_push_of_some _ e)
end
end L2

namespace L2
open PySem PySem.Spec PyProof.Rows
/-- a set of few texts, its table of 8 or 16 slots without dummies -/
def SetC (w : World) (mask : Nat) (l : List Str) (a : Addr) (h : Heap) : Prop :=
  ∃ es ep t, h.get? a = some { cls := .type "set", dict := none, data := .set es ep t } ∧ SetD w false es t l ∧ t.mask = mask ∧ t.dummies = #[]
theorem SetC.x {w : World} {mask : Nat} {l : List Str} {a : Addr} {h : Heap} (R : SetC w mask l a h) : SetX w false l a h := by
  obtain ⟨es, ep, t, ho, D, _⟩ := R
  exact ⟨_, es, ep, t, ho, ⟨rfl, rfl, rfl⟩, rfl, D⟩
theorem fill_of {t : SetTable} {n : Nat} (hf : t.fits n = true) (hd : t.dummies = #[]) : t.fill = n := by
  unfold SetTable.fits at hf
  rw [Bool.and_eq_true] at hf
  unfold SetTable.fill
  rw [hd]
  have := eq_of_beq hf.1
  simpa using this
section
variable {P : Program} {w : World} {A : Around} {E : Value → Shared → Prop} {s : Shared}
theorem fits_mk {t : SetTable} {n : Nat} (h1 : t.place.size = n) (h2 : t.dummies = #[]) (h3 : n ≤ t.mask) : t.fits n = true := by
  unfold SetTable.fits SetTable.fill
  rw [h1, h2]
  simpa using h3
/-- a set of few texts merged into an empty set -/
theorem merge_empty {a o : Addr} {l : List Str} {b : Bool} {each : Sem Unit} (hao : (a == o) = false) (Ra : SetC w 7 [] a s.heap) (Ro : SetX w b l o s.heap) (h4 : l.length ≤ 4) {Q : Unit → Shared → Prop}
    (hQ : ∀ h', Heap.SameBut a s.heap h' → SetC w 7 l a h' → Q () { s with heap := h' }) : wpAny (model P w) A (setMerge a o each) Q E s := by
  obtain ⟨ea, epa, ta, hoa, Da, hma, hda⟩ := id Ra
  obtain ⟨oo, eo, epo, to, hoo, hxo, hdo, Do⟩ := Ro
  have hla : ea = #[] := by
    have := Da.size
    exact Array.eq_empty_of_size_eq_zero this
  subst hla
  have hfa : ta.fill = 0 := fill_of Da.fit hda
  unfold setMerge
  rw [hao]
  simp only [Bool.false_eq_true, if_false]
  refine wpAny_bind (wpAny_setState_of hoo hdo Do.fit ?_)
  dsimp only
  have hsz := Do.size
  split
  · rename_i he
    have : eo = #[] := by simpa using he
    subst this
    have hl : l = [] := List.eq_nil_of_length_eq_zero (by rw [← hsz]; rfl)
    subst hl
    exact wpAny_pure (hQ _ (Heap.SameBut.refl _ _) Ra)
  · have hroom : ta.roomFor eo.size = none := by
      unfold SetTable.roomFor
      rw [if_neg]
      rw [hfa, hma]
      omega
    unfold setRoomFor
    refine wpAny_bind (wpAny_bind (wpAny_setState_of hoa rfl Da.fit ?_))
    dsimp only
    rw [hroom]
    refine wpAny_pure ?_
    refine wpAny_bind (wpAny_setState_of hoa rfl Da.fit ?_)
    dsimp only
    have hroad : ta.road to = if (ta.mask == to.mask && to.dummies.isEmpty) = true then .slotForSlot else .clean := by
      unfold SetTable.road
      rw [hfa]
      rfl
    rw [hroad]
    by_cases hc : (ta.mask == to.mask && to.dummies.isEmpty) = true
    · rw [if_pos hc]
      dsimp only
      rw [Bool.and_eq_true] at hc
      have hm : to.mask = 7 := by rw [← hma]; exact (eq_of_beq hc.1).symm
      have hd : to.dummies = #[] := by simpa using hc.2
      refine wpAny_storeSet_of hoa rfl (hQ _ (Heap.SameBut.update _ a _) ⟨eo, _, _, store_at hoa rfl, ⟨Do.good, Do.perm, Do.nd, Do.bound, ?_, fun z => by cases z⟩, hm, hd⟩) (fits_of_scanBound Do.bound)
      have := Do.fit
      unfold SetTable.fits SetTable.fill at this ⊢
      exact this
    · rw [if_neg hc]
      dsimp only
      obtain ⟨t, order, hl, h1, h2, h3, h5, h6⟩ := laid_ok (mask := ta.mask) (.inl hma) ta.finger ta.moves (ta.led && to.led) (ta.plain && to.plain) (eo.map (·.1)) (by rw [Array.size_map]; omega)
      rw [hl]
      rw [Array.size_map] at h5 h6
      have pm := reord_perm h6
      have hes : (order.filterMap (eo[·]?)).size = eo.size := by rw [← Array.length_toList, pm.length_eq, Array.length_toList]
      refine wpAny_bind (wpAny_of_eq (a := (order.filterMap (eo[·]?), t)) ?_ ?_)
      · show (if ((order.filterMap (eo[·]?)).size != eo.size) = true then _ else _) = _
        rw [hes]
        simp
      · dsimp only
        refine wpAny_storeSet_of hoa rfl (hQ _ (Heap.SameBut.update _ a _) ⟨_, _, _, store_at hoa rfl, ⟨fun e he => Do.good e (pm.mem_iff.mp he), (pm.map keyT).trans Do.perm, Do.nd, by rw [hes]; exact Do.bound, fits_mk (by rw [hes]; exact h5) h2 (by rw [h1, hma, hes]; omega), fun z => by cases z⟩, by rw [h1]; exact hma, h2⟩) ?_
        rw [hes]
        exact fits_of_scanBound Do.bound
/-- one text merged into a set of few texts -/
theorem room_one {a : Addr} {l : List Str} (Ra : SetC w 7 l a s.heap) (h4 : l.length ≤ 4) {Q : Unit → Shared → Prop}
    (hQ : ∀ h' m, Heap.SameBut a s.heap h' → (m = 7 ∨ m = 15) → (l = [] → m = 7) → SetC w m l a h' → Q () { s with heap := h' }) : wpAny (model P w) A (setRoomFor a 1) Q E s := by
  obtain ⟨ea, epa, ta, hoa, Da, hma, hda⟩ := id Ra
  have hsz := Da.size
  have hfa : ta.fill = ea.size := fill_of Da.fit hda
  have hpl : ta.place.size = ea.size := by
    have := Da.fit
    unfold SetTable.fits at this
    rw [Bool.and_eq_true] at this
    exact eq_of_beq this.1
  unfold setRoomFor
  refine wpAny_bind (wpAny_setState_of hoa rfl Da.fit ?_)
  dsimp only
  by_cases h : l.length = 4
  · have e1 : ta.roomFor 1 = some 10 := by
      unfold SetTable.roomFor
      rw [hfa, hma, hpl, hsz, h]
      rfl
    rw [e1]
    dsimp only
    unfold setRelay
    refine wpAny_bind (wpAny_setState_of hoa rfl Da.fit ?_)
    have e2 : SetTable.sizeAbove 10 = 16 := by decide
    dsimp only
    rw [e2, if_neg (by decide)]
    obtain ⟨t, order, hl, h1, h2, h3, h5, h6⟩ := laid_ok (mask := 15) (.inr rfl) ta.finger (ta.movedTo 15) ta.led ta.plain (ea.map (·.1)) (by rw [Array.size_map]; omega)
    have e3 : ta.relaid (ea.map (·.1)) 10 = some (t, order) := by
      unfold SetTable.relaid
      rw [e2]
      exact hl
    rw [e3]
    rw [Array.size_map] at h5 h6
    have pm := reord_perm h6
    have hes : (order.filterMap (ea[·]?)).size = ea.size := by rw [← Array.length_toList, pm.length_eq, Array.length_toList]
    refine wpAny_bind (wpAny_of_eq (a := (order.filterMap (ea[·]?), t)) ?_ ?_)
    · show (if ((order.filterMap (ea[·]?)).size != ea.size) = true then _ else _) = _
      rw [hes]
      simp
    · dsimp only
      refine wpAny_storeSet_of hoa rfl (hQ _ 15 (Heap.SameBut.update _ a _) (.inr rfl) (fun z => by rw [z] at h; cases h) ⟨_, _, _, store_at hoa rfl, ⟨fun e he => Da.good e (pm.mem_iff.mp he), (pm.map keyT).trans Da.perm, Da.nd, by rw [hes]; exact Da.bound, fits_mk (by rw [hes]; exact h5) h2 (by rw [h1, hes]; omega), fun z => by cases z⟩, h1, h2⟩) ?_
      rw [hes]
      exact fits_of_scanBound Da.bound
  · have e1 : ta.roomFor 1 = none := by
      unfold SetTable.roomFor
      rw [if_neg]
      rw [hfa, hma, hsz]
      omega
    rw [e1]
    exact wpAny_pure (hQ _ 7 (Heap.SameBut.refl _ _) (.inl rfl) (fun _ => rfl) Ra)
theorem SetC.at {w : World} {mask : Nat} {l : List Str} {a : Addr} {h h' : Heap} (R : SetC w mask l a h) (k : ∀ o, h.get? a = some o → h'.get? a = some o) : SetC w mask l a h' := by
  obtain ⟨es, ep, t, ho, r⟩ := R
  exact ⟨es, ep, t, k _ ho, r⟩
theorem walk_one {a : Addr} {o : Obj} {es : Array (Int × Value)} {ep : Nat} {t : SetTable} (ho : s.heap.get? a = some o) (hd : o.data = .set es ep t) (hf : t.fits es.size = true) {e : Int × Value} (he : es = #[e]) {others : List Addr} {filled : Option Addr}
    {Q : Array (Int × Value) → Shared → Prop} (hQ : Q #[e] s) : wpAny (model P w) A (setWalkUnseen a others filled) Q E s := by
  subst he
  unfold setWalkUnseen
  refine wpAny_bind (wpAny_setState_of ho hd hf ?_)
  dsimp only
  refine wpAny_bind (wpAny_byText ?_)
  have e1 : (w.params.followText "set-order" || (t.led && t.plain) || decide ((#[e] : Array (Int × Value)).size ≤ 1)) = true := by simp
  first | rw [e1] | skip
  rw [if_pos (by first | rfl | simpa using e1)]
  unfold setWalk
  refine wpAny_bind (wpAny_setState_of ho hd hf ?_)
  dsimp only
  refine wpAny_bind (wpAny_byText ?_)
  cases hb : w.params.followText "set-order" with
  | true =>
    rw [if_pos rfl]
    refine wpAny_bind (wpAny_askSetting ?_)
    refine wpAny_pure ?_
    have pm := pick_perm (w.params.setOrder a ep) (#[e] : Array (Int × Value))
    have : pickOrder (w.params.setOrder a ep) #[e] = #[e] := by
      have q := List.perm_singleton.mp pm
      rw [← Array.toList_inj]
      exact q
    show Q (pickOrder (w.params.setOrder a ep) #[e]) s
    rw [this]
    exact hQ
  | false =>
    rw [if_neg Bool.false_ne_true]
    refine wp_if_neg (show ¬ ((!t.plain && decide ((#[e] : Array (Int × Value)).size > 1)) = true) by simp) ?_
    refine wpAny_bind (m := if (!t.led && decide ((#[e] : Array (Int × Value)).size > 1)) = true then unsupported "set:maker-not-led" else pure ()) ?_
    refine wp_if_neg (by simp) ?_
    exact wpAny_pure (wpAny_pure hQ)
theorem one_of {w : World} {b : Bool} {es : Array (Int × Value)} {t : SetTable} {k : Str} (D : SetD w b es t [k]) : ∃ tk, es = #[(hashStr w k, .str k tk)] := by
  have hs := D.size
  obtain ⟨e, he⟩ : ∃ e, es = #[e] := by
    obtain ⟨l⟩ := es
    match l, hs with
    | [e], _ => exact ⟨e, rfl⟩
  subst he
  obtain ⟨k0, tk, h1, h2⟩ := D.good e (by simp)
  have hp := D.perm
  have e1 : keyT e = k0 := by unfold keyT; rw [h1]
  have e2 : k0 = k := by
    have q : [keyT e].Perm [k] := by simpa using hp
    rw [e1] at q
    simpa using List.perm_singleton.mp q
  subst e2
  obtain ⟨e3, e4⟩ := e
  dsimp only at h1 h2
  subst h1 h2
  exact ⟨tk, rfl⟩
/-- s | o: the one text of o into the copy -/
theorem merge_one {id : String} {a o : Addr} {l : List Str} {k : Str} {b : Bool} (hao : (a == o) = false) (Ra : SetC w 7 l a s.heap) (Ro : SetX w b [k] o s.heap) (h4 : l.length ≤ 4) {Q : Unit → Shared → Prop}
    (hQ : ∀ h', Heap.SameBut a s.heap h' → SetX w false (putS l k) a h' → Q () { s with heap := h' }) : wpAny (model P w) A (Builtin.Frozenset.merge id a o) Q E s := by
  have hne : o ≠ a := fun z => by rw [z] at hao; simp at hao
  by_cases hl : l = []
  · subst hl
    have Ro' := Ro
    obtain ⟨oo, eo, epo, to, hoo, hxo, hdo, Do⟩ := Ro'
    unfold Builtin.Frozenset.merge
    refine wpAny_bind (wpAny_setEpoch_of hoo hdo Do.fit ?_)
    exact merge_empty hao Ra Ro (by simp) fun h' sb R => hQ h' sb (by
      have : putS [] k = [k] := by unfold putS; simp
      rw [this]; exact R.x)
  · have Ro' := Ro
    obtain ⟨oo, eo, epo, to, hoo, hxo, hdo, Do⟩ := Ro'
    obtain ⟨tk, heo⟩ := one_of Do
    unfold Builtin.Frozenset.merge
    refine wpAny_bind (wpAny_setEpoch_of hoo hdo Do.fit ?_)
    unfold setMerge
    rw [hao]
    simp only [Bool.false_eq_true, if_false]
    refine wpAny_bind (wpAny_setState_of hoo hdo Do.fit ?_)
    dsimp only
    rw [if_neg (by rw [heo]; simp)]
    have e1 : eo.size = 1 := by rw [heo]; rfl
    rw [e1]
    refine wpAny_bind (room_one Ra h4 fun h1 m sb1 hm hm0 R1 => ?_)
    have R1' := R1
    obtain ⟨ea, epa, ta, hoa, Da, hma, hda⟩ := R1'
    have hoo1 : h1.get? o = some oo := (sb1.2 o hne).trans hoo
    refine wpAny_bind (wpAny_setState_of (s := { s with heap := h1 }) hoa rfl Da.fit ?_)
    dsimp only
    have hroad : ta.road to = .oneByOne := by
      unfold SetTable.road
      rw [if_pos]
      rw [fill_of Da.fit hda, Da.size]
      simpa using hl
    rw [hroad]
    dsimp only
    refine wpAny_bind (walk_one (s := { s with heap := h1 }) hoo1 hdo Do.fit heo ?_)
    refine wpAny_bind (wpAny_forIn_array' _ (fun (rest : List (Int × Value)) _ s' => (rest = [(hashStr w k, Value.str k tk)] ∧ s' = { s with heap := h1 }) ∨ (rest = [] ∧ ∃ h', s' = { s with heap := h' } ∧ Heap.SameBut a s.heap h' ∧ SetX w false (putS l k) a h')) _ ?_ ?_ _ _ (.inl ⟨rfl, rfl⟩))
    · rintro x rest c s' (⟨hr, rfl⟩ | ⟨hr, _⟩)
      · cases hr
        dsimp only
        refine wpAny_bind (wpAny_holding ?_)
        refine setX_add_hashed (s := { s with heap := h1 }) R1.x (by unfold scanBound; omega) fun h2 sb2 R2 => ?_
        have hoo2 : h2.get? o = some oo := (sb2.2 o hne).trans hoo1
        unfold Builtin.Frozenset.unchanged
        refine wpAny_bind (wpAny_bind (wpAny_setEpoch_of (s := { s with heap := h2 }) hoo2 hdo Do.fit ?_))
        rw [if_neg (by simp)]
        refine wpAny_pure ?_
        refine wpAny_bind (wpAny_setState_of (s := { s with heap := h2 }) hoo2 hdo Do.fit ?_)
        dsimp only
        rw [if_neg (by simp)]
        exact wpAny_pure (.inr ⟨rfl, h2, rfl, sb1.trans sb2, R2⟩)
      · cases hr
    · rintro c s' (⟨hr, rfl⟩ | ⟨_, h', rfl, sb, R⟩)
      · cases hr
      · exact wpAny_pure (hQ h' sb R)
end
end L2

namespace L2
open PySem PySem.Spec PyProof.Rows
theorem entry_s_or : entryFor table "set.__or__" = some Builtin.«frozenset.__or__» :=
  entryFor_alias (id' := "frozenset.__or__") (by kernel_rfl) rfl (by decide +kernel) (by kernel_rfl)
theorem entry_s_eq : entryFor table "set.__eq__" = some Builtin.«frozenset.__eq__» :=
  entryFor_alias (id' := "frozenset.__eq__") (by kernel_rfl) rfl (by decide +kernel) (by kernel_rfl)
section
variable {P : Program} {w : World} {A : Around} {E : Value → Shared → Prop} {s : Shared}
theorem SetX.typeIs {b : Bool} {l : List Str} {a : Addr} (R : SetX w b l a s.heap) : s.TypeIs (.ref a) "set" := by
  obtain ⟨o, es, ep, t, ho, hx, _⟩ := R
  exact ⟨o, ho, hx.1⟩
theorem copy_x {a : Addr} {l : List Str} {b : Bool} (R : SetX w b l a s.heap) (h4 : l.length ≤ 4) {Q : Value → Shared → Prop}
    (hQ : ∀ h', (∀ b o, s.heap.get? b = some o → h'.get? b = some o) → SetC w 7 l s.heap.objs.size h' → Q (.ref s.heap.objs.size) { s with heap := h' }) : wpAny (model P w) A (Builtin.Frozenset.copyOf a) Q E s := by
  unfold Builtin.Frozenset.copyOf Builtin.Frozenset.baseOf
  refine wpAny_bind (wpAny_bind (wpAny_isInstance (T := "set") R.typeIs sub_set_self (wpAny_pure ?_)))
  rw [if_pos rfl]
  unfold newSet
  refine wpAny_bind (wpAny_bind (wpAny_byText ?_))
  dsimp only
  refine wpAny_newObj_type ?_
  unfold Builtin.Frozenset.addrOf
  refine wpAny_bind (wpAny_pure ?_)
  have hne : (s.heap.objs.size == a) = false := by
    have := R.lt
    simp
    intro z
    exact absurd this (by rw [z]; exact Nat.lt_irrefl _)
  have hk : ∀ b o, s.heap.get? b = some o → (s.heap.push { cls := .type "set", dict := none, data := .set #[] 0 (.fresh 0 0 (!w.params.followText "set-order")) }).get? b = some o := fun b o e => Heap.get?_push_of_some _ e
  refine wpAny_bind (merge_empty (s := { s with heap := s.heap.push _ }) hne ⟨#[], 0, _, Heap.get?_push_size _ rfl, ⟨(fun e he => by simp at he), List.Perm.nil, List.nodup_nil, by decide, rfl, fun z => by cases z⟩, rfl, rfl⟩ (R.at fun o e => hk a o e) h4 fun h' sb Rc => ?_)
  refine wpAny_pure (hQ _ (fun b o e => ?_) Rc)
  exact (sb.2 b (Nat.ne_of_lt (Heap.lt_size e))).trans (hk b o e)
/-- s | {k} -/
theorem or_x {a o : Addr} {l : List Str} {k : Str} {b b' : Bool} (Ra : SetX w b l a s.heap) (Ro : SetX w b' [k] o s.heap) (hao : a ≠ o) (h4 : l.length ≤ 4) {Q : Value → Shared → Prop}
    (hQ : ∀ h', (∀ b o, s.heap.get? b = some o → h'.get? b = some o) → SetX w false (putS l k) s.heap.objs.size h' → Q (.ref s.heap.objs.size) { s with heap := h' }) :
    wpAny (model P w) A (binaryOp .BitOr (.ref a) (.ref o)) Q E s := by
  refine wpAny_binaryOp_same (T := "set") Ra.typeIs Ro.typeIs F.fills_set_or F.slot_set_or (wpAny_call_entry F.slot_set_or Ra.typeIs entry_s_or ?_ (F.args_set_or_2 _ _))
  unfold Builtin.«frozenset.__or__»
  wp_delta
  refine wpAny_bind (m := Builtin.Frozenset.slot1 "__or__" _) (wpAny_of_eq (a := (Value.ref a, Value.ref o)) (by rfl) ?_)
  dsimp only
  rw [if_neg Bool.false_ne_true]
  dsimp only
  refine wpAny_bind ?_
  unfold andM
  refine wpAny_bind (anySet_set Ra.typeIs ?_)
  show wpAny _ _ (Builtin.Frozenset.isAnySet (Value.ref o)) _ _ _
  refine anySet_set Ro.typeIs ?_
  rw [if_neg (by decide)]
  unfold Builtin.Frozenset.addrOf
  refine wpAny_bind (wpAny_pure ?_)
  try dsimp only
  refine wpAny_bind ?_
  wp_delta
  refine wpAny_bind (copy_x Ra h4 fun h1 k1 Rc => ?_)
  have hne : (Value.ref o != Value.ref a) = true := by simpa using fun z => hao z.symm
  rw [if_pos hne]
  unfold Builtin.Frozenset.addrOf
  refine wpAny_bind ?_
  have Ro1 : SetX w b' [k] o h1 := Ro.at fun u e => k1 o u e
  refine wpAny_pure ?_
  refine wpAny_bind (wpAny_holding ?_)
  unfold Builtin.Frozenset.updateFrom
  refine wpAny_bind (anySet_set (s := { s with heap := h1 }) Ro1.typeIs ?_)
  rw [if_pos rfl]
  unfold Builtin.Frozenset.addrOf
  refine wpAny_bind (wpAny_pure ?_)
  have hao2 : (s.heap.objs.size == o) = false := by
    have := Ro.lt
    simp
    intro z
    exact absurd this (by rw [z]; exact Nat.lt_irrefl _)
  refine merge_one (s := { s with heap := h1 }) hao2 Rc Ro1 h4 fun h2 sb R2 => ?_
  refine wpAny_pure (wpAny_pure ⟨_, rfl, (fun z => nomatch z), hQ h2 (fun b u e => ?_) R2⟩)
  exact (sb.2 b (Nat.ne_of_lt (Heap.lt_size e))).trans (k1 b u e)

/-! ### == of sets of texts -/
theorem quiet_str {k : Str} {t : Tok} {Q : Bool → Shared → Prop} (h : Q true s) : wpAny (model P w) A (Builtin.Frozenset.quietEq (.str k t)) Q E s := by
  unfold Builtin.Frozenset.quietEq
  exact wpAny_pure h
theorem unseen_x {a o : Addr} {l m : List Str} {b b' : Bool} (Ra : SetX w b l a s.heap) (Ro : SetX w b' m o s.heap) {Q : List (Int × Value) → Shared → Prop}
    (hQ : ∀ es : List (Int × Value), (∀ e ∈ es, GoodT w e) → (es.map keyT).Perm l → Q es s) : wpAny (model P w) A (Builtin.Frozenset.walkUnseen a o) Q E s := by
  obtain ⟨oa, ea, epa, ta, hoa, hxa, hda, Da⟩ := Ra
  obtain ⟨oo, eo, epo, to, hoo, hxo, hdo, Do⟩ := Ro
  unfold Builtin.Frozenset.walkUnseen
  refine wpAny_bind (wpAny_setEntries_of hoa hda Da.fit ?_)
  refine wpAny_bind (wpAny_setEntries_of hoo hdo Do.fit ?_)
  refine wpAny_bind ?_
  refine wpAny_forIn_list _ (fun rest c s' => (∀ e ∈ rest, GoodT w e) ∧ s' = s ∧ c.1 = none) _ ?_ ?_ _ _ ⟨fun e he => (List.mem_append.mp he).elim (Da.good e) (Do.good e), rfl, rfl⟩
  · rintro x rest c s' ⟨hg, rfl, hc⟩
    obtain ⟨k, tk, h1, h2⟩ := hg x List.mem_cons_self
    obtain ⟨x1, x2⟩ := x
    dsimp only at h1
    subst h1
    dsimp only
    refine wpAny_bind (quiet_str ?_)
    rw [if_neg (by decide)]
    exact wpAny_pure ⟨fun e he => hg e (List.mem_cons_of_mem _ he), rfl, rfl⟩
  · rintro c s' ⟨_, rfl, hc⟩
    obtain ⟨c1, c2⟩ := c
    dsimp only at hc
    subst hc
    exact wpAny_pure (hQ ea.toList Da.good Da.perm)
theorem sizeOf_x {a : Addr} {l : List Str} {b : Bool} (Ra : SetX w b l a s.heap) {Q : Nat → Shared → Prop} (hQ : Q l.length s) : wpAny (model P w) A (Builtin.Frozenset.sizeOf a) Q E s := by
  obtain ⟨oa, ea, epa, ta, hoa, hxa, hda, Da⟩ := Ra
  unfold Builtin.Frozenset.sizeOf
  refine wpAny_bind (wpAny_setEntries_of hoa hda Da.fit (wpAny_pure ?_))
  rw [Da.size]
  exact hQ
theorem subset_x {id : String} {a o : Addr} {l m : List Str} {b b' : Bool} (Ra : SetX w b l a s.heap) (Ro : SetX w b' m o s.heap) (hlen : l.length ≤ m.length) (hsub : ∀ k ∈ l, k ∈ m) {Q : Bool → Shared → Prop} (hQ : Q true s) :
    wpAny (model P w) A (Builtin.Frozenset.subsetOf id a o) Q E s := by
  unfold Builtin.Frozenset.subsetOf
  refine wpAny_bind (sizeOf_x Ra ?_)
  refine wpAny_bind (sizeOf_x Ro ?_)
  rw [if_neg (by omega)]
  have Ra' := Ra
  obtain ⟨oa, ea, epa, ta, hoa, hxa, hda, Da⟩ := Ra'
  refine wpAny_bind (wpAny_setEpoch_of hoa hda Da.fit ?_)
  refine wpAny_bind (unseen_x Ra Ro fun es hg hp => ?_)
  refine wpAny_bind ?_
  refine wpAny_forIn_list _ (fun rest c s' => (∀ e ∈ rest, GoodT w e ∧ keyT e ∈ m) ∧ s' = s ∧ c.1 = none) _ ?_ ?_ _ _ ⟨fun e he => ⟨hg e he, hsub _ (hp.mem_iff.mp (List.mem_map_of_mem he))⟩, rfl, rfl⟩
  · rintro x rest c s' ⟨hgs, rfl, hc⟩
    obtain ⟨⟨k, tk, h1, h2⟩, hm⟩ := hgs x List.mem_cons_self
    obtain ⟨x1, x2⟩ := x
    dsimp only at h1 h2
    subst h1 h2
    have hm' : k ∈ m := hm
    dsimp only
    refine wpAny_bind (wpAny_holding (wpAny_setFind_of (knd := PySem.strKind P w) (k := k) (isT_str k tk) rfl Ro.setOf fun r hr => ?_))
    rw [decide_eq_true hm'] at hr
    rw [if_neg (by cases r <;> simp_all)]
    unfold Builtin.Frozenset.unchanged
    refine wpAny_bind (wpAny_bind (wpAny_setEpoch_of hoa hda Da.fit ?_))
    rw [if_neg (by simp)]
    refine wpAny_pure ?_
    exact wpAny_pure ⟨fun e he => hgs e (List.mem_cons_of_mem _ he), rfl, rfl⟩
  · rintro c s' ⟨_, rfl, hc⟩
    obtain ⟨c1, c2⟩ := c
    dsimp only at hc
    subst hc
    exact wpAny_pure hQ
theorem eq_x {a o : Addr} {l m : List Str} {b b' : Bool} (hu : A.units < cLine) (Ra : SetX w b l a s.heap) (Ro : SetX w b' m o s.heap) (hlen : l.length = m.length) (hsub : ∀ k ∈ l, k ∈ m) {Q : Value → Shared → Prop} (hQ : Q (.bool true) s) :
    wpAny (model P w) A (compareOp .Eq (.ref a) (.ref o)) Q E s := by
  refine wpAny_richCompare_same_room (op := .Eq) Ra.typeIs Ro.typeIs F.slot_set_eq (wpAny_call_entry F.slot_set_eq Ra.typeIs entry_s_eq ?_ (F.args_set_eq_2 _ _)) hu
  unfold Builtin.«frozenset.__eq__»
  wp_delta
  refine wpAny_bind (m := Builtin.Frozenset.slot1 "__eq__" _) (wpAny_of_eq (a := (Value.ref a, Value.ref o)) (by rfl) ?_)
  dsimp only
  refine wpAny_bind (anySet_set Ro.typeIs ?_)
  rw [if_neg (by decide)]
  unfold Builtin.Frozenset.addrOf
  refine wpAny_bind (wpAny_pure ?_)
  refine wpAny_bind (wpAny_pure ?_)
  refine wpAny_bind (sizeOf_x Ra ?_)
  refine wpAny_bind (sizeOf_x Ro ?_)
  try dsimp only
  refine wpAny_bind ?_
  rw [if_neg (by simpa using hlen)]
  unfold andM
  refine wpAny_bind (wpAny_bind (wpAny_isInstance Ra.typeIs F.sub_set_frozenset ?_))
  refine wpAny_pure ?_
  rw [if_neg Bool.false_ne_true]
  refine subset_x Ra Ro (Nat.le_of_eq hlen) hsub ?_
  exact wpAny_pure ⟨_, rfl, (fun z => nomatch z), hQ⟩
end
end L2

namespace L2
open PySem PySem.Spec PyProof.Rows
/-- a set of texts, in the abstract heap -/
def SetTO (w : World) (b : Bool) (l : List Str) (a : Addr) : HO := .ext (SetX w b l a)
theorem setTO_new {P : Program} {w : World} {H : Hp} {h : Heap} {a : Addr} {l : List Str} {b : Bool} (R : SetX w b l a h) : ObjOk P w H h a (SetTO w b l a) := by
  refine ⟨R, ?_, fun h1 h2 r k => r.at k⟩
  obtain ⟨o, es, ep, t, ho, _⟩ := R
  exact ⟨o, ho⟩
section
variable {X : Cx}
theorem setTO_get {pins : List (Addr × Obj)} {σ : St} {H : Hp} {s : Shared} {a : Addr} {l : List Str} {b : Bool} (I : Inv X pins σ H s) (ha : H a = some (SetTO X.w b l a)) : SetX X.w b l a s.heap := (I.hok a _ ha).1
/-- set(text) -/
def rSetS (w : World) : List V → Hp → VK → Prop := fun xs H Q => ∃ x : Str, xs = [.str x] ∧ x.cps.size + 1 < scanBound ∧ ∀ p, H p = none → Q (.ref p) (upd H p (SetTO w true (putsS [] x.cps.toList) p))
theorem cr_setS (hcalm : X.calm = true) : CallR X (.type "set") (rSetS X.w) := by
  intro pins s σ H xs us Q I r h
  obtain ⟨x, rfl, hb, q⟩ := h
  obtain ⟨u, rfl, t, rfl⟩ := vals1 r
  refine call_set_text (I.ok.hd hcalm) hb fun h' tk R k => ?_
  exact ⟨.ref s.heap.objs.size, _, I.laid k (Nat.le_refl _) (setTO_new R), rfl, q _ (I.hok.fresh (Nat.le_refl _))⟩
/-- set(dict) -/
def rSetDk (w : World) : List V → Hp → VK → Prop := fun xs H Q => ∃ a kvs ks, xs = [.ref a] ∧ Rd H a (.dK kvs) ∧ kvs.map (·.1) = ks.map Sum.inr ∧ ks.length ≤ 5 ∧ ∀ p, H p = none → Q (.ref p) (upd H p (SetTO w false (putsK [] ks) p))
theorem cr_setDk (hcalm : X.calm = true) : CallR X (.type "set") (rSetDk X.w) := by
  intro pins s σ H xs us Q I r h
  obtain ⟨a, kvs, ks, rfl, hd, hk, h5, q⟩ := h
  obtain ⟨u, rfl, ru⟩ := vals1 r
  cases (show u = Value.ref a from ru)
  obtain ⟨z, lo, vs, rel, dd⟩ := dk_rd I.hok hd
  have hkeys : vs.map (·.1) = ks.map Sum.inr := rel.keys.symm.trans hk
  refine call_set_1 _ (fun h' => SetX X.w false (putsK [] ks) s.heap.objs.size h' ∧ ∀ b o, s.heap.get? b = some o → h'.get? b = some o) (I.ok.hd hcalm) (fun A' E' Q' hA hQ => up_dict dd lo hkeys h5 A' E' Q' hA hQ) fun h' tk g => ?_
  exact ⟨.ref s.heap.objs.size, _, I.laid g.2 (Nat.le_refl _) (setTO_new g.1), rfl, q _ (I.hok.fresh (Nat.le_refl _))⟩
/-- s | {k} -/
def rSetOr (w : World) : R2 := fun x y H Q => ∃ a o l k b b', x = .ref a ∧ y = .ref o ∧ H a = some (SetTO w b l a) ∧ H o = some (SetTO w b' [k] o) ∧ a ≠ o ∧ l.length ≤ 4 ∧ ∀ p, H p = none → Q (.ref p) (upd H p (SetTO w false (putS l k) p))
theorem op_setOr : OpR X (binaryOp .BitOr) (rSetOr X.w) := by
  intro pins s σ H x y v u Q I rx ry h
  obtain ⟨a, o, l, k, b, b', rfl, rfl, ha, ho, hne, h4, q⟩ := h
  cases (show v = Value.ref a from rx)
  cases (show u = Value.ref o from ry)
  refine or_x (setTO_get I ha) (setTO_get I ho) hne h4 fun h' kk R => ?_
  exact ⟨.ref s.heap.objs.size, _, I.laid (t' := s.toks) kk (Nat.le_refl _) (setTO_new R), rfl, q _ (I.hok.fresh (Nat.le_refl _))⟩
/-- s == t, where they hold the same -/
def rSetEq (w : World) : R2 := fun x y H Q => ∃ a o l m b b', x = .ref a ∧ y = .ref o ∧ H a = some (SetTO w b l a) ∧ H o = some (SetTO w b' m o) ∧ l.length = m.length ∧ (∀ k ∈ l, k ∈ m) ∧ Q (.bl true) H
theorem op_setEq (hu : X.A.units < cLine) : OpR X (compareOp .Eq) (rSetEq X.w) := by
  intro pins s σ H x y v u Q I rx ry h
  obtain ⟨a, o, l, m, b, b', rfl, rfl, ha, ho, hl, hs, q⟩ := h
  cases (show v = Value.ref a from rx)
  cases (show u = Value.ref o from ry)
  exact eq_x hu (setTO_get I ha) (setTO_get I ho) hl hs ⟨.bl true, H, I, rfl, q⟩
/-- {text} -/
def tSet1 (w : World) (x : Str) : TE := fun _ H Q => ∀ p, H p = none → Q (.ref p) (upd H p (SetTO w false [x] p))
theorem pe_set1 {x : Str} {k : Nat} {p pos : Pos} (hc : PySem.W.kdsCode X.K X.env.code = true) : PE X (.Set [.Constant (.str x) k p] 0 pos) (tSet1 X.w x) := by
  refine ⟨fun pins s σ H Q I h => ?_⟩
  rw [arm_eval_Set]
  refine wpAny_bind (wpAny_standAt ?_)
  refine wpAny_bind (PySem.W.kds_main I.kIn hc fun b => ?_)
  rw [PySem.W.kds_star _ (by rfl), List.map_map]
  refine PySem.W.kds_core (ts := (evalEach [Expr.Constant (.str x) k p] X.env).map fun t => do let v ← t; standAt pos; pure v) (by rfl) ?_ ?_ ?_ fun led => ?_
  · refine List.findIdx?_eq_none_iff.mpr fun x hx => ?_
    obtain ⟨t, _, rfl⟩ := List.mem_map.mp hx
    rfl
  · rw [List.length_map, PySem.W.kds_len]; exact Nat.le_of_ble_eq_true rfl
  · rw [List.map_map]; try rfl
  · refine PySem.W.kds_all pos _ _ _ ?_
    show wpAny _ _ (eval (Expr.Constant (.str x) k p) X.env) _ _ _
    refine Calls.Constant_str ?_
    show PySem.W.KdsFill _ _ _ _ _ _ [Value.str x s.toks] _
    refine PySem.W.kds_fill_cons ?_
    have ho : (s.heap.push { cls := .type "set", dict := none, data := .set #[] 0 (.fresh 0 0 led) }).get? s.heap.objs.size = some { cls := .type "set", dict := none, data := .set #[] 0 (.fresh 0 0 led) } := Heap.get?_push_size _ rfl
    unfold setAdd
    refine wpAny_holding (wpAny_bind ((PySem.strKind X.prog X.w).pyHash (k := x) (isT_str _ _) ?_))
    refine setX_add_hashed (w := X.w) (b := false) (l := []) (setX_fresh_at false (fun z => by cases z) ho) (by decide) fun h' sb R => ?_
    refine PySem.W.kds_fill_nil (by rfl) ?_
    have R' : SetX X.w false [x] s.heap.objs.size h' := by
      have e : putS [] x = [x] := by unfold putS; simp
      rw [e] at R
      exact R
    refine ⟨.ref s.heap.objs.size, _, I.laid (fun b o e => ?_) (Nat.le_refl _) (setTO_new R'), rfl, h _ (I.hok.fresh (Nat.le_refl _))⟩
    exact (sb.2 b (Nat.ne_of_lt (Heap.lt_size e))).trans (Heap.get?_push_of_some _ e)
/-- sorted(s), fewer than 64 texts -/
def rSortedX (w : World) : List V → Hp → VK → Prop := fun xs H Q => ∃ a l, xs = [.ref a] ∧ H a = some (SetTO w true l a) ∧ l.length < 64 ∧ ∀ ys p, ys.Perm l → sortedS ys = true → H p = none → Q (.ref p) (upd H p (.lst (ys.map V.str)))
theorem strsT : ∀ (vs : List Value), (∀ v ∈ vs, ∃ k tk, v = Value.str k tk) → ∃ ss, StrsAre vs ss
  | [], _ => ⟨[], .nil⟩
  | v :: vs, h => by
    obtain ⟨k, tk, rfl⟩ := h v List.mem_cons_self
    obtain ⟨ss, r⟩ := strsT vs fun u hu => h u (List.mem_cons_of_mem _ hu)
    exact ⟨k :: ss, .cons _ _ r⟩
theorem strs_keys : ∀ {vs : List Value} {ss : List Str}, StrsAre vs ss → ss = vs.map fun v => match v with | .str k _ => k | _ => ⟨#[]⟩
  | _, _, .nil => rfl
  | _, _, .cons _ _ r => by rw [List.map_cons, ← strs_keys r]
theorem cr_sortedX (hcalm : X.calm = true) : CallR X (.builtin "sorted") (rSortedX X.w) := by
  intro pins s σ H xs us Q I r h
  obtain ⟨a, l, rfl, ha, h64, q⟩ := h
  obtain ⟨u, rfl, ru⟩ := vals1 r
  cases (show u = Value.ref a from ru)
  obtain ⟨o, es, ep, t, ho, hex, hd, D⟩ := setTO_get I ha
  obtain ⟨hr, hl⟩ := D.walk rfl
  have hsz := D.size
  refine Calls.call_function_entry kind_sorted plain_sorted entry_sorted (args_sorted1 _) ?_
  unfold Builtin.«sorted»
  refine wpAny_bind (m := checkCount "sorted" 1 1 _) (wpAny_pure ?_)
  refine wpAny_bind (collect_set (A := X.A.in1) (I.ok.hd hcalm) ⟨o, ho, hex.1, hd⟩ D.fit D.bound hr hl fun s1 vs k1 hz g1 o1 pm => ?_)
  have hvl : vs.length = l.length := by rw [pm.length_eq, List.length_map, Array.length_toList]; exact hsz
  obtain ⟨ss, hS⟩ := strsT vs fun v hv => by
    obtain ⟨e, he, q⟩ := List.mem_map.mp (pm.mem_iff.mp hv)
    obtain ⟨k, tk, h1, _⟩ := D.good e he
    exact ⟨k, tk, by rw [← q]; exact h1⟩
  have hss : ss.Perm l := by
    rw [strs_keys hS]
    refine (pm.map _).trans ?_
    rw [List.map_map]
    exact D.perm
  refine wpAny_bind (wpAny_newList ?_ (by rw [hvl, sizeLine_eq]; omega))
  have hoL : (s1.heap.push (seqObj "list" vs.toArray 0)).get? s1.heap.objs.size = some (seqObj "list" vs.toArray 0) := Heap.get?_push_size _ rfl
  show wpAny _ _ _ _ _ { s1 with heap := s1.heap.push (seqObj "list" vs.toArray 0) }
  refine wpAny_bind (wpAny_holding (wpAny_call_entry PyProof.Rows.slot_list_sort ⟨_, hoL, rfl⟩ PyProof.Rows.entry_list_sort
    (list_sort_treeK strKind_oneLt (s := { s1 with heap := s1.heap.push (seqObj "list" vs.toArray 0) }) hoL hS.keysOf (fun v₁ v₂ rest e => keyKind_strs (by rw [← e]; exact hS)) (by rw [hvl]; exact h64) fun st' hp hs => ⟨_, rfl, ?_⟩)
    (PyProof.Rows.args_list_sort _)))
  obtain ⟨ys, g2, g3, g4⟩ := sorted_out_str hS hp hs
  obtain ⟨e', he'⟩ := PyProof.Rows.sortedHeap_at (vs := vs) (out := (arrOf st').map (·.2)) hoL
  have hyl : ys.Perm l := g3.trans hss
  have hlen : (ys.map V.str).length ≤ sizeLine := by
    rw [List.length_map, hyl.length_eq]
    exact Nat.le_trans (Nat.le_of_lt h64) (by decide)
  have hn : H s1.heap.objs.size = none := I.hok.fresh hz
  have kk : ∀ b u, s.heap.get? b = some u → (sortedHeap (s1.heap.push (seqObj "list" vs.toArray 0)) s1.heap.objs.size vs ((arrOf st').map (·.2))).get? b = some u := fun b u e => by
    have q := k1 b u e
    have hb := Heap.lt_size q
    rw [PyProof.Rows.sortedHeap_old (Nat.ne_of_lt hb) (by rw [size_push']; exact Nat.lt_succ_of_lt hb)]
    exact Heap.get?_push_of_some _ q
  have new : ObjOk X.prog X.w (upd H s1.heap.objs.size (.lst (ys.map V.str))) (sortedHeap (s1.heap.push (seqObj "list" vs.toArray 0)) s1.heap.objs.size vs ((arrOf st').map (·.2))) s1.heap.objs.size (.lst (ys.map V.str)) :=
    ⟨hlen, ((arrOf st').map (·.2)).toList, e', vals_of_strs g2, by rw [Array.toArray_toList]; exact he'⟩
  have J : Inv X pins σ (upd H s1.heap.objs.size (.lst (ys.map V.str))) { s with heap := sortedHeap (s1.heap.push (seqObj "list" vs.toArray 0)) s1.heap.objs.size vs ((arrOf st').map (·.2)), gens := s1.gens, drawn := s1.drawn, toks := s1.toks } :=
    I.call (ch := []) (Un.laid kk hz hn) (I.hok.laid kk hz new) (by rw [g1]; exact I.bare) (fun _ z => nomatch z)
  have e : ({ s1 with heap := sortedHeap (s1.heap.push (seqObj "list" vs.toArray 0)) s1.heap.objs.size vs ((arrOf st').map (·.2)) } : Shared) = { s with heap := sortedHeap (s1.heap.push (seqObj "list" vs.toArray 0)) s1.heap.objs.size vs ((arrOf st').map (·.2)), gens := s1.gens, drawn := s1.drawn, toks := s1.toks } := by
    cases s1
    cases s
    cases o1
    rfl
  refine wpAny_pure ⟨_, rfl, ?_⟩
  show EP X pins σ Q _ ({ s1 with heap := sortedHeap (s1.heap.push (seqObj "list" vs.toArray 0)) s1.heap.objs.size vs ((arrOf st').map (·.2)) } : Shared)
  rw [e]
  exact ⟨.ref s1.heap.objs.size, _, J, rfl, q ys _ hyl g4 hn⟩
end
end L2

namespace L2
open PySem PySem.Spec PyProof.Rows
section
variable {X : Cx}
/-! ### sorted(list of texts), of any length -/
def rSortedSA (K : PySem.W.Frag) : List V → Hp → VK → Prop := fun xs H Q => ∃ a ks, xs = [.ref a] ∧ SqL K H a (ks.map V.str) ∧ ∀ ys p, ys.Perm ks → sortedS ys = true → H p = none → Q (.ref p) (upd H p (.lst (ys.map V.str)))
theorem cr_sortedSA : CallR X (.builtin "sorted") (rSortedSA X.K) := by
  intro pins s σ H vs us Q I r h
  obtain ⟨a, xs, rfl, hs, q⟩ := h
  obtain ⟨its, rv, hl, hz⟩ := I.list hs
  rw [Vals.ref1 r]
  have hlen0 := rv.length
  rw [List.length_map] at hlen0 hz
  refine sorted_strsAny hl.isList rv.strs (by rw [← hlen0]; exact hz) fun out ys h1 h2 h3 => ?_
  obtain ⟨ep, he'⟩ := PyProof.Rows.sortedAll_at s.heap its out
  have hlen : (ys.map V.str).length ≤ sizeLine := by rw [List.length_map, h2.length_eq]; exact hz
  exact ⟨.ref _, upd H (s.heap.objs.size + 1) (.lst (ys.map V.str)), I.laid (t' := s.toks) (fun _ _ => PyProof.Rows.sortedAll_old) (Nat.le_succ _) ⟨hlen, out.toList, ep, vals_of_strs h1, he'⟩, rfl, q ys _ h2 h3 (I.hok.fresh (Nat.le_succ _))⟩

/-! ### d.update(e) -/
def rDUpd : V → List V → Hp → VK → Prop := fun x xs H Q => ∃ (a o : Addr) (kvs more : List (Key × V)), x = .ref a ∧ xs = [.ref o] ∧ a ≠ o ∧ H a = some (.dK kvs) ∧ H o = some (.dK more) ∧ kvs.length + more.length ≤ 1000 ∧ Q .non (upd H a (.dK (mergeK kvs more)))
theorem mt_dupd : MtR X "dict.update" rDUpd := by
  intro pins s σ H x xs v us Q I rx rv h
  obtain ⟨a, o, kvs, more, rfl, rfl, hne, ha, ho, hsz, q⟩ := h
  cases rx
  obtain ⟨u, rfl, ru⟩ := vals1 rv
  cases (show u = Value.ref o from ru)
  obtain ⟨z, hd, vs, rel, dd⟩ := dk_of I.hok ha
  obtain ⟨z2, hd2, vs2, rel2, dd2⟩ := dk_of I.hok ho
  refine call_meetsIn PySem.F.slot_dict_update dd.typeIs PySem.F.entry_dict_update (PySem.F.args_dict_update_2 _ _) (meets_dict_update (mixKind X.prog X.w) a o hne hd2) ⟨vs, vs2, dd, dd2, ?_, fun h' dd' _ hs => ?_⟩
  · rw [← rel.length, ← rel2.length, sizeLine_eq]; omega
  · have he : ∃ q, h'.get? a = some q := let ⟨q, _, _, hq, _⟩ := dd'; ⟨q, hq⟩
    refine ⟨.non, _, d_write (t' := s.toks) I (by rw [ha]; exact True.intro) hs he (dk_new ?_ hd (rel2.merge rel) dd'), rfl, q⟩
    have := length_mergeK more kvs
    rw [sizeLine_eq]; omega

/-! ### sum(d.values()) -/
def rDVals : V → List V → Hp → VK → Prop := fun x xs H Q => ∃ (a : Addr) (kvs : List (Key × V)), x = .ref a ∧ xs = [] ∧ H a = some (.dK kvs) ∧ ∀ p, H p = none → Q (.ref p) (upd H p (viewO "dict_values" p a))
theorem mt_dvals : MtR X "dict.values" rDVals := by
  intro pins s σ H x xs v us Q I rx rv h
  obtain ⟨a, kvs, rfl, rfl, ha, q⟩ := h
  cases rx
  cases rv
  obtain ⟨z, hd, vs, rel, dd⟩ := dk_of I.hok ha
  refine call_meetsIn PySem.F.slot_dict_values dd.typeIs PySem.F.entry_dict_values (PySem.F.args_dict_values_1 _) (meets_dict_values (mixKind X.prog X.w) a hd) ⟨⟨vs, dd⟩, ?_⟩
  exact ⟨.ref s.heap.objs.size, _, I.laid (t' := s.toks) (fun b u e => Heap.get?_push_of_some _ e) (Nat.le_refl _) (viewO_ok (Heap.get?_push_size _ rfl)), rfl, q _ (I.hok.fresh (Nat.le_refl _))⟩
def rSumV : List V → Hp → VK → Prop := fun xs H Q => ∃ (p a : Addr) (kvs : List (Key × V)) (ns : List Int), xs = [.ref p] ∧ H p = some (viewO "dict_values" p a) ∧ H a = some (.dK kvs) ∧ kvs.map (·.2) = ns.map V.int ∧ Q (.int ns.sum) H
theorem preSum_get (ns : List Int) : ∀ n, n ≤ ns.length → preSum (fun i => ns.getD i 0) n = (ns.take n).sum := by
  intro n
  induction n with
  | zero => intro _; rfl
  | succ n ih =>
    intro h
    rw [List.take_add_one, List.sum_append]
    have e : ns[n]? = some ns[n] := List.getElem?_eq_getElem (by omega)
    show preSum (fun i => ns.getD i 0) n + ns.getD n 0 = _
    rw [ih (by omega), List.getD_eq_getElem?_getD, e]
    simp
theorem cr_sumV (hcalm : X.calm = true) : CallR X (.builtin "sum") rSumV := by
  intro pins s σ H xs us Q I r h
  obtain ⟨p, a, kvs, ns, rfl, hp, ha, hn, q⟩ := h
  obtain ⟨u, rfl, ru⟩ := vals1 r
  cases (show u = Value.ref p from ru)
  obtain ⟨z, hd, vs, rel, dd⟩ := dk_of I.hok ha
  obtain ⟨ep, hat⟩ := dd.dictAt
  have hv : s.heap.get? p = some (DSub.viewOb "dict_values" a) := (show ObjOk X.prog X.w H s.heap p (viewO "dict_values" p a) from I.hok p _ hp).1
  have K := PySem.W.kdl_values (prog := X.prog) (w := X.w) (r := p) (d := a) (knd := mixKind X.prog X.w) (kvs := vs) (ep := ep)
  have hok : s.heap.IsValuesView p a ∧ s.heap.DictAt (mixKind X.prog X.w) a vs ep := ⟨⟨_, hv, rfl, rfl⟩, hat⟩
  have hlen : ns.length = vs.length := by
    have e := congrArg List.length hn
    rw [List.length_map, List.length_map] at e
    rw [← e, rel.length]
  have hnum : ∀ (i : Nat) (v : Value), (∃ k, vs[i]? = some (k, v)) → ∃ t, v = Value.int (ns.getD i 0) t := by
    rintro i v ⟨k, hk⟩
    have hi : i < vs.length := (List.getElem?_eq_some_iff.mp hk).1
    have hi2 : i < kvs.length := by rw [rel.length]; exact hi
    obtain ⟨y, hy, ry⟩ : ∃ y, kvs[i]? = some y ∧ RelV y.2 v := by
      have : ∀ {kvs : List (Key × V)} {vs : List (Key × Value)} {i : Nat}, KV kvs vs → vs[i]? = some (k, v) → ∃ y, kvs[i]? = some y ∧ RelV y.2 v := by
        intro kvs vs i r
        unfold KV at r
        induction r generalizing i with
        | nil => intro h; simp at h
        | cons h t ih =>
          intro e
          cases i with
          | zero => simp at e; subst e; exact ⟨_, rfl, h.2⟩
          | succ i =>
            obtain ⟨y, h1, h2⟩ := ih (by simpa using e)
            exact ⟨y, by simpa using h1, h2⟩
      exact this rel hk
    have e2 : (kvs.map (·.2))[i]? = some y.2 := by rw [List.getElem?_map, hy]; rfl
    rw [hn, List.getElem?_map] at e2
    cases e3 : ns[i]? with
    | none => rw [e3] at e2; cases e2
    | some n =>
      rw [e3] at e2
      have e4 : V.int n = y.2 := Option.some.inj e2
      rw [← e4] at ry
      obtain ⟨t, rt⟩ := ry
      exact ⟨t, by rw [List.getD_eq_getElem?_getD, e3]; exact rt⟩
  refine call_sum_walkAnyS ?_
  obtain ⟨oI, St, hit, W, st⟩ := K.iter X.A.in1 s (by have := I.ok.hd hcalm; simpa using this) hok
  refine hit _ _ ⟨s.heap.objs.size, _, _, _, vs.length, _, _, fun i => ns.getD i 0, rfl, W.toS, st, fun b hb => ?_, hnum, fun s' t' hm => ?_⟩
  · show b < (s.heap.push oI).objs.size
    rw [size_push']
    rcases List.mem_cons.mp hb with e | hb
    · rw [e]; exact Nat.lt_succ_self _
    · rw [List.mem_singleton.mp hb]; exact Nat.lt_succ_of_lt (K.there _ hok).2
  · have hk : ∀ b o, s.heap.get? b = some o → s'.heap.get? b = some o := fun b o e =>
      hm.heap b o (fun hI => absurd (Heap.lt_size e) (by rw [List.mem_singleton.mp hI]; exact Nat.lt_irrefl _)) (Heap.get?_push_of_some _ e)
    rw [Moved.eq_with hm]
    have e : preSum (fun i => ns.getD i 0) vs.length = ns.sum := by
      rw [preSum_get ns _ (by omega), ← hlen, List.take_length]
    rw [e]
    exact ⟨.int ns.sum, H, I.kept hk, ⟨_, rfl⟩, q⟩
end
end L2

namespace Mw
open PySem L2 Mp TL
/-! ### the text by places -/
def top (i : Nat) : Stmt := PySem.Challenge.pw_mirrorpress_k36_whole_what_stands_beside.main.body.getD i (.Pass ⟨0, 0, 0, 0⟩)
abbrev T (l : List Nat) : Str := ⟨l.toArray⟩
theorem T_len (l : List Nat) : (T l).length = l.length := by simp [Str.length]
theorem T_size (l : List Nat) : (T l).cps.size = l.length := by simp
theorem T_app (a b : List Nat) : T a ++ T b = T (a ++ b) := by
  apply ext_tl
  rw [tl_append]
theorem T_mk (x : Str) : T x.cps.toList = x := ext_tl rfl
theorem T_get (l : List Nat) (i : Nat) : (T l).cps[i]? = l[i]? := by simp
theorem T_inj {a b : List Nat} : T a = T b ↔ a = b := ⟨fun h => congrArg tl h, fun h => by rw [h]⟩
/-- small letters -/
def Low (l : List Nat) : Prop := ∀ a ∈ l, 97 ≤ a ∧ a ≤ 122
def AZ : Str := "abcdefghijklmnopqrstuvwxyz"
theorem az_list : AZ.cps.toList = (List.range 26).map (97 + ·) := by decide +kernel
theorem az_mem {a : Nat} : a ∈ AZ.cps.toList ↔ 97 ≤ a ∧ a ≤ 122 := by
  rw [az_list, List.mem_map]
  constructor
  · rintro ⟨k, hk, rfl⟩
    rw [List.mem_range] at hk
    omega
  · rintro ⟨h1, h2⟩
    exact ⟨a - 97, List.mem_range.mpr (by omega), by omega⟩
theorem Low.take {l : List Nat} (h : Low l) (k : Nat) : Low (l.take k) := fun a ha => h a (List.mem_of_mem_take ha)
theorem Low.drop {l : List Nat} (h : Low l) (k : Nat) : Low (l.drop k) := fun a ha => h a (List.mem_of_mem_drop ha)
theorem Low.ltr {l : List Nat} (h : Low l) : Ltr l := fun a ha => by have := h a ha; omega
theorem Low.infix {l m : List Nat} (h : Low l) (hm : ∀ a ∈ m, a ∈ l) : Low m := fun a ha => h a (hm a ha)
/-- no address anew: what is new is told -/
theorem small200 {n : Nat} (h : n ≤ 1000000) : n ≤ sizeLine := Nat.le_trans h (by decide)

/-! ### what the top has written -/
structure Txt (K : PySem.W.Frag) (mg : Str → Option Value) : Prop where
  isi : mg "isinstance" = none
  len : mg "len" = none
  enu : mg "enumerate" = none
  zip : mg "zip" = none
  range : mg "range" = none
  min : mg "min" = none
  sorted : mg "sorted" = none
  set : mg "set" = none
  sum : mg "sum" = none
  list : mg "list" = none
  repr : mg "repr" = none
  str : mg "str" = none
  int : mg "int" = none
  bool : mg "bool" = none
  mT : ∃ t, mg "MOST_TEXT" = some (.int 20000 t)
  mP : ∃ t, mg "MOST_PRESSES" = some (.int 200 t)
  mW : ∃ t, mg "MOST_WINDOW" = some (.int 1000 t)
  mC : ∃ t, mg "MOST_PIECE" = some (.int 200 t)
  az : ∃ t, mg "LETTERS" = some (.str AZ t)
/-- a def of the top that keeps its promise -/
structure Has (P : Program) (w : World) (K : PySem.W.Frag) (mg : Str → Option Value) (base : Heap) (k : Nat) (x : Str) (ps : List Str) (sp : Sp) : Prop where
  ex : ∃ f fd, mg x = some (.ref f) ∧ PySem.W.keepIn K (.ref f) = true ∧ Binds K fd ps [] ∧ FnOk P w K mg base CX0 k f fd ps sp
theorem pe_has {X : Cx} {k : Nat} {x : Str} {ps : List Str} {sp : Sp} {p pos : Pos} {e : Expr} {es : List Expr} {t : TA} (h : Has X.prog X.w X.K X.mg X.base k x ps sp) (hr : Room k X.A) (ha : PA X (e :: es) t) (hg : Gl X x := by rfl)
    (hdb : (x == ("__debug__" : Str)) = false := by decide) (he : starEach (e :: es) X.env = (false, eval e X.env) :: starEach es X.env := by rfl) (hpl : (backTo pos (starEach es X.env)).any (·.1) = false := by rfl) :
    PE X (.Call (.Name x p) (e :: es) [] pos) (tCall sp [] E0 t) := by
  obtain ⟨f, fd, hm, hk, hb, F⟩ := h.ex
  exact pe_call F hr hg hm hk hb .nil pass0 ha hdb he hpl
section
variable {P : Program} {w : World} {K : PySem.W.Frag} {mg : Str → Option Value} {base : Heap}

/-! ### is_whole: level 1 -/
abbrev sIsW : Stmt := top 11
def spIsW : Sp := fun vs H Q _ => ∃ i lo hi : Int, vs = [.int i, .int lo, .int hi] ∧ Q (.bl (decide (lo ≤ i ∧ i ≤ hi))) H
theorem scIsW : FnScope ["thing", "least", "most"] ["thing", "least", "most"] (defScope sIsW) := ⟨rfl, rfl, rfl, by decide +kernel, rfl, by decide +kernel, by decide +kernel⟩
theorem ok_isW {f : Addr} {fd : FuncData} (F : FunD K "is_whole" "is_whole" (defArgs sIsW) (defBody sIsW) (defScope sIsW) [] [("least", .int 0), ("most", .non)] f fd) (G : Txt K mg) : FnOk P w K mg base CX0 1 f fd ["thing", "least", "most"] spIsW := by
  refine F.ok scIsW (fun vs H Q E h => ?_) (fun cdv A outer s H vs Q E hr h => ?_)
  · obtain ⟨i, lo, hi, rfl, _⟩ := h
    rfl
  · obtain ⟨i, lo, hi, rfl, k⟩ := h
    refine ⟨_, pss_one (ps_ret (pe_and (pe_callB call_isi (by rfl) G.isi PyProof.Rows.boot_isinstance (pa_cons (pv 0) (pa_cons (pe_bltn (v := .ty "int") (by rfl) G.int PyProof.Rows.boot_int rfl) pa_nil)))
      (pe_and (pe_not (pe_callB call_isi (by rfl) G.isi PyProof.Rows.boot_isinstance (pa_cons (pv 0) (pa_cons (pe_bltn (v := .ty "bool") (by rfl) G.bool PyProof.Rows.boot_bool rfl) pa_nil))))
      (pe_and (pe_cmp (pc_le (pv 1) (pv 0)))
      (pe_one (pe_or (pe_cmp (pc_isN (pv 2))) (pe_one (pe_cmp (pc_le (pv 0) (pv 2)))))))))), ?_⟩
    refine ⟨_, rfl, .int i, .ty "int", .type "int", .type "int", true, rfl, .ty "int", .base (.int i), kit_ty (by decide +kernel), true, rfl, iteT ?_⟩
    refine ⟨_, rfl, .int i, .ty "bool", .type "int", .type "bool", false, rfl, .ty "bool", .base (.int i), kit_ty (by decide +kernel), false, rfl, true, rfl, iteT ?_⟩
    refine ⟨_, rfl, _, rfl, lo, i, rfl, rfl, _, rfl, ?_⟩
    refine ite2 (fun h1 => ?_) (fun h1 => ?_)
    · refine ⟨_, rfl, false, rfl, iteF ?_⟩
      refine ⟨_, rfl, _, rfl, i, hi, rfl, rfl, ?_⟩
      have e : decide (lo ≤ i ∧ i ≤ hi) = decide (i ≤ hi) := by simp [of_decide_eq_true h1]
      rw [e] at k
      exact k
    · have e : decide (lo ≤ i ∧ i ≤ hi) = false := by
        have : ¬ lo ≤ i := fun z => h1 (decide_eq_true z)
        simp [this]
      rw [e] at k
      exact k
/-! ### odd_place: level 1 -/
abbrev sOdd : Stmt := top 12
def spOdd : Sp := fun vs H Q _ => ∃ l, vs = [.str (T l)] ∧ Low l ∧ l.length ≤ 20000 ∧ ∀ H', Same H H' → Q .non H'
theorem scOdd : FnScope ["text", "place", "sign"] ["text"] (defScope sOdd) := ⟨rfl, rfl, rfl, by decide +kernel, rfl, by decide +kernel, by decide +kernel⟩
theorem same_new {H : Hp} {a : Addr} {o : HO} (h : H a = none) : Same H (upd H a o) := fun b u e => by
  rw [upd_ne (ne_of_none e h)]; exact e
theorem ok_odd {f : Addr} {fd : FuncData} (F : Fun K "odd_place" "odd_place" sOdd f fd) (G : Txt K mg) : FnOk P w K mg base CX0 1 f fd ["text"] spOdd := by
  refine F.ok scOdd (fun vs H Q E h => ?_) (fun cdv A outer s H vs Q E hr h => ?_)
  · obtain ⟨l, rfl, _⟩ := h
    rfl
  · obtain ⟨l, rfl, hl, hn, k⟩ := h
    obtain ⟨tz, hz⟩ := G.az
    refine ⟨_, pss_cons (ps_for PassesOwn.never rfl (pi_enumS (by rfl) G.enu (pa_cons (pv 0) pa_nil))
        (pg_tup rfl (pgs_cons (pg_name (i := 1) scOdd.nd rfl (.inl rfl)) (pgs_cons (pg_name (i := 2) scOdd.nd rfl (.inl rfl)) pgs_nil)))
        (pss_one (ps_if (pt_cmpR op_notIn_sign (pv 2) (pe_glob (v := .str AZ) (by rfl) hz ⟨_, rfl⟩) (by rfl)) (pss_one (ps_ret (pv 1))) pss_nil)))
      (pss_one (ps_ret pe_non)), ?_⟩
    refine ⟨_, rfl, T l, rfl, for_it walk_enumS (fun i σ H1 => ∃ a b, σ = [some (.str (T l)), a, b] ∧ Same H H1) ⟨none, none, rfl, Same.refl H⟩ (fun _ _ _ _ _ => True.intro) ?_ ?_⟩
    · rintro i x σ H1 H2 hi ⟨a, b, rfl, s1⟩ ⟨Ta, c, rfl, hT, rfl, hc⟩
      refine ⟨Ta, _, rfl, SqT.of upd_same, rfl, _, _, rfl, _, _, rfl, rfl, ?_⟩
      refine ⟨_, rfl, c, AZ, rfl, rfl, _, rfl, ?_⟩
      have hm : c ∈ AZ.cps.toList := az_mem.mpr (hl c (List.mem_of_getElem? (by rw [T_get] at hc; exact hc)))
      rw [decide_eq_true hm]
      refine iteF ?_
      exact ⟨_, _, rfl, s1.trans (same_new hT)⟩
    · rintro σ H1 ⟨a, b, rfl, s1⟩
      exact k H1 s1

/-! ### need_presses, need_text: level 2 -/
abbrev sNeP : Stmt := top 13
abbrev sNeT : Stmt := top 14
def spNeP : Sp := fun vs H Q _ => ∃ l, vs = [.str (T l)] ∧ Low l ∧ l.length ≤ 200 ∧ ∀ H', Same H H' → Q .non H'
theorem scNeP : FnScope ["thing", "place"] ["thing"] (defScope sNeP) := ⟨rfl, rfl, rfl, by decide +kernel, rfl, by decide +kernel, by decide +kernel⟩
theorem scNeT : FnScope ["thing", "place"] ["thing"] (defScope sNeT) := ⟨rfl, rfl, rfl, by decide +kernel, rfl, by decide +kernel, by decide +kernel⟩
theorem ok_neP {f : Addr} {fd : FuncData} (F : Fun K "need_presses" "need_presses" sNeP f fd) (G : Txt K mg) (hO : Has P w K mg base 1 "odd_place" ["text"] spOdd) : FnOk P w K mg base CX0 2 f fd ["thing"] spNeP := by
  refine F.ok scNeP (fun vs H Q E h => ?_) (fun cdv A outer s H vs Q E hr h => ?_)
  · obtain ⟨l, rfl, _⟩ := h
    rfl
  · obtain ⟨l, rfl, hl, hn, k⟩ := h
    obtain ⟨tz, hz⟩ := G.mP
    refine ⟨_, pss_cons (ps_if (PW.pt (pw_or (pt_not (pt_val (pe_callB call_isi (by rfl) G.isi PyProof.Rows.boot_isinstance (pa_cons (pv 0) (pa_cons (pe_bltn (v := .ty "str") (by rfl) G.str PyProof.Rows.boot_str rfl) pa_nil)))))
          (pw_or1 (pt_cmpR op_gt (pe_callB call_len_str (by rfl) G.len PySem.boot_len (pa_cons (pv 0) pa_nil)) (pe_glob (v := .int 200) (by rfl) hz ⟨_, rfl⟩) (nomark _))))) pss_never pss_nil)
      (pss_cons (ps_set (i := 1) scNeP.nd rfl (.inl rfl) (pe_has hO hr (pa_cons (pv 0) pa_nil)))
      (pss_one (ps_if (pt_cmp (pc_notN (pv 1))) pss_never pss_nil))), ?_⟩
    refine ⟨_, rfl, .str (T l), .ty "str", .type "str", .type "str", true, rfl, .ty "str", .base (.str _), kit_ty (by decide +kernel), true, rfl, iteF ?_⟩
    refine ⟨_, rfl, T l, rfl, (by rw [T_len]; exact small200 (by omega)), _, _, rfl, rfl, _, rfl, ?_⟩
    rw [show decide ((200 : Int) < ((T l).length : Int)) = false from by rw [T_len]; exact decide_eq_false (by omega)]
    refine iteF ?_
    refine ⟨_, rfl, l, rfl, hl, by omega, fun H' s1 => ?_⟩
    refine ⟨_, rfl, _, rfl, iteF ?_⟩
    exact k H' s1
theorem ok_neT {f : Addr} {fd : FuncData} (F : Fun K "need_text" "need_text" sNeT f fd) (G : Txt K mg) (hO : Has P w K mg base 1 "odd_place" ["text"] spOdd) : FnOk P w K mg base CX0 2 f fd ["thing"] spNeP := by
  refine F.ok scNeT (fun vs H Q E h => ?_) (fun cdv A outer s H vs Q E hr h => ?_)
  · obtain ⟨l, rfl, _⟩ := h
    rfl
  · obtain ⟨l, rfl, hl, hn, k⟩ := h
    obtain ⟨tz, hz⟩ := G.mT
    refine ⟨_, pss_cons (ps_if (PW.pt (pw_or (pt_not (pt_val (pe_callB call_isi (by rfl) G.isi PyProof.Rows.boot_isinstance (pa_cons (pv 0) (pa_cons (pe_bltn (v := .ty "str") (by rfl) G.str PyProof.Rows.boot_str rfl) pa_nil)))))
          (pw_or1 (pt_cmpR op_gt (pe_callB call_len_str (by rfl) G.len PySem.boot_len (pa_cons (pv 0) pa_nil)) (pe_glob (v := .int 20000) (by rfl) hz ⟨_, rfl⟩) (nomark _))))) pss_never pss_nil)
      (pss_cons (ps_set (i := 1) scNeT.nd rfl (.inl rfl) (pe_has hO hr (pa_cons (pv 0) pa_nil)))
      (pss_one (ps_if (pt_cmp (pc_notN (pv 1))) pss_never pss_nil))), ?_⟩
    refine ⟨_, rfl, .str (T l), .ty "str", .type "str", .type "str", true, rfl, .ty "str", .base (.str _), kit_ty (by decide +kernel), true, rfl, iteF ?_⟩
    refine ⟨_, rfl, T l, rfl, (by rw [T_len]; exact small200 (by omega)), _, _, rfl, rfl, _, rfl, ?_⟩
    rw [show decide ((20000 : Int) < ((T l).length : Int)) = false from by rw [T_len]; exact decide_eq_false (by omega)]
    refine iteF ?_
    refine ⟨_, rfl, l, rfl, hl, by omega, fun H' s1 => ?_⟩
    refine ⟨_, rfl, _, rfl, iteF ?_⟩
    exact k H' s1
end
end Mw

namespace Mw
open PySem PySem.Builtin.Str PySem.StrLaws L2 Mp TL
theorem pre_iff {S l : List Nat} : pre S l = true ↔ S <+: l := by
  unfold pre
  rw [beq_iff_eq, List.prefix_iff_eq_take]
  exact ⟨fun h => h.symm, fun h => h.symm⟩
theorem at_T {m z : List Nat} (hz : z ≠ []) (i : Nat) : At (T m) (T z) (T m).length i ↔ z <+: m.drop i := by
  rw [at_iff (x := T m) (y := T z) hz i]
  exact pre_iff
theorem find_T {m z : List Nat} (hz : z ≠ []) : (Txt.find (T m) (T z) = -1 ∧ ¬ z <:+: m) ∨ ∃ i : Nat, Txt.find (T m) (T z) = (i : Int) ∧ z <+: m.drop i ∧ i + z.length ≤ m.length ∧ ∀ k, k < i → ¬ z <+: m.drop k := by
  rcases PyProof.Rows.find_whole (T m) (T z) with ⟨h1, h2⟩ | ⟨i, h1, h2, h3⟩
  · refine .inl ⟨h1, fun h => ?_⟩
    obtain ⟨p, hp, _⟩ := infix_at.mp h
    exact h2 p ((at_T hz p).mpr hp)
  · refine .inr ⟨i, h1, (at_T hz i).mp h2, ?_, fun k hk q => h3 k hk ((at_T hz k).mpr q)⟩
    have := h2.1
    rw [T_len, T_len] at this
    exact this
theorem one_prefix {m : List Nat} {c i : Nat} : [c] <+: m.drop i ↔ m[i]? = some c := by
  constructor
  · rintro ⟨t, ht⟩
    have : (m.drop i)[0]? = some c := by rw [← ht]; rfl
    rwa [List.getElem?_drop] at this
  · intro h
    have hi := (List.getElem?_eq_some_iff.mp h).1
    refine ⟨m.drop (i + 1), ?_⟩
    rw [List.drop_eq_getElem_cons hi]
    have : m[i] = c := (List.getElem?_eq_some_iff.mp h).2
    rw [this]; rfl
theorem find1_T {m : List Nat} {c : Nat} (h : c ∈ m) : ∃ i : Nat, Txt.find (T m) (T [c]) = (i : Int) ∧ m[i]? = some c ∧ IsNew m i := by
  rcases find_T (m := m) (z := [c]) (by simp) with ⟨_, h2⟩ | ⟨i, h1, h2, _, h3⟩
  · exact absurd (one_infix.mpr h) h2
  · refine ⟨i, h1, one_prefix.mp h2, fun k hk q => h3 k hk (one_prefix.mpr ?_)⟩
    rw [q]; exact one_prefix.mp h2
theorem sub_one {m : List Nat} {c i : Nat} (hi : i < m.length) : subAt (T m) (T [c]) i = true ↔ m[i]? = some c := by
  unfold subAt
  rw [beq_iff_eq, T_len]
  constructor
  · intro h
    have : ((T m).cps.extract i (i + [c].length))[0]? = some c := by rw [h]; rfl
    rw [Array.getElem?_extract] at this
    simp at this
    exact this.2
  · intro h
    have h' := List.getElem?_eq_some_iff.mp h
    apply Array.ext_getElem?
    intro j
    rw [Array.getElem?_extract]
    simp
    by_cases hj : j = 0
    · subst hj
      rw [if_pos (by omega)]
      simpa using h
    · rw [if_neg (by omega)]
      rw [List.getElem?_eq_none (by simp; omega)]
theorem rfind_T {m : List Nat} {c n : Nat} (hn : n ≤ m.length) : (Txt.rfindIn (T m) (T [c]) 0 (n : Nat) = -1 ∧ ∀ k, k < n → m[k]? ≠ some c) ∨
    ∃ j : Nat, Txt.rfindIn (T m) (T [c]) 0 (n : Nat) = (j : Int) ∧ j < n ∧ m[j]? = some c ∧ ∀ k, j < k → k < n → m[k]? ≠ some c := by
  have e0 : fromIndex (T m).length 0 = 0 := rfl
  have e1 : toIndexW (T m).length (n : Nat) = n := by
    unfold toIndexW
    rw [T_len, if_neg (by omega)]
    omega
  unfold Txt.rfindIn
  rw [e0, e1, last_eq]
  have key := last_run (T m) (T [c]) n (List.range' 0 (n + 1 - 0)) [] none (fun _ h => nomatch h) (fun _ h => nomatch h) (by simpa using List.pairwise_lt_range' (s := 0) (n := n + 1 - 0))
  have at1 : ∀ i, At (T m) (T [c]) n i ↔ i < n ∧ m[i]? = some c := fun i => by
    constructor
    · rintro ⟨h1, h2⟩
      rw [T_len] at h1
      have h1' : i < n := h1
      exact ⟨h1', (sub_one (by omega)).mp h2⟩
    · rintro ⟨h1, h2⟩
      exact ⟨by rw [T_len]; exact h1, (sub_one (by omega)).mpr h2⟩
  have mem : ∀ i, i < n → i ∈ [] ++ List.range' 0 (n + 1 - 0) := fun i hi => by simp [List.mem_range']; omega
  cases hr : (forIn (List.range' 0 (n + 1 - 0)) none (lastBody (T m) (T [c]) n)).run with
  | none =>
    rw [hr] at key
    exact .inl ⟨rfl, fun k hk q => key k (mem k hk) ((at1 k).mpr ⟨hk, q⟩)⟩
  | some a =>
    rw [hr] at key
    obtain ⟨h1, h2⟩ := (at1 a).mp key.1
    exact .inr ⟨a, rfl, h1, h2, fun k hk1 hk2 q => key.2 k (mem k hk2) hk1 ((at1 k).mpr ⟨hk2, q⟩)⟩

/-! ### slices of texts -/
theorem cut_to (m : List Nat) (k : Nat) : cutS (T m) none (some (k : Nat)) = T (m.take k) := by
  apply ext_tl
  show ((m.drop (HT.sIx (T m).length 0 none)).take (HT.sIx (T m).length (T m).length (some (k : Nat)) - HT.sIx (T m).length 0 none)) = m.take k
  rw [HT.sIx_none, HT.sIx_nat, T_len, List.drop_zero, Nat.sub_zero]
  by_cases h : k ≤ m.length
  · rw [Nat.min_eq_left h]
  · rw [Nat.min_eq_right (by omega), List.take_length, List.take_of_length_le (by omega)]
theorem cut_from (m : List Nat) (k : Nat) : cutS (T m) (some (k : Nat)) none = T (m.drop k) := by
  apply ext_tl
  show ((m.drop (HT.sIx (T m).length 0 (some (k : Nat)))).take (HT.sIx (T m).length (T m).length none - HT.sIx (T m).length 0 (some (k : Nat)))) = m.drop k
  rw [HT.sIx_none, HT.sIx_nat, T_len]
  by_cases h : k ≤ m.length
  · rw [Nat.min_eq_left h, List.take_of_length_le (by rw [List.length_drop]; exact Nat.le_refl _)]
  · rw [Nat.min_eq_right (by omega), List.drop_eq_nil_of_le (Nat.le_refl _), List.drop_eq_nil_of_le (by omega)]
    simp
theorem cut_mid (m : List Nat) (a b : Nat) : cutS (T m) (some (a : Nat)) (some (b : Nat)) = T ((m.drop a).take (b - a)) := by
  apply ext_tl
  show ((m.drop (HT.sIx (T m).length 0 (some (a : Nat)))).take (HT.sIx (T m).length (T m).length (some (b : Nat)) - HT.sIx (T m).length 0 (some (a : Nat)))) = (m.drop a).take (b - a)
  rw [HT.sIx_nat, HT.sIx_nat, T_len]
  by_cases ha : a ≤ m.length
  · rw [Nat.min_eq_left ha]
    by_cases hb : b ≤ m.length
    · rw [Nat.min_eq_left hb]
    · rw [Nat.min_eq_right (by omega), List.take_of_length_le (by rw [List.length_drop]; omega), List.take_of_length_le (by rw [List.length_drop]; omega)]
  · rw [Nat.min_eq_right (show m.length ≤ a by omega), List.drop_eq_nil_of_le (Nat.le_refl _), List.drop_eq_nil_of_le (show m.length ≤ a by omega)]
    simp
theorem rev_T (m : List Nat) : revS (T m) = T m.reverse := rfl
theorem T_one (l : List Nat) (i c : Nat) (h : l[i]? = some c) : (T l).cps.toList[i]? = some c := h
end Mw

namespace Mw
open PySem PySem.Spec L2 Mp TL PyProof.Rows
/-! ### letters as texts -/
/-- a letter; 0: none -/
def sg (c : Nat) : Str := if c = 0 then T [] else T [c]
def un (x : Str) : Nat := match x.cps.toList with | c :: _ => c | [] => 0
theorem un_sg (c : Nat) : un (sg c) = c := by
  unfold sg
  split
  · rename_i h; rw [h]; rfl
  · rfl
theorem sg_inj {a b : Nat} : sg a = sg b ↔ a = b := ⟨fun h => by rw [← un_sg a, h, un_sg], fun h => by rw [h]⟩
theorem sg_pos {c : Nat} (h : 0 < c) : sg c = T [c] := by unfold sg; rw [if_neg (by omega)]
theorem sg_len (c : Nat) : (sg c).length ≤ 1 := by
  unfold sg; split
  · exact Nat.zero_le _
  · exact Nat.le_refl _
theorem sg_lt {a b : Nat} : (sg a).cps.toList < (sg b).cps.toList ↔ a < b := by
  unfold sg
  split <;> split
  · rename_i h1 h2; subst h1 h2
    exact ⟨fun h => absurd h (List.lt_irrefl _), fun h => absurd h (Nat.lt_irrefl _)⟩
  · rename_i h1 h2; subst h1
    exact ⟨fun _ => by omega, fun _ => by show ([] : List Nat) < [b]; exact List.nil_lt_cons _ _⟩
  · rename_i h1 h2; subst h2
    exact ⟨fun h => by exact absurd h (List.not_lt_nil _), fun h => by omega⟩
  · show [a] < [b] ↔ a < b
    rw [List.cons_lt_cons_iff]
    simp [List.lt_irrefl]
theorem kin_sg {a b : Nat} : (Sum.inr (sg a) : Key) = Sum.inr (sg b) ↔ a = b := ⟨fun h => sg_inj.mp (Sum.inr.inj h), fun h => by rw [h]⟩
/-! ### rising lists -/
theorem sorted_ext : ∀ {a b : List Nat}, a.Pairwise (· < ·) → b.Pairwise (· < ·) → (∀ x, x ∈ a ↔ x ∈ b) → a = b
  | [], [], _, _, _ => rfl
  | [], y :: b, _, _, h => absurd ((h y).mpr List.mem_cons_self) (by simp)
  | x :: a, [], _, _, h => absurd ((h x).mp List.mem_cons_self) (by simp)
  | x :: a, y :: b, ha, hb, h => by
    obtain ⟨ha1, ha2⟩ := List.pairwise_cons.mp ha
    obtain ⟨hb1, hb2⟩ := List.pairwise_cons.mp hb
    have e : x = y := by
      rcases List.mem_cons.mp ((h x).mp List.mem_cons_self) with q | q
      · exact q
      · rcases List.mem_cons.mp ((h y).mpr List.mem_cons_self) with q2 | q2
        · exact q2.symm
        · have := ha1 y q2
          have := hb1 x q
          omega
    subst e
    rw [sorted_ext ha2 hb2 fun z => ?_]
    constructor
    · intro hz
      rcases List.mem_cons.mp ((h z).mp (List.mem_cons_of_mem _ hz)) with q | q
      · subst q; exact absurd (ha1 z hz) (Nat.lt_irrefl _)
      · exact q
    · intro hz
      rcases List.mem_cons.mp ((h z).mpr (List.mem_cons_of_mem _ hz)) with q | q
      · subst q; exact absurd (hb1 z hz) (Nat.lt_irrefl _)
      · exact q
theorem range_lt (n : Nat) : (List.range n).Pairwise (· < ·) := List.pairwise_lt_range
def letters (S : List Nat) : List Nat := (List.range 128).filter fun c => decide (c ∈ S)
theorem letters_lt (S : List Nat) : (letters S).Pairwise (· < ·) := (range_lt 128).filter _
theorem mem_letters {S : List Nat} (h : ∀ a ∈ S, a < 128) {c : Nat} : c ∈ letters S ↔ c ∈ S := by
  unfold letters
  rw [List.mem_filter, List.mem_range, decide_eq_true_eq]
  exact ⟨fun z => z.2, fun z => ⟨h c z, z⟩⟩
theorem tal_eq (S : List Nat) : tal S = (letters S).map fun c => (c, S.count c) := rfl
theorem lt_sg (a b : Nat) : ltCps (sg a).cps.toList (sg b).cps.toList = decide (a < b) := by
  by_cases ha : a = 0
  · subst ha
    by_cases hb : b = 0
    · subst hb; rfl
    · rw [sg_pos (by omega : 0 < b)]
      show ltCps [] [b] = _
      simp [ltCps]; omega
  · rw [sg_pos (by omega : 0 < a)]
    by_cases hb : b = 0
    · subst hb
      show ltCps [a] [] = _
      simp [ltCps]
    · rw [sg_pos (by omega : 0 < b)]
      show ltCps [a] [b] = _
      simp [ltCps]
theorem rising_le : ∀ (ds : List Nat) (p : Nat), risingS (sg p) (ds.map sg) = true → (p :: ds).Pairwise (· ≤ ·)
  | [], p, _ => List.pairwise_singleton _ _
  | d :: ds, p, h => by
    rw [List.map_cons] at h
    unfold risingS at h
    rw [Bool.and_eq_true, lt_sg] at h
    have hpd : p ≤ d := by
      have := h.1
      simp at this
      exact this
    have ih := rising_le ds d h.2
    obtain ⟨i1, _⟩ := List.pairwise_cons.mp ih
    refine List.pairwise_cons.mpr ⟨fun x hx => ?_, ih⟩
    rcases List.mem_cons.mp hx with q | q
    · rw [q]; exact hpd
    · exact Nat.le_trans hpd (i1 x q)
theorem sortedS_le : ∀ (ds : List Nat), sortedS (ds.map sg) = true → ds.Pairwise (· ≤ ·)
  | [], _ => List.Pairwise.nil
  | d :: ds, h => rising_le ds d h
theorem sort_sg {ys : List Str} {cs : List Nat} (hp : ys.Perm (cs.map sg)) (hs : sortedS ys = true) : ∃ ds : List Nat, ys = ds.map sg ∧ ds.Perm cs ∧ ds.Pairwise (· ≤ ·) := by
  have e : ys = (ys.map un).map sg := by
    rw [List.map_map]
    have : ∀ y ∈ ys, (sg ∘ un) y = y := fun y hy => by
      obtain ⟨c, _, rfl⟩ := List.mem_map.mp (hp.mem_iff.mp hy)
      show sg (un (sg c)) = sg c
      rw [un_sg]
    rw [List.map_congr_left this, List.map_id'']
    intro; rfl
  have p2 : (ys.map un).Perm cs := by
    have := hp.map un
    rw [List.map_map] at this
    have e2 : cs.map (un ∘ sg) = cs := by
      have : (un ∘ sg) = id := funext un_sg
      rw [this, List.map_id]
    rwa [e2] at this
  refine ⟨ys.map un, e, p2, sortedS_le _ ?_⟩
  rw [← e]; exact hs
/-! ### tallies as dicts -/
def talK (t : Tal) : List (Key × V) := t.map fun q => ((Sum.inr (sg q.1) : Key), V.int (q.2 : Nat))
theorem talK_keys (t : Tal) : (talK t).map (·.1) = (t.map fun q => sg q.1).map Sum.inr := by
  unfold talK
  rw [List.map_map, List.map_map]
  rfl
theorem tal_val {S : List Nat} {c : Nat} (hc : c < 128) : valV (talK (tal S)) (Sum.inr (sg c) : Key) = if c ∈ S then some (.int (S.count c : Nat)) else none := by
  have gen : ∀ (ls : List Nat), valV (ls.map fun a => ((Sum.inr (sg a) : Key), V.int (S.count a : Nat))) (Sum.inr (sg c) : Key) = if c ∈ ls then some (.int (S.count c : Nat)) else none := by
    intro ls
    induction ls with
    | nil => rfl
    | cons a ls ih =>
      unfold valV at ih ⊢
      rw [List.map_cons, List.find?_cons]
      by_cases h : a = c
      · subst h
        simp
      · rw [decide_eq_false (fun z => h (kin_sg.mp z))]
        rw [ih]
        simp [List.mem_cons, Ne.symm h]
  have e : talK (tal S) = (letters S).map fun a => ((Sum.inr (sg a) : Key), V.int (S.count a : Nat)) := by
    unfold talK
    rw [tal_eq, List.map_map]
    rfl
  rw [e, gen]
  have : c ∈ letters S ↔ c ∈ S := by
    unfold letters
    rw [List.mem_filter, List.mem_range, decide_eq_true_eq]
    exact ⟨fun z => z.2, fun z => ⟨hc, z⟩⟩
  simp only [this]
theorem tal_put {S : List Nat} {c : Nat} (hS : ∀ a ∈ S, a ≤ c) (hc : c < 128) : putK (talK (tal S)) (Sum.inr (sg c) : Key) (.int ((S.count c + 1 : Nat) : Int)) = talK (tal (S ++ [c])) := by
  have e : ∀ U : List Nat, talK (tal U) = (letters U).map fun a => ((Sum.inr (sg a) : Key), V.int (U.count a : Nat)) := fun U => by
    unfold talK
    rw [tal_eq, List.map_map]
    rfl
  by_cases h : c ∈ S
  · have hl : letters (S ++ [c]) = letters S := by
      unfold letters
      refine List.filter_congr fun a _ => ?_
      have : a ∈ S ++ [c] ↔ a ∈ S := by
        rw [List.mem_append, List.mem_singleton]
        exact ⟨fun z => z.elim id fun q => q ▸ h, .inl⟩
      simp only [this]
    have hm : c ∈ letters S := by
      unfold letters
      rw [List.mem_filter, List.mem_range]
      exact ⟨hc, decide_eq_true h⟩
    unfold putK
    rw [if_pos]
    · rw [e, e, hl, List.map_map]
      refine List.map_congr_left fun a _ => ?_
      show (if (Sum.inr (sg a) : Key) = Sum.inr (sg c) then ((Sum.inr (sg a) : Key), V.int ((S.count c + 1 : Nat) : Int)) else _) = _
      by_cases hac : a = c
      · subst hac
        rw [if_pos rfl, List.count_append]
        simp
      · rw [if_neg fun z => hac (kin_sg.mp z), List.count_append]
        simp [List.count_cons, hac, Ne.symm hac]
    · rw [e, List.any_eq_true]
      exact ⟨_, List.mem_map.mpr ⟨c, hm, rfl⟩, by simp⟩
  · have hl : letters (S ++ [c]) = letters S ++ [c] := by
      refine sorted_ext (letters_lt _) ?_ fun x => ?_
      · rw [List.pairwise_append]
        refine ⟨letters_lt S, List.pairwise_singleton _ _, fun a ha b hb => ?_⟩
        rw [List.mem_singleton] at hb
        subst hb
        unfold letters at ha
        rw [List.mem_filter] at ha
        have hm := of_decide_eq_true ha.2
        have := hS a hm
        rcases Nat.lt_or_eq_of_le this with q | q
        · exact q
        · exact absurd (q ▸ hm) h
      · unfold letters
        rw [List.mem_append, List.mem_filter, List.mem_filter, List.mem_range, decide_eq_true_eq, decide_eq_true_eq, List.mem_append, List.mem_singleton]
        constructor
        · rintro ⟨h1, h2 | h2⟩
          · exact .inl ⟨h1, h2⟩
          · exact .inr h2
        · rintro (⟨h1, h2⟩ | h2)
          · exact ⟨h1, .inl h2⟩
          · exact ⟨h2 ▸ hc, .inr h2⟩
    have hv : valV (talK (tal S)) (Sum.inr (sg c) : Key) = none := by rw [tal_val hc, if_neg h]
    rw [putK_new _ hv, e, e, hl, List.map_append, List.count_eq_zero_of_not_mem h]
    congr 1
    · refine List.map_congr_left fun a ha => ?_
      have hac : a ≠ c := fun q => by
        unfold letters at ha
        rw [List.mem_filter] at ha
        exact h (q ▸ of_decide_eq_true ha.2)
      rw [List.count_append]
      simp [List.count_cons, Ne.symm hac]
    · simp [List.count_append, List.count_eq_zero_of_not_mem h]
end Mw

namespace Mw
open PySem L2 Mp TL
section
variable {P : Program} {w : World} {K : PySem.W.Frag} {mg : Str → Option Value} {base : Heap}
theorem m1 {X : Cx} {o e : Expr} {m : Str} {apos cpos : Pos} (hb : attributeBase o m X.env (eval o X.env) = eval o X.env := by rfl) (hf : ((backTo cpos (starEach [e] X.env)).all (fun x => !x.1) && (backToKw cpos (keywordEach [] X.env)).all (fun x => x.1.isSome)
    && decide (([e] : List Expr).length + ([] : List Keyword).length + (if ([] : List Keyword).isEmpty then 0 else 1) < 30)) = true := by rfl) (hl : (apos.endLine == cpos.line) = true := by rfl) (ht : backTo cpos (starEach [e] X.env) = [(false, eval e X.env)] := by rfl) : M1 X o m apos e cpos := ⟨hb, hf, hl, ht⟩
theorem m2 {X : Cx} {o e f : Expr} {m : Str} {apos cpos : Pos} (hb : attributeBase o m X.env (eval o X.env) = eval o X.env := by rfl) (hf : ((backTo cpos (starEach [e, f] X.env)).all (fun x => !x.1) && (backToKw cpos (keywordEach [] X.env)).all (fun x => x.1.isSome)
    && decide (([e, f] : List Expr).length + ([] : List Keyword).length + (if ([] : List Keyword).isEmpty then 0 else 1) < 30)) = true := by rfl) (hl : (apos.endLine == cpos.line) = true := by rfl) (ht : backTo cpos (starEach [e, f] X.env) = [(false, eval e X.env), (false, eval f X.env)] := by rfl) : M2 X o m apos e f cpos := ⟨hb, hf, hl, ht⟩
/-- xs.append(e) -/
theorem pe_app {X : Cx} {o e : Expr} {to te : TE} {apos cpos : Pos} (ho : PE X o to) (he : PE X e te) (hbase : attributeBase o "append" X.env (eval o X.env) = eval o X.env := by rfl)
    (hfew : ((backTo cpos (starEach [e] X.env)).all (fun x => !x.1) && (backToKw cpos (keywordEach [] X.env)).all (fun x => x.1.isSome)
      && decide (([e] : List Expr).length + ([] : List Keyword).length + (if ([] : List Keyword).isEmpty then 0 else 1) < 30)) = true := by rfl)
    (hline : (apos.endLine == cpos.line) = true := by rfl) (hs : starEach [e] X.env = (false, eval e X.env) :: starEach [] X.env := by rfl) (hplain : (backTo cpos (starEach [] X.env)).any (·.1) = false := by rfl) :
    PE X (.Call (.Attribute o "append" apos) [e] [] cpos) (tBM X.K "list" rAppend to (tCons te tNil)) :=
  pe_bm PySem.F.plainAttrs_list PySem.F.slot_list_append PySem.F.type_list_append mt_append ho (pa_cons he pa_nil hs) hbase hfew hline hs hplain

/-! ### lasts_of: level 1 -/
abbrev sLas : Stmt := top 17
/-- last's dict behind i turns -/
def DLast (l : W) (i : Nat) (kvs : List (Key × V)) : Prop := kvs.length ≤ i ∧ ∀ c, (valV kvs (Sum.inr (⟨#[c]⟩ : Str) : Key) = none ∧ ∀ k, k < i → l[k]? ≠ some c) ∨
  ∃ j : Nat, valV kvs (Sum.inr (⟨#[c]⟩ : Str) : Key) = some (.int (j : Nat)) ∧ j < i ∧ l[j]? = some c ∧ ∀ k, j < k → k < i → l[k]? ≠ some c
/-- found's list behind i turns -/
def LLast (l : W) (i : Nat) (xs : List V) : Prop := xs.length = i ∧ ∀ k, k < i → (IsNew l k ∧ xs[k]? = some .non) ∨ ∃ j : Nat, IsLast l k j ∧ xs[k]? = some (.int (j : Nat))
theorem sign_inj {a b : Nat} : (Sum.inr (⟨#[a]⟩ : Str) : Key) = Sum.inr ⟨#[b]⟩ ↔ a = b := by
  constructor
  · intro h
    injection h with h
    have := congrArg (fun x : Str => x.cps.toList) h
    simpa using this
  · rintro rfl; rfl
theorem DLast.step {l : W} {i c : Nat} {kvs : List (Key × V)} (h : DLast l i kvs) (hc : l[i]? = some c) : DLast l (i + 1) (putK kvs (Sum.inr (⟨#[c]⟩ : Str) : Key) (.int (i : Nat))) := by
  refine ⟨Nat.le_trans (length_putK _ _ _) (Nat.succ_le_succ h.1), fun d => ?_⟩
  rw [valV_put]
  by_cases e : d = c
  · subst e
    rw [if_pos rfl]
    exact .inr ⟨i, rfl, Nat.lt_succ_self i, hc, fun k h1 h2 => by omega⟩
  · rw [if_neg fun z => e (sign_inj.mp z)]
    have hne : l[i]? ≠ some d := by rw [hc]; exact fun z => e (Option.some.inj z).symm
    rcases h.2 d with ⟨h1, h2⟩ | ⟨j, h1, h2, h3, h4⟩
    · refine .inl ⟨h1, fun k hk => ?_⟩
      by_cases hki : k = i
      · rw [hki]; exact hne
      · exact h2 k (by omega)
    · refine .inr ⟨j, h1, by omega, h3, fun k hk1 hk2 => ?_⟩
      by_cases hki : k = i
      · rw [hki]; exact hne
      · exact h4 k hk1 (by omega)
theorem LLast.step {l : W} {i c : Nat} {kvs : List (Key × V)} {xs : List V} (h : LLast l i xs) (d : DLast l i kvs) (hc : l[i]? = some c) : LLast l (i + 1) (xs ++ [(valV kvs (Sum.inr (⟨#[c]⟩ : Str) : Key)).getD .non]) := by
  refine ⟨by rw [List.length_append, h.1]; rfl, fun k hk => ?_⟩
  by_cases hki : k = i
  · subst hki
    have e : (xs ++ [(valV kvs (Sum.inr (⟨#[c]⟩ : Str) : Key)).getD .non])[k]? = some ((valV kvs (Sum.inr (⟨#[c]⟩ : Str) : Key)).getD .non) := by
      rw [List.getElem?_append_right (by rw [h.1]; exact Nat.le_refl _), h.1, Nat.sub_self]
      rfl
    rw [e]
    rcases d.2 c with ⟨h1, h2⟩ | ⟨j, h1, h2, h3, h4⟩
    · exact .inl ⟨fun m hm => by rw [hc]; exact h2 m hm, by rw [h1]; rfl⟩
    · exact .inr ⟨j, ⟨h2, by rw [hc]; exact h3, fun m hm1 hm2 => by rw [hc]; exact h4 m hm1 hm2⟩, by rw [h1]; rfl⟩
  · have hk' : k < i := by omega
    rw [List.getElem?_append_left (by rw [h.1]; exact hk')]
    exact h.2 k hk'
def spLas : Sp := fun vs H Q _ => ∃ l, vs = [.str (T l)] ∧ l.length ≤ 200 ∧ ∀ p H' xs, Same H H' → H p = none → H' p = some (.lst xs) → LLast l l.length xs → Q (.ref p) H'
theorem scLas : FnScope ["presses", "last", "found", "at", "letter"] ["presses"] (defScope sLas) := ⟨rfl, rfl, rfl, by decide +kernel, rfl, by decide +kernel, by decide +kernel⟩
theorem ok_las {f : Addr} {fd : FuncData} (F : Fun K "lasts_of" "lasts_of" sLas f fd) (G : Txt K mg) : FnOk P w K mg base CX0 1 f fd ["presses"] spLas := by
  refine F.ok scLas (fun vs H Q E h => ?_) (fun cdv A outer s H vs Q E hr h => ?_)
  · obtain ⟨l, rfl, _⟩ := h
    rfl
  · obtain ⟨l, rfl, hn, k⟩ := h
    have hu := hu_of hr
    refine ⟨_, pss_cons (ps_par (i := 1) (j := 2) rfl scLas.nd rfl rfl (by decide) rfl rfl (pa_cons pe_dnewK (pa_cons (pe_lst pa_nil) pa_nil)) (by rfl))
      (pss_cons (ps_for PassesOwn.never rfl (pi_enumS (by rfl) G.enu (pa_cons (pv 0) pa_nil))
        (pg_tup rfl (pgs_cons (pg_name (i := 3) scLas.nd rfl (.inl rfl)) (pgs_cons (pg_name (i := 4) scLas.nd rfl (.inl rfl)) pgs_nil)))
        (pss_cons (ps_expr (pe_app (pv 2) (pe_dget1 hu (pv 1) (pv 4) m1)))
        (pss_one (ps_dput hu (pv 1) (pv 4) (pv 3) rfl))))
      (pss_one (ps_ret (pv 2)))), ?_⟩
    intro d hd
    refine ⟨by decide, fun p hp => ⟨_, _, rfl, ?_⟩⟩
    have npd : p ≠ d := fun z => by rw [z, upd_same] at hp; cases hp
    have hp0 : H p = none := by rw [upd_ne npd] at hp; exact hp
    refine ⟨_, rfl, T l, rfl, for_it walk_enumS (fun i σ H1 => ∃ a b kvs xs, σ = [some (.str (T l)), some (.ref d), some (.ref p), a, b] ∧ Same H H1 ∧ H1 d = some (.dK kvs) ∧ H1 p = some (.lst xs) ∧ DLast l i kvs ∧ LLast l i xs)
      ⟨none, none, [], [], rfl, (same_new hd).trans (same_new hp), by rw [upd_ne npd.symm, upd_same], upd_same, ⟨Nat.le_refl _, fun c => .inl ⟨rfl, fun k hk => absurd hk (Nat.not_lt_zero k)⟩⟩, ⟨rfl, fun k hk => absurd hk (Nat.not_lt_zero k)⟩⟩ (fun _ _ _ _ _ => True.intro) ?_ ?_⟩
    · rintro i x σ H1 H2 hi ⟨a, b, kvs, xs, rfl, s1, h1d, h1p, D1, L1⟩ ⟨Ta, c, rfl, hT, rfl, hc⟩
      rw [T_size] at hi
      rw [T_get] at hc
      have nTd : d ≠ Ta := ne_of_none h1d hT
      have nTp : p ≠ Ta := ne_of_none h1p hT
      refine ⟨Ta, _, rfl, SqT.of upd_same, rfl, _, _, rfl, _, _, rfl, rfl, ?_⟩
      refine ⟨_, rfl, .inl ⟨rfl, _, SqL.of (by rw [upd_ne nTp]; exact h1p)⟩, _, rfl, d, rfl, .inl ⟨kvs, .inl (by rw [upd_ne nTd]; exact h1d)⟩, _, rfl, _, DGet.k (k := Sum.inr (⟨#[c]⟩ : Str)) (by rw [upd_ne nTd]; exact h1d), p, xs, _, rfl, rfl, (by rw [upd_ne nTp]; exact h1p), small1000 (by rw [L1.1]; omega), ?_⟩
      refine ⟨_, rfl, _, rfl, _, rfl, d, _, rfl, DPut.k (k := Sum.inr (⟨#[c]⟩ : Str)) (by rw [upd_ne npd.symm, upd_ne nTd]; exact h1d) (small1000 (by have := D1.1; omega)), ?_⟩
      refine ⟨_, _, _, _, rfl, fun b o e => ?_, upd_same, by rw [upd_ne npd, upd_same], D1.step hc, L1.step D1 hc⟩
      rw [upd_ne (ne_of_none e hd), upd_ne (ne_of_none e hp0), upd_ne (ne_of_none (s1 b o e) hT)]
      exact s1 b o e
    · rintro σ H1 ⟨a, b, kvs, xs, rfl, s1, h1d, h1p, D1, L1⟩
      rw [T_size] at L1
      exact ⟨_, rfl, k p H1 xs s1 hp0 h1p L1⟩
/-! ### lengths_of: level 2 -/
abbrev sLen : Stmt := top 18
/-- the lengths of the mirrors of the first presses -/
def lensI (l : W) (n : Nat) : List Int := (List.range n).map fun i => (L (l.take i) : Int)
theorem lensI_len (l : W) (n : Nat) : (lensI l n).length = n := by simp [lensI]
theorem lensI_get {l : W} {n i : Nat} (h : i < n) : (lensI l n)[i]? = some (L (l.take i) : Int) := by
  unfold lensI
  rw [List.getElem?_map, List.getElem?_range h]
  rfl
theorem lensI_succ (l : W) (n : Nat) : lensI l (n + 1) = lensI l n ++ [(L (l.take n) : Int)] := by
  unfold lensI
  rw [List.range_succ, List.map_append]
  rfl
theorem lensV_get {l : W} {n i : Nat} (h : i < n) : ((lensI l n).map V.int)[i]? = some (V.int (L (l.take i) : Int)) := by
  rw [List.getElem?_map, lensI_get h]; rfl
theorem lensV_last (l : W) (n : Nat) : atI ((lensI l (n + 1)).map V.int) (-1) = some (V.int (L (l.take n) : Int)) := by
  rw [lensI_succ, List.map_append]
  exact atI_last _ _
def spLen : Sp := fun vs H Q _ => ∃ l, vs = [.str (T l)] ∧ l.length ≤ 200 ∧ ∀ p H', Same H H' → H p = none → H' p = some (.lst ((lensI l (l.length + 1)).map V.int)) → Q (.ref p) H'
theorem scLen : FnScope ["presses", "found", "shared"] ["presses"] (defScope sLen) := ⟨rfl, rfl, rfl, by decide +kernel, rfl, by decide +kernel, by decide +kernel⟩
theorem ok_len {f : Addr} {fd : FuncData} (F : Fun K "lengths_of" "lengths_of" sLen f fd) (G : Txt K mg) (hL : Has P w K mg base 1 "lasts_of" ["presses"] spLas) : FnOk P w K mg base CX0 2 f fd ["presses"] spLen := by
  refine F.ok scLen (fun vs H Q E h => ?_) (fun cdv A outer s H vs Q E hr h => ?_)
  · obtain ⟨l, rfl, _⟩ := h
    rfl
  · obtain ⟨l, rfl, hn, k⟩ := h
    refine ⟨_, pss_cons (ps_set (i := 1) scLen.nd rfl (.inl rfl) (pe_lst (pa_cons pe_int pa_nil)))
      (pss_cons (ps_for PassesOwn.never rfl (pi_list (pe_has hL hr (pa_cons (pv 0) pa_nil))) (pg_name (i := 2) scLen.nd rfl (.inl rfl))
        (pss_one (ps_expr (pe_app (pv 1) (pe_ifExp (pt_cmp (pc_isN (pv 2)))
          (pe_op op_add (pe_op op_mul pe_int (pe_ix ix_list (pv 1) (pe_un un_neg pe_int) (fun _ _ => rfl))) pe_int)
          (pe_op op_sub (pe_op op_mul pe_int (pe_ix ix_list (pv 1) (pe_un un_neg pe_int) (fun _ _ => rfl))) (pe_ix ix_list (pv 1) (pv 2) (fun _ _ => rfl))))))))
      (pss_one (ps_ret (pv 1)))), ?_⟩
    refine ⟨by decide, fun f hf => ?_⟩
    refine ⟨_, rfl, l, rfl, hn, fun p H1 xs s1 hp0 hp L1 => ⟨p, rfl, ⟨_, SqL.of hp⟩, ?_⟩⟩
    refine for_list (K := K) (a := p) (xs := xs) (fun i σ H2 => ∃ a, σ = [some (.str (T l)), some (.ref f), a] ∧ Same H H2 ∧ H2 f = some (.lst ((lensI l (i + 1)).map V.int)) ∧ H2 p = some (.lst xs))
      ⟨none, rfl, (same_new hf).trans s1, s1 _ _ upd_same, hp⟩ (fun i σ H2 _ ⟨_, _, _, _, h⟩ => SqL.of h) ?_ ?_
    · rintro i x σ H2 hx ⟨a, rfl, s2, hf2, hp2⟩
      have hi : i < l.length := by rw [← L1.1]; exact (List.getElem?_eq_some_iff.mp hx).1
      obtain ⟨c, hc⟩ : ∃ c, l[i]? = some c := ⟨l[i], List.getElem?_eq_getElem hi⟩
      have npf : p ≠ f := fun z => by rw [z, upd_same] at hp0; cases hp0
      have fin : ∀ z : Int, z = (L (l.take (i + 1)) : Int) → ∃ a, [some (V.str (T l)), some (.ref f), some x] = [some (V.str (T l)), some (.ref f), a] ∧ Same H (upd H2 f (.lst ((lensI l (i + 1)).map V.int ++ [V.int z]))) ∧
          (upd H2 f (.lst ((lensI l (i + 1)).map V.int ++ [V.int z]))) f = some (.lst ((lensI l (i + 1 + 1)).map V.int)) ∧ (upd H2 f (.lst ((lensI l (i + 1)).map V.int ++ [V.int z]))) p = some (.lst xs) := fun z hz => by
        refine ⟨_, rfl, fun b o e => ?_, ?_, by rw [upd_ne npf]; exact hp2⟩
        · rw [upd_ne (ne_of_none e hf)]; exact s2 b o e
        · rw [upd_same, lensI_succ l (i + 1), List.map_append, hz]; rfl
      have hll : ((lensI l (i + 1)).map V.int).length < sizeLine := by rw [List.length_map, lensI_len]; exact small1000 (by omega)
      refine ⟨_, rfl, .inl ⟨rfl, _, SqL.of hf2⟩, ?_⟩
      rcases L1.2 i hi with ⟨hnw, hxi⟩ | ⟨j, hlt, hxi⟩
      · rw [hxi] at hx
        cases hx
        refine ⟨_, rfl, _, rfl, iteT ?_⟩
        refine ⟨_, rfl, 1, rfl, f, _, _, _, rfl, rfl, SqL.of hf2, lensV_last l i, 2, _, rfl, rfl, .inl ⟨by decide, by decide⟩, _, 1, rfl, rfl, f, _, _, rfl, rfl, hf2, hll, ?_⟩
        exact fin _ (by rw [len_new hc hnw]; omega)
      · rw [hxi] at hx
        cases hx
        obtain ⟨e1, e2⟩ := len_old hc hlt
        refine ⟨_, rfl, _, rfl, iteF ?_⟩
        refine ⟨_, rfl, 1, rfl, f, _, _, _, rfl, rfl, SqL.of hf2, lensV_last l i, 2, _, rfl, rfl, .inl ⟨by decide, by decide⟩, _, rfl, _, rfl, f, _, _, _, rfl, rfl, SqL.of hf2, atI_nat (lensV_get (i := j) (by have := hlt.1; omega)), _, _, rfl, rfl, f, _, _, rfl, rfl, hf2, hll, ?_⟩
        exact fin _ (by omega)
    · rintro σ H2 ⟨a, rfl, s2, hf2, hp2⟩
      rw [L1.1] at hf2
      exact ⟨_, rfl, k f H2 s2 hf hf2⟩

/-! ### length: level 3 -/
abbrev sLgt : Stmt := top 19
def spLgt : Sp := fun vs H Q _ => ∃ l, vs = [.str (T l)] ∧ Low l ∧ l.length ≤ 200 ∧ ∀ H', Same H H' → Q (.int (L l : Int)) H'
theorem scLgt : FnScope ["presses"] ["presses"] (defScope sLgt) := ⟨rfl, rfl, rfl, by decide +kernel, rfl, by decide +kernel, by decide +kernel⟩
theorem ok_lgt {f : Addr} {fd : FuncData} (F : Fun K "length" "length" sLgt f fd) (G : Txt K mg) (hN : Has P w K mg base 2 "need_presses" ["thing"] spNeP) (hL : Has P w K mg base 2 "lengths_of" ["presses"] spLen) : FnOk P w K mg base CX0 3 f fd ["presses"] spLgt := by
  refine F.ok scLgt (fun vs H Q E h => ?_) (fun cdv A outer s H vs Q E hr h => ?_)
  · obtain ⟨l, rfl, _⟩ := h
    rfl
  · obtain ⟨l, rfl, hl, hn, k⟩ := h
    refine ⟨_, pss_cons (ps_expr (pe_has hN hr (pa_cons (pv 0) pa_nil))) (pss_one (ps_ret (pe_ix ix_list (pe_has hL hr (pa_cons (pv 0) pa_nil)) (pe_un un_neg pe_int) (fun _ _ => rfl)))), ?_⟩
    refine ⟨_, rfl, l, rfl, hl, hn, fun H1 s1 => ?_⟩
    refine ⟨_, rfl, l, rfl, hn, fun p H2 s2 hp0 hp => ⟨1, rfl, p, _, _, _, rfl, rfl, SqL.of hp, lensV_last l _, ?_⟩⟩
    rw [List.take_length]
    exact k H2 (s1.trans s2)
end
end Mw

namespace Mw
open PySem L2 Mp TL
section
variable {P : Program} {w : World} {K : PySem.W.Frag} {mg : Str → Option Value} {base : Heap}
/-! ### letter_there: level 1 -/
abbrev sLth : Stmt := top 20
def spLth (K : PySem.W.Frag) : Sp := fun vs H Q _ => ∃ (l : W) (p : Addr) (q c : Nat), vs = [.str (T l), .ref p, .int (q : Nat)] ∧ l.length ≤ 200 ∧ SqL K H p ((lensI l (l.length + 1)).map V.int) ∧ (M l)[q]? = some c ∧ ∀ H', Same H H' → Q (.str (T [c])) H'
theorem scLth : FnScope ["presses", "lengths", "place", "at"] ["presses", "lengths", "place"] (defScope sLth) := ⟨rfl, rfl, rfl, by decide +kernel, rfl, by decide +kernel, by decide +kernel⟩
theorem ok_lth {f : Addr} {fd : FuncData} (F : Fun K "letter_there" "letter_there" sLth f fd) (G : Txt K mg) : FnOk P w K mg base CX0 1 f fd ["presses", "lengths", "place"] (spLth K) := by
  refine F.ok scLth (fun vs H Q E h => ?_) (fun cdv A outer s H vs Q E hr h => ?_)
  · obtain ⟨l, p, q, c, rfl, _⟩ := h
    rfl
  · obtain ⟨l, p, q, c, rfl, hn, hp, hc, k⟩ := h
    refine ⟨_, pss_cons (ps_for PassesOwn.never rfl (pi_range3 (by rfl) G.range (pa_cons (pe_op op_sub (pe_callB call_len_str (by rfl) G.len PySem.boot_len (pa_cons (pv 0) pa_nil)) pe_int) (pa_cons (pe_un un_neg pe_int) (pa_cons (pe_un un_neg pe_int) pa_nil)))) (pg_name (i := 3) scLth.nd rfl (.inl rfl))
        (pss_one (ps_if (pt_cmpR op_ge (pv 2) (pe_ix ix_list (pv 1) (pv 3) (fun _ _ => rfl)) (nomark _))
          (pss_cons (ps_if (PW.pt (pw_and (pt_cmpR op_eq (pv 2) (pe_ix ix_list (pv 1) (pv 3) (fun _ _ => rfl)) (nomark _))
              (pw_and1 (pt_cmpR op_eq (pe_ix ix_list (pv 1) (pe_op op_add (pv 3) pe_int) (fun _ _ => rfl)) (pe_op op_add (pe_op op_mul pe_int (pe_ix ix_list (pv 1) (pv 3) (fun _ _ => rfl))) pe_int) (nomark _)))))
            (pss_one (ps_ret (pe_ix ix_str (pv 0) (pv 3) (fun _ _ => rfl)))) pss_nil)
          (pss_one (ps_aug (i := 2) scLth.nd rfl (.inl rfl) (pe_op op_sub (pe_ix ix_list (pv 1) (pe_op op_add (pv 3) pe_int) (fun _ _ => rfl)) (pe_ix ix_list (pv 1) (pv 3) (fun _ _ => rfl))) ip_sub)))
          pss_nil)))
      (pss_one (ps_ret pe_str)), ?_⟩
    refine ⟨_, rfl, T l, rfl, (by rw [T_len]; exact small200 (by omega)), _, 1, rfl, rfl, 1, rfl, 1, rfl, _, -1, -1, _, rfl, RgC.neg (by rw [T_len]; omega) (by rw [T_len]; omega) (by decide) (by decide), ?_⟩
    refine for_rangeC (fun i σ H1 => ∃ (a : Option V) (q : Nat), σ = [some (.str (T l)), some (.ref p), some (.int (q : Nat)), a] ∧ Same H H1 ∧ i ≤ l.length ∧ (M (l.take (l.length - i)))[q]? = some c)
      ⟨none, q, rfl, Same.refl H, Nat.zero_le _, by rw [Nat.sub_zero, List.take_length]; exact hc⟩ ?_ ?_
    · rintro i σ H1 hi ⟨a, q, rfl, s1, hil, hq⟩
      rw [T_len] at hi
      have hi' : i < l.length := by omega
      obtain ⟨t, ht⟩ : ∃ t : Nat, l.length = i + 1 + t := ⟨l.length - (i + 1), by omega⟩
      have ev : ((T l).length : Int) - 1 + (i : Nat) * (-1) = (t : Nat) := by rw [T_len]; omega
      rw [ev]
      have e1 : l.length - i = t + 1 := by omega
      have e2 : l.length - (i + 1) = t := by omega
      rw [e1] at hq
      have htl : t < l.length := by omega
      have hx : l[t]? = some l[t] := List.getElem?_eq_getElem htl
      have hL := s1.seq hp
      have g0 : atI ((lensI l (l.length + 1)).map V.int) (t : Int) = some (V.int (L (l.take t) : Int)) := atI_nat (lensV_get (by omega))
      have g1 : atI ((lensI l (l.length + 1)).map V.int) ((t : Int) + 1) = some (V.int (L (l.take (t + 1)) : Int)) := by
        have e : (t : Int) + 1 = ((t + 1 : Nat) : Int) := by omega
        rw [e]; exact atI_nat (lensV_get (by omega))
      refine ⟨_, rfl, _, rfl, _, rfl, p, _, _, _, rfl, rfl, hL, g0, _, _, rfl, rfl, _, rfl, ?_⟩
      by_cases hge : L (l.take t) ≤ q
      · rw [decide_eq_true (by omega : ((L (l.take t) : Nat) : Int) ≤ (q : Nat))]
        refine iteT ?_
        have mono : L (l.take t) ≤ L (l.take (t + 1)) := L_take_mono l (Nat.le_succ t)
        refine ⟨_, rfl, _, rfl, _, rfl, p, _, _, _, rfl, rfl, hL, g0, rfl, _, rfl, ?_⟩
        refine ite2 (fun hq0 => ?_) (fun hq0 => ?_)
        · have hq0' : q = L (l.take t) := by
            have := of_decide_eq_true hq0
            injection this with this
            omega
          refine ⟨_, rfl, _, rfl, _, 1, rfl, rfl, p, _, _, _, rfl, rfl, hL, g1, _, rfl, _, rfl, p, _, _, _, rfl, rfl, hL, g0, 2, _, rfl, rfl, .inl ⟨by decide, by decide⟩, _, 1, rfl, rfl, rfl, _, rfl, ?_⟩
          refine ite2 (fun hq1 => ?_) (fun hq1 => ?_)
          · have hnew : IsNew l t := (new_iff hx).mp (by
              have := of_decide_eq_true hq1
              injection this with this
              omega)
            refine ⟨_, rfl, _, rfl, T l, _, _, rfl, rfl, (by rw [T_len]; exact small200 (by omega)), atI_nat (v := l[t]) hx, ?_⟩
            have hcc : l[t] = c := by
              have := at_new hx hnew
              rw [hq0', this] at hq
              exact Option.some.inj hq
            rw [hcc]
            exact k H1 s1
          · have hno : ¬ (q = L (l.take t) ∧ IsNew l t) := fun z => hq1 (decide_eq_true (by
              have := (new_iff hx).mpr z.2
              congr 1
              omega))
            obtain ⟨h1, h2⟩ := at_more hx hge hno
            refine ⟨_, rfl, _, rfl, _, rfl, _, 1, rfl, rfl, p, _, _, _, rfl, rfl, hL, g1, _, rfl, _, rfl, p, _, _, _, rfl, rfl, hL, g0, _, _, rfl, rfl, _, _, rfl, rfl, ?_⟩
            refine ⟨some (.int (t : Nat)), q - (L (l.take (t + 1)) - L (l.take t)), ?_, s1, hi', ?_⟩
            · have e : ((q : Nat) : Int) - (((L (l.take (t + 1)) : Nat) : Int) - ((L (l.take t) : Nat) : Int)) = ((q - (L (l.take (t + 1)) - L (l.take t)) : Nat) : Int) := by omega
              rw [← e]
              rfl
            · rw [e2, ← h2]; exact hq
        · have hno : ¬ (q = L (l.take t) ∧ IsNew l t) := fun z => hq0 (decide_eq_true (by rw [z.1]))
          obtain ⟨h1, h2⟩ := at_more hx hge hno
          refine ⟨_, rfl, _, rfl, _, rfl, _, 1, rfl, rfl, p, _, _, _, rfl, rfl, hL, g1, _, rfl, _, rfl, p, _, _, _, rfl, rfl, hL, g0, _, _, rfl, rfl, _, _, rfl, rfl, ?_⟩
          refine ⟨some (.int (t : Nat)), q - (L (l.take (t + 1)) - L (l.take t)), ?_, s1, hi', ?_⟩
          · have e : ((q : Nat) : Int) - (((L (l.take (t + 1)) : Nat) : Int) - ((L (l.take t) : Nat) : Int)) = ((q - (L (l.take (t + 1)) - L (l.take t)) : Nat) : Int) := by omega
            rw [← e]
            rfl
          · rw [e2, ← h2]; exact hq
      · rw [decide_eq_false (by omega : ¬ ((L (l.take t) : Nat) : Int) ≤ (q : Nat))]
        refine iteF ?_
        refine ⟨_, q, rfl, s1, hi', ?_⟩
        rw [e2, ← at_less (i := t) (by omega)]
        exact hq
    · rintro σ H1 ⟨a, q, rfl, s1, hil, hq⟩
      exfalso
      have e : l.length - (((T l).length : Int) - 1 - -1).toNat = 0 := by rw [T_len]; omega
      rw [e] at hq
      simp [M] at hq
end
end Mw

namespace Mw
open PySem L2 Mp TL
/-- is_whole, called with most= -/
structure HasIsW (P : Program) (w : World) (K : PySem.W.Frag) (mg : Str → Option Value) (base : Heap) : Prop where
  ex : ∃ f fd g, mg "is_whole" = some (.ref f) ∧ PySem.W.keepIn K (.ref f) = true ∧ KBn K fd ["thing", "least", "most"] 1 ["most"] g (fun vs zs => vs ++ ([("least", V.int 0)] : List (Str × V)).map (·.2) ++ zs) ∧ FnOk P w K mg base CX0 1 f fd ["thing", "least", "most"] spIsW
theorem pe_isW {X : Cx} {p pos : Pos} {e : Expr} {kws : List Keyword} {t tk : TA} (h : HasIsW X.prog X.w X.K X.mg X.base) (hr : Room 1 X.A) (ha : PA X [e] t) (hk : PK X kws tk) (hg : Gl X "is_whole" := by rfl)
    (hall : (backToKw pos (keywordEach kws X.env)).all (·.1.isSome) = true := by rfl) (hks : (backToKw pos (keywordEach kws X.env)).filterMap (·.1) = (["most"] : List Str) := by rfl)
    (he : starEach [e] X.env = (false, eval e X.env) :: starEach [] X.env := by rfl)
    (hpl : ((backTo pos (starEach [e] X.env)).any (·.1) || (backToKw pos (keywordEach kws X.env)).any (·.1.isNone)) = false := by rfl) :
    PE X (.Call (.Name "is_whole" p) [e] kws pos) (tCallN 1 1 spIsW (fun vs zs => vs ++ ([("least", V.int 0)] : List (Str × V)).map (·.2) ++ zs) E0 t tk) := by
  obtain ⟨f, fd, g, hm, hkp, hb, F⟩ := h.ex
  exact pe_callN F hr hg hm hkp hb pass0 ha hk hall hks (by decide) he hpl
section
variable {P : Program} {w : World} {K : PySem.W.Frag} {mg : Str → Option Value} {base : Heap}
/-! ### letter_at: level 3 -/
abbrev sLat : Stmt := top 21
def spLat : Sp := fun vs H Q _ => ∃ (l : W) (q c : Nat), vs = [.str (T l), .int (q : Nat)] ∧ Low l ∧ l.length ≤ 200 ∧ (M l)[q]? = some c ∧ ∀ H', Same H H' → Q (.str (T [c])) H'
theorem scLat : FnScope ["presses", "place", "lengths"] ["presses", "place"] (defScope sLat) := ⟨rfl, rfl, rfl, by decide +kernel, rfl, by decide +kernel, by decide +kernel⟩
theorem ok_lat {f : Addr} {fd : FuncData} (F : Fun K "letter_at" "letter_at" sLat f fd) (G : Txt K mg) (hN : Has P w K mg base 2 "need_presses" ["thing"] spNeP) (hL : Has P w K mg base 2 "lengths_of" ["presses"] spLen)
    (hW : HasIsW P w K mg base) (hT : Has P w K mg base 1 "letter_there" ["presses", "lengths", "place"] (spLth K)) : FnOk P w K mg base CX0 3 f fd ["presses", "place"] spLat := by
  refine F.ok scLat (fun vs H Q E h => ?_) (fun cdv A outer s H vs Q E hr h => ?_)
  · obtain ⟨l, q, c, rfl, _⟩ := h
    rfl
  · obtain ⟨l, q, c, rfl, hl, hn, hc, k⟩ := h
    have hq : q < L l := (List.getElem?_eq_some_iff.mp hc).1
    refine ⟨_, pss_cons (ps_expr (pe_has hN hr (pa_cons (pv 0) pa_nil)))
      (pss_cons (ps_set (i := 2) scLat.nd rfl (.inl rfl) (pe_has hL hr (pa_cons (pv 0) pa_nil)))
      (pss_cons (ps_if (pt_not (pt_val (pe_isW hW (hr.mono (by decide)) (pa_cons (pv 1) pa_nil) (pk_cons (pe_op op_sub (pe_ix ix_list (pv 2) (pe_un un_neg pe_int) (fun _ _ => rfl)) pe_int) pk_nil)))) pss_never pss_nil)
      (pss_one (ps_ret (pe_has hT (hr.mono (by decide)) (pa_cons (pv 0) (pa_cons (pv 2) (pa_cons (pv 1) pa_nil)))))))), ?_⟩
    refine ⟨_, rfl, l, rfl, hl, hn, fun H1 s1 => ?_⟩
    refine ⟨_, rfl, l, rfl, hn, fun p H2 s2 hp0 hp => ?_⟩
    refine ⟨_, rfl, _, rfl, 1, rfl, p, _, _, _, rfl, rfl, SqL.of hp, lensV_last l _, _, 1, rfl, rfl, rfl, rfl, _, _, _, rfl, _, rfl, ?_⟩
    rw [List.take_length, decide_eq_true (show (0 : Int) ≤ (q : Nat) ∧ (q : Nat) ≤ ((L l : Nat) : Int) - 1 by omega)]
    refine iteF ?_
    exact ⟨_, rfl, _, rfl, _, rfl, l, p, q, c, rfl, hn, SqL.of hp, hc, fun H3 s3 => k H3 (s1.trans (s2.trans s3))⟩

/-! ### window: level 3 -/
abbrev sWin : Stmt := top 22
theorem joinL_nil : ∀ ls : List (List Nat), joinL [] ls = ls.flatten
  | [] => rfl
  | [a] => by simp [joinL]
  | a :: b :: r => by
    show a ++ ([] ++ joinL [] (b :: r)) = _
    rw [joinL_nil (b :: r)]
    simp
theorem join_signs (l : List Nat) : Txt.join (Str.ofString "") (l.map fun c => T [c]) = T l := by
  rw [join_eq]
  apply ext_tl
  rw [tl_join]
  have e : tl (Str.ofString "") = [] := rfl
  rw [e, joinL_nil, List.map_map]
  show (l.map fun c => [c]).flatten = l
  induction l with
  | nil => rfl
  | cons a r ih => simp [ih]
def spWin : Sp := fun vs H Q _ => ∃ (l : W) (a n : Nat), vs = [.str (T l), .int (a : Nat), .int (n : Nat)] ∧ Low l ∧ l.length ≤ 200 ∧ a + n ≤ L l ∧ n ≤ 1000 ∧ ∀ H', Same H H' → Q (.str (T (((M l).drop a).take n))) H'
theorem scWin : FnScope ["presses", "start", "many", "lengths", "place"] ["presses", "start", "many"] (defScope sWin) := ⟨rfl, rfl, rfl, by decide +kernel, rfl, by decide +kernel, by decide +kernel⟩
theorem ok_win {f : Addr} {fd : FuncData} (F : Fun K "window" "window" sWin f fd) (G : Txt K mg) (hN : Has P w K mg base 2 "need_presses" ["thing"] spNeP) (hL : Has P w K mg base 2 "lengths_of" ["presses"] spLen)
    (hW : HasIsW P w K mg base) (hT : Has P w K mg base 1 "letter_there" ["presses", "lengths", "place"] (spLth K)) : FnOk P w K mg base CX0 3 f fd ["presses", "start", "many"] spWin := by
  refine F.ok scWin (fun vs H Q E h => ?_) (fun cdv A outer s H vs Q E hr h => ?_)
  · obtain ⟨l, a, n, rfl, _⟩ := h
    rfl
  · obtain ⟨l, a, n, rfl, hl, hn, han, hn1, k⟩ := h
    obtain ⟨tz, hz⟩ := G.mW
    have hr1 : Room 1 _ := hr.mono (by decide)
    refine ⟨_, pss_cons (ps_expr (pe_has hN hr (pa_cons (pv 0) pa_nil)))
      (pss_cons (ps_set (i := 3) scWin.nd rfl (.inr rfl) (pe_has hL hr (pa_cons (pv 0) pa_nil)))
      (pss_cons (ps_if (pt_not (pt_val (pe_isW hW hr1 (pa_cons (pv 1) pa_nil) (pk_cons (pe_ix ix_list (pv 3) (pe_un un_neg pe_int) (fun _ _ => rfl)) pk_nil)))) pss_never pss_nil)
      (pss_cons (ps_if (pt_not (pt_val (pe_isW hW hr1 (pa_cons (pv 2) pa_nil) (pk_cons (pe_callB (call_min2 rfl) (by rfl) G.min PyProof.Rows.boot_min (pa_cons (pe_glob (v := .int 1000) (by rfl) hz ⟨_, rfl⟩) (pa_cons (pe_op op_sub (pe_ix ix_list (pv 3) (pe_un un_neg pe_int) (fun _ _ => rfl)) (pv 1)) pa_nil))) pk_nil)))) pss_never pss_nil)
      (pss_one (ps_ret (pe_join pe_str (pe_lc (own := [("place", 4)]) (g := gName 4) (tt := tYes) rfl scWin.nd (pi_range2L (by rfl) G.range (pa_cons (pv 1) (pa_cons (pe_op op_add (pv 1) (pv 2)) pa_nil)))
        (blkOk_by (own := [("place", 4)]) (N := ["presses", "start", "many", "lengths", "place"]) (sc := defScope sWin) (by decide +kernel)) (fun _ _ _ _ _ => pg_name (i := 4) scWin.nd rfl (Or.inl rfl)) (fun _ _ _ _ _ => pts_nil)
        (fun _ _ _ _ _ => pe_has hT hr1 (pa_cons (pv 0) (pa_cons (pv 3) (pa_cons (pv 4) pa_nil))))))))))), ?_⟩
    refine ⟨_, rfl, l, rfl, hl, hn, fun H1 s1 => ?_⟩
    refine ⟨_, rfl, l, rfl, hn, fun p H2 s2 hp0 hp => ?_⟩
    refine ⟨_, rfl, _, rfl, 1, rfl, p, _, _, _, rfl, rfl, SqL.of hp, lensV_last l _, rfl, rfl, _, _, _, rfl, _, rfl, ?_⟩
    rw [List.take_length, decide_eq_true (show (0 : Int) ≤ (a : Nat) ∧ (a : Nat) ≤ ((L l : Nat) : Int) by omega)]
    refine iteF ?_
    refine ⟨_, rfl, _, rfl, 1, rfl, p, _, _, _, rfl, rfl, SqL.of hp, lensV_last l _, _, rfl, _, _, rfl, rfl, _, _, rfl, rfl, rfl, _, _, _, rfl, _, rfl, ?_⟩
    rw [List.take_length, decide_eq_true (show (0 : Int) ≤ (n : Nat) ∧ (n : Nat) ≤ (if ((L l : Nat) : Int) - (a : Nat) < 1000 then ((L l : Nat) : Int) - (a : Nat) else 1000) by split <;> omega)]
    refine iteF ?_
    refine ⟨⟨_, rfl⟩, _, rfl, _, rfl, _, rfl, _, _, rfl, rfl, (a : Nat), (a : Nat) + (n : Nat), rfl, ?_⟩
    rw [show (((a : Nat) : Int) + ((n : Nat) : Int) - ((a : Nat) : Int)).toNat = n by omega]
    intro D hD
    have s12 := s1.trans s2
    refine lc_it walk_range (fun i H3 => Same H2 H3 ∧ H3 D = some (.lst ((((M l).drop a).take i).map fun c => V.str (T [c])))) ⟨same_new hD, by rw [List.take_zero]; exact upd_same⟩ (fun _ _ _ _ => True.intro) ?_ ?_
    · rintro i x H3 H4 hi ⟨s3, hD3⟩ ⟨rfl, rfl⟩
      have hq : a + i < (M l).length := by show _ < L l; omega
      have hc : (M l)[a + i]? = some (M l)[a + i] := List.getElem?_eq_getElem hq
      refine ⟨rfl, ?_⟩
      dsimp only [tYes]
      rw [if_pos rfl]
      refine ⟨_, rfl, _, rfl, _, rfl, l, p, a + i, _, rfl, hn, s3.seq (SqL.of hp), hc, fun H5 s5 => ?_⟩
      refine ⟨_, s5 _ _ hD3, by rw [List.length_map, List.length_take]; exact small1000 (by omega), fun b o e => ?_, ?_⟩
      · rw [upd_ne (ne_of_none e hD)]; exact s5 _ _ (s3 _ _ e)
      · rw [upd_same, List.take_add_one, List.getElem?_drop, hc, List.map_append]
        rfl
    · rintro H3 ⟨s3, hD3⟩
      refine ⟨Str.ofString "", D, (((M l).drop a).take n).map fun c => T [c], rfl, rfl, .inl (SqL.of (by rw [hD3, List.map_map]; rfl)), ?_, ?_⟩
      · rw [List.map_map, List.length_map]
        have e1 : (List.map ((fun x : Str => x.length) ∘ fun c => T [c]) (((M l).drop a).take n)).sum = (((M l).drop a).take n).length := by
          generalize ((M l).drop a).take n = z
          induction z with
          | nil => rfl
          | cons y z ih => rw [List.map_cons, List.sum_cons, ih, List.length_cons]; show 1 + _ = _; omega
        rw [e1, List.length_take]
        have e2 : (Str.ofString "").length = 0 := rfl
        rw [e2]
        omega
      · rw [join_signs]
        exact k H3 (s12.trans s3)
end
end Mw

namespace Mw
open PySem L2 Mp TL
theorem len_text {l : List Nat} (h : l.length ≤ 1000000) : (T l).length ≤ sizeLine := by rw [T_len]; exact small200 h
/-- a dict comprehension over it: Pv by the turn and the heap (the new dict at D within) -/
theorem dc_it {J : It} {n : Nat} {Gd : Hp → Prop} {Y : Nat → Hp → V → Hp → Prop} (wk : Walk J n Gd Y) {g : TG} {tt : TT} {tk tv : TE} {vs : List Nat} {σ : St} {H1 : Hp} {D : Addr} {Qd : Hp → Prop} (Pv : Nat → Hp → Prop) (h0 : Pv 0 (upd H1 D (.dK []))) (hG : ∀ i H, i ≤ n → Pv i H → Gd H)
    (hs : ∀ i x H H', i < n → Pv i H → Y i H x H' → g x (wipe σ vs) H' fun σ2 H2 => wipe σ2 vs = wipe σ vs ∧ tt σ2 H2 fun b H3 =>
      if b = true then tk σ2 H3 fun y H4 => tv σ2 H4 fun z H5 => ∃ kvs k, y = kV k ∧ H5 D = some (.dK kvs) ∧ kvs.length < sizeLine ∧ Pv (i + 1) (upd H5 D (.dK (putK kvs k z))) else Pv (i + 1) H3) (hd : ∀ H, Pv n H → Qd H) :
    ∃ W : Nat → Nat → Hp → Prop, (∃ m, W 0 m (upd H1 D (.dK []))) ∧ ∀ i m H, W i m H →
      (J.stop i H ∧ Qd H) ∨ (J.go i H ∧ ∃ Nx : Hp → Prop, (∀ H', Nx H' → ∃ m', m' < m ∧ W (i + 1) m' H') ∧ ∀ x H', J.yld i H x H' → g x (wipe σ vs) H' fun σ2 H2 => wipe σ2 vs = wipe σ vs ∧ tt σ2 H2 fun b H3 =>
        if b = true then tk σ2 H3 fun y H4 => tv σ2 H4 fun z H5 => ∃ kvs k, y = kV k ∧ H5 D = some (.dK kvs) ∧ kvs.length < sizeLine ∧ Nx (upd H5 D (.dK (putK kvs k z))) else Nx H3) := by
  refine ⟨fun i m H => m = n - i ∧ i ≤ n ∧ Pv i H, ⟨n, by simp, Nat.zero_le _, h0⟩, ?_⟩
  rintro i m H ⟨rfl, hi, p⟩
  have q := hG i H hi p
  by_cases hlt : i < n
  · refine .inr ⟨wk.goes i H hlt q, Pv (i + 1), fun H' p' => ⟨n - (i + 1), by omega, rfl, hlt, p'⟩, fun x H' y => hs i x H H' hlt p (wk.yields i H x H' hlt q y)⟩
  · have e : i = n := by omega
    subst e
    exact .inl ⟨wk.stops H q, hd H p⟩
/-! ### the texts of a set -/
theorem mem_putsS {x : Str} : ∀ {l : List Nat} {s : List Str}, x ∈ putsS s l ↔ x ∈ s ∨ ∃ c ∈ l, x = T [c]
  | [], s => by show x ∈ s ↔ _; simp
  | c :: l, s => by
    show x ∈ putsS (putS s ⟨#[c]⟩) l ↔ _
    rw [mem_putsS, putS_mem]
    constructor
    · rintro ((h | h) | ⟨d, h1, h2⟩)
      · exact .inl h
      · exact .inr ⟨c, List.mem_cons_self, h⟩
      · exact .inr ⟨d, List.mem_cons_of_mem _ h1, h2⟩
    · rintro (h | ⟨d, h1, h2⟩)
      · exact .inl (.inl h)
      · rcases List.mem_cons.mp h1 with e | e
        · exact .inl (.inr (e ▸ h2))
        · exact .inr ⟨d, e, h2⟩
theorem nd_putsS : ∀ {l : List Nat} {s : List Str}, s.Nodup → (putsS s l).Nodup
  | [], _, h => h
  | c :: l, s, h => nd_putsS (l := l) (putS_nd h)
/-- the letters of a text's set, sorted -/
theorem sorted_letters {l : List Nat} (hl : Ltr l) {ys : List Str} (hp : ys.Perm (putsS [] l)) (hs : PyProof.Rows.sortedS ys = true) : ys = (letters l).map sg := by
  have hmem : ∀ x ∈ putsS [] l, ∃ c ∈ l, x = sg c := fun x hx => by
    rcases mem_putsS.mp hx with h | ⟨c, h1, h2⟩
    · cases h
    · exact ⟨c, h1, by rw [sg_pos (hl c h1).1]; exact h2⟩
  have e : putsS [] l = ((putsS [] l).map un).map sg := by
    rw [List.map_map]
    have : ∀ y ∈ putsS [] l, (sg ∘ un) y = y := fun y hy => by
      obtain ⟨c, _, rfl⟩ := hmem y hy
      show sg (un (sg c)) = sg c
      rw [un_sg]
    rw [List.map_congr_left this, List.map_id'']
    intro; rfl
  rw [e] at hp
  obtain ⟨ds, rfl, p2, le⟩ := sort_sg hp hs
  have nd : ds.Nodup := by
    have h1 : (putsS [] l).Nodup := nd_putsS List.nodup_nil
    rw [e] at h1
    have h2 : ((putsS [] l).map un).Nodup := by
      refine List.Pairwise.of_map sg (fun a b hab z => hab (by rw [z])) h1
    exact p2.nodup_iff.mpr h2
  have lt : ds.Pairwise (· < ·) := by
    have h2 : ds.Pairwise (fun a b => a ≤ b ∧ a ≠ b) := List.Pairwise.and le nd
    exact h2.imp fun ⟨h1, h2⟩ => Nat.lt_of_le_of_ne h1 h2
  congr 1
  refine sorted_ext lt (letters_lt l) fun x => ?_
  rw [p2.mem_iff, mem_letters (fun a ha => (hl a ha).2), List.mem_map]
  constructor
  · rintro ⟨y, hy, rfl⟩
    obtain ⟨c, hc, rfl⟩ := hmem y hy
    rw [un_sg]; exact hc
  · intro hx
    exact ⟨sg x, mem_putsS.mpr (.inr ⟨x, hx, sg_pos (hl x hx).1⟩), un_sg x⟩
theorem nodup_few {l : List Nat} {n : Nat} (nd : l.Nodup) (h : ∀ a ∈ l, a < n) : l.length ≤ n := by
  have p : l.Perm ((List.range n).filter fun a => decide (a ∈ l)) := by
    refine (List.perm_ext_iff_of_nodup nd (List.Pairwise.filter _ List.nodup_range)).mpr fun a => ?_
    rw [List.mem_filter, List.mem_range, decide_eq_true_eq]
    exact ⟨fun z => ⟨h a z, z⟩, fun z => z.2⟩
  rw [p.length_eq]
  refine Nat.le_trans (List.length_filter_le _ _) ?_
  rw [List.length_range]
  exact Nat.le_refl _
theorem few_low {l : List Nat} (hl : Low l) : (putsS [] l).length ≤ 26 := by
  have h1 : (putsS [] l).Nodup := nd_putsS List.nodup_nil
  have hm : ∀ x ∈ putsS [] l, ∃ c, x = T [c] ∧ 97 ≤ c ∧ c ≤ 122 := fun x hx => by
    rcases mem_putsS.mp hx with h | ⟨c, h1, h2⟩
    · cases h
    · exact ⟨c, h2, hl c h1⟩
  have h2 : ((putsS [] l).map fun x => un x - 97).Nodup := by
    refine List.pairwise_map.mpr ?_
    refine List.Pairwise.imp_of_mem (fun {a b} ha hb hab => ?_) h1
    obtain ⟨c, rfl, c1, c2⟩ := hm a ha
    obtain ⟨d, rfl, d1, d2⟩ := hm b hb
    have e1 : un (T [c]) = c := rfl
    have e2 : un (T [d]) = d := rfl
    rw [e1, e2]
    intro q
    exact hab (by rw [show c = d by omega])
  have h3 := nodup_few (n := 26) h2 fun a ha => by
    obtain ⟨x, hx, rfl⟩ := List.mem_map.mp ha
    obtain ⟨c, rfl, c1, c2⟩ := hm x hx
    show c - 97 < 26
    omega
  rwa [List.length_map] at h3
section
variable {P : Program} {w : World} {K : PySem.W.Frag} {mg : Str → Option Value} {base : Heap}
/-! ### count_there: level 3 -/
abbrev sCth : Stmt := top 23
def spCth : Sp := fun vs H Q _ => ∃ (l : W) (c : Nat), vs = [.str (T l), .str (T [c])] ∧ l.length ≤ 200 ∧ c ∈ l ∧ ∀ H', Same H H' → Q (.int ((M l).count c : Nat)) H'
theorem scCth : FnScope ["presses", "letter", "first"] ["presses", "letter"] (defScope sCth) := ⟨rfl, rfl, rfl, by decide +kernel, rfl, by decide +kernel, by decide +kernel⟩
theorem ok_cth {f : Addr} {fd : FuncData} (F : Fun K "count_there" "count_there" sCth f fd) (G : Txt K mg) (hL : Has P w K mg base 2 "lengths_of" ["presses"] spLen) : FnOk P w K mg base CX0 3 f fd ["presses", "letter"] spCth := by
  refine F.ok scCth (fun vs H Q E h => ?_) (fun cdv A outer s H vs Q E hr h => ?_)
  · obtain ⟨l, c, rfl, _⟩ := h
    rfl
  · obtain ⟨l, c, rfl, hn, hc, k⟩ := h
    obtain ⟨i, e1, e2, e3⟩ := find1_T hc
    refine ⟨_, pss_cons (ps_set (i := 2) scCth.nd rfl (.inl rfl) (pe_m1 PySem.F.slot_str_find PySem.F.type_str_find mt_find (pv 0) (pv 1)))
      (pss_one (ps_ret (pe_ifExp (pt_cmpR op_ge (pv 2) pe_int (nomark _)) (pe_op op_add (pe_ix ix_list (pe_has hL hr (pa_cons (pe_slice sl_str (pv 0) (po_some (pe_op op_add (pv 2) pe_int)) po_none) pa_nil)) (pe_un un_neg pe_int) (fun _ _ => rfl)) pe_int) pe_int))), ?_⟩
    refine ⟨_, rfl, ⟨_, rfl⟩, _, rfl, T l, T [c], rfl, rfl, ?_⟩
    rw [e1]
    refine ⟨_, rfl, _, 0, rfl, rfl, _, rfl, ?_⟩
    rw [decide_eq_true (by omega : (0 : Int) ≤ (i : Nat))]
    refine iteT ?_
    refine ⟨_, rfl, _, rfl, _, 1, rfl, rfl, _, rfl, T l, rfl, len_text (by omega), ?_⟩
    refine ⟨l.drop (i + 1), (by rw [← cut_from]; rfl), by rw [List.length_drop]; omega, fun p H1 s1 hp0 hp => ?_⟩
    refine ⟨1, rfl, p, _, _, _, rfl, rfl, SqL.of hp, lensV_last _ _, _, 1, rfl, rfl, ?_⟩
    rw [List.take_length]
    have e4 := count_first e2 e3
    rw [e4] at k
    exact k H1 s1
/-! ### counts: level 4 -/
abbrev sCts : Stmt := top 24
def spCts : Sp := fun vs H Q _ => ∃ l, vs = [.str (T l)] ∧ Low l ∧ l.length ≤ 200 ∧ ∀ p H', Same H H' → H p = none → H' p = some (.dK (talK (countsN l))) → Q (.ref p) H'
theorem scCts : FnScope ["presses", "letter"] ["presses"] (defScope sCts) := ⟨rfl, rfl, rfl, by decide +kernel, rfl, by decide +kernel, by decide +kernel⟩
theorem ok_cts {f : Addr} {fd : FuncData} (F : Fun K "counts" "counts" sCts f fd) (G : Txt K mg) (hN : Has P w K mg base 2 "need_presses" ["thing"] spNeP) (hC : Has P w K mg base 3 "count_there" ["presses", "letter"] spCth) : FnOk P w K mg base CX0 4 f fd ["presses"] spCts := by
  refine F.ok scCts (fun vs H Q E h => ?_) (fun cdv A outer s H vs Q E hr h => ?_)
  · obtain ⟨l, rfl, _⟩ := h
    rfl
  · obtain ⟨l, rfl, hl, hn, k⟩ := h
    refine ⟨_, pss_cons (ps_expr (pe_has hN (hr.mono (by decide)) (pa_cons (pv 0) pa_nil)))
      (pss_one (ps_ret (pe_dc (own := [("letter", 1)]) (g := gName 1) (tt := tYes) rfl scCts.nd (pi_list (pe_callB (cr_sortedX rfl) (by rfl) G.sorted PyProof.Rows.boot_sorted (pa_cons (pe_callTy (cr_setS rfl) (by rfl) G.set PyProof.Rows.boot_set (pa_cons (pv 0) pa_nil)) pa_nil)))
        (blkOk_by (own := [("letter", 1)]) (N := ["presses", "letter"]) (sc := defScope sCts) (by decide +kernel)) (fun _ _ _ _ _ => pg_name (i := 1) scCts.nd rfl (Or.inl rfl)) (fun _ _ _ _ _ => pts_nil)
        (fun _ _ _ _ _ => pv 1) (fun _ _ _ _ _ => pe_has hC hr (pa_cons (pv 0) (pa_cons (pv 1) pa_nil)))))), ?_⟩
    refine ⟨_, rfl, l, rfl, hl, hn, fun H1 s1 => ?_⟩
    refine ⟨_, rfl, T l, rfl, (by rw [T_size]; unfold scanBound; omega), fun a ha => ?_⟩
    have h64 : (putsS [] (T l).cps.toList).length < 64 := Nat.lt_of_le_of_lt (few_low hl) (by decide)
    refine ⟨a, _, rfl, upd_same, h64, fun ys p hys hso hp => ?_⟩
    have ey := sorted_letters hl.ltr hys hso
    subst ey
    refine ⟨p, rfl, ⟨_, SqL.of upd_same⟩, fun D hD => ?_⟩
    have npD : p ≠ D := fun z => by rw [← z, upd_same] at hD; cases hD
    have hDa : upd H1 a (SetTO w true (putsS [] (T l).cps.toList) a) D = none := by rw [upd_ne (Ne.symm npD)] at hD; exact hD
    have naD : a ≠ D := fun z => by rw [← z, upd_same] at hDa; cases hDa
    have hD1 : H1 D = none := by rw [upd_ne (Ne.symm naD)] at hDa; exact hDa
    have hp1 : H1 p = none := by
      have : p ≠ a := fun z => by rw [z, upd_same] at hp; cases hp
      rw [upd_ne this] at hp; exact hp
    have hsz : (letters l).length ≤ 128 := by
      unfold letters
      refine Nat.le_trans (List.length_filter_le _ _) ?_
      rw [List.length_range]
      exact Nat.le_refl _
    refine dc_it (walk_list (K := K) (a := p) (xs := ((letters l).map sg).map V.str)) (fun i H2 => Same H1 H2 ∧ H2 p = some (.lst (((letters l).map sg).map V.str)) ∧ H2 D = some (.dK (talK (((letters l).take i).map fun c => (c, (M l).count c)))))
      ⟨(same_new ha).trans ((same_new hp).trans (same_new hD)), by rw [upd_ne npD]; exact upd_same, upd_same⟩ (fun i H2 _ q => SqL.of q.2.1) ?_ ?_
    · rintro i x H2 H3 hi ⟨s2, h2p, h2D⟩ ⟨rfl, hx⟩
      rw [List.length_map, List.length_map] at hi
      have hci : (letters l)[i]? = some (letters l)[i] := List.getElem?_eq_getElem hi
      generalize (letters l)[i] = c at hci
      have hcm : c ∈ l := (mem_letters fun a ha => (hl.ltr a ha).2).mp (List.mem_of_getElem? hci)
      rw [List.getElem?_map, List.getElem?_map, hci] at hx
      have hx' : V.str (sg c) = x := Option.some.inj hx
      subst hx'
      rw [sg_pos (hl.ltr c hcm).1]
      refine ⟨rfl, ?_⟩
      dsimp only [tYes]
      rw [if_pos rfl]
      refine ⟨_, rfl, _, rfl, _, rfl, l, c, rfl, hn, hcm, fun H4 s4 => ?_⟩
      refine ⟨_, (Sum.inr (T [c]) : Key), rfl, s4 _ _ h2D, ?_, fun b o e => ?_, by rw [upd_ne npD]; exact s4 _ _ h2p, ?_⟩
      · unfold talK
        rw [List.length_map, List.length_map, List.length_take]
        exact small1000 (by omega)
      · rw [upd_ne (ne_of_none e hD1)]; exact s4 _ _ (s2 _ _ e)
      · rw [upd_same]
        have hnew : valV (talK (((letters l).take i).map fun c => (c, (M l).count c))) (Sum.inr (T [c]) : Key) = none := by
          unfold valV
          rw [Option.map_eq_none_iff, List.find?_eq_none]
          intro q hq
          unfold talK at hq
          rw [List.map_map, List.mem_map] at hq
          obtain ⟨d, hd, rfl⟩ := hq
          show ¬ (decide ((Sum.inr (sg d) : Key) = Sum.inr (T [c])) = true)
          rw [← sg_pos (hl.ltr c hcm).1]
          intro z
          have hdc : d = c := kin_sg.mp (of_decide_eq_true z)
          subst hdc
          obtain ⟨j, hj, hjd⟩ := List.getElem_of_mem hd
          rw [List.length_take] at hj
          rw [List.getElem_take] at hjd
          have hjl : j < (letters l).length := by omega
          have hil := (List.getElem?_eq_some_iff.mp hci).2
          have := List.pairwise_iff_getElem.mp (letters_lt l) j i hjl hi (by omega)
          omega
        rw [putK_new _ hnew, List.take_add_one, hci]
        unfold talK
        rw [List.map_append, List.map_append]
        show some (HO.dK (_ ++ [((Sum.inr (T [c]) : Key), V.int ((M l).count c : Nat))])) = some (HO.dK (_ ++ [((Sum.inr (sg c) : Key), V.int ((M l).count c : Nat))]))
        rw [sg_pos (hl.ltr c hcm).1]
    · rintro H2 ⟨s2, h2p, h2D⟩
      rw [List.length_map, List.length_map, List.take_length] at h2D
      exact k D H2 (s1.trans s2) (s1.free hD1) h2D
end
end Mw

namespace Mw
open PySem L2 Mp TL
/-- a method of Copies that keeps its promise -/
structure HasM (P : Program) (w : World) (K : PySem.W.Frag) (mg : Str → Option Value) (base : Heap) (k : Nat) (C : Addr) (m : Str) (ps : List Str) (sp : Sp) : Prop where
  ex : ∃ f fd, Meth K C m f ∧ Binds K fd ps [] ∧ FnOk P w K mg base CX0 k f fd ps sp
theorem pe_hasM {X : Cx} {k : Nat} {C : Addr} {m : Str} {ps : List Str} {sp : Sp} {apos pos : Pos} {o e : Expr} {es : List Expr} {ta : TE} {t : TA} {pl : Sem Bool} (h : HasM X.prog X.w X.K X.mg X.base k C m ps sp) (hr : Room k X.A) (he : PE X o ta) (c : Cls X.K C) (ha : PA X (e :: es) t)
    (hst : starEach (e :: es) X.env = (false, eval e X.env) :: starEach es X.env := by rfl) (hpl : (backTo pos (starEach es X.env)).any (·.1) = false := by rfl)
    (ht : eval (.Call (.Attribute o m apos) (e :: es) [] pos) X.env = (do
      let ov ← eval o X.env
      standAt apos.atName
      let (f, first) ← holding [ov] (getMethod ov m pl)
      callWith pos f first (backTo pos (starEach (e :: es) X.env)) (backToKw pos (keywordEach [] X.env))) := by rfl) :
    PE X (.Call (.Attribute o m apos) (e :: es) [] pos) (tMeth C m sp [] E0 ta t) := by
  obtain ⟨f, fd, hm, hb, F⟩ := h.ex
  exact pe_meth he c hm F hr hb .nil pass0 ha hst hpl ht
/-- what the top has written of Copies -/
structure TxtC (K : PySem.W.Frag) (mg : Str → Option Value) (C : Addr) : Prop where
  cl : Cls K C
  nP : NoAttr K C "copy_presses"
  nL : NoAttr K C "copy_lengths"
  nS : NoAttr K C "copy_shared"
  mgC : mg "Copies" = some (.ref C)
/-! ### a Copies between two calls -/
theorem kPL : ¬ (("copy_presses" : Str) = "copy_lengths") := by decide +kernel
theorem kPS : ¬ (("copy_presses" : Str) = "copy_shared") := by decide +kernel
theorem kLS : ¬ (("copy_lengths" : Str) = "copy_shared") := by decide +kernel
def cfl (v : W) (a b : Addr) : List (Str × V) := [("copy_presses", .str (T v)), ("copy_lengths", .ref a), ("copy_shared", .ref b)]
theorem cfl_P (v : W) (a b : Addr) : (cfl v a b).lookup ("copy_presses" : Str) = some (.str (T v)) := by
  rw [cfl, List.lookup_cons]
  simp
theorem cfl_L (v : W) (a b : Addr) : (cfl v a b).lookup ("copy_lengths" : Str) = some (.ref a) := by
  rw [cfl, List.lookup_cons, List.lookup_cons]
  have : (("copy_lengths" : Str) == ("copy_presses" : Str)) = false := by decide +kernel
  rw [this]
  simp
theorem cfl_S (v : W) (a b : Addr) : (cfl v a b).lookup ("copy_shared" : Str) = some (.ref b) := by
  rw [cfl, List.lookup_cons, List.lookup_cons, List.lookup_cons]
  have h1 : (("copy_shared" : Str) == ("copy_presses" : Str)) = false := by decide +kernel
  have h2 : (("copy_shared" : Str) == ("copy_lengths" : Str)) = false := by decide +kernel
  rw [h1, h2]
  simp
theorem cfl_no {v : W} {a b : Addr} {m : Str} (h1 : (m == ("copy_presses" : Str)) = false) (h2 : (m == ("copy_lengths" : Str)) = false) (h3 : (m == ("copy_shared" : Str)) = false) : (cfl v a b).lookup m = none := by
  rw [cfl, List.lookup_cons, List.lookup_cons, List.lookup_cons, h1, h2, h3]
  rfl
def cf1 (v : W) : List (Str × V) := [(("copy_presses" : Str), V.str (T v))]
def cf2 (v : W) (a : Addr) : List (Str × V) := [(("copy_presses" : Str), V.str (T v)), (("copy_lengths" : Str), V.ref a)]
theorem put1 (v : W) : putF "copy_presses" (V.str (T v)) [] = cf1 v := rfl
theorem put2 (v : W) (a : Addr) : putF "copy_lengths" (V.ref a) (cf1 v) = cf2 v a := by
  show (if ("copy_presses" : Str) = "copy_lengths" then [(("copy_lengths" : Str), V.ref a)] else (("copy_presses" : Str), V.str (T v)) :: putF "copy_lengths" (V.ref a) []) = _
  rw [if_neg kPL]
  rfl
theorem put3 (v : W) (a b : Addr) : putF "copy_shared" (V.ref b) (cf2 v a) = cfl v a b := by
  show (if ("copy_presses" : Str) = "copy_shared" then (("copy_shared" : Str), V.ref b) :: [(("copy_lengths" : Str), V.ref a)] else (("copy_presses" : Str), V.str (T v)) :: (if ("copy_lengths" : Str) = "copy_shared" then [(("copy_shared" : Str), V.ref b)] else (("copy_lengths" : Str), V.ref a) :: putF "copy_shared" (V.ref b) [])) = _
  rw [if_neg kPS, if_neg kLS]
  rfl
/-- the shared lengths of the first n presses -/
def LShare (v : W) (n : Nat) (xs : List V) : Prop := xs.length = n ∧ ∀ k, k < n → (IsNew v k ∧ xs[k]? = some .non) ∨ ∃ j : Nat, IsLast v k j ∧ xs[k]? = some (.int (L (v.take j) : Nat))
theorem LShare.new {v : W} {n : Nat} {xs : List V} (h : LShare v n xs) (hn : IsNew v n) : LShare v (n + 1) (xs ++ [.non]) := by
  refine ⟨by rw [List.length_append, h.1]; rfl, fun k hk => ?_⟩
  by_cases hk' : k < n
  · rw [List.getElem?_append_left (by rw [h.1]; exact hk')]
    exact h.2 k hk'
  · have : k = n := by omega
    subst this
    exact .inl ⟨hn, by rw [List.getElem?_append_right (by rw [h.1]; exact Nat.le_refl _), h.1, Nat.sub_self]; rfl⟩
theorem LShare.old {v : W} {n j : Nat} {xs : List V} (h : LShare v n xs) (hn : IsLast v n j) : LShare v (n + 1) (xs ++ [.int (L (v.take j) : Nat)]) := by
  refine ⟨by rw [List.length_append, h.1]; rfl, fun k hk => ?_⟩
  by_cases hk' : k < n
  · rw [List.getElem?_append_left (by rw [h.1]; exact hk')]
    exact h.2 k hk'
  · have : k = n := by omega
    subst this
    exact .inr ⟨j, hn, by rw [List.getElem?_append_right (by rw [h.1]; exact Nat.le_refl _), h.1, Nat.sub_self]; rfl⟩
structure CopAt (C : Addr) (H : Hp) (p : Addr) (v : W) : Prop where
  ex : ∃ dx a b xs, H p = some (.ins C dx (cfl v a b)) ∧ H a = some (.lst ((lensI v (v.length + 1)).map V.int)) ∧ H b = some (.lst xs) ∧ LShare v v.length xs
theorem CopAt.same {C : Addr} {H H' : Hp} {p : Addr} {v : W} (c : CopAt C H p v) (s : Same H H') : CopAt C H' p v := by
  obtain ⟨dx, a, b, xs, h1, h2, h3, h4⟩ := c.ex
  exact ⟨dx, a, b, xs, s _ _ h1, s _ _ h2, s _ _ h3, h4⟩
section
variable {P : Program} {w : World} {K : PySem.W.Frag} {mg : Str → Option Value} {base : Heap} {C : Addr}
abbrev cIni : Stmt := inClass (top 27) 0
abbrev cLen : Stmt := inClass (top 27) 1
abbrev cSiz : Stmt := inClass (top 27) 2
abbrev cHea : Stmt := inClass (top 27) 5
abbrev cMid : Stmt := inClass (top 27) 6
/-! ### Copies.__init__: level 3 -/
def spIni (C : Addr) : Sp := fun vs H Q _ => ∃ (p dx : Addr) (v : W), vs = [.ref p, .str (T v)] ∧ H p = some (.ins C dx []) ∧ Low v ∧ v.length ≤ 200 ∧ ∀ H', CopAt C H' p v → (∀ b o, H b = some o → b ≠ p → H' b = some o) → Q .non H'
theorem scIni : FnScope ["self", "presses", "many", "letter", "at", "whole", "shared"] ["self", "presses"] (defScope cIni) := ⟨rfl, rfl, rfl, by decide +kernel, rfl, by decide +kernel, by decide +kernel⟩
theorem ok_ini {f : Addr} {fd : FuncData} (F : Fun K "__init__" "Copies.__init__" cIni f fd) (G : Txt K mg) (GC : TxtC K mg C) (hN : Has P w K mg base 2 "need_presses" ["thing"] spNeP) : FnOk P w K mg base CX0 3 f fd ["self", "presses"] (spIni C) := by
  refine F.ok scIni (fun vs H Q E h => ?_) (fun cdv A outer s H vs Q E hr h => ?_)
  · obtain ⟨p, dx, v, rfl, _⟩ := h
    rfl
  · obtain ⟨p, dx, v, rfl, hp, hl, hn, k⟩ := h
    refine ⟨_, pss_cons (ps_expr (pe_has hN hr (pa_cons (pv 1) pa_nil)))
      (pss_cons (ps_fld (pv 0) (pv 1) rfl)
      (pss_cons (ps_fld (pv 0) (pe_lst (pa_cons pe_int pa_nil)) rfl)
      (pss_cons (ps_fld (pv 0) (pe_lst pa_nil) rfl)
      (pss_one (ps_for PassesOwn.never rfl (pi_enumS (by rfl) G.enu (pa_cons (pv 1) pa_nil))
        (pg_tup rfl (pgs_cons (pg_name (i := 2) scIni.nd rfl (.inl rfl)) (pgs_cons (pg_name (i := 3) scIni.nd rfl (.inl rfl)) pgs_nil)))
        (pss_cons (ps_par (i := 4) (j := 5) rfl scIni.nd rfl rfl (by decide) rfl rfl (pa_cons (pe_bm PySem.F.plainAttrs_str PySem.F.slot_str_rfind PySem.F.type_str_rfind mt_rfind4 (pv 1) (pa_cons (pv 3) (pa_cons pe_int (pa_cons (pv 2) pa_nil)))) (pa_cons (pe_ix ix_list (pe_fld (pv 0) rfl) (pe_un un_neg pe_int) (fun _ _ => rfl)) pa_nil)) (by rfl))
        (pss_cons (ps_set (i := 6) scIni.nd rfl (.inl rfl) (pe_ifExp (pt_cmpR op_lt (pv 4) pe_int (nomark _)) pe_non (pe_ix ix_list (pe_fld (pv 0) rfl) (pv 4) (fun _ _ => rfl))))
        (pss_cons (ps_expr (pe_app (pe_fld (pv 0) rfl) (pv 6)))
        (pss_one (ps_expr (pe_app (pe_fld (pv 0) rfl) (pe_ifExp (pt_cmp (pc_isN (pv 6))) (pe_op op_add (pe_op op_mul pe_int (pv 5)) pe_int) (pe_op op_sub (pe_op op_mul pe_int (pv 5)) (pv 6)))))))))))))), ?_⟩
    refine ⟨_, rfl, v, rfl, hl, hn, fun H1 s1 => ?_⟩
    refine ⟨_, rfl, _, rfl, p, C, dx, _, rfl, s1 _ _ hp, GC.cl, GC.nP, (by show 0 < 1000; decide), ?_⟩
    rw [put1]
    refine ⟨by decide, fun a ha => ?_⟩
    have npa : p ≠ a := ne_of_none upd_same ha
    refine ⟨_, rfl, p, C, dx, _, rfl, (by rw [upd_ne npa]; exact upd_same), GC.cl, GC.nL, (by show 1 < 1000; decide), ?_⟩
    rw [put2]
    refine ⟨by decide, fun b hb => ?_⟩
    have npb : p ≠ b := ne_of_none upd_same hb
    have nab : a ≠ b := by
      refine ne_of_none (o := .lst [.int 0]) ?_ hb
      rw [upd_ne npa.symm]; exact upd_same
    refine ⟨_, rfl, p, C, dx, _, rfl, (by rw [upd_ne npb]; exact upd_same), GC.cl, GC.nS, (by show 2 < 1000; decide), ?_⟩
    rw [put3]
    have hb1 : H1 b = none := by
      rw [upd_ne npb.symm, upd_ne nab.symm, upd_ne npb.symm] at hb; exact hb
    have ha1 : H1 a = none := by rw [upd_ne npa.symm] at ha; exact ha
    have keep : ∀ c o, H c = some o → c ≠ p → c ≠ a ∧ c ≠ b := fun c o e hc => ⟨ne_of_none (s1 _ _ e) ha1, ne_of_none (s1 _ _ e) hb1⟩
    refine ⟨_, rfl, T v, rfl, for_it walk_enumS (fun i σ H2 => ∃ x2 x3 x4 x5 x6 xs, σ = [some (.ref p), some (.str (T v)), x2, x3, x4, x5, x6] ∧ H2 p = some (.ins C dx (cfl v a b)) ∧ H2 a = some (.lst ((lensI v (i + 1)).map V.int)) ∧ H2 b = some (.lst xs) ∧ LShare v i xs ∧ (∀ c o, H c = some o → c ≠ p → H2 c = some o))
      ⟨none, none, none, none, none, [], rfl, upd_same, ?_, by rw [upd_ne npb.symm]; exact upd_same, ⟨rfl, fun k hk => absurd hk (Nat.not_lt_zero k)⟩, fun c o e hc => ?_⟩ (fun _ _ _ _ _ => True.intro) ?_ ?_⟩
    · rw [upd_ne npa.symm, upd_ne nab, upd_ne npa.symm, upd_same]
      rfl
    · obtain ⟨h1, h2⟩ := keep c o e hc
      rw [upd_ne hc, upd_ne h2, upd_ne hc, upd_ne h1, upd_ne hc]
      exact s1 _ _ e
    · rintro i x σ H2 H3 hi ⟨x2, x3, x4, x5, x6, xs, rfl, hp2, ha2, hb2, LS, kp⟩ ⟨Ta, c, rfl, hT, rfl, hc⟩
      rw [T_size] at hi
      rw [T_get] at hc
      have nTp : p ≠ Ta := ne_of_none hp2 hT
      have nTa : a ≠ Ta := ne_of_none ha2 hT
      have nTb : b ≠ Ta := ne_of_none hb2 hT
      have gp := (upd_ne (H := H2) (o := HO.tup [V.int (i : Nat), V.str ⟨#[c]⟩]) nTp).trans hp2
      have ga := (upd_ne (H := H2) (o := HO.tup [V.int (i : Nat), V.str ⟨#[c]⟩]) nTa).trans ha2
      have gb := (upd_ne (H := H2) (o := HO.tup [V.int (i : Nat), V.str ⟨#[c]⟩]) nTb).trans hb2
      have gk : ∀ d o, H d = some o → d ≠ p → upd H2 Ta (HO.tup [V.int (i : Nat), V.str ⟨#[c]⟩]) d = some o := fun d o e hd => by
        have := kp d o e hd
        rw [upd_ne (ne_of_none this hT)]; exact this
      refine ⟨Ta, _, rfl, SqT.of upd_same, rfl, _, _, rfl, _, _, rfl, rfl, ?_⟩
      generalize upd H2 Ta (HO.tup [V.int (i : Nat), V.str ⟨#[c]⟩]) = H4 at gp ga gb gk
      have hlx : xs.length < sizeLine := small1000 (by rw [LS.1]; omega)
      have hll : ((lensI v (i + 1)).map V.int).length < sizeLine := by rw [List.length_map, lensI_len]; exact small1000 (by omega)
      refine ⟨_, rfl, rfl, _, rfl, _, rfl, T v, T [c], 0, (i : Nat), rfl, rfl, ?_⟩
      refine ⟨_, rfl, p, C, dx, _, _, rfl, gp, GC.cl, GC.nL, cfl_L _ _ _, 1, rfl, a, _, _, _, rfl, rfl, SqL.of ga, lensV_last v i, _, _, rfl, ?_⟩
      have fin : ∀ (z : V) (n : Int), LShare v (i + 1) (xs ++ [z]) → n = (L (v.take (i + 1)) : Nat) → ∀ x4 x5, ∃ x2 x3 x4' x5' x6 xs', ([some (.ref p), some (.str (T v)), some (.int (i : Nat)), some (.str (T [c])), x4, x5, some z] : St) = [some (.ref p), some (.str (T v)), x2, x3, x4', x5', x6] ∧
          (upd (upd H4 b (.lst (xs ++ [z]))) a (.lst ((lensI v (i + 1)).map V.int ++ [V.int n]))) p = some (.ins C dx (cfl v a b)) ∧ (upd (upd H4 b (.lst (xs ++ [z]))) a (.lst ((lensI v (i + 1)).map V.int ++ [V.int n]))) a = some (.lst ((lensI v (i + 1 + 1)).map V.int)) ∧
          (upd (upd H4 b (.lst (xs ++ [z]))) a (.lst ((lensI v (i + 1)).map V.int ++ [V.int n]))) b = some (.lst xs') ∧ LShare v (i + 1) xs' ∧ (∀ d o, H d = some o → d ≠ p → (upd (upd H4 b (.lst (xs ++ [z]))) a (.lst ((lensI v (i + 1)).map V.int ++ [V.int n]))) d = some o) := fun z n hz hn' x4 x5 => by
        refine ⟨_, _, _, _, _, _, rfl, by rw [upd_ne npa, upd_ne npb]; exact gp, ?_, by rw [upd_ne nab.symm, upd_same], hz, fun d o e hd => ?_⟩
        · rw [upd_same, lensI_succ v (i + 1), List.map_append, hn']; rfl
        · obtain ⟨h1, h2⟩ := keep d o e hd
          rw [upd_ne h1, upd_ne h2]; exact gk d o e hd
      rcases rfind_T (m := v) (c := c) (n := i) (by omega) with ⟨e1, e2⟩ | ⟨j, e1, e2, e3, e4⟩
      · rw [e1]
        have hnw : IsNew v i := fun k hk => by rw [hc]; exact e2 k hk
        refine ⟨_, rfl, _, 0, rfl, rfl, _, rfl, iteT ?_⟩
        refine ⟨_, rfl, p, C, dx, _, _, rfl, gp, GC.cl, GC.nS, cfl_S _ _ _, .inl ⟨rfl, _, SqL.of gb⟩, _, rfl, b, _, _, rfl, rfl, gb, hlx, ?_⟩
        refine ⟨_, rfl, p, C, dx, _, _, rfl, (by rw [upd_ne npb]; exact gp), GC.cl, GC.nL, cfl_L _ _ _, .inl ⟨rfl, _, SqL.of (by rw [upd_ne nab]; exact ga)⟩, ?_⟩
        refine ⟨_, rfl, _, rfl, iteT ?_⟩
        refine ⟨_, rfl, 2, _, rfl, rfl, .inl ⟨by decide, by decide⟩, _, 1, rfl, rfl, a, _, _, rfl, rfl, (by rw [upd_ne nab]; exact ga), hll, ?_⟩
        exact fin .non _ (LS.new hnw) (by rw [len_new hc hnw]; omega) _ _
      · rw [e1]
        have hlt : IsLast v i j := ⟨e2, by rw [hc]; exact e3, fun k h1 h2 => by rw [hc]; exact e4 k h1 h2⟩
        obtain ⟨l1, l2⟩ := len_old hc hlt
        refine ⟨_, rfl, _, 0, rfl, rfl, _, rfl, ?_⟩
        rw [decide_eq_false (by omega : ¬ ((j : Nat) : Int) < 0)]
        refine iteF ?_
        refine ⟨_, rfl, p, C, dx, _, _, rfl, gp, GC.cl, GC.nL, cfl_L _ _ _, _, rfl, a, _, _, _, rfl, rfl, SqL.of ga, atI_nat (lensV_get (i := j) (by omega)), ?_⟩
        refine ⟨_, rfl, p, C, dx, _, _, rfl, gp, GC.cl, GC.nS, cfl_S _ _ _, .inl ⟨rfl, _, SqL.of gb⟩, _, rfl, b, _, _, rfl, rfl, gb, hlx, ?_⟩
        refine ⟨_, rfl, p, C, dx, _, _, rfl, (by rw [upd_ne npb]; exact gp), GC.cl, GC.nL, cfl_L _ _ _, .inl ⟨rfl, _, SqL.of (by rw [upd_ne nab]; exact ga)⟩, ?_⟩
        refine ⟨_, rfl, _, rfl, iteF ?_⟩
        refine ⟨_, rfl, 2, _, rfl, rfl, .inl ⟨by decide, by decide⟩, _, rfl, _, _, rfl, rfl, a, _, _, rfl, rfl, (by rw [upd_ne nab]; exact ga), hll, ?_⟩
        exact fin (.int (L (v.take j) : Nat)) _ (LS.old hlt) (by omega) _ _
    · rintro σ H2 ⟨x2, x3, x4, x5, x6, xs, rfl, hp2, ha2, hb2, LS, kp⟩
      rw [T_size] at ha2 LS
      exact k H2 ⟨dx, a, b, xs, hp2, ha2, hb2, LS⟩ kp
end
end Mw

namespace Mw
open PySem L2 Mp TL
section
variable {P : Program} {w : World} {K : PySem.W.Frag} {mg : Str → Option Value} {base : Heap} {C : Addr}
/-! ### __len__, size: level 1 -/
def spCln (C : Addr) : Sp := fun vs H Q _ => ∃ (p : Addr) (v : W), vs = [.ref p] ∧ CopAt C H p v ∧ v.length ≤ 200 ∧ Q (.int (v.length : Nat)) H
theorem scCln : FnScope ["self"] ["self"] (defScope cLen) := ⟨rfl, rfl, rfl, by decide +kernel, rfl, by decide +kernel, by decide +kernel⟩
theorem ok_cln {f : Addr} {fd : FuncData} (F : Fun K "__len__" "Copies.__len__" cLen f fd) (G : Txt K mg) (GC : TxtC K mg C) : FnOk P w K mg base CX0 1 f fd ["self"] (spCln C) := by
  refine F.ok scCln (fun vs H Q E h => ?_) (fun cdv A outer s H vs Q E hr h => ?_)
  · obtain ⟨p, v, rfl, _⟩ := h
    rfl
  · obtain ⟨p, v, rfl, c, hn, k⟩ := h
    obtain ⟨dx, a, b, xs, h1, h2, h3, h4⟩ := c.ex
    refine ⟨_, pss_one (ps_ret (pe_callB call_len_str (by rfl) G.len PySem.boot_len (pa_cons (pe_fld (pv 0) rfl) pa_nil))), ?_⟩
    refine ⟨_, rfl, p, C, dx, _, _, rfl, h1, GC.cl, GC.nP, cfl_P _ _ _, T v, rfl, len_text (by omega), ?_⟩
    rw [T_len]
    exact k
def spSiz (C : Addr) : Sp := fun vs H Q _ => ∃ (p : Addr) (v : W) (i : Nat), vs = [.ref p, .int (i : Nat)] ∧ CopAt C H p v ∧ i ≤ v.length ∧ Q (.int (L (v.take i) : Nat)) H
theorem scSiz : FnScope ["self", "many"] ["self", "many"] (defScope cSiz) := ⟨rfl, rfl, rfl, by decide +kernel, rfl, by decide +kernel, by decide +kernel⟩
theorem ok_siz {f : Addr} {fd : FuncData} (F : Fun K "size" "Copies.size" cSiz f fd) (G : Txt K mg) (GC : TxtC K mg C) : FnOk P w K mg base CX0 1 f fd ["self", "many"] (spSiz C) := by
  refine F.ok scSiz (fun vs H Q E h => ?_) (fun cdv A outer s H vs Q E hr h => ?_)
  · obtain ⟨p, v, i, rfl, _⟩ := h
    rfl
  · obtain ⟨p, v, i, rfl, c, hi, k⟩ := h
    obtain ⟨dx, a, b, xs, h1, h2, h3, h4⟩ := c.ex
    refine ⟨_, pss_one (ps_ret (pe_ix ix_list (pe_fld (pv 0) rfl) (pv 1) (fun _ _ => rfl))), ?_⟩
    exact ⟨_, rfl, p, C, dx, _, _, rfl, h1, GC.cl, GC.nL, cfl_L _ _ _, _, rfl, a, _, _, _, rfl, rfl, SqL.of h2, atI_nat (lensV_get (i := i) (by omega)), k⟩

/-! ### head: level 1 -/
def spHea (C : Addr) : Sp := fun vs H Q _ => ∃ (p : Addr) (v : W) (n : Nat), vs = [.ref p, .int (n : Nat)] ∧ CopAt C H p v ∧ v.length ≤ 200 ∧ n ≤ 1000 ∧ ∀ H', Same H H' → Q (.str (T ((M v).take n))) H'
theorem scHea : FnScope ["self", "many", "found", "letter", "shared"] ["self", "many"] (defScope cHea) := ⟨rfl, rfl, rfl, by decide +kernel, rfl, by decide +kernel, by decide +kernel⟩
theorem ok_hea {f : Addr} {fd : FuncData} (F : Fun K "head" "Copies.head" cHea f fd) (G : Txt K mg) (GC : TxtC K mg C) : FnOk P w K mg base CX0 1 f fd ["self", "many"] (spHea C) := by
  refine F.ok scHea (fun vs H Q E h => ?_) (fun cdv A outer s H vs Q E hr h => ?_)
  · obtain ⟨p, v, n, rfl, _⟩ := h
    rfl
  · obtain ⟨p, v, n, rfl, c, hv, hn, k⟩ := h
    obtain ⟨dx, a, b, xs, h1, h2, h3, h4⟩ := c.ex
    refine ⟨_, pss_cons (ps_set (i := 2) scHea.nd rfl (.inl rfl) pe_str)
      (pss_cons (ps_for PassesOwn.never rfl (pi_zipS (by rfl) G.zip (pa_cons (pe_fld (pv 0) rfl) (pa_cons (pe_fld (pv 0) rfl) pa_nil)))
        (pg_tup rfl (pgs_cons (pg_name (i := 3) scHea.nd rfl (.inl rfl)) (pgs_cons (pg_name (i := 4) scHea.nd rfl (.inl rfl)) pgs_nil)))
        (pss_cons (ps_if (pt_cmpR op_ge (pe_callB call_len_str (by rfl) G.len PySem.boot_len (pa_cons (pv 2) pa_nil)) (pv 1) (nomark _)) (pss_one ps_break) pss_nil)
        (pss_one (ps_aug (i := 2) scHea.nd rfl (.inl rfl) (pe_ifExp (pt_cmp (pc_isN (pv 4))) (pe_op op_add_str (pv 3) (pv 2)) (pe_slice sl_str (pv 2) (po_some (pv 4)) po_none)) iop_add_str))))
      (pss_one (ps_ret (pe_slice sl_str (pv 2) po_none (po_some (pv 1)))))), ?_⟩
    refine ⟨_, rfl, p, C, dx, _, _, rfl, h1, GC.cl, GC.nP, cfl_P _ _ _, _, rfl, p, C, dx, _, _, rfl, h1, GC.cl, GC.nS, cfl_S _ _ _, T v, b, xs, rfl, SqL.of h3, ?_⟩
    have out : ∀ i : Nat, (i = v.length ∨ n ≤ L (v.take i)) → (M (v.take i)).take n = (M v).take n := fun i hi => by
      rcases hi with h | h
      · rw [h, List.take_length]
      · obtain ⟨d, e⟩ := M_prefix (v.take i) (v.drop i)
        rw [List.take_append_drop] at e
        rw [e, List.take_append_of_le_length h]
    refine for_it (walk_zipS (by rw [T_size]; exact h4.1)) (fun i σ H1 => ∃ x3 x4, σ = [some (.ref p), some (.int (n : Nat)), some (.str (T (M (v.take i)))), x3, x4] ∧ Same H H1 ∧ L (v.take i) ≤ 2 * n + 1) ⟨none, none, rfl, Same.refl H, by simp [L, M]⟩ (fun i σ H1 _ ⟨_, _, _, s1, _⟩ => SqL.of (s1 _ _ h3)) ?_ ?_
    · rintro i x σ H1 H2 hi ⟨x3, x4, rfl, s1, hL⟩ ⟨Ta, c, y, rfl, hT, rfl, hc, hy⟩
      rw [T_size] at hi
      rw [T_get] at hc
      have s2 := s1.trans (same_new (o := HO.tup [V.str ⟨#[c]⟩, y]) hT)
      refine ⟨Ta, _, rfl, SqT.of upd_same, rfl, _, _, rfl, _, _, rfl, rfl, ?_⟩
      have hlen : (T (M (v.take i))).length ≤ sizeLine := len_text (by show L (v.take i) ≤ _; omega)
      refine ⟨_, rfl, T (M (v.take i)), rfl, hlen, _, rfl, _, _, rfl, rfl, _, rfl, ?_⟩
      rw [T_len]
      refine ite2 (fun hge => ?_) (fun hlt => ?_)
      · have hge' : n ≤ L (v.take i) := by
          have := of_decide_eq_true hge
          show n ≤ (M (v.take i)).length
          omega
        refine ⟨_, rfl, _, rfl, (n : Nat), rfl, T (M (v.take i)), rfl, hlen, ?_⟩
        rw [cut_to, out i (.inr hge')]
        exact k _ s2
      · have hlt' : L (v.take i) < n := by
          refine Nat.lt_of_not_le fun z => hlt (decide_eq_true ?_)
          show ((n : Nat) : Int) ≤ ((M (v.take i)).length : Nat)
          have : n ≤ (M (v.take i)).length := z
          omega
        rcases h4.2 i hi with ⟨hnw, hxi⟩ | ⟨j, hlst, hxi⟩
        · rw [hxi] at hy
          cases hy
          refine ⟨_, rfl, _, rfl, _, rfl, iteT ?_⟩
          refine ⟨_, rfl, _, rfl, T [c], T (M (v.take i)), rfl, rfl, (by rw [T_len]; exact Nat.le_trans (Nat.add_le_add_left (by rw [T_len]; exact Nat.le_refl _) _) (small200 (by show 1 + L (v.take i) ≤ _; omega))), T (M (v.take i)), T [c] ++ T (M (v.take i)), rfl, rfl, ?_, ?_⟩
          · rw [T_app, T_len, T_len, List.length_append]
            exact small200 (by show L (v.take i) + (1 + L (v.take i)) ≤ _; omega)
          · rw [T_app, T_app]
            refine ⟨some (.str (T [c])), some .non, ?_, s2, ?_⟩
            · rw [step_new hc hnw]; rfl
            · rw [len_new hc hnw]; omega
        · rw [hxi] at hy
          cases hy
          obtain ⟨e1, e2⟩ := len_old hc hlst
          refine ⟨_, rfl, _, rfl, _, rfl, iteF ?_⟩
          refine ⟨_, rfl, _, rfl, _, rfl, T (M (v.take i)), rfl, hlen, ?_⟩
          rw [cut_from]
          refine ⟨T (M (v.take i)), T ((M (v.take i)).drop (L (v.take j))), rfl, rfl, ?_, ?_⟩
          · rw [T_len, T_len, List.length_drop]
            exact small200 (by show L (v.take i) + (L (v.take i) - _) ≤ _; omega)
          · rw [T_app]
            refine ⟨some (.str (T [c])), some (.int (L (v.take j) : Nat)), ?_, s2, ?_⟩
            · rw [step_old hc hlst]; rfl
            · omega
    · rintro σ H1 ⟨x3, x4, rfl, s1, hL⟩
      rw [T_size] at hL ⊢
      refine ⟨_, rfl, _, rfl, (n : Nat), rfl, T (M (v.take v.length)), rfl, len_text (by show L (v.take v.length) ≤ _; omega), ?_⟩
      rw [cut_to, out v.length (.inl rfl)]
      exact k _ s1
end
end Mw

namespace Mw
open PySem L2 Mp TL
/-- the text about the midst -/
def MidT (v : W) (i n : Nat) (y : W) : Prop := (IsNew v i ∧ ∃ x, v[i]? = some x ∧ y = ((M (v.take i)).take n).reverse ++ x :: (M (v.take i)).take n) ∨
  ∃ j, IsLast v i j ∧ y = ((M (v.take i)).take n).reverse ++ ((M (v.take i)).take n).drop (L (v.take j))
theorem take_begin (v : W) (i n : Nat) : ((M v).take n).take (min (L (v.take i)) n) = (M (v.take i)).take n := by
  rw [← M_take v i, List.take_take, List.take_take]
  congr 1
  omega
section
variable {P : Program} {w : World} {K : PySem.W.Frag} {mg : Str → Option Value} {base : Heap} {C : Addr}
/-! ### midst: level 2 -/
def spMid (C : Addr) : Sp := fun vs H Q _ => ∃ (p : Addr) (v : W) (i n : Nat), vs = [.ref p, .int (i : Nat), .str (T ((M v).take n)), .int (n : Nat)] ∧ CopAt C H p v ∧ v.length ≤ 200 ∧ i < v.length ∧ n ≤ 1000 ∧
  ∀ t H' y, Same H H' → H t = none → H' t = some (.tup [.str (T y), .int ((L (v.take i) - ((M (v.take i)).take n).length : Nat) : Int)]) → MidT v i n y → Q (.ref t) H'
theorem scMid : FnScope ["self", "many", "head", "around", "size", "shared", "begin", "behind"] ["self", "many", "head", "around"] (defScope cMid) := ⟨rfl, rfl, rfl, by decide +kernel, rfl, by decide +kernel, by decide +kernel⟩
theorem ok_mid {f : Addr} {fd : FuncData} (F : Fun K "midst" "Copies.midst" cMid f fd) (G : Txt K mg) (GC : TxtC K mg C) (hS : HasM P w K mg base 1 C "size" ["self", "many"] (spSiz C)) : FnOk P w K mg base CX0 2 f fd ["self", "many", "head", "around"] (spMid C) := by
  refine F.ok scMid (fun vs H Q E h => ?_) (fun cdv A outer s H vs Q E hr h => ?_)
  · obtain ⟨p, v, i, n, rfl, _⟩ := h
    rfl
  · obtain ⟨p, v, i, n, rfl, c, hv, hi, hn, k⟩ := h
    obtain ⟨dx, a, b, xs, h1, h2, h3, h4⟩ := c.ex
    refine ⟨_, pss_cons (ps_par (i := 4) (j := 5) rfl scMid.nd rfl rfl (by decide) rfl rfl (pa_cons (pe_hasM hS hr (pv 0) GC.cl (pa_cons (pv 1) pa_nil)) (pa_cons (pe_ix ix_list (pe_fld (pv 0) rfl) (pv 1) (fun _ _ => rfl)) pa_nil)) (by rfl))
      (pss_cons (ps_set (i := 6) scMid.nd rfl (.inl rfl) (pe_slice sl_str (pv 2) po_none (po_some (pe_callB (call_min2 rfl) (by rfl) G.min PyProof.Rows.boot_min (pa_cons (pv 4) (pa_cons (pv 3) pa_nil))))))
      (pss_cons (ps_set (i := 7) scMid.nd rfl (.inl rfl) (pe_ifExp (pt_cmp (pc_isN (pv 5))) (pe_op op_add_str (pe_ix ix_str (pe_fld (pv 0) rfl) (pv 1) (fun _ _ => rfl)) (pv 6)) (pe_slice sl_str (pv 6) (po_some (pv 5)) po_none)))
      (pss_one (ps_ret (pe_tup (pa_cons (pe_op op_add_str (pe_revS (pv 6)) (pv 7)) (pa_cons (pe_op op_sub (pv 4) (pe_callB call_len_str (by rfl) G.len PySem.boot_len (pa_cons (pv 6) pa_nil))) pa_nil))))))), ?_⟩
    obtain ⟨x, hx⟩ : ∃ x, v[i]? = some x := ⟨v[i], List.getElem?_eq_getElem hi⟩
    refine ⟨_, rfl, p, dx, _, rfl, h1, cfl_no (by decide +kernel) (by decide +kernel) (by decide +kernel), _, rfl, p, v, i, rfl, c, Nat.le_of_lt hi, ?_⟩
    have hb : ((M v).take n).take (min (L (v.take i)) n) = (M (v.take i)).take n := take_begin v i n
    have hbl : ((M (v.take i)).take n).length ≤ n := List.length_take_le _ _
    have hbl2 : ((M (v.take i)).take n).length ≤ L (v.take i) := by rw [List.length_take]; exact Nat.min_le_right _ _
    have e1 : (if ((n : Nat) : Int) < ((L (v.take i) : Nat) : Int) then ((n : Nat) : Int) else ((L (v.take i) : Nat) : Int)) = ((min (L (v.take i)) n : Nat) : Int) := by split <;> omega
    have hlen : (T ((M (v.take i)).take n)).length ≤ sizeLine := len_text (by omega)
    have e2 : ((L (v.take i) : Nat) : Int) - ((T ((M (v.take i)).take n)).length : Nat) = ((L (v.take i) - ((M (v.take i)).take n).length : Nat) : Int) := by rw [T_len]; omega
    have hlen0 : (T ((M v).take n)).length ≤ sizeLine := len_text (Nat.le_trans (List.length_take_le _ _) (by omega))
    rcases h4.2 i hi with ⟨hnw, hxi⟩ | ⟨j, hlst, hxi⟩
    · refine ⟨_, rfl, p, C, dx, _, _, rfl, h1, GC.cl, GC.nS, cfl_S _ _ _, _, rfl, b, _, _, _, rfl, rfl, SqL.of h3, atI_nat hxi, _, _, rfl, ?_⟩
      refine ⟨_, rfl, _, rfl, _, rfl, _, _, rfl, ?_⟩
      rw [e1]
      refine ⟨_, rfl, T ((M v).take n), rfl, hlen0, ?_⟩
      rw [cut_to, hb]
      refine ⟨_, rfl, _, rfl, iteT ?_⟩
      refine ⟨_, rfl, p, C, dx, _, _, rfl, h1, GC.cl, GC.nP, cfl_P _ _ _, _, rfl, T v, _, _, rfl, rfl, len_text (by omega), atI_nat (v := x) hx, _, rfl, T [x], T ((M (v.take i)).take n), rfl, rfl, ?_, ?_⟩
      · rw [T_len, T_len]
        exact small200 (by rw [List.length_singleton]; omega)
      · rw [T_app]
        refine ⟨_, rfl, T ((M (v.take i)).take n), rfl, hlen, _, rfl, revS (T ((M (v.take i)).take n)), T ([x] ++ (M (v.take i)).take n), rfl, rfl, ?_, ?_⟩
        · rw [rev_T, T_len, T_len, List.length_reverse, List.length_append, List.length_singleton]
          exact small200 (by omega)
        · rw [rev_T, T_app]
          refine ⟨_, rfl, _, rfl, T ((M (v.take i)).take n), rfl, hlen, _, _, rfl, rfl, ?_⟩
          refine ⟨by show 2 ≤ sizeLine; decide, fun t ht => ?_⟩
          refine k t _ _ (same_new ht) ht ?_ (.inl ⟨hnw, x, hx, rfl⟩)
          rw [upd_same, ← e2]; rfl
    · refine ⟨_, rfl, p, C, dx, _, _, rfl, h1, GC.cl, GC.nS, cfl_S _ _ _, _, rfl, b, _, _, _, rfl, rfl, SqL.of h3, atI_nat hxi, _, _, rfl, ?_⟩
      refine ⟨_, rfl, _, rfl, _, rfl, _, _, rfl, ?_⟩
      rw [e1]
      refine ⟨_, rfl, T ((M v).take n), rfl, hlen0, ?_⟩
      rw [cut_to, hb]
      refine ⟨_, rfl, _, rfl, iteF ?_⟩
      refine ⟨_, rfl, _, rfl, _, rfl, T ((M (v.take i)).take n), rfl, hlen, ?_⟩
      rw [cut_from]
      refine ⟨_, rfl, T ((M (v.take i)).take n), rfl, hlen, _, rfl, revS (T ((M (v.take i)).take n)), T (((M (v.take i)).take n).drop (L (v.take j))), rfl, rfl, ?_, ?_⟩
      · rw [rev_T, T_len, T_len, List.length_reverse, List.length_drop]
        exact small200 (by omega)
      · rw [rev_T, T_app]
        refine ⟨_, rfl, _, rfl, T ((M (v.take i)).take n), rfl, hlen, _, _, rfl, rfl, ?_⟩
        refine ⟨by show 2 ≤ sizeLine; decide, fun t ht => ?_⟩
        refine k t _ _ (same_new ht) ht ?_ (.inr ⟨j, hlst, rfl⟩)
        rw [upd_same, ← e2]
end
end Mw

namespace Mw
open PySem L2 Mp TL
theorem mid_home {v z y : W} {i q : Nat} (hi : i < v.length) (hm : MidT v i (z.length - 1) y) (hz : z ≠ []) (hno : ¬ z <:+: M (v.take i)) (h1 : z <+: y.drop q) (h2 : q + z.length ≤ y.length) :
    IsHome v z (i + 1) (L (v.take i) - ((M (v.take i)).take (z.length - 1)).length + q) := by
  have hx : v[i]? = some v[i] := List.getElem?_eq_getElem hi
  obtain ⟨r, hr⟩ : ∃ r, (M (v.take (i + 1))).drop (L (v.take i) - ((M (v.take i)).take (z.length - 1)).length) = y ++ r := by
    rcases hm with ⟨hn, x, hx', rfl⟩ | ⟨j, hl, rfl⟩
    · exact mids_new hx' hn
    · exact mids_old hx hl
  have hlen := congrArg List.length hr
  rw [List.length_drop, List.length_append] at hlen
  have hzl := List.length_pos_iff.mpr hz
  refine ⟨hi, ?_, ?_, fun k hk hin => hno ?_⟩
  · rw [← List.drop_drop, hr, List.drop_append_of_le_length (by omega)]
    exact h1.trans (List.prefix_append _ _)
  · show _ ≤ (M (v.take (i + 1))).length
    omega
  · have e : v.take i = v.take k ++ (v.take i).drop k := by
      rw [← List.take_append_drop k (v.take i), List.take_take, Nat.min_eq_left (by omega), List.drop_append_of_le_length (by rw [List.length_take]; omega)]
      simp
    obtain ⟨d, ed⟩ := M_prefix (v.take k) ((v.take i).drop k)
    rw [← e] at ed
    rw [ed]
    exact hin.trans (List.prefix_append _ _).isInfix
theorem mid_none {v z y : W} {i : Nat} (hi : i < v.length) (hm : MidT v i (z.length - 1) y) (hz : z ≠ []) (hno : ¬ z <:+: M (v.take i)) (h1 : ¬ z <:+: y) : ¬ z <:+: M (v.take (i + 1)) := fun ho => by
  have hx : v[i]? = some v[i] := List.getElem?_eq_getElem hi
  rcases hm with ⟨hn, x, hx', rfl⟩ | ⟨j, hl, rfl⟩
  · exact h1 (mids_holds_new hx' hn hz ho hno)
  · exact h1 (mids_holds_old hx hl hz ho hno)
section
variable {P : Program} {w : World} {K : PySem.W.Frag} {mg : Str → Option Value} {base : Heap} {C : Addr}
/-! ### need_piece: level 3 -/
abbrev sNpc : Stmt := top 28
theorem scNpc : FnScope ["piece"] ["piece"] (defScope sNpc) := ⟨rfl, rfl, rfl, by decide +kernel, rfl, by decide +kernel, by decide +kernel⟩
theorem ok_npc {f : Addr} {fd : FuncData} (F : Fun K "need_piece" "need_piece" sNpc f fd) (G : Txt K mg) (hT : Has P w K mg base 2 "need_text" ["thing"] spNeP) : FnOk P w K mg base CX0 3 f fd ["piece"] spNeP := by
  refine F.ok scNpc (fun vs H Q E h => ?_) (fun cdv A outer s H vs Q E hr h => ?_)
  · obtain ⟨l, rfl, _⟩ := h
    rfl
  · obtain ⟨l, rfl, hl, hn, k⟩ := h
    obtain ⟨tz, hz⟩ := G.mC
    refine ⟨_, pss_cons (ps_if (PW.pt (pw_and (pt_val (pe_callB call_isi (by rfl) G.isi PyProof.Rows.boot_isinstance (pa_cons (pv 0) (pa_cons (pe_bltn (v := .ty "str") (by rfl) G.str PyProof.Rows.boot_str rfl) pa_nil))))
          (pw_and1 (pt_cmpR op_gt (pe_callB call_len_str (by rfl) G.len PySem.boot_len (pa_cons (pv 0) pa_nil)) (pe_glob (v := .int 200) (by rfl) hz ⟨_, rfl⟩) (nomark _))))) pss_never pss_nil)
      (pss_one (ps_expr (pe_has hT hr (pa_cons (pv 0) pa_nil)))), ?_⟩
    refine ⟨_, rfl, .str (T l), .ty "str", .type "str", .type "str", true, rfl, .ty "str", .base (.str _), kit_ty (by decide +kernel), true, rfl, iteT ?_⟩
    refine ⟨_, rfl, T l, rfl, len_text (by omega), _, _, rfl, rfl, _, rfl, ?_⟩
    rw [show decide ((200 : Int) < ((T l).length : Int)) = false from by rw [T_len]; exact decide_eq_false (by omega)]
    refine iteF ?_
    exact ⟨_, rfl, l, rfl, hl, hn, fun H' s1 => k H' s1⟩
/-! ### found_home: level 3 -/
abbrev sFho : Stmt := top 29
def spFho (C : Addr) : Sp := fun vs H Q _ => ∃ (p : Addr) (v z : W), vs = [.ref p, .str (T z)] ∧ CopAt C H p v ∧ v.length ≤ 200 ∧ z.length ≤ 200 ∧ (¬ z <:+: M v → ∀ H', Same H H' → Q .non H') ∧
  (∀ Kk a, IsHome v z Kk a → ∀ t H', Same H H' → H t = none → H' t = some (.tup [.int (Kk : Nat), .int (a : Nat)]) → Q (.ref t) H')
theorem scFho : FnScope ["copies", "piece", "head", "around", "many", "text", "begin", "at"] ["copies", "piece"] (defScope sFho) := ⟨rfl, rfl, rfl, by decide +kernel, rfl, by decide +kernel, by decide +kernel⟩
theorem ok_fho {f : Addr} {fd : FuncData} (F : Fun K "found_home" "found_home" sFho f fd) (G : Txt K mg) (GC : TxtC K mg C) (hL : HasM P w K mg base 1 C "__len__" ["self"] (spCln C)) (hH : HasM P w K mg base 1 C "head" ["self", "many"] (spHea C))
    (hM : HasM P w K mg base 2 C "midst" ["self", "many", "head", "around"] (spMid C)) : FnOk P w K mg base CX0 3 f fd ["copies", "piece"] (spFho C) := by
  refine F.ok scFho (fun vs H Q E h => ?_) (fun cdv A outer s H vs Q E hr h => ?_)
  · obtain ⟨p, v, z, rfl, _⟩ := h
    rfl
  · obtain ⟨p, v, z, rfl, c, hv, hzl, k0, k1⟩ := h
    obtain ⟨fL, fdL, mL, bL, FL⟩ := hL.ex
    obtain ⟨dx, a, b, xs, h1, h2, h3, h4⟩ := c.ex
    have hr1 : Room 1 _ := hr.mono (by decide)
    have no : ∀ m : Str, (m == ("copy_presses" : Str)) = false → (m == ("copy_lengths" : Str)) = false → (m == ("copy_shared" : Str)) = false → (cfl v a b).lookup m = none := fun m => cfl_no
    refine ⟨_, pss_cons (ps_if (pt_cmpR op_eq (pv 1) pe_str (nomark _)) (pss_one (ps_ret (pe_tup (pa_cons pe_int (pa_cons pe_int pa_nil))))) pss_nil)
      (pss_cons (ps_par (i := 2) (j := 3) rfl scFho.nd rfl rfl (by decide) rfl rfl (pa_cons (pe_hasM hH hr1 (pv 0) GC.cl (pa_cons (pe_op op_sub (pe_callB call_len_str (by rfl) G.len PySem.boot_len (pa_cons (pv 1) pa_nil)) pe_int) pa_nil))
        (pa_cons (pe_op op_sub (pe_callB call_len_str (by rfl) G.len PySem.boot_len (pa_cons (pv 1) pa_nil)) pe_int) pa_nil)) (by rfl))
      (pss_cons (ps_for PassesOwn.never rfl (pi_range1 (by rfl) G.range (pa_cons (pe_callB (call_lenOwn mL FL hr bL) (by rfl) G.len PySem.boot_len (pa_cons (pv 0) pa_nil)) pa_nil)) (pg_name (i := 4) scFho.nd rfl (.inl rfl))
        (pss_cons (ps_asg (pe_hasM hM hr (pv 0) GC.cl (pa_cons (pv 4) (pa_cons (pv 2) (pa_cons (pv 3) pa_nil)))) (pg_tup rfl (pgs_cons (pg_name (i := 5) scFho.nd rfl (.inl rfl)) (pgs_cons (pg_name (i := 6) scFho.nd rfl (.inl rfl)) pgs_nil))))
        (pss_cons (ps_set (i := 7) scFho.nd rfl (.inl rfl) (pe_m1 PySem.F.slot_str_find PySem.F.type_str_find mt_find (pv 5) (pv 1)))
        (pss_one (ps_if (pt_cmpR op_ge (pv 7) pe_int (nomark _)) (pss_one (ps_ret (pe_tup (pa_cons (pe_op op_add (pv 4) pe_int) (pa_cons (pe_op op_add (pv 6) (pv 7)) pa_nil))))) pss_nil)))))
      (pss_one (ps_ret pe_non)))), ?_⟩
    refine ⟨_, rfl, rfl, _, rfl, ?_⟩
    refine ite2 (fun hz => ?_) (fun hz => ?_)
    · have hz' : z = [] := by
        have := of_decide_eq_true hz
        injection this with this
        exact congrArg tl this
      subst hz'
      refine ⟨by show 2 ≤ sizeLine; decide, fun t ht => ?_⟩
      exact k1 0 0 (isHome_nil v) t _ (same_new ht) ht upd_same
    · have hz' : z ≠ [] := fun e => hz (by rw [e]; exact decide_eq_true rfl)
      have hzp := List.length_pos_iff.mpr hz'
      have e1 : ((T z).length : Int) - 1 = ((z.length - 1 : Nat) : Int) := by rw [T_len]; omega
      refine ⟨_, rfl, p, dx, _, rfl, h1, no _ (by decide +kernel) (by decide +kernel) (by decide +kernel), _, rfl, T z, rfl, len_text (by omega), _, 1, rfl, rfl, p, v, z.length - 1, (by rw [← e1]; rfl), c, hv, by omega, fun H1 s1 => ?_⟩
      refine ⟨_, rfl, T z, rfl, len_text (by omega), _, 1, rfl, rfl, _, _, rfl, ?_⟩
      rw [show (fun i j : Int => V.int (i - j)) ((T z).length : Int) 1 = V.int ((z.length - 1 : Nat) : Int) from congrArg V.int e1]
      refine ⟨_, rfl, p, dx, _, rfl, s1 _ _ h1, p, v, rfl, c.same s1, hv, _, rfl, by omega, by omega, _, rfl, by omega, by omega, ?_⟩
      rw [Int.toNat_natCast]
      refine for_it walk_range (fun i σ H2 => ∃ x4 x5 x6 x7, σ = [some (.ref p), some (.str (T z)), some (.str (T ((M v).take (z.length - 1)))), some (.int ((z.length - 1 : Nat) : Int)), x4, x5, x6, x7] ∧ Same H H2 ∧ ¬ z <:+: M (v.take i))
        ⟨none, none, none, none, rfl, s1, fun q => hz' (by simpa [M] using q)⟩ (fun _ _ _ _ _ => True.intro) ?_ ?_
      · rintro i x σ H2 H3 hi ⟨x4, x5, x6, x7, rfl, s2, hno⟩ ⟨rfl, hx⟩
        have hx' : x = V.int (i : Nat) := hx.trans (congrArg V.int (Int.zero_add _))
        subst hx'
        refine ⟨_, rfl, p, dx, _, rfl, s2 _ _ h1, no _ (by decide +kernel) (by decide +kernel) (by decide +kernel), _, rfl, _, rfl, _, rfl, p, v, i, z.length - 1, rfl, c.same s2, hv, hi, by omega, fun t H4 y s4 ht0 ht mid => ?_⟩
        refine ⟨t, _, rfl, SqT.of ht, rfl, _, _, rfl, _, _, rfl, rfl, ?_⟩
        refine ⟨_, rfl, ⟨_, rfl⟩, _, rfl, T y, T z, rfl, rfl, ?_⟩
        rcases find_T (m := y) hz' with ⟨e2, hn⟩ | ⟨q, e2, q1, q2, q3⟩
        · rw [e2]
          refine ⟨_, rfl, _, 0, rfl, rfl, _, rfl, iteF ?_⟩
          exact ⟨_, _, _, _, rfl, s2.trans s4, mid_none hi mid hz' hno hn⟩
        · rw [e2]
          refine ⟨_, rfl, _, 0, rfl, rfl, _, rfl, ?_⟩
          rw [decide_eq_true (by omega : (0 : Int) ≤ (q : Nat))]
          refine iteT ?_
          refine ⟨_, rfl, _, 1, rfl, rfl, _, rfl, _, rfl, _, _, rfl, rfl, by show 2 ≤ sizeLine; decide, fun t' ht' => ?_⟩
          exact k1 (i + 1) _ (mid_home hi mid hz' hno q1 q2) t' _ (s2.trans (s4.trans (same_new ht'))) (s2.trans s4 |>.free ht') upd_same
      · rintro σ H2 ⟨x4, x5, x6, x7, rfl, s2, hno⟩
        rw [List.take_length] at hno
        exact k0 hno H2 s2
end
end Mw

namespace Mw
open PySem L2 Mp TL
/-- a class of the top that can be made -/
structure HasI (P : Program) (w : World) (K : PySem.W.Frag) (mg : Str → Option Value) (base : Heap) (k : Nat) (C : Addr) (ps : List Str) (sp : Sp) : Prop where
  ex : ∃ f fd, Mk K C f ∧ Binds K fd ps [] ∧ FnOk P w K mg base CX0 k f fd ps sp
theorem pe_hasI {X : Cx} {k : Nat} {C : Addr} {ps : List Str} {sp : Sp} {x : Str} {p pos : Pos} {e : Expr} {es : List Expr} {t : TA} (h : HasI X.prog X.w X.K X.mg X.base k C ps sp) (hr : Room (k + 1) X.A) (hm : X.mg x = some (.ref C)) (ha : PA X (e :: es) t) (hg : Gl X x := by rfl)
    (hdb : (x == ("__debug__" : Str)) = false := by decide) (he : starEach (e :: es) X.env = (false, eval e X.env) :: starEach es X.env := by rfl) (hpl : (backTo pos (starEach es X.env)).any (·.1) = false := by rfl) :
    PE X (.Call (.Name x p) (e :: es) [] pos) (tMake C sp [] E0 t) := by
  obtain ⟨f, fd, M, hb, F⟩ := h.ex
  exact pe_make M F hr hg hm hb .nil pass0 ha hdb he hpl
theorem same_put {H H' : Hp} {p : Addr} (hp : H p = none) (h : ∀ b o, H b = some o → b ≠ p → H' b = some o) : Same H H' := fun b o e => h b o e (ne_of_none e hp)
section
variable {P : Program} {w : World} {K : PySem.W.Frag} {mg : Str → Option Value} {base : Heap} {C : Addr}
/-! ### home, how_often: level 5 -/
abbrev sHom : Stmt := top 30
abbrev sHow : Stmt := top 31
def spHom : Sp := fun vs H Q _ => ∃ (v z : W) (Kk a : Nat), vs = [.str (T v), .str (T z)] ∧ Low v ∧ v.length ≤ 200 ∧ Low z ∧ z.length ≤ 200 ∧ IsHome v z Kk a ∧ ∀ t H', Same H H' → H t = none → H' t = some (.tup [.int (Kk : Nat), .int (a : Nat)]) → Q (.ref t) H'
theorem scHom : FnScope ["presses", "piece", "copies", "found"] ["presses", "piece"] (defScope sHom) := ⟨rfl, rfl, rfl, by decide +kernel, rfl, by decide +kernel, by decide +kernel⟩
theorem ok_hom {f : Addr} {fd : FuncData} (F : Fun K "home" "home" sHom f fd) (G : Txt K mg) (GC : TxtC K mg C) (hI : HasI P w K mg base 3 C ["self", "presses"] (spIni C)) (hN : Has P w K mg base 3 "need_piece" ["piece"] spNeP)
    (hF : Has P w K mg base 3 "found_home" ["copies", "piece"] (spFho C)) : FnOk P w K mg base CX0 5 f fd ["presses", "piece"] spHom := by
  refine F.ok scHom (fun vs H Q E h => ?_) (fun cdv A outer s H vs Q E hr h => ?_)
  · obtain ⟨v, z, Kk, a, rfl, _⟩ := h
    rfl
  · obtain ⟨v, z, Kk, a, rfl, hv, hvl, hz, hzl, hh, k⟩ := h
    refine ⟨_, pss_cons (ps_set (i := 2) scHom.nd rfl (.inl rfl) (pe_hasI hI hr GC.mgC (pa_cons (pv 0) pa_nil)))
      (pss_cons (ps_expr (pe_has hN (hr.mono (by decide)) (pa_cons (pv 1) pa_nil)))
      (pss_cons (ps_set (i := 3) scHom.nd rfl (.inl rfl) (pe_has hF (hr.mono (by decide)) (pa_cons (pv 2) (pa_cons (pv 1) pa_nil))))
      (pss_cons (ps_if (pt_cmp (pc_isN (pv 3))) pss_never pss_nil)
      (pss_one (ps_ret (pv 3)))))), ?_⟩
    refine ⟨_, rfl, fun p dx hp hdx hne => ⟨p, dx, v, rfl, upd_same, hv, hvl, fun H1 cop kp => ⟨rfl, ?_⟩⟩⟩
    have s1 : Same H H1 := fun b o e => kp b o (by rw [upd_ne (ne_of_none e hp), upd_ne (ne_of_none e hdx)]; exact e) (ne_of_none e hp)
    refine ⟨_, rfl, z, rfl, hz, hzl, fun H2 s2 => ?_⟩
    refine ⟨_, rfl, _, rfl, p, v, z, rfl, cop.same s2, hvl, hzl, fun hno => absurd hh.stands hno, fun Kk' a' hh' t H3 s3 ht0 ht => ?_⟩
    obtain ⟨e1, e2⟩ := hh.uniq hh'
    subst e1 e2
    refine ⟨_, rfl, _, rfl, iteF ?_⟩
    exact ⟨_, rfl, k t H3 (s1.trans (s2.trans s3)) ((s1.trans s2).free ht0) ht⟩
def spHow : Sp := fun vs H Q _ => ∃ (v z : W), vs = [.str (T v), .str (T z)] ∧ Low v ∧ v.length ≤ 200 ∧ Low z ∧ z.length ≤ 200 ∧ ∀ H', Same H H' → Q (.int (cnt z (M v) : Nat)) H'
theorem scHow : FnScope ["presses", "piece", "copies", "found"] ["presses", "piece"] (defScope sHow) := ⟨rfl, rfl, rfl, by decide +kernel, rfl, by decide +kernel, by decide +kernel⟩
theorem ok_how {f : Addr} {fd : FuncData} (F : Fun K "how_often" "how_often" sHow f fd) (G : Txt K mg) (GC : TxtC K mg C) (hI : HasI P w K mg base 3 C ["self", "presses"] (spIni C)) (hN : Has P w K mg base 3 "need_piece" ["piece"] spNeP)
    (hF : Has P w K mg base 3 "found_home" ["copies", "piece"] (spFho C)) (hL : Has P w K mg base 3 "length" ["presses"] spLgt) : FnOk P w K mg base CX0 5 f fd ["presses", "piece"] spHow := by
  refine F.ok scHow (fun vs H Q E h => ?_) (fun cdv A outer s H vs Q E hr h => ?_)
  · obtain ⟨v, z, rfl, _⟩ := h
    rfl
  · obtain ⟨v, z, rfl, hv, hvl, hz, hzl, k⟩ := h
    refine ⟨_, pss_cons (ps_set (i := 2) scHow.nd rfl (.inl rfl) (pe_hasI hI hr GC.mgC (pa_cons (pv 0) pa_nil)))
      (pss_cons (ps_expr (pe_has hN (hr.mono (by decide)) (pa_cons (pv 1) pa_nil)))
      (pss_cons (ps_set (i := 3) scHow.nd rfl (.inl rfl) (pe_has hF (hr.mono (by decide)) (pa_cons (pv 2) (pa_cons (pv 1) pa_nil))))
      (pss_one (ps_ret (pe_ifExp (pt_cmp (pc_isN (pv 3))) pe_int (pe_op op_add (pe_has hL (hr.mono (by decide)) (pa_cons (pe_slice sl_str (pv 0) (po_some (pe_ix ix_tup (pv 3) pe_int (fun _ _ => rfl))) po_none) pa_nil)) pe_int)))))), ?_⟩
    refine ⟨_, rfl, fun p dx hp hdx hne => ⟨p, dx, v, rfl, upd_same, hv, hvl, fun H1 cop kp => ⟨rfl, ?_⟩⟩⟩
    have s1 : Same H H1 := fun b o e => kp b o (by rw [upd_ne (ne_of_none e hp), upd_ne (ne_of_none e hdx)]; exact e) (ne_of_none e hp)
    refine ⟨_, rfl, z, rfl, hz, hzl, fun H2 s2 => ?_⟩
    refine ⟨_, rfl, _, rfl, p, v, z, rfl, cop.same s2, hvl, hzl, fun hno H3 s3 => ?_, fun Kk a hh t H3 s3 ht0 ht => ?_⟩
    · refine ⟨_, rfl, _, rfl, iteT ?_⟩
      rw [cnt_zero hno] at k
      exact k H3 (s1.trans (s2.trans s3))
    · refine ⟨_, rfl, _, rfl, iteF ?_⟩
      refine ⟨_, rfl, _, rfl, t, _, 0, _, rfl, rfl, SqT.of ht, atI_nat (j := 0) rfl, _, rfl, T v, rfl, len_text (by omega), ?_⟩
      rw [cut_from]
      refine ⟨v.drop Kk, rfl, hv.drop Kk, by rw [List.length_drop]; omega, fun H4 s4 => ⟨_, 1, rfl, rfl, ?_⟩⟩
      rw [hh.cnt_eq] at k
      exact k H4 (s1.trans (s2.trans (s3.trans s4)))
/-! ### parted_at: level 6 -/
abbrev sPar : Stmt := top 33
def spPar : Sp := fun vs H Q _ => ∃ (v z : W) (Kk a : Nat), vs = [.str (T v), .str (T z)] ∧ Low v ∧ v.length ≤ 200 ∧ Low z ∧ z.length ≤ 200 ∧ IsHome v z Kk a ∧ ∀ t H', Same H H' → H t = none → H' t = some (.tup [.str (T (v.take Kk)), .str (T (v.drop Kk)), .int (a : Nat)]) → Q (.ref t) H'
theorem scPar : FnScope ["presses", "piece", "many", "at"] ["presses", "piece"] (defScope sPar) := ⟨rfl, rfl, rfl, by decide +kernel, rfl, by decide +kernel, by decide +kernel⟩
theorem ok_par {f : Addr} {fd : FuncData} (F : Fun K "parted_at" "parted_at" sPar f fd) (G : Txt K mg) (hH : Has P w K mg base 5 "home" ["presses", "piece"] spHom) : FnOk P w K mg base CX0 6 f fd ["presses", "piece"] spPar := by
  refine F.ok scPar (fun vs H Q E h => ?_) (fun cdv A outer s H vs Q E hr h => ?_)
  · obtain ⟨v, z, Kk, a, rfl, _⟩ := h
    rfl
  · obtain ⟨v, z, Kk, a, rfl, hv, hvl, hz, hzl, hh, k⟩ := h
    refine ⟨_, pss_cons (ps_asg (pe_has hH hr (pa_cons (pv 0) (pa_cons (pv 1) pa_nil))) (pg_tup rfl (pgs_cons (pg_name (i := 2) scPar.nd rfl (.inl rfl)) (pgs_cons (pg_name (i := 3) scPar.nd rfl (.inl rfl)) pgs_nil))))
      (pss_one (ps_ret (pe_tup (pa_cons (pe_slice sl_str (pv 0) po_none (po_some (pv 2))) (pa_cons (pe_slice sl_str (pv 0) (po_some (pv 2)) po_none) (pa_cons (pv 3) pa_nil)))))), ?_⟩
    refine ⟨_, rfl, _, rfl, v, z, Kk, a, rfl, hv, hvl, hz, hzl, hh, fun t H1 s1 ht0 ht => ?_⟩
    refine ⟨t, _, rfl, SqT.of ht, rfl, _, _, rfl, _, _, rfl, rfl, ?_⟩
    refine ⟨_, rfl, _, rfl, _, rfl, T v, rfl, len_text (by omega), ?_⟩
    rw [cut_to]
    refine ⟨_, rfl, _, rfl, _, rfl, T v, rfl, len_text (by omega), ?_⟩
    rw [cut_from]
    refine ⟨_, rfl, by show 3 ≤ sizeLine; decide, fun t' ht' => ?_⟩
    exact k t' _ (s1.trans (same_new ht')) (s1.free ht') upd_same
/-! ### beside: level 5 -/
abbrev sBes : Stmt := top 34
theorem merge_new : ∀ (more kvs : List (Key × V)), ((kvs ++ more).map (·.1)).Nodup → mergeK kvs more = kvs ++ more
  | [], kvs, _ => by rw [List.append_nil]; rfl
  | q :: r, kvs, h => by
    have hn : valV kvs q.1 = none := by
      unfold valV
      rw [Option.map_eq_none_iff, List.find?_eq_none]
      intro x hx z
      rw [List.map_append, List.map_cons, List.nodup_append] at h
      exact h.2.2 x.1 (List.mem_map_of_mem hx) q.1 List.mem_cons_self (of_decide_eq_true z)
    show mergeK (putK kvs q.1 q.2) r = _
    rw [putK_new _ hn, merge_new r _ (by simpa using h)]
    simp
theorem nodup_talK {ls : List Nat} {g : Nat → Nat} (h : ls.Nodup) : ((talK (ls.map fun c => (c, g c))).map (·.1)).Nodup := by
  unfold talK
  rw [List.map_map, List.map_map]
  refine List.pairwise_map.mpr (h.imp fun {a b} hab z => hab (kin_sg.mp z))
def spBes : Sp := fun vs H Q _ => ∃ (t : W) (o : Option Nat) (x : V), vs = [.str (T t), x] ∧ Low t ∧ t.length ≤ 200 ∧ ((x = .non ∧ o = none) ∨ ∃ c, x = .str (T [c]) ∧ o = some c ∧ 0 < c) ∧
  ∀ p H', Same H H' → H p = none → H' p = some (.dK (talK (besideN t o))) → Q (.ref p) H'
theorem scBes : FnScope ["behind", "letter", "found"] ["behind", "letter"] (defScope sBes) := ⟨rfl, rfl, rfl, by decide +kernel, rfl, by decide +kernel, by decide +kernel⟩
theorem ok_bes {f : Addr} {fd : FuncData} (F : Fun K "beside" "beside" sBes f fd) (G : Txt K mg) (hL : Has P w K mg base 3 "length" ["presses"] spLgt) (hC : Has P w K mg base 4 "counts" ["presses"] spCts) : FnOk P w K mg base CX0 5 f fd ["behind", "letter"] spBes := by
  refine F.ok scBes (fun vs H Q E h => ?_) (fun cdv A outer s H vs Q E hr h => ?_)
  · obtain ⟨t, o, x, rfl, _⟩ := h
    rfl
  · obtain ⟨t, o, x, rfl, ht, htl, hx, k⟩ := h
    refine ⟨_, pss_cons (ps_if (pt_cmp (pc_notN (pv 1))) (pss_one (ps_ret (pe_disp (pps_cons (pv 1) (pe_op op_add (pe_has hL (hr.mono (by decide)) (pa_cons (pv 0) pa_nil)) pe_int) pps_nil) (by rfl) (by rfl) (fun z => by cases z) (by decide)))) pss_nil)
      (pss_cons (ps_set (i := 2) scBes.nd rfl (.inl rfl) (pe_disp (pps_cons pe_str pe_int pps_nil) (by rfl) (by rfl) (fun z => by cases z) (by decide)))
      (pss_cons (ps_expr (pe_bm PySem.F.plainAttrs_dict PySem.F.slot_dict_update PySem.F.type_dict_update mt_dupd (pv 2) (pa_cons (pe_has hC hr (pa_cons (pv 0) pa_nil)) pa_nil)))
      (pss_one (ps_ret (pv 2))))), ?_⟩
    rcases hx with ⟨rfl, rfl⟩ | ⟨c, rfl, rfl, hc⟩
    · refine ⟨_, rfl, _, rfl, iteF ?_⟩
      intro p hp
      refine ⟨upd_same, [((Sum.inr (Str.ofString "") : Key), V.int 1)], rfl, by decide, ?_⟩
      refine ⟨_, rfl, .inr (.inr (.inl ⟨rfl, .inl ⟨_, upd_same⟩⟩)), _, rfl, t, rfl, ht, htl, fun d H1 s1 hd0 hd => ?_⟩
      have hp1 := s1 _ _ (upd_same (H := upd H p (.dK [])) (a := p) (o := .dK (mergeK [] [((Sum.inr (Str.ofString "") : Key), V.int 1)])))
      have npd : p ≠ d := ne_of_none upd_same hd0
      refine ⟨p, d, _, _, rfl, rfl, npd, hp1, hd, ?_, ?_⟩
      · have h1 : (talK (countsN t)).length ≤ 128 := by
          unfold talK countsN
          rw [List.length_map, List.length_map]
          refine Nat.le_trans (List.length_filter_le _ _) ?_
          rw [List.length_range]
          exact Nat.le_refl _
        show 1 + _ ≤ _
        omega
      · refine ⟨_, rfl, k p _ (fun b o e => ?_) hp ?_⟩
        · rw [upd_ne (ne_of_none e hp)]
          exact s1 _ _ (by rw [upd_ne (ne_of_none e hp), upd_ne (ne_of_none e hp)]; exact e)
        · rw [upd_same]
          have e1 : mergeK [] [((Sum.inr (Str.ofString "") : Key), V.int 1)] = [((Sum.inr (sg 0) : Key), V.int 1)] := rfl
          rw [e1, merge_new]
          · rfl
          · show ((Sum.inr (sg 0) : Key) :: (talK (countsN t)).map (·.1)).Nodup
            refine List.nodup_cons.mpr ⟨fun z => ?_, nodup_talK (ls := letters t) (g := fun c => (M t).count c) ((letters_lt t).imp fun h => Nat.ne_of_lt h)⟩
            unfold talK countsN at z
            rw [List.map_map, List.map_map, List.mem_map] at z
            obtain ⟨a, ha, hz⟩ := z
            have ha0 : a = 0 := kin_sg.mp hz
            rw [List.mem_filter] at ha
            have := ht a (of_decide_eq_true ha.2)
            omega
    · refine ⟨_, rfl, _, rfl, iteT ?_⟩
      intro p hp
      refine ⟨_, rfl, _, rfl, t, rfl, ht, htl, fun H1 s1 => ?_⟩
      refine ⟨_, 1, rfl, rfl, s1 _ _ upd_same, [((Sum.inr (T [c]) : Key), V.int (((L t : Nat) : Int) + 1))], rfl, Nat.le_of_ble_eq_true rfl, ?_⟩
      refine k p _ (fun b o e => ?_) hp ?_
      · rw [upd_ne (ne_of_none e hp)]
        exact s1 _ _ (by rw [upd_ne (ne_of_none e hp)]; exact e)
      · rw [upd_same]
        show some (HO.dK [((Sum.inr (T [c]) : Key), V.int (((L t : Nat) : Int) + 1))]) = some (HO.dK [((Sum.inr (sg c) : Key), V.int ((L t + 1 : Nat) : Int))])
        rw [sg_pos hc]
        rfl
end
end Mw

namespace Mw
open PySem L2 Mp TL
theorem low_M {v : W} (h : Low v) {i c : Nat} (hc : (M v)[i]? = some c) : 97 ≤ c ∧ c ≤ 122 := h c (mem_M.mp (List.mem_of_getElem? hc))
/-- f(k = v, ..), no positional value -/
theorem pe_callK0 {X : Cx} {CX : CXT} {k : Nat} {f : Addr} {fd : FuncData} {ps ks : List Str} {sp : Sp} {E : XK} {x : Str} {p pos : Pos} {kws : List Keyword} {tk : TA} {g : List Value → List Value → List Value} {gV : List V → List V → List V}
    (F : FnOk X.prog X.w X.K X.mg X.base CX k f fd ps sp) (hr : Room k X.A) (hg : Gl X x) (hm : X.mg x = some (.ref f)) (hk : PySem.W.keepIn X.K (.ref f) = true) (hb : KBinds X.K fd ps ks g gV) (hx : Passes CX X E) (hkw : PK X kws tk)
    (hall : (backToKw pos (keywordEach kws X.env)).all (·.1.isSome) = true := by rfl) (hks : (backToKw pos (keywordEach kws X.env)).filterMap (·.1) = ks := by rfl) (hdb : (x == ("__debug__" : Str)) = false := by decide)
    (hpl : ((backTo pos (starEach [] X.env)).any (·.1) || (backToKw pos (keywordEach kws X.env)).any (·.1.isNone)) = false := by rfl) :
    PE X (.Call (.Name x p) [] kws pos) (tCallK sp gV E tNil tk) := by
  refine ⟨fun pins s σ H Q I h => ?_⟩
  refine wpAny_Call_Name_kw (ld_glob I hg hm ?_ hdb)
  refine PySem.W.callWith_KW0 (h₀ := X.base) I.ok.mod.kin hk hall ?_ hpl
  refine thn (hkw.run pos pins s σ H _ I h) fun ws s2 ⟨zs, H2, I2, rz, q2⟩ => ⟨I2.kIn, ?_⟩
  rw [hks]
  exact run_fnk (us := []) (vs := []) F hr hb hx I2 .nil rz q2
def turned2 {α : Type} : List α → List α → List α := fun us ws => us ++ (match ws with | [a, b] => [b, a] | l => l)
/-- followed, led: called by place and by name -/
structure HasF (P : Program) (w : World) (K : PySem.W.Frag) (mg : Str → Option Value) (base : Heap) (k : Nat) (x : Str) (sp : Sp) : Prop where
  ex : ∃ f fd, mg x = some (.ref f) ∧ PySem.W.keepIn K (.ref f) = true ∧ Binds K fd ["presses", "piece"] [] ∧ KBinds K fd ["presses", "piece"] ["piece", "presses"] turned2 turned2 ∧ FnOk P w K mg base CX0 k f fd ["presses", "piece"] sp
theorem HasF.has {P : Program} {w : World} {K : PySem.W.Frag} {mg : Str → Option Value} {base : Heap} {k : Nat} {x : Str} {sp : Sp} (h : HasF P w K mg base k x sp) : Has P w K mg base k x ["presses", "piece"] sp := by
  obtain ⟨f, fd, a, b, c, _, d⟩ := h.ex
  exact ⟨f, fd, a, b, c, d⟩
theorem pe_hasF {X : Cx} {k : Nat} {x : Str} {sp : Sp} {p pos : Pos} {kws : List Keyword} {tk : TA} (h : HasF X.prog X.w X.K X.mg X.base k x sp) (hr : Room k X.A) (hkw : PK X kws tk) (hg : Gl X x := by rfl)
    (hall : (backToKw pos (keywordEach kws X.env)).all (·.1.isSome) = true := by rfl) (hks : (backToKw pos (keywordEach kws X.env)).filterMap (·.1) = (["piece", "presses"] : List Str) := by rfl) (hdb : (x == ("__debug__" : Str)) = false := by decide)
    (hpl : ((backTo pos (starEach [] X.env)).any (·.1) || (backToKw pos (keywordEach kws X.env)).any (·.1.isNone)) = false := by rfl) :
    PE X (.Call (.Name x p) [] kws pos) (tCallK sp turned2 E0 tNil tk) := by
  obtain ⟨f, fd, hm, hk, _, hb, F⟩ := h.ex
  exact pe_callK0 F hr hg hm hk hb pass0 hkw hall hks hdb hpl
section
variable {P : Program} {w : World} {K : PySem.W.Frag} {mg : Str → Option Value} {base : Heap}
/-! ### followed, led: level 7 -/
abbrev sFol : Stmt := top 35
abbrev sLed : Stmt := top 36
def spFol (r : W → W → Nat → Nat → Option Nat) : Sp := fun vs H Q _ => ∃ (v z : W) (Kk a : Nat), vs = [.str (T v), .str (T z)] ∧ Low v ∧ v.length ≤ 200 ∧ Low z ∧ z.length ≤ 200 ∧ IsHome v z Kk a ∧
  ∀ p H', Same H H' → H p = none → H' p = some (.dK (talK (besideN (v.drop Kk) (r v z Kk a)))) → Q (.ref p) H'
def rFol : W → W → Nat → Nat → Option Nat := fun v z Kk a => (M (v.take Kk))[a + z.length]?
def rLed : W → W → Nat → Nat → Option Nat := fun v _ Kk a => if a = 0 then none else (M (v.take Kk))[a - 1]?
theorem scFol : FnScope ["presses", "piece", "own_presses", "behind", "at", "end"] ["presses", "piece"] (defScope sFol) := ⟨rfl, rfl, rfl, by decide +kernel, rfl, by decide +kernel, by decide +kernel⟩
theorem ok_fol {f : Addr} {fd : FuncData} (F : Fun K "followed" "followed" sFol f fd) (G : Txt K mg) (hP : Has P w K mg base 6 "parted_at" ["presses", "piece"] spPar) (hB : Has P w K mg base 5 "beside" ["behind", "letter"] spBes)
    (hA : Has P w K mg base 3 "letter_at" ["presses", "place"] spLat) (hL : Has P w K mg base 3 "length" ["presses"] spLgt) : FnOk P w K mg base CX0 7 f fd ["presses", "piece"] (spFol rFol) := by
  refine F.ok scFol (fun vs H Q E h => ?_) (fun cdv A outer s H vs Q E hr h => ?_)
  · obtain ⟨v, z, Kk, a, rfl, _⟩ := h
    rfl
  · obtain ⟨v, z, Kk, a, rfl, hv, hvl, hz, hzl, hh, k⟩ := h
    refine ⟨_, pss_cons (ps_asg (pe_has hP hr (pa_cons (pv 0) (pa_cons (pv 1) pa_nil))) (pg_tup rfl (pgs_cons (pg_name (i := 2) scFol.nd rfl (.inl rfl)) (pgs_cons (pg_name (i := 3) scFol.nd rfl (.inl rfl)) (pgs_cons (pg_name (i := 4) scFol.nd rfl (.inl rfl)) pgs_nil)))))
      (pss_cons (ps_set (i := 5) scFol.nd rfl (.inl rfl) (pe_op op_add (pv 4) (pe_callB call_len_str (by rfl) G.len PySem.boot_len (pa_cons (pv 1) pa_nil))))
      (pss_one (ps_ret (pe_has hB (hr.mono (by decide)) (pa_cons (pv 3) (pa_cons (pe_ifExp (pt_cmpR op_lt (pv 5) (pe_has hL (hr.mono (by decide)) (pa_cons (pv 2) pa_nil)) (nomark _)) (pe_has hA (hr.mono (by decide)) (pa_cons (pv 2) (pa_cons (pv 5) pa_nil))) pe_non) pa_nil)))))), ?_⟩
    refine ⟨_, rfl, _, rfl, v, z, Kk, a, rfl, hv, hvl, hz, hzl, hh, fun t H1 s1 ht0 ht => ?_⟩
    refine ⟨t, _, rfl, SqT.of ht, rfl, _, _, rfl, _, _, rfl, _, _, rfl, rfl, ?_⟩
    refine ⟨_, rfl, _, rfl, T z, rfl, len_text (by omega), _, _, rfl, rfl, ?_⟩
    have e1 : ((a : Nat) : Int) + ((T z).length : Nat) = ((a + z.length : Nat) : Int) := by rw [T_len]; omega
    rw [show (fun i j : Int => V.int (i + j)) ((a : Nat) : Int) ((T z).length : Nat) = V.int ((a + z.length : Nat) : Int) from congrArg V.int e1]
    have hKl : (v.take Kk).length ≤ 200 := by rw [List.length_take]; omega
    have hDl : (v.drop Kk).length ≤ 200 := by rw [List.length_drop]; omega
    refine ⟨_, rfl, _, rfl, _, rfl, v.take Kk, rfl, hv.take Kk, hKl, fun H2 s2 => ⟨_, _, rfl, rfl, _, rfl, ?_⟩⟩
    cases hc : (M (v.take Kk))[a + z.length]? with
    | none =>
      have : ¬ (((a + z.length : Nat) : Int) < ((L (v.take Kk) : Nat) : Int)) := by
        have := List.getElem?_eq_none_iff.mp hc
        show ¬ (((a + z.length : Nat) : Int) < (((M (v.take Kk)).length : Nat) : Int))
        omega
      rw [decide_eq_false this]
      refine iteF ?_
      refine ⟨v.drop Kk, none, .non, rfl, hv.drop Kk, hDl, .inl ⟨rfl, rfl⟩, fun p H3 s3 hp0 hp => ?_⟩
      refine k p H3 (s1.trans (s2.trans s3)) ((s1.trans s2).free hp0) ?_
      show _ = some (HO.dK (talK (besideN (v.drop Kk) ((M (v.take Kk))[a + z.length]?))))
      rw [hc]; exact hp
    | some c =>
      have : ((a + z.length : Nat) : Int) < ((L (v.take Kk) : Nat) : Int) := by
        have := (List.getElem?_eq_some_iff.mp hc).1
        show (((a + z.length : Nat) : Int) < (((M (v.take Kk)).length : Nat) : Int))
        omega
      rw [decide_eq_true this]
      refine iteT ?_
      refine ⟨_, rfl, _, rfl, v.take Kk, a + z.length, c, rfl, hv.take Kk, hKl, hc, fun H3 s3 => ?_⟩
      refine ⟨v.drop Kk, some c, _, rfl, hv.drop Kk, hDl, .inr ⟨c, rfl, rfl, by have := low_M (hv.take Kk) hc; omega⟩, fun p H4 s4 hp0 hp => ?_⟩
      refine k p H4 (s1.trans (s2.trans (s3.trans s4))) ((s1.trans (s2.trans s3)).free hp0) ?_
      show _ = some (HO.dK (talK (besideN (v.drop Kk) ((M (v.take Kk))[a + z.length]?))))
      rw [hc]; exact hp
theorem scLed : FnScope ["presses", "piece", "own_presses", "behind", "at"] ["presses", "piece"] (defScope sLed) := ⟨rfl, rfl, rfl, by decide +kernel, rfl, by decide +kernel, by decide +kernel⟩
theorem ok_led {f : Addr} {fd : FuncData} (F : Fun K "led" "led" sLed f fd) (G : Txt K mg) (hP : Has P w K mg base 6 "parted_at" ["presses", "piece"] spPar) (hB : Has P w K mg base 5 "beside" ["behind", "letter"] spBes)
    (hA : Has P w K mg base 3 "letter_at" ["presses", "place"] spLat) : FnOk P w K mg base CX0 7 f fd ["presses", "piece"] (spFol rLed) := by
  refine F.ok scLed (fun vs H Q E h => ?_) (fun cdv A outer s H vs Q E hr h => ?_)
  · obtain ⟨v, z, Kk, a, rfl, _⟩ := h
    rfl
  · obtain ⟨v, z, Kk, a, rfl, hv, hvl, hz, hzl, hh, k⟩ := h
    refine ⟨_, pss_cons (ps_asg (pe_has hP hr (pa_cons (pv 0) (pa_cons (pv 1) pa_nil))) (pg_tup rfl (pgs_cons (pg_name (i := 2) scLed.nd rfl (.inl rfl)) (pgs_cons (pg_name (i := 3) scLed.nd rfl (.inl rfl)) (pgs_cons (pg_name (i := 4) scLed.nd rfl (.inl rfl)) pgs_nil)))))
      (pss_one (ps_ret (pe_has hB (hr.mono (by decide)) (pa_cons (pv 3) (pa_cons (pe_ifExp (pt_cmpR op_gt (pv 4) pe_int (nomark _)) (pe_has hA (hr.mono (by decide)) (pa_cons (pv 2) (pa_cons (pe_op op_sub (pv 4) pe_int) pa_nil))) pe_non) pa_nil))))), ?_⟩
    refine ⟨_, rfl, _, rfl, v, z, Kk, a, rfl, hv, hvl, hz, hzl, hh, fun t H1 s1 ht0 ht => ?_⟩
    refine ⟨t, _, rfl, SqT.of ht, rfl, _, _, rfl, _, _, rfl, _, _, rfl, rfl, ?_⟩
    have hKl : (v.take Kk).length ≤ 200 := by rw [List.length_take]; omega
    have hDl : (v.drop Kk).length ≤ 200 := by rw [List.length_drop]; omega
    refine ⟨_, rfl, _, rfl, _, 0, rfl, rfl, _, rfl, ?_⟩
    by_cases ha : a = 0
    · subst ha
      refine iteF ?_
      refine ⟨v.drop Kk, none, .non, rfl, hv.drop Kk, hDl, .inl ⟨rfl, rfl⟩, fun p H3 s3 hp0 hp => ?_⟩
      refine k p H3 (s1.trans s3) (s1.free hp0) ?_
      exact hp
    · rw [decide_eq_true (by omega : (0 : Int) < ((a : Nat) : Int))]
      refine iteT ?_
      have hlt : a - 1 < (M (v.take Kk)).length := by
        have := hh.fits
        show a - 1 < L (v.take Kk)
        omega
      have hc : (M (v.take Kk))[a - 1]? = some (M (v.take Kk))[a - 1] := List.getElem?_eq_getElem hlt
      generalize (M (v.take Kk))[a - 1] = c at hc
      have e1 : ((a : Nat) : Int) - 1 = ((a - 1 : Nat) : Int) := by omega
      refine ⟨_, rfl, _, rfl, _, 1, rfl, rfl, v.take Kk, a - 1, c, (by rw [← e1]; rfl), hv.take Kk, hKl, hc, fun H3 s3 => ?_⟩
      refine ⟨v.drop Kk, some c, _, rfl, hv.drop Kk, hDl, .inr ⟨c, rfl, rfl, by have := low_M (hv.take Kk) hc; omega⟩, fun p H4 s4 hp0 hp => ?_⟩
      refine k p H4 (s1.trans (s3.trans s4)) ((s1.trans s3).free hp0) ?_
      show _ = some (HO.dK (talK (besideN (v.drop Kk) (if a = 0 then none else (M (v.take Kk))[a - 1]?))))
      rw [if_neg ha, hc]; exact hp
end
end Mw

namespace Mw
open PySem L2 Mp TL
/-! ### the draw -/
def dkv (l c a : Int) : List (Key × V) := [((Sum.inr ("left" : Str) : Key), V.int l), ((Sum.inr ("cell" : Str) : Key), V.int c), ((Sum.inr ("at" : Str) : Key), V.int a)]
theorem kLC : ¬ (("left" : Str) = "cell") := by decide +kernel
theorem kLA : ¬ (("left" : Str) = "at") := by decide +kernel
theorem kCA : ¬ (("cell" : Str) = "at") := by decide +kernel
theorem key_ne {a b : Str} (h : ¬ a = b) : ¬ (Sum.inr a : Key) = Sum.inr b := fun z => h (Sum.inr.inj z)
theorem dkv_left (l c a : Int) : valV (dkv l c a) (Sum.inr ("left" : Str) : Key) = some (.int l) := by
  unfold valV dkv
  rw [List.find?_cons, decide_eq_true rfl]
  rfl
theorem dkv_cell (l c a : Int) : valV (dkv l c a) (Sum.inr ("cell" : Str) : Key) = some (.int c) := by
  unfold valV dkv
  rw [List.find?_cons, decide_eq_false (key_ne kLC), List.find?_cons, decide_eq_true rfl]
  rfl
theorem dkv_at (l c a : Int) : valV (dkv l c a) (Sum.inr ("at" : Str) : Key) = some (.int a) := by
  unfold valV dkv
  rw [List.find?_cons, decide_eq_false (key_ne kLA), List.find?_cons, decide_eq_false (key_ne kCA), List.find?_cons, decide_eq_true rfl]
  rfl
theorem put_left (l c a l' : Int) : putK (dkv l c a) (Sum.inr ("left" : Str) : Key) (.int l') = dkv l' c a := by
  unfold putK dkv
  rw [if_pos (by simp)]
  simp only [List.map_cons, List.map_nil]
  rw [if_pos trivial, if_neg (key_ne fun z => kLC z.symm), if_neg (key_ne fun z => kLA z.symm)]
theorem put_at (l c a a' : Int) : putK (dkv l c a) (Sum.inr ("at" : Str) : Key) (.int a') = dkv l c a' := by
  unfold putK dkv
  rw [if_pos (by simp)]
  simp only [List.map_cons, List.map_nil]
  rw [if_neg (key_ne kLA), if_neg (key_ne kCA), if_pos trivial]
theorem dkv_disp (l c a : Int) : mergeK [] (dkv l c a) = dkv l c a := by
  rw [merge_new]
  · rfl
  · show ((Sum.inr ("left" : Str) : Key) :: (Sum.inr ("cell" : Str) : Key) :: (Sum.inr ("at" : Str) : Key) :: []).Nodup
    simp only [List.nodup_cons, List.mem_cons, List.not_mem_nil, or_false, not_or]
    exact ⟨⟨key_ne kLC, key_ne kLA⟩, key_ne kCA, not_false, List.nodup_nil⟩
theorem dp_ints {K : PySem.W.Frag} {H : Hp} : ∀ ns : List Int, DpAll K H (ns.map V.int) (ns.map PyData.int)
  | [] => .nil
  | n :: ns => .cons (.int n) (dp_ints ns)
/-- the draw stands at d; at most n numbers were drawn from it -/
def Draw (H : Hp) (d : Addr) (n : Nat) : Prop := ∃ (l c : Int) (a : Nat), 0 ≤ l ∧ a ≤ n ∧ H d = some (.dK (dkv l c (a : Nat)))
theorem Draw.mono {H : Hp} {d : Addr} {n m : Nat} (h : Draw H d n) (hm : n ≤ m) : Draw H d m := by
  obtain ⟨l, c, a, h1, h2, h3⟩ := h
  exact ⟨l, c, a, h1, Nat.le_trans h2 hm, h3⟩
theorem Draw.same {H H' : Hp} {d : Addr} {n : Nat} (h : Draw H d n) (s : Same H H') : Draw H' d n := by
  obtain ⟨l, c, a, h1, h2, h3⟩ := h
  exact ⟨l, c, a, h1, h2, s _ _ h3⟩
/-- all but d is as it was -/
def SameB (d : Addr) (H H' : Hp) : Prop := ∀ b o, b ≠ d → H b = some o → H' b = some o
theorem SameB.refl (d : Addr) (H : Hp) : SameB d H H := fun _ _ _ h => h
theorem SameB.trans {d : Addr} {H H1 H2 : Hp} (a : SameB d H H1) (b : SameB d H1 H2) : SameB d H H2 := fun c o h e => b c o h (a c o h e)
theorem _root_.L2.Same.b {H H' : Hp} (s : Same H H') (d : Addr) : SameB d H H' := fun b o _ e => s b o e
theorem SameB.put {d : Addr} {H : Hp} {o : HO} : SameB d H (upd H d o) := fun b u hb e => by rw [upd_ne hb]; exact e
/-- what isn't the draw -/
theorem SameB.at {d : Addr} {H H' : Hp} {n : Nat} (s : SameB d H H') (D : Draw H d n) {b : Addr} {o : HO} (h : H b = some o) (ho : ∀ kvs, o ≠ .dK kvs) : H' b = some o := by
  obtain ⟨l, c, a, _, _, h3⟩ := D
  exact s b o (fun z => by rw [z, h3] at h; exact ho _ (Option.some.inj h).symm) h
theorem SameB.seq {K : PySem.W.Frag} {d : Addr} {H H' : Hp} {n : Nat} (s : SameB d H H') (D : Draw H d n) {p : Addr} {xs : List V} (h : SqL K H p xs) : SqL K H' p xs := by
  rcases h with (h | ⟨o, h⟩) | h
  · exact .inl (.inl (s.at D h fun _ z => nomatch z))
  · exact .inl (.inr ⟨o, s.at D h fun _ z => nomatch z⟩)
  · exact .inr h
theorem SameB.seqT {K : PySem.W.Frag} {d : Addr} {H H' : Hp} {n : Nat} (s : SameB d H H') (D : Draw H d n) {p : Addr} {xs : List V} (h : SqT K H p xs) : SqT K H' p xs := by
  rcases h with (h | ⟨o, h⟩) | h
  · exact .inl (.inl (s.at D h fun _ z => nomatch z))
  · exact .inl (.inr ⟨o, s.at D h fun _ z => nomatch z⟩)
  · exact .inr h
section
variable {P : Program} {w : World} {K : PySem.W.Frag} {mg : Str → Option Value} {base : Heap}
/-! ### _law_begun: level 1 -/
abbrev sBeg : Stmt := top 38
def spBeg (K : PySem.W.Frag) : Sp := fun vs H Q _ => ∃ (s : Addr) (ns : List Int) (k : Nat), vs = [.ref s, .int (k : Nat)] ∧ SqL K H s (ns.map V.int) ∧ k ≤ 3 ∧ ∀ d H', Same H H' → H d = none → Draw H' d 180 → Q (.ref d) H'
theorem scBeg : FnScope ["_law_script", "_law_k", "_law_some", "_law_found", "_law_cell", "_law_left"] ["_law_script", "_law_k"] (defScope sBeg) := ⟨rfl, rfl, rfl, by decide +kernel, rfl, by decide +kernel, by decide +kernel⟩
theorem ok_beg {f : Addr} {fd : FuncData} (F : Fun K "_law_begun" "_law_begun" sBeg f fd) (G : Txt K mg) : FnOk P w K mg base CX0 1 f fd ["_law_script", "_law_k"] (spBeg K) := by
  refine F.ok scBeg (fun vs H Q E h => ?_) (fun cdv A outer s H vs Q E hr h => ?_)
  · obtain ⟨s, ns, k, rfl, _⟩ := h
    rfl
  · obtain ⟨sc, ns, kk, rfl, hs, hk, k⟩ := h
    refine ⟨_, pss_cons (ps_par (i := 2) (j := 3) rfl scBeg.nd rfl rfl (by decide) rfl rfl (pa_cons (pe_stepL (by decide) (pv 0) (pv 1)) (pa_cons pe_int pa_nil)) (by rfl))
      (pss_cons (ps_for PassesOwn.never rfl (pi_list (pv 2)) (pg_name (i := 4) scBeg.nd rfl (.inl rfl))
        (pss_one (ps_set (i := 3) scBeg.nd rfl (.inl rfl) (pe_op op_mod (pe_op op_add (pe_op op_mul (pv 3) pe_int) (pv 4)) pe_int))))
      (pss_cons (ps_set (i := 5) scBeg.nd rfl (.inl rfl) (pe_ifExp (PW.pt (pw_and (pt_cmpR (op_neD hr.units) (pv 2) (pe_lst pa_nil) (nomark _)) (pw_and1 (pt_cmpR op_ge (pe_ix ix_list (pv 2) pe_int (fun _ _ => rfl)) (pe_op op_pow pe_int pe_int) (nomark _))))) (pe_ix ix_list (pv 2) pe_int (fun _ _ => rfl)) pe_int))
      (pss_one (ps_ret (pe_disp (pps_cons pe_str (pv 5) (pps_cons pe_str (pv 3) (pps_cons pe_str (pe_op op_mul pe_int (pv 1)) pps_nil))) (by rfl) (by rfl) (fun z => by cases z) (by decide)))))), ?_⟩
    refine ⟨_, rfl, _, rfl, (kk : Nat), rfl, sc, ns, rfl, hs, fun ms p hml hp => ⟨_, _, rfl, ?_⟩⟩
    refine ⟨_, rfl, p, rfl, ⟨_, SqL.of upd_same⟩, for_list (K := K) (a := p) (xs := ms.map V.int) (fun i σ H1 => ∃ (c : Int) (x4 : Option V), σ = [some (.ref sc), some (.int (kk : Nat)), some (.ref p), some (.int c), x4, none] ∧ Same H H1 ∧ H1 p = some (.lst (ms.map V.int)))
      ⟨7, none, rfl, same_new hp, upd_same⟩ (fun i σ H1 _ ⟨_, _, _, _, h⟩ => SqL.of h) ?_ ?_⟩
    · rintro i x σ H1 hx ⟨c, x4, rfl, s1, h1⟩
      obtain ⟨z, rfl⟩ : ∃ z, x = V.int z := by
        rw [List.getElem?_map] at hx
        cases e : ms[i]? with
        | none => rw [e] at hx; cases hx
        | some z => rw [e] at hx; exact ⟨z, (Option.some.inj hx).symm⟩
      refine ⟨_, rfl, _, _, rfl, rfl, .inr ⟨by decide, by decide⟩, _, rfl, _, _, rfl, rfl, _, _, rfl, rfl, (by show (0 : Int) < 45671919084464375650470121801725774452702282179; decide), ?_⟩
      exact ⟨_, _, rfl, s1, h1⟩
    · rintro σ H1 ⟨c, x4, rfl, s1, h1⟩
      have fin : ∀ (lf : Int) (H2 : Hp), 0 ≤ lf → Same H H2 → ∀ q : Addr, H2 q = none → Draw (upd H2 q (.dK (mergeK [] (dkv lf c (60 * (kk : Nat)))))) q 180 ∧ Same H (upd H2 q (.dK (mergeK [] (dkv lf c (60 * (kk : Nat)))))) ∧ H q = none := fun lf H2 h0 s2 q hq => by
        refine ⟨⟨lf, c, 60 * kk, h0, by omega, ?_⟩, s2.trans (same_new hq), s2.free hq⟩
        rw [upd_same, dkv_disp]
        have e : (60 : Int) * (kk : Nat) = ((60 * kk : Nat) : Int) := by omega
        rw [e]
      refine ⟨_, rfl, by decide, fun q0 hq0 => ?_⟩
      have s2 := s1.trans (same_new (o := .lst []) hq0)
      have h2 : (upd H1 q0 (.lst [])) p = some (.lst (ms.map V.int)) := by rw [upd_ne (ne_of_none h1 hq0)]; exact h1
      generalize hH2 : upd H1 q0 (.lst []) = H2 at s2 h2
      have hq2 : SqL K H2 q0 (([] : List Int).map V.int) := SqL.of (by rw [← hH2]; exact upd_same)
      refine ⟨_, _, Dp.lst (SqL.of h2) (dp_ints ms), Dp.lst hq2 (dp_ints []), PySem.W.shaped_ints ms, PySem.W.shaped_ints [], ?_⟩
      have last : ∀ lf : Int, 0 ≤ lf → ∀ q : Addr, H2 q = none → Q (.ref q) (upd H2 q (.dK (mergeK [] (dkv lf c (60 * (kk : Nat)))))) := fun lf h0 q hq => by
        obtain ⟨a1, a2, a3⟩ := fin lf H2 h0 s2 q hq
        exact k q _ a2 a3 a1
      cases ms with
      | nil =>
        refine ⟨_, rfl, iteF ?_⟩
        refine fun q hq => ⟨_, rfl, _, rfl, _, rfl, 60, _, rfl, rfl, .inl ⟨by decide, by decide⟩, upd_same, dkv 0 c (60 * (kk : Nat)), rfl, Nat.le_of_ble_eq_true rfl, ?_⟩
        rw [upd_upd]
        exact last 0 (Int.le_refl _) q hq
      | cons m0 ms =>
        have hat : atI ((m0 :: ms).map V.int) 0 = some (V.int m0) := atI_nat (j := 0) rfl
        refine ⟨_, rfl, iteT ?_⟩
        refine ⟨_, rfl, p, _, 0, _, rfl, rfl, SqL.of h2, hat, 10, 18, rfl, rfl, ⟨by decide, by decide, by decide⟩, _, _, rfl, rfl, _, rfl, ?_⟩
        refine ite2 (fun hge => ?_) (fun hlt => ?_)
        · have hm : 0 ≤ m0 := by
            have h10 : ((10 : Int) ^ (18 : Int).toNat) ≤ m0 := of_decide_eq_true hge
            exact Int.le_trans (by decide) h10
          refine ⟨_, rfl, p, _, 0, _, rfl, rfl, SqL.of h2, hat, ?_⟩
          refine fun q hq => ⟨_, rfl, _, rfl, _, rfl, 60, _, rfl, rfl, .inl ⟨by decide, by decide⟩, upd_same, dkv m0 c (60 * (kk : Nat)), rfl, Nat.le_of_ble_eq_true rfl, ?_⟩
          rw [upd_upd]
          exact last m0 hm q hq
        · refine fun q hq => ⟨_, rfl, _, rfl, _, rfl, 60, _, rfl, rfl, .inl ⟨by decide, by decide⟩, upd_same, dkv 0 c (60 * (kk : Nat)), rfl, Nat.le_of_ble_eq_true rfl, ?_⟩
          rw [upd_upd]
          exact last 0 (Int.le_refl _) q hq
end
end Mw

namespace Mw
open PySem L2 Mp TL
theorem dg_left {H : Hp} {d : Addr} {l c a : Int} (h : H d = some (.dK (dkv l c a))) : DGet H d (.str "left") (some (.int l)) := by rw [← dkv_left l c a]; exact DGet.k (k := (Sum.inr ("left" : Str) : Key)) h
theorem dg_cell {H : Hp} {d : Addr} {l c a : Int} (h : H d = some (.dK (dkv l c a))) : DGet H d (.str "cell") (some (.int c)) := by rw [← dkv_cell l c a]; exact DGet.k (k := (Sum.inr ("cell" : Str) : Key)) h
theorem dg_at {H : Hp} {d : Addr} {l c a : Int} (h : H d = some (.dK (dkv l c a))) : DGet H d (.str "at") (some (.int a)) := by rw [← dkv_at l c a]; exact DGet.k (k := (Sum.inr ("at" : Str) : Key)) h
section
variable {P : Program} {w : World} {K : PySem.W.Frag} {mg : Str → Option Value} {base : Heap}
/-! ### _law_take: level 1 -/
abbrev sTak : Stmt := top 39
def spTak : Sp := fun vs H Q _ => ∃ (d : Addr) (n e : Nat), vs = [.ref d, .int (e : Nat)] ∧ 1 ≤ e ∧ e ≤ 1000000000 ∧ Draw H d n ∧ n ≤ 1000000 ∧ ∀ (r : Nat) H', r < e → Draw H' d (n + 1) → SameB d H H' → Q (.int (r : Nat)) H'
theorem scTak : FnScope ["_law_draw", "_law_edge", "_law_found", "_law_k", "_law_prime", "_law_mixed"] ["_law_draw", "_law_edge"] (defScope sTak) := ⟨rfl, rfl, rfl, by decide +kernel, rfl, by decide +kernel, by decide +kernel⟩
def primes : List V := [.int 2147483629, .int 2147483587, .int 2147483579, .int 2147483563, .int 2147483549]
theorem prime_at (a : Nat) : ∃ p : Int, atI primes ((((a : Nat) : Int) + 1) % 5) = some (.int p) ∧ 0 < p := by
  have h0 : 0 ≤ (((a : Nat) : Int) + 1) % 5 := Int.emod_nonneg _ (by decide)
  have h5 : (((a : Nat) : Int) + 1) % 5 < 5 := Int.emod_lt_of_pos _ (by decide)
  have h : (((a : Nat) : Int) + 1) % 5 = 0 ∨ (((a : Nat) : Int) + 1) % 5 = 1 ∨ (((a : Nat) : Int) + 1) % 5 = 2 ∨ (((a : Nat) : Int) + 1) % 5 = 3 ∨ (((a : Nat) : Int) + 1) % 5 = 4 := by omega
  rcases h with h | h | h | h | h <;> rw [h]
  · exact ⟨2147483629, atI_nat (j := 0) rfl, by decide⟩
  · exact ⟨2147483587, atI_nat (j := 1) rfl, by decide⟩
  · exact ⟨2147483579, atI_nat (j := 2) rfl, by decide⟩
  · exact ⟨2147483563, atI_nat (j := 3) rfl, by decide⟩
  · exact ⟨2147483549, atI_nat (j := 4) rfl, by decide⟩
theorem ok_tak {f : Addr} {fd : FuncData} (F : Fun K "_law_take" "_law_take" sTak f fd) (G : Txt K mg) : FnOk P w K mg base CX0 1 f fd ["_law_draw", "_law_edge"] spTak := by
  refine F.ok scTak (fun vs H Q E h => ?_) (fun cdv A outer s H vs Q E hr h => ?_)
  · obtain ⟨d, n, e, rfl, _⟩ := h
    rfl
  · obtain ⟨d, n, e, rfl, he1, he2, D, hn, k⟩ := h
    have hu := hu_of hr
    obtain ⟨l, c, a, hl, han, hd⟩ := D
    refine ⟨_, pss_cons (ps_if (pt_cmpR op_gt (pe_dget hu (pv 0) pe_str (fun _ _ => rfl)) pe_int (nomark _))
        (pss_cons (ps_set (i := 2) scTak.nd rfl (.inl rfl) (pe_op op_mod (pe_dget hu (pv 0) pe_str (fun _ _ => rfl)) (pv 1)))
        (pss_cons (ps_dput hu (pv 0) pe_str (pe_op op_fdivN (pe_dget hu (pv 0) pe_str (fun _ _ => rfl)) (pv 1)) rfl)
        (pss_one (ps_ret (pv 2))))) pss_nil)
      (pss_cons (ps_set (i := 3) scTak.nd rfl (.inl rfl) (pe_op op_add (pe_dget hu (pv 0) pe_str (fun _ _ => rfl)) pe_int))
      (pss_cons (ps_dput hu (pv 0) pe_str (pv 3) rfl)
      (pss_cons (ps_set (i := 4) scTak.nd rfl (.inl rfl) (pe_ix ix_list (pe_lst (pa_cons pe_int (pa_cons pe_int (pa_cons pe_int (pa_cons pe_int (pa_cons pe_int pa_nil)))))) (pe_op op_mod (pv 3) pe_int) (fun _ _ => rfl)))
      (pss_cons (ps_set (i := 5) scTak.nd rfl (.inl rfl) (pe_op op_mod (pe_op op_mul (pe_op op_add (pe_op op_add (pe_op op_add (pe_op op_mod (pe_dget hu (pv 0) pe_str (fun _ _ => rfl)) (pv 4)) (pe_op op_mul (pe_op op_mul pe_int (pv 3)) (pv 3))) (pe_op op_mul pe_int (pv 3))) pe_int) pe_int) (pv 4)))
      (pss_one (ps_ret (pe_op op_mod (pe_op op_mod (pe_op op_mul (pv 5) (pe_op op_add (pe_op op_mod (pv 5) pe_int) pe_int)) pe_int) (pv 1)))))))), ?_⟩
    have he0 : (0 : Int) < (e : Nat) := by omega
    have out : ∀ (x : Int) H', Draw H' d (n + 1) → SameB d H H' → Q (.int (x % (e : Nat))) H' := fun x H' D' s' => by
      have h0 := Int.emod_nonneg x (Int.ne_of_gt he0)
      have h1 := Int.emod_lt_of_pos x he0
      have := k (x % (e : Nat)).toNat H' (by omega) D' s'
      rw [Int.toNat_of_nonneg h0] at this
      exact this
    refine ⟨_, rfl, d, _, rfl, dg_left hd, _, 0, rfl, rfl, _, rfl, ?_⟩
    refine ite2 (fun hpos => ?_) (fun hneg => ?_)
    · refine ⟨_, rfl, d, _, rfl, dg_left hd, _, rfl, _, _, rfl, rfl, he0, ?_⟩
      refine ⟨_, rfl, d, _, rfl, dg_left hd, _, rfl, _, _, rfl, rfl, ⟨by omega, by omega⟩, _, rfl, d, _, rfl, DPut.k (k := Sum.inr ("left" : Str)) hd (show 3 < sizeLine by decide), ?_⟩
      rw [put_left]
      refine ⟨_, rfl, out l _ ⟨_, c, a, ?_, by omega, upd_same⟩ SameB.put⟩
      have hl' : 0 < l := of_decide_eq_true hpos
      exact Int.fdiv_nonneg (by omega) (by omega)
    · refine ⟨_, rfl, d, _, rfl, dg_at hd, _, 1, rfl, rfl, ?_⟩
      refine ⟨_, rfl, _, rfl, d, _, rfl, DPut.k (k := Sum.inr ("at" : Str)) hd (show 3 < sizeLine by decide), ?_⟩
      rw [put_at]
      have hk1 : ((a : Nat) : Int) + 1 = ((a + 1 : Nat) : Int) := rfl
      obtain ⟨p, hp, hp0⟩ := prime_at a
      refine ⟨by decide, fun q hq => ?_⟩
      have hdq : d ≠ q := ne_of_none upd_same hq
      refine ⟨_, rfl, _, 5, rfl, rfl, (by show (0 : Int) < 5; decide), q, primes, _, _, rfl, rfl, SqL.of upd_same, hp, ?_⟩
      have hd2 : upd (upd H d (.dK (dkv l c (((a : Nat) : Int) + 1)))) q (.lst primes) d = some (.dK (dkv l c (((a : Nat) : Int) + 1))) := by rw [upd_ne hdq, upd_same]
      refine ⟨_, rfl, d, _, rfl, dg_cell hd2, _, rfl, _, _, rfl, rfl, hp0, ?_⟩
      refine ⟨_, rfl, _, _, rfl, rfl, .inl ⟨by decide, by decide⟩, _, rfl, _, _, rfl, rfl, .inl ⟨by omega, by omega⟩, _, _, rfl, rfl, ?_⟩
      refine ⟨_, rfl, _, _, rfl, rfl, .inl ⟨by decide, by decide⟩, _, _, rfl, rfl, _, 17, rfl, rfl, _, 48271, rfl, rfl, .inr ⟨by decide, by decide⟩, _, rfl, _, _, rfl, rfl, hp0, ?_⟩
      generalize ((c % p + 7919 * (((a : Nat) : Int) + 1) * (((a : Nat) : Int) + 1) + 31 * (((a : Nat) : Int) + 1) + 17) * 48271) % p = m
      have hm0 := Int.emod_nonneg m (show (65521 : Int) ≠ 0 by decide)
      have hm1 := Int.emod_lt_of_pos m (show (0 : Int) < 65521 by decide)
      refine ⟨_, rfl, _, rfl, _, 65521, rfl, rfl, (by show (0 : Int) < 65521; decide), _, 16807, rfl, rfl, _, _, rfl, rfl, .inr ⟨by omega, by omega⟩, _, 2147483647, rfl, rfl, (by show (0 : Int) < 2147483647; decide), _, rfl, _, _, rfl, rfl, he0, ?_⟩
      refine out _ _ ⟨l, c, a + 1, hl, by omega, hd2⟩ fun b o hb e => ?_
      have hbq : b ≠ q := by
        refine ne_of_none (o := o) ?_ hq
        rw [upd_ne hb]; exact e
      rw [upd_ne hbq, upd_ne hb]
      exact e
/-! ### _law_of: level 2 -/
abbrev sOf : Stmt := top 40
def spOf (K : PySem.W.Frag) : Sp := fun vs H Q _ => ∃ (d : Addr) (n : Nat) (y : V) (R : V → Prop), vs = [.ref d, y] ∧ Draw H d n ∧ n ≤ 1000000 ∧
  ((∃ p xs, y = .ref p ∧ SqL K H p xs ∧ xs ≠ [] ∧ xs.length ≤ 1000 ∧ ∀ x ∈ xs, R x) ∨ ∃ l : W, y = .str (T l) ∧ l ≠ [] ∧ l.length ≤ 1000 ∧ ∀ c ∈ l, R (.str (T [c]))) ∧ ∀ x H', R x → Draw H' d (n + 1) → SameB d H H' → Q x H'
theorem scOf : FnScope ["_law_draw", "_law_some"] ["_law_draw", "_law_some"] (defScope sOf) := ⟨rfl, rfl, rfl, by decide +kernel, rfl, by decide +kernel, by decide +kernel⟩
theorem ok_of {f : Addr} {fd : FuncData} (F : Fun K "_law_of" "_law_of" sOf f fd) (G : Txt K mg) (hT : Has P w K mg base 1 "_law_take" ["_law_draw", "_law_edge"] spTak) : FnOk P w K mg base CX0 2 f fd ["_law_draw", "_law_some"] (spOf K) := by
  refine F.ok scOf (fun vs H Q E h => ?_) (fun cdv A outer s H vs Q E hr h => ?_)
  · obtain ⟨d, n, y, R, rfl, _⟩ := h
    rfl
  · obtain ⟨d, n, y, R, rfl, D, hn, hy, k⟩ := h
    refine ⟨_, pss_one (ps_ret (pe_ix ix_seq (pv 1) (pe_has hT hr (pa_cons (pv 0) (pa_cons (pe_callB call_len (by rfl) G.len PySem.boot_len (pa_cons (pv 1) pa_nil)) pa_nil))) (fun _ _ => rfl))), ?_⟩
    rcases hy with ⟨p, xs, rfl, hp, hne, hlen, hR⟩ | ⟨l, rfl, hne, hlen, hR⟩
    · have hpos := List.length_pos_iff.mpr hne
      refine ⟨_, rfl, _, rfl, _, rfl, .ref p, xs.length, rfl, .inl ⟨xs, hp, rfl⟩, d, n, xs.length, rfl, by omega, by omega, D, hn, fun r H1 hr1 D1 s1 => ?_⟩
      have hx : xs[r]? = some xs[r] := List.getElem?_eq_getElem hr1
      exact .inl ⟨p, xs, _, _, rfl, rfl, s1.seq D hp, atI_nat hx, k _ H1 (hR _ (List.getElem_mem hr1)) D1 s1⟩
    · have hpos := List.length_pos_iff.mpr hne
      refine ⟨_, rfl, _, rfl, _, rfl, .str (T l), l.length, rfl, ⟨len_text (by omega), (T_len l).symm⟩, d, n, l.length, rfl, by omega, by omega, D, hn, fun r H1 hr1 D1 s1 => ?_⟩
      have hx : l[r]? = some l[r] := List.getElem?_eq_getElem hr1
      exact .inr (.inr ⟨T l, _, _, rfl, rfl, len_text (by omega), atI_nat hx, k _ H1 (hR _ (List.getElem_mem hr1)) D1 s1⟩)
end
end Mw

namespace Mw
open PySem L2 Mp TL
theorem az_at (x : Int) : ∃ c : Nat, atI AZ.cps.toList (x % 26) = some c ∧ 97 ≤ c ∧ c ≤ 122 := by
  have h0 : 0 ≤ x % 26 := Int.emod_nonneg _ (by decide)
  have h1 : x % 26 < 26 := Int.emod_lt_of_pos _ (by decide)
  obtain ⟨j, hj⟩ : ∃ j : Nat, x % 26 = (j : Int) := ⟨(x % 26).toNat, (Int.toNat_of_nonneg h0).symm⟩
  have hj26 : j < 26 := by omega
  refine ⟨97 + j, ?_, by omega, by omega⟩
  rw [hj]
  refine atI_nat ?_
  rw [az_list, List.getElem?_map, List.getElem?_range hj26]
  rfl
section
variable {P : Program} {w : World} {K : PySem.W.Frag} {mg : Str → Option Value} {base : Heap}
/-! ### _law_letters: level 3 -/
abbrev sLet : Stmt := top 41
abbrev lettersV (cs : W) : List V := cs.map fun c => V.str (T [c])
def spLet : Sp := fun vs H Q _ => ∃ (d : Addr) (n wd : Nat), vs = [.ref d, .int (wd : Nat)] ∧ wd ≤ 1000 ∧ Draw H d n ∧ n + 2 ≤ 1000000 ∧ ∀ p (cs : W) H', cs.length = wd → Low cs → H' p = some (.lst (lettersV cs)) → H p = none → Draw H' d (n + 2) → SameB d H H' → Q (.ref p) H'
theorem scLet : FnScope ["_law_draw", "_law_wide", "_law_start", "_law_stride", "_law_k"] ["_law_draw", "_law_wide"] (defScope sLet) := ⟨rfl, rfl, rfl, by decide +kernel, rfl, by decide +kernel, by decide +kernel⟩
theorem ok_let {f : Addr} {fd : FuncData} (F : Fun K "_law_letters" "_law_letters" sLet f fd) (G : Txt K mg) (hT : Has P w K mg base 1 "_law_take" ["_law_draw", "_law_edge"] spTak) (hO : Has P w K mg base 2 "_law_of" ["_law_draw", "_law_some"] (spOf K)) : FnOk P w K mg base CX0 3 f fd ["_law_draw", "_law_wide"] spLet := by
  refine F.ok scLet (fun vs H Q E h => ?_) (fun cdv A outer s H vs Q E hr h => ?_)
  · obtain ⟨d, n, wd, rfl, _⟩ := h
    rfl
  · obtain ⟨d, n, wd, rfl, hwd, D, hn, k⟩ := h
    refine ⟨_, pss_cons (ps_asg (pe_tup (pa_cons (pe_has hT (hr.mono (by decide)) (pa_cons (pv 0) (pa_cons pe_int pa_nil))) (pa_cons (pe_has hO hr (pa_cons (pv 0) (pa_cons (pe_lst (pa_cons pe_int (pa_cons pe_int (pa_cons pe_int (pa_cons pe_int (pa_cons pe_int (pa_cons pe_int pa_nil))))))) pa_nil))) pa_nil)))
        (pg_tup rfl (pgs_cons (pg_name (i := 2) scLet.nd rfl (.inr rfl)) (pgs_cons (pg_name (i := 3) scLet.nd rfl (.inr rfl)) pgs_nil))))
      (pss_one (ps_ret (pe_lc (own := [("_law_k", 4)]) (g := gName 4) (tt := tYes) rfl scLet.nd (pi_range1 (by rfl) G.range (pa_cons (pv 1) pa_nil))
        (blkOk_by (own := [("_law_k", 4)]) (N := ["_law_draw", "_law_wide", "_law_start", "_law_stride", "_law_k"]) (sc := defScope sLet) (by decide +kernel)) (fun _ _ _ _ _ => pg_name (i := 4) scLet.nd rfl (Or.inl rfl)) (fun _ _ _ _ _ => pts_nil)
        (fun _ _ _ _ _ => pe_ix ix_str pe_str (pe_op op_mod (pe_op op_add (pv 2) (pe_op op_mul (pv 3) (pv 4))) pe_int) (fun _ _ => rfl))))), ?_⟩
    refine ⟨_, rfl, d, n, 26, rfl, by decide, by decide, D, by omega, fun r H1 hr1 D1 s1 => ?_⟩
    refine ⟨_, rfl, by decide, fun q hq => ?_⟩
    have sq := same_new (o := HO.lst [V.int 1, V.int 3, V.int 5, V.int 7, V.int 9, V.int 11]) hq
    refine ⟨d, n + 1, .ref q, fun x => ∃ j : Nat, x = .int j ∧ j ≤ 11, rfl, D1.same sq, by omega, .inl ⟨q, _, rfl, SqL.of upd_same, by simp, by decide, fun x hx => ?_⟩, fun x H2 hx D2 s2 => ?_⟩
    · simp only [List.mem_cons, List.not_mem_nil, or_false] at hx
      rcases hx with rfl | rfl | rfl | rfl | rfl | rfl
      · exact ⟨1, rfl, by decide⟩
      · exact ⟨3, rfl, by decide⟩
      · exact ⟨5, rfl, by decide⟩
      · exact ⟨7, rfl, by decide⟩
      · exact ⟨9, rfl, by decide⟩
      · exact ⟨11, rfl, by decide⟩
    · obtain ⟨j, rfl, hj⟩ := hx
      have s12 : SameB d H H2 := s1.trans ((sq.b d).trans s2)
      refine ⟨by show 2 ≤ sizeLine; decide, fun t ht => ⟨t, _, rfl, SqT.of upd_same, rfl, _, _, rfl, _, _, rfl, rfl, ?_⟩⟩
      have st := same_new (o := HO.tup [V.int (r : Nat), V.int (j : Nat)]) ht
      have D3 := D2.same st
      have s13 := s12.trans (st.b d)
      refine ⟨_, rfl, _, rfl, by omega, by omega, fun Dl hD => ?_⟩
      rw [Int.toNat_natCast]
      refine lc_it walk_range (fun i H3 => ∃ cs : W, cs.length = i ∧ Low cs ∧ Same (upd H2 t (.tup [V.int (r : Nat), V.int (j : Nat)])) H3 ∧ H3 Dl = some (.lst (lettersV cs))) ⟨[], rfl, (fun a ha => by cases ha), same_new hD, upd_same⟩ (fun _ _ _ _ => True.intro) ?_ ?_
      · rintro i x H3 H4 hi ⟨cs, hcl, hcs, s3, hDl⟩ ⟨rfl, hx⟩
        subst hx
        refine ⟨rfl, ?_⟩
        dsimp only [tYes]
        rw [if_pos rfl]
        obtain ⟨c, hc, c1, c2⟩ := az_at (((r : Nat) : Int) + ((j : Nat) : Int) * (0 + ((i : Nat) : Int)))
        refine ⟨_, rfl, _, rfl, _, rfl, _, _, rfl, rfl, .inl ⟨by omega, by omega⟩, _, _, rfl, rfl, _, 26, rfl, rfl, (by show (0 : Int) < 26; decide), AZ, _, c, rfl, rfl, by decide, hc, ?_⟩
        refine ⟨_, hDl, by rw [List.length_map, hcl]; exact small1000 (by omega), cs ++ [c], by rw [List.length_append, hcl]; rfl, ?_, fun b o e => ?_, ?_⟩
        · intro a ha
          rcases List.mem_append.mp ha with q | q
          · exact hcs a q
          · rw [List.mem_singleton.mp q]; exact ⟨c1, c2⟩
        · rw [upd_ne (ne_of_none e hD)]; exact s3 _ _ e
        · rw [upd_same]
          show some (HO.lst (_ ++ [V.str (T [c])])) = some (HO.lst ((cs ++ [c]).map fun c => V.str (T [c])))
          rw [List.map_append]; rfl
      · rintro H3 ⟨cs, hcl, hcs, s3, hDl⟩
        refine k Dl cs H3 hcl hcs hDl ?_ (D3.same s3) (s13.trans (s3.b d))
        cases q : H Dl with
        | none => rfl
        | some o =>
          have hne : Dl ≠ d := by
            obtain ⟨_, _, _, _, _, e⟩ := D3
            exact fun z => by rw [← z, hD] at e; cases e
          have := s13 Dl o hne q
          rw [hD] at this
          cases this
/-! ### _law_row: level 3 -/
abbrev sRow : Stmt := top 42
def spRow (K : PySem.W.Frag) : Sp := fun vs H Q _ => ∃ (d p : Addr) (n wd : Nat) (cs : W), vs = [.ref d, .ref p, .int (wd : Nat)] ∧ wd ≤ 200 ∧ SqL K H p (lettersV cs) ∧ cs ≠ [] ∧ cs.length ≤ 1000 ∧ Low cs ∧ Draw H d n ∧ n + 2 * wd ≤ 1000000 ∧
  ∀ (l : W) H', l.length = wd → Low l → (∀ c ∈ l, c ∈ cs) → Draw H' d (n + 2 * wd) → SameB d H H' → Q (.str (T l)) H'
theorem scRow : FnScope ["_law_draw", "_law_some", "_law_wide", "_law_found", "_law_k"] ["_law_draw", "_law_some", "_law_wide"] (defScope sRow) := ⟨rfl, rfl, rfl, by decide +kernel, rfl, by decide +kernel, by decide +kernel⟩
theorem ok_row {f : Addr} {fd : FuncData} (F : Fun K "_law_row" "_law_row" sRow f fd) (G : Txt K mg) (hO : Has P w K mg base 2 "_law_of" ["_law_draw", "_law_some"] (spOf K)) : FnOk P w K mg base CX0 3 f fd ["_law_draw", "_law_some", "_law_wide"] (spRow K) := by
  refine F.ok scRow (fun vs H Q E h => ?_) (fun cdv A outer s H vs Q E hr h => ?_)
  · obtain ⟨d, p, n, wd, cs, rfl, _⟩ := h
    rfl
  · obtain ⟨d, p, n, wd, cs, rfl, hwd, hp, hne, hcl, hcs, D, hn, k⟩ := h
    refine ⟨_, pss_cons (ps_set (i := 3) scRow.nd rfl (.inl rfl) pe_str)
      (pss_cons (ps_for PassesOwn.never rfl (pi_range1 (by rfl) G.range (pa_cons (pv 2) pa_nil)) (pg_name (i := 4) scRow.nd rfl (.inl rfl))
        (pss_one (ps_if (pt_cmpR op_lt (pe_callB call_len_str (by rfl) G.len PySem.boot_len (pa_cons (pv 3) pa_nil)) (pv 2) (nomark _))
          (pss_one (ps_set (i := 3) scRow.nd rfl (.inl rfl) (pe_op op_add_str (pv 3) (pe_op op_repS (pe_has hO hr (pa_cons (pv 0) (pa_cons (pv 1) pa_nil))) (pe_has hO hr (pa_cons (pv 0) (pa_cons (pe_lst (pa_cons pe_int (pa_cons pe_int (pa_cons pe_int (pa_cons pe_int (pa_cons pe_int (pa_cons pe_int pa_nil))))))) pa_nil))))))) pss_nil)))
      (pss_one (ps_ret (pe_slice sl_str (pv 3) po_none (po_some (pv 2)))))), ?_⟩
    refine ⟨_, rfl, _, rfl, by omega, by omega, ?_⟩
    rw [Int.toNat_natCast]
    refine for_it walk_range (fun i σ H1 => ∃ (l : W) (x : Option V), σ = [some (.ref d), some (.ref p), some (.int (wd : Nat)), some (.str (T l)), x] ∧ Low l ∧ (∀ c ∈ l, c ∈ cs) ∧ i ≤ l.length ∧ l.length ≤ wd + 3 ∧ Draw H1 d (n + 2 * i) ∧ SameB d H H1)
      ⟨[], none, rfl, (fun a ha => by cases ha), (fun a ha => by cases ha), Nat.le_refl _, by simp, D, SameB.refl d H⟩ (fun _ _ _ _ _ => True.intro) ?_ ?_
    · rintro i x σ H1 H2 hi ⟨l, x0, rfl, hl, hm, hil, hlw, D1, s1⟩ ⟨rfl, hx⟩
      subst hx
      refine ⟨_, rfl, T l, rfl, len_text (by omega), _, rfl, _, _, rfl, rfl, _, rfl, ?_⟩
      rw [T_len]
      refine ite2 (fun hlt => ?_) (fun hge => ?_)
      · have hlt' : l.length < wd := by
          have := of_decide_eq_true hlt
          omega
        refine ⟨_, rfl, _, rfl, _, rfl, d, n + 2 * i, .ref p, fun x => ∃ c : Nat, x = .str (T [c]) ∧ c ∈ cs, rfl, D1, by omega, .inl ⟨p, _, rfl, s1.seq D hp, by simpa using hne, by simpa using hcl, fun x hx => ?_⟩, fun x H3 hx D3 s3 => ?_⟩
        · obtain ⟨c, hc, rfl⟩ := List.mem_map.mp hx
          exact ⟨c, rfl, hc⟩
        · obtain ⟨c, rfl, hc⟩ := hx
          refine ⟨_, rfl, by decide, fun q hq => ?_⟩
          have sq := same_new (o := HO.lst [V.int 1, V.int 1, V.int 1, V.int 1, V.int 2, V.int 3]) hq
          refine ⟨d, n + 2 * i + 1, .ref q, fun x => ∃ j : Nat, x = .int j ∧ 1 ≤ j ∧ j ≤ 3, rfl, D3.same sq, by omega, .inl ⟨q, _, rfl, SqL.of upd_same, by simp, by decide, fun x hx => ?_⟩, fun x H4 hx D4 s4 => ?_⟩
          · simp only [List.mem_cons, List.not_mem_nil, or_false] at hx
            rcases hx with rfl | rfl | rfl | rfl | rfl | rfl
            · exact ⟨1, rfl, by decide, by decide⟩
            · exact ⟨1, rfl, by decide, by decide⟩
            · exact ⟨1, rfl, by decide, by decide⟩
            · exact ⟨1, rfl, by decide, by decide⟩
            · exact ⟨2, rfl, by decide, by decide⟩
            · exact ⟨3, rfl, by decide, by decide⟩
          · obtain ⟨j, rfl, j1, j3⟩ := hx
            refine ⟨c, (j : Nat), rfl, rfl, by omega, by omega, T l, T (List.replicate ((j : Nat) : Int).toNat c), rfl, rfl, ?_, ?_⟩
            · rw [T_len, T_len, List.length_replicate, Int.toNat_natCast]
              exact small200 (by omega)
            · rw [T_app, Int.toNat_natCast]
              refine ⟨l ++ List.replicate j c, _, rfl, ?_, ?_, ?_, ?_, D4.mono (by omega), s1.trans (s3.trans ((sq.b d).trans s4))⟩
              · intro a ha
                rcases List.mem_append.mp ha with q | q
                · exact hl a q
                · rw [(List.mem_replicate.mp q).2]; exact hcs c hc
              · intro a ha
                rcases List.mem_append.mp ha with q | q
                · exact hm a q
                · rw [(List.mem_replicate.mp q).2]; exact hc
              · rw [List.length_append, List.length_replicate]; omega
              · rw [List.length_append, List.length_replicate]; omega
      · have hge' : wd ≤ l.length := by
          refine Nat.le_of_not_lt fun z => hge (decide_eq_true ?_)
          omega
        exact ⟨l, _, rfl, hl, hm, by omega, hlw, D1.mono (by omega), s1⟩
    · rintro σ H1 ⟨l, x0, rfl, hl, hm, hil, hlw, D1, s1⟩
      refine ⟨_, rfl, _, rfl, (wd : Nat), rfl, T l, rfl, len_text (by omega), ?_⟩
      rw [cut_to]
      exact k _ H1 (by rw [List.length_take]; omega) (hl.take wd) (fun c hc => hm c (List.mem_of_mem_take hc)) D1 s1
/-! ### _law_closed: level 1 -/
abbrev sClo : Stmt := top 43
def spClo : Sp := fun vs H Q _ => ∃ (v : W) (x : Nat), vs = [.str (T (M v)), .str (T [x])] ∧ L v ≤ 1000 ∧ ∀ H', Same H H' → Q (.str (T (M (v ++ [x])))) H'
theorem scClo : FnScope ["_law_text", "_law_sign", "_law_grown", "_law_at"] ["_law_text", "_law_sign"] (defScope sClo) := ⟨rfl, rfl, rfl, by decide +kernel, rfl, by decide +kernel, by decide +kernel⟩
theorem ok_clo {f : Addr} {fd : FuncData} (F : Fun K "_law_closed" "_law_closed" sClo f fd) (G : Txt K mg) : FnOk P w K mg base CX0 1 f fd ["_law_text", "_law_sign"] spClo := by
  refine F.ok scClo (fun vs H Q E h => ?_) (fun cdv A outer s H vs Q E hr h => ?_)
  · obtain ⟨v, x, rfl, _⟩ := h
    rfl
  · obtain ⟨v, x, rfl, hL, k⟩ := h
    obtain ⟨k0, hk0, hpal, hM, hleast⟩ := closing_some v x
    refine ⟨_, pss_cons (ps_set (i := 2) scClo.nd rfl (.inl rfl) (pe_op op_add_str (pv 0) (pv 1)))
      (pss_cons (ps_for PassesOwn.never rfl (pi_range1 (by rfl) G.range (pa_cons (pe_callB call_len_str (by rfl) G.len PySem.boot_len (pa_cons (pv 2) pa_nil)) pa_nil)) (pg_name (i := 3) scClo.nd rfl (.inl rfl))
        (pss_one (ps_if (pt_cmpR op_eq (pe_slice sl_str (pv 2) (po_some (pv 3)) po_none) (pe_revS (pe_slice sl_str (pv 2) (po_some (pv 3)) po_none)) (nomark _))
          (pss_one (ps_ret (pe_op op_add_str (pv 2) (pe_revS (pe_slice sl_str (pv 2) po_none (po_some (pv 3))))))) pss_nil)))
      (pss_one (ps_ret (pv 2)))), ?_⟩
    have hl : (M v ++ [x]).length = L v + 1 := by rw [List.length_append]; rfl
    have hlen : (T (M v ++ [x])).length ≤ sizeLine := len_text (by rw [hl]; omega)
    refine ⟨_, rfl, _, rfl, T (M v), T [x], rfl, rfl, ?_, ?_⟩
    · rw [T_len, T_len]
      exact small200 (by show L v + 1 ≤ _; omega)
    · rw [T_app]
      refine ⟨_, rfl, T (M v ++ [x]), rfl, hlen, _, rfl, by omega, by rw [T_len, hl]; omega, ?_⟩
      rw [Int.toNat_natCast, T_len, hl]
      refine for_it walk_range (fun i σ H1 => ∃ y : Option V, σ = [some (.str (T (M v))), some (.str (T [x])), some (.str (T (M v ++ [x]))), y] ∧ Same H H1 ∧ i ≤ k0) ⟨none, rfl, Same.refl H, Nat.zero_le _⟩ (fun _ _ _ _ _ => True.intro) ?_ ?_
      · rintro i y σ H1 H2 hi ⟨y0, rfl, s1, hik⟩ ⟨rfl, hx⟩
        have hx' : y = V.int (i : Nat) := hx.trans (congrArg V.int (Int.zero_add _))
        subst hx'
        refine ⟨_, rfl, _, rfl, _, rfl, T (M v ++ [x]), rfl, hlen, ?_⟩
        rw [cut_from]
        refine ⟨_, rfl, _, rfl, _, rfl, T (M v ++ [x]), rfl, hlen, ?_⟩
        rw [cut_from]
        refine ⟨T ((M v ++ [x]).drop i), rfl, len_text (by rw [List.length_drop, hl]; omega), rfl, _, rfl, ?_⟩
        rw [rev_T]
        by_cases hi0 : i = k0
        · subst hi0
          rw [decide_eq_true (show V.str (T ((M v ++ [x]).drop i)) = V.str (T ((M v ++ [x]).drop i).reverse) by rw [hpal])]
          refine iteT ?_
          refine ⟨_, rfl, _, rfl, _, rfl, _, rfl, T (M v ++ [x]), rfl, hlen, ?_⟩
          rw [cut_to]
          refine ⟨T ((M v ++ [x]).take i), rfl, len_text (by rw [List.length_take, hl]; omega), ?_⟩
          rw [rev_T]
          refine ⟨T (M v ++ [x]), _, rfl, rfl, ?_, ?_⟩
          · rw [T_len, T_len, List.length_reverse, List.length_take, hl]
            exact small200 (by omega)
          · rw [T_app, ← hM]
            exact k _ s1
        · rw [decide_eq_false (fun z => hleast i (by omega) (by
            injection z with z
            exact (T_inj.mp z).symm))]
          refine iteF ?_
          exact ⟨_, rfl, s1, by omega⟩
      · rintro σ H1 ⟨y0, rfl, s1, hik⟩
        omega
end
end Mw

namespace Mw
open PySem L2 Mp TL
theorem L_snoc (v : W) (c : Nat) : L (v ++ [c]) ≤ 2 * L v + 1 := by
  have hc : (v ++ [c])[v.length]? = some c := by simp
  have e1 : (v ++ [c]).take (v.length + 1) = v ++ [c] := by rw [List.take_of_length_le]; simp
  have e2 : (v ++ [c]).take v.length = v := by simp
  rcases last_or_new (v ++ [c]) v.length with h | ⟨j, h⟩
  · have := len_new hc h
    rw [e1, e2] at this
    omega
  · have := (len_old hc h).1
    rw [e1, e2] at this
    omega
section
variable {P : Program} {w : World} {K : PySem.W.Frag} {mg : Str → Option Value} {base : Heap}
/-! ### _law_short: level 4 -/
abbrev sSho : Stmt := top 44
def spSho (K : PySem.W.Frag) : Sp := fun vs H Q _ => ∃ (d p : Addr) (n : Nat) (cs : W), vs = [.ref d, .ref p, .int 150] ∧ SqL K H p (lettersV cs) ∧ cs ≠ [] ∧ cs.length ≤ 1000 ∧ Low cs ∧ Draw H d n ∧ n + 25 ≤ 1000000 ∧
  ∀ (t f : Addr) (v : W) (xs : List V) H', Low v → v.length ≤ 12 → L v ≤ 150 → H' t = some (.tup [.str (T v), .ref f]) → H' f = some (.lst (xs ++ [.str (T (M v))])) → Draw H' d (n + 25) → SameB d H H' → Q (.ref t) H'
theorem scSho : FnScope ["_law_draw", "_law_some", "_law_most", "_law_row_here", "_law_found", "_law_sign"] ["_law_draw", "_law_some", "_law_most"] (defScope sSho) := ⟨rfl, rfl, rfl, by decide +kernel, rfl, by decide +kernel, by decide +kernel⟩
theorem ok_sho {f : Addr} {fd : FuncData} (F : Fun K "_law_short" "_law_short" sSho f fd) (G : Txt K mg) (hT : Has P w K mg base 1 "_law_take" ["_law_draw", "_law_edge"] spTak) (hR : Has P w K mg base 3 "_law_row" ["_law_draw", "_law_some", "_law_wide"] (spRow K))
    (hC : Has P w K mg base 1 "_law_closed" ["_law_text", "_law_sign"] spClo) : FnOk P w K mg base CX0 4 f fd ["_law_draw", "_law_some", "_law_most"] (spSho K) := by
  refine F.ok scSho (fun vs H Q E h => ?_) (fun cdv A outer s H vs Q E hr h => ?_)
  · obtain ⟨d, p, n, cs, rfl, _⟩ := h
    rfl
  · obtain ⟨d, p, n, cs, rfl, hp, hne, hcl, hcs, D, hn, k⟩ := h
    have hr1 : Room 1 _ := hr.mono (by decide)
    refine ⟨_, pss_cons (ps_par (i := 3) (j := 4) rfl scSho.nd rfl rfl (by decide) rfl rfl (pa_cons pe_str (pa_cons (pe_lst (pa_cons pe_str pa_nil)) pa_nil)) (by rfl))
      (pss_cons (ps_for PassesOwn.never rfl (pi_str (pe_has hR hr (pa_cons (pv 0) (pa_cons (pv 1) (pa_cons (pe_op op_add pe_int (pe_has hT hr1 (pa_cons (pv 0) (pa_cons pe_int pa_nil)))) pa_nil))))) (pg_name (i := 5) scSho.nd rfl (.inl rfl))
        (pss_one (ps_if (pt_cmpR op_le (pe_op op_add (pe_op op_mul (pe_callB call_len_str (by rfl) G.len PySem.boot_len (pa_cons (pe_ix ix_list (pv 4) (pe_un un_neg pe_int) (fun _ _ => rfl)) pa_nil)) pe_int) pe_int) (pv 2) (nomark _))
          (pss_cons (ps_set (i := 3) scSho.nd rfl (.inl rfl) (pe_op op_add_str (pv 3) (pv 5)))
          (pss_one (ps_expr (pe_app (pv 4) (pe_has hC hr1 (pa_cons (pe_ix ix_list (pv 4) (pe_un un_neg pe_int) (fun _ _ => rfl)) (pa_cons (pv 5) pa_nil))))))) pss_nil)))
      (pss_one (ps_ret (pe_tup (pa_cons (pv 3) (pa_cons (pv 4) pa_nil)))))), ?_⟩
    refine ⟨by decide, fun fl hfl => ⟨_, _, rfl, ?_⟩⟩
    have s0 := same_new (o := HO.lst [V.str (Str.ofString "")]) hfl
    refine ⟨_, rfl, _, rfl, _, rfl, d, n, 12, rfl, by decide, by decide, D.same s0, by omega, fun r H1 hr1 D1 s1 => ?_⟩
    have hfd : fl ≠ d := by
      obtain ⟨_, _, _, _, _, e⟩ := D
      exact fun z => by rw [← z, hfl] at e; cases e
    have h1f : H1 fl = some (.lst [V.str (Str.ofString "")]) := s1 _ _ hfd upd_same
    have s01 : SameB d H H1 := (s0.b d).trans s1
    refine ⟨1, (r : Nat), rfl, rfl, d, p, n + 1, 1 + r, cs, rfl, by omega, s01.seq D hp, hne, hcl, hcs, D1, by omega, fun l H2 hll hlow hlm D2 s2 => ?_⟩
    refine ⟨T l, rfl, ?_⟩
    have D2' : Draw H2 d (n + 25) := D2.mono (by omega)
    refine for_it walk_str (fun i σ H3 => ∃ (v : W) (xs : List V) (x : Option V), σ = [some (.ref d), some (.ref p), some (.int 150), some (.str (T v)), some (.ref fl), x] ∧ Low v ∧ v.length ≤ i ∧ L v ≤ 150 ∧ xs.length ≤ i ∧ H3 fl = some (.lst (xs ++ [.str (T (M v))])) ∧ Draw H3 d (n + 25) ∧ SameB d H H3)
      ⟨[], [], none, rfl, (fun a ha => by cases ha), Nat.le_refl _, by simp [L, M], Nat.le_refl _, s2 _ _ hfd h1f, D2', s01.trans s2⟩ (fun _ _ _ _ _ => True.intro) ?_ ?_
    · rintro i x σ H3 H4 hi ⟨v, xs, x0, rfl, hv, hvi, hL, hxi, hf, D3, s3⟩ ⟨rfl, c, hc, rfl⟩
      rw [T_size] at hi
      rw [T_get] at hc
      have hcl97 := hlow c (List.mem_of_getElem? hc)
      have hlast : atI (xs ++ [V.str (T (M v))]) (-1) = some (V.str (T (M v))) := atI_last _ _
      refine ⟨_, rfl, 1, rfl, fl, _, _, _, rfl, rfl, SqL.of hf, hlast, T (M v), rfl, len_text (by show L v ≤ _; omega), _, 2, rfl, rfl, .inr ⟨by decide, by decide⟩, _, 1, rfl, rfl, _, rfl, _, 150, rfl, rfl, _, rfl, ?_⟩
      refine ite2 (fun hle => ?_) (fun hgt => ?_)
      · have hle' : L v * 2 + 1 ≤ 150 := by
          have := of_decide_eq_true hle
          rw [T_len] at this
          show (M v).length * 2 + 1 ≤ 150
          omega
        refine ⟨_, rfl, _, rfl, T v, T [c], rfl, rfl, ?_, ?_⟩
        · rw [T_len, T_len]
          exact small200 (by rw [List.length_singleton]; omega)
        · rw [T_app]
          refine ⟨_, rfl, .inl ⟨rfl, _, SqL.of hf⟩, _, rfl, 1, rfl, fl, _, _, _, rfl, rfl, SqL.of hf, hlast, _, rfl, v, c, rfl, by omega, fun H5 s5 => ?_⟩
          refine ⟨fl, _, _, rfl, rfl, s5 _ _ hf, ?_, ?_⟩
          · rw [List.length_append]
            exact small1000 (by rw [List.length_singleton]; omega)
          · have sfin : SameB d H (upd H5 fl (.lst (xs ++ [V.str (T (M v))] ++ [V.str (T (M (v ++ [c])))]))) := fun b o hb e => by
              rw [upd_ne (ne_of_none e hfl)]
              exact s5 _ _ (s3 b o hb e)
            refine ⟨v ++ [c], xs ++ [V.str (T (M v))], _, rfl, ?_, by rw [List.length_append]; exact Nat.succ_le_succ hvi, ?_, by rw [List.length_append]; exact Nat.succ_le_succ hxi, upd_same, ?_, sfin⟩
            · intro a ha
              rcases List.mem_append.mp ha with q | q
              · exact hv a q
              · rw [List.mem_singleton.mp q]; exact hcl97
            · have := L_snoc v c; omega
            · obtain ⟨a1, a2, a3, b1, b2, b3⟩ := D3.same s5
              exact ⟨a1, a2, a3, b1, b2, by rw [upd_ne hfd.symm]; exact b3⟩
      · exact ⟨v, xs, _, rfl, hv, by omega, hL, by omega, hf, D3, s3⟩
    · rintro σ H3 ⟨v, xs, x0, rfl, hv, hvi, hL, hxi, hf, D3, s3⟩
      rw [T_size] at hvi
      refine ⟨_, rfl, _, rfl, by show 2 ≤ sizeLine; decide, fun t ht => ?_⟩
      have st := same_new (o := HO.tup [V.str (T v), V.ref fl]) ht
      exact k t fl v xs _ hv (by omega) hL upd_same (st _ _ hf) (D3.same st) (s3.trans (st.b d))
/-! ### _law_bit: level 3 -/
abbrev sBit : Stmt := top 45
def spBit : Sp := fun vs H Q _ => ∃ (d : Addr) (n : Nat) (m : W), vs = [.ref d, .str (T m)] ∧ m.length ≤ 200 ∧ Draw H d n ∧ n + 5 ≤ 1000000 ∧ ∀ (z : W) H', z <:+: m → Draw H' d (n + 5) → SameB d H H' → Q (.str (T z)) H'
theorem scBit : FnScope ["_law_draw", "_law_text", "_law_start", "_law_size"] ["_law_draw", "_law_text"] (defScope sBit) := ⟨rfl, rfl, rfl, by decide +kernel, rfl, by decide +kernel, by decide +kernel⟩
theorem ok_bit {f : Addr} {fd : FuncData} (F : Fun K "_law_bit" "_law_bit" sBit f fd) (G : Txt K mg) (hT : Has P w K mg base 1 "_law_take" ["_law_draw", "_law_edge"] spTak) (hO : Has P w K mg base 2 "_law_of" ["_law_draw", "_law_some"] (spOf K)) : FnOk P w K mg base CX0 3 f fd ["_law_draw", "_law_text"] spBit := by
  refine F.ok scBit (fun vs H Q E h => ?_) (fun cdv A outer s H vs Q E hr h => ?_)
  · obtain ⟨d, n, m, rfl, _⟩ := h
    rfl
  · obtain ⟨d, n, m, rfl, hm, D, hn, k⟩ := h
    have hr1 : Room 1 _ := hr.mono (by decide)
    refine ⟨_, pss_cons (ps_set (i := 2) scBit.nd rfl (.inl rfl) (pe_has hT hr1 (pa_cons (pv 0) (pa_cons (pe_op op_add (pe_callB call_len_str (by rfl) G.len PySem.boot_len (pa_cons (pv 1) pa_nil)) pe_int) pa_nil))))
      (pss_cons (ps_set (i := 3) scBit.nd rfl (.inl rfl) (pe_has hO hr (pa_cons (pv 0) (pa_cons (pe_lst (pa_cons (pe_has hT hr1 (pa_cons (pv 0) (pa_cons pe_int pa_nil))) (pa_cons (pe_has hT hr1 (pa_cons (pv 0) (pa_cons pe_int pa_nil)))
          (pa_cons (pe_has hT hr1 (pa_cons (pv 0) (pa_cons (pe_op op_add (pe_callB call_len_str (by rfl) G.len PySem.boot_len (pa_cons (pv 1) pa_nil)) pe_int) pa_nil))) (pa_cons pe_int (pa_cons pe_int (pa_cons (pe_callB call_len_str (by rfl) G.len PySem.boot_len (pa_cons (pv 1) pa_nil)) pa_nil))))))) pa_nil))))
      (pss_one (ps_ret (pe_ifExp (pt_cmpR op_lt (pv 3) (pe_callB call_len_str (by rfl) G.len PySem.boot_len (pa_cons (pv 1) pa_nil)) (nomark _)) (pe_slice sl_str (pv 1) (po_some (pv 2)) (po_some (pe_op op_add (pv 2) (pv 3)))) (pv 1))))), ?_⟩
    have hlen : (T m).length ≤ sizeLine := len_text (by omega)
    have el : ((T m).length : Int) + 1 = ((m.length + 1 : Nat) : Int) := by rw [T_len]; rfl
    refine ⟨_, rfl, _, rfl, T m, rfl, hlen, _, 1, rfl, rfl, d, n, m.length + 1, (by rw [← el]; rfl), by omega, by omega, D, by omega, fun r H1 hr1 D1 s1 => ?_⟩
    refine ⟨_, rfl, _, rfl, d, n + 1, 6, rfl, by decide, by decide, D1, by omega, fun r1 H2 _ D2 s2 => ?_⟩
    refine ⟨_, rfl, d, n + 2, 14, rfl, by decide, by decide, D2, by omega, fun r2 H3 _ D3 s3 => ?_⟩
    refine ⟨_, rfl, _, rfl, T m, rfl, hlen, _, 1, rfl, rfl, d, n + 3, m.length + 1, (by rw [← el]; rfl), by omega, by omega, D3, by omega, fun r3 H4 _ D4 s4 => ?_⟩
    refine ⟨_, rfl, T m, rfl, hlen, by show 6 ≤ sizeLine; decide, fun q hq => ?_⟩
    have sq := same_new (o := HO.lst [V.int (r1 : Nat), V.int (r2 : Nat), V.int (r3 : Nat), V.int 1, V.int 0, V.int ((T m).length : Nat)]) hq
    refine ⟨d, n + 4, .ref q, fun x => ∃ j : Nat, x = .int (j : Nat), rfl, D4.same sq, by omega, .inl ⟨q, _, rfl, SqL.of upd_same, by simp, by show 6 ≤ 1000; decide, fun x hx => ?_⟩, fun x H5 hx D5 s5 => ?_⟩
    · simp only [List.mem_cons, List.not_mem_nil, or_false] at hx
      rcases hx with rfl | rfl | rfl | rfl | rfl | rfl
      · exact ⟨_, rfl⟩
      · exact ⟨_, rfl⟩
      · exact ⟨_, rfl⟩
      · exact ⟨1, rfl⟩
      · exact ⟨0, rfl⟩
      · exact ⟨_, rfl⟩
    · obtain ⟨j, rfl⟩ := hx
      have sall : SameB d H H5 := s1.trans (s2.trans (s3.trans (s4.trans ((sq.b d).trans s5))))
      refine ⟨_, rfl, _, rfl, T m, rfl, hlen, _, _, rfl, rfl, _, rfl, ?_⟩
      refine ite2 (fun hlt => ?_) (fun hge => ?_)
      · refine ⟨_, rfl, _, rfl, (r : Nat), rfl, _, rfl, _, rfl, _, _, rfl, rfl, ((r + j : Nat) : Int), rfl, T m, rfl, hlen, ?_⟩
        rw [cut_mid]
        exact k _ H5 ((List.take_prefix _ _).isInfix.trans (List.drop_suffix _ _).isInfix) D5 sall
      · exact ⟨_, rfl, k m H5 (List.infix_refl m) D5 sall⟩
end
end Mw

namespace Mw
open PySem L2 Mp TL
theorem pos_short {z m : W} (h : z.length ≤ m.length) : pos z m = (List.range (m.length - z.length + 1)).filter fun i => z.isPrefixOf (m.drop i) := by
  refine sorted_ext ((range_lt _).filter _) ((range_lt _).filter _) fun x => ?_
  unfold pos
  rw [List.mem_filter, List.mem_filter, List.mem_range, List.mem_range]
  constructor
  · rintro ⟨h1, h2⟩
    refine ⟨?_, h2⟩
    have := (isPrefixOf_iff.mp h2).length_le
    rw [List.length_drop] at this
    omega
  · rintro ⟨h1, h2⟩
    exact ⟨by omega, h2⟩
section
variable {P : Program} {w : World} {K : PySem.W.Frag} {mg : Str → Option Value} {base : Heap}
/-! ### _law_spots: level 1 -/
abbrev sSpo : Stmt := top 46
abbrev natsV (l : List Nat) : List V := l.map fun i => V.int (i : Nat)
def spSpo : Sp := fun vs H Q _ => ∃ (m z : W), vs = [.str (T m), .str (T z)] ∧ z.length ≤ m.length ∧ m.length ≤ 900 ∧ ∀ p H', Same H H' → H p = none → H' p = some (.lst (natsV (pos z m))) → Q (.ref p) H'
theorem scSpo : FnScope ["_law_text", "_law_bit_here", "_law_at"] ["_law_text", "_law_bit_here"] (defScope sSpo) := ⟨rfl, rfl, rfl, by decide +kernel, rfl, by decide +kernel, by decide +kernel⟩
theorem ok_spo {f : Addr} {fd : FuncData} (F : Fun K "_law_spots" "_law_spots" sSpo f fd) (G : Txt K mg) : FnOk P w K mg base CX0 1 f fd ["_law_text", "_law_bit_here"] spSpo := by
  refine F.ok scSpo (fun vs H Q E h => ?_) (fun cdv A outer s H vs Q E hr h => ?_)
  · obtain ⟨m, z, rfl, _⟩ := h
    rfl
  · obtain ⟨m, z, rfl, hz, hm, k⟩ := h
    refine ⟨_, pss_one (ps_ret (pe_lc (own := [("_law_at", 2)]) (g := gName 2) (tt := tTest (tOp rEq (tSl rSlS (tVar 0) (tPart (tVar 2)) (tPart (tOp (rI0 fun i j => .int (i + j)) (tVar 2) (tCB (fun xs H Q => ∃ z : Str, xs = [.str z] ∧ z.length ≤ sizeLine ∧ Q (.int z.length) H) (tCons (tVar 1) tNil))))) (tVar 1))) rfl scSpo.nd
      (pi_range1 (by rfl) G.range (pa_cons (pe_op op_add (pe_op op_sub (pe_callB call_len_str (by rfl) G.len PySem.boot_len (pa_cons (pv 0) pa_nil)) (pe_callB call_len_str (by rfl) G.len PySem.boot_len (pa_cons (pv 1) pa_nil))) pe_int) pa_nil))
      (blkOk_by (own := [("_law_at", 2)]) (N := ["_law_text", "_law_bit_here", "_law_at"]) (sc := defScope sSpo) (by decide +kernel)) (fun _ _ _ _ _ => pg_name (i := 2) scSpo.nd rfl (Or.inl rfl))
      (fun _ _ _ _ _ => pts_one (pt_cmpR op_eq (pe_slice sl_str (pv 0) (po_some (pv 2)) (po_some (pe_op op_add (pv 2) (pe_callB call_len_str (by rfl) G.len PySem.boot_len (pa_cons (pv 1) pa_nil))))) (pv 1) (nomark _)))
      (fun _ _ _ _ _ => pv 2))), ?_⟩
    have hlm : (T m).length ≤ sizeLine := len_text (by omega)
    have hlz : (T z).length ≤ sizeLine := len_text (by omega)
    have e1 : ((T m).length : Int) - ((T z).length : Nat) + 1 = ((m.length - z.length + 1 : Nat) : Int) := by rw [T_len, T_len]; omega
    refine ⟨_, rfl, T m, rfl, hlm, _, rfl, T z, rfl, hlz, _, _, rfl, rfl, _, 1, rfl, rfl, _, rfl, by rw [e1]; omega, by rw [e1]; omega, fun D hD => ?_⟩
    rw [e1, Int.toNat_natCast]
    refine lc_it walk_range (fun i H3 => Same H H3 ∧ H3 D = some (.lst (natsV ((List.range i).filter fun j => z.isPrefixOf (m.drop j))))) ⟨same_new hD, upd_same⟩ (fun _ _ _ _ => True.intro) ?_ ?_
    · rintro i x H3 H4 hi ⟨s3, hDl⟩ ⟨rfl, hx⟩
      have hx' : x = V.int (i : Nat) := hx.trans (congrArg V.int (Int.zero_add _))
      subst hx'
      refine ⟨rfl, ?_⟩
      refine ⟨_, rfl, _, rfl, (i : Nat), rfl, _, rfl, _, rfl, T z, rfl, hlz, _, _, rfl, rfl, _, rfl, T m, rfl, hlm, ?_⟩
      have e2 : ((i : Nat) : Int) + ((T z).length : Nat) = ((i + z.length : Nat) : Int) := by rw [T_len]; rfl
      rw [e2, cut_mid]
      refine ⟨_, rfl, rfl, _, rfl, ?_⟩
      have e3 : decide (V.str (T ((m.drop i).take (i + z.length - i))) = V.str (T z)) = z.isPrefixOf (m.drop i) := by
        rw [show i + z.length - i = z.length by omega]
        by_cases hp : z <+: m.drop i
        · rw [isPrefixOf_iff.mpr hp]
          exact decide_eq_true (by rw [← List.prefix_iff_eq_take.mp hp])
        · have h1 : z.isPrefixOf (m.drop i) = false := by
            cases q : z.isPrefixOf (m.drop i) with
            | false => rfl
            | true => exact absurd (isPrefixOf_iff.mp q) hp
          rw [h1]
          refine decide_eq_false fun q => hp ?_
          injection q with q
          rw [List.prefix_iff_eq_take]
          exact (T_inj.mp q).symm
      rw [e3]
      have e4 : (List.range (i + 1)).filter (fun j => z.isPrefixOf (m.drop j)) = (List.range i).filter (fun j => z.isPrefixOf (m.drop j)) ++ (if z.isPrefixOf (m.drop i) = true then [i] else []) := by
        rw [List.range_succ, List.filter_append]
        congr 1
        cases q : z.isPrefixOf (m.drop i) <;> simp [q]
      cases q : z.isPrefixOf (m.drop i) with
      | true =>
        refine iteT ?_
        refine ⟨_, rfl, _, hDl, ?_, fun b o e => ?_, ?_⟩
        · rw [List.length_map]
          refine small1000 (Nat.le_trans (List.length_filter_le _ _) ?_)
          rw [List.length_range]; omega
        · rw [upd_ne (ne_of_none e hD)]; exact s3 _ _ e
        · rw [upd_same, e4, q, if_pos rfl]
          show some (HO.lst (_ ++ [V.int (i : Nat)])) = some (HO.lst ((_ ++ [i]).map fun j => V.int (j : Nat)))
          rw [List.map_append]; rfl
      | false =>
        refine iteF ?_
        refine ⟨s3, ?_⟩
        rw [e4, q, if_neg Bool.false_ne_true, List.append_nil]
        exact hDl
    · rintro H3 ⟨s3, hDl⟩
      rw [← pos_short hz] at hDl
      exact k D H3 s3 hD hDl
/-! ### _law_lens: level 1 -/
abbrev sLns : Stmt := top 47
theorem scLns : FnScope ["_law_row_here", "_law_found", "_law_known", "_law_k", "_law_sign"] ["_law_row_here"] (defScope sLns) := ⟨rfl, rfl, rfl, by decide +kernel, rfl, by decide +kernel, by decide +kernel⟩
theorem ok_lns {f : Addr} {fd : FuncData} (F : Fun K "_law_lens" "_law_lens" sLns f fd) (G : Txt K mg) : FnOk P w K mg base CX0 1 f fd ["_law_row_here"] spLen := by
  refine F.ok scLns (fun vs H Q E h => ?_) (fun cdv A outer s H vs Q E hr h => ?_)
  · obtain ⟨l, rfl, _⟩ := h
    rfl
  · obtain ⟨l, rfl, hn, k⟩ := h
    have hu := hu_of hr
    refine ⟨_, pss_cons (ps_par (i := 1) (j := 2) rfl scLns.nd rfl rfl (by decide) rfl rfl (pa_cons (pe_lst (pa_cons pe_int pa_nil)) (pa_cons pe_dnewK pa_nil)) (by rfl))
      (pss_cons (ps_for PassesOwn.never rfl (pi_enumS (by rfl) G.enu (pa_cons (pv 0) pa_nil))
        (pg_tup rfl (pgs_cons (pg_name (i := 3) scLns.nd rfl (.inl rfl)) (pgs_cons (pg_name (i := 4) scLns.nd rfl (.inl rfl)) pgs_nil)))
        (pss_cons (ps_expr (pe_app (pv 1) (pe_ifExp (pt_cmp (pc_din hu (pv 4) (pv 2)))
          (pe_op op_sub (pe_op op_mul pe_int (pe_ix ix_list (pv 1) (pv 3) (fun _ _ => rfl))) (pe_ix ix_list (pv 1) (pe_dget hu (pv 2) (pv 4) (fun _ _ => rfl)) (fun _ _ => rfl)))
          (pe_op op_add (pe_op op_mul pe_int (pe_ix ix_list (pv 1) (pv 3) (fun _ _ => rfl))) pe_int))))
        (pss_one (ps_dput hu (pv 2) (pv 4) (pv 3) rfl))))
      (pss_one (ps_ret (pv 1)))), ?_⟩
    refine ⟨by decide, fun f hf => ?_⟩
    intro d hd
    refine ⟨_, _, rfl, ?_⟩
    have nfd : f ≠ d := ne_of_none upd_same hd
    have hd0 : H d = none := by rw [upd_ne nfd.symm] at hd; exact hd
    refine ⟨_, rfl, T l, rfl, for_it walk_enumS (fun i σ H1 => ∃ a b kvs, σ = [some (.str (T l)), some (.ref f), some (.ref d), a, b] ∧ Same H H1 ∧ H1 d = some (.dK kvs) ∧ H1 f = some (.lst ((lensI l (i + 1)).map V.int)) ∧ DLast l i kvs)
      ⟨none, none, [], rfl, (same_new hf).trans (same_new hd), upd_same, by rw [upd_ne nfd, upd_same]; rfl, ⟨Nat.le_refl _, fun c => .inl ⟨rfl, fun k hk => absurd hk (Nat.not_lt_zero k)⟩⟩⟩ (fun _ _ _ _ _ => True.intro) ?_ ?_⟩
    · rintro i x σ H1 H2 hi ⟨a, b, kvs, rfl, s1, h1d, h1f, D1⟩ ⟨Ta, c, rfl, hT, rfl, hc⟩
      rw [T_size] at hi
      rw [T_get] at hc
      have nTd : d ≠ Ta := ne_of_none h1d hT
      have nTf : f ≠ Ta := ne_of_none h1f hT
      have gd := (upd_ne (H := H1) (o := HO.tup [V.int (i : Nat), V.str ⟨#[c]⟩]) nTd).trans h1d
      have gf := (upd_ne (H := H1) (o := HO.tup [V.int (i : Nat), V.str ⟨#[c]⟩]) nTf).trans h1f
      have gs := s1.trans (same_new (o := HO.tup [V.int (i : Nat), V.str ⟨#[c]⟩]) hT)
      refine ⟨Ta, _, rfl, SqT.of upd_same, rfl, _, _, rfl, _, _, rfl, rfl, ?_⟩
      generalize upd H1 Ta (HO.tup [V.int (i : Nat), V.str ⟨#[c]⟩]) = H4 at gd gf gs
      have hll : ((lensI l (i + 1)).map V.int).length < sizeLine := by rw [List.length_map, lensI_len]; exact small1000 (by omega)
      have hg := DGet.k (k := (Sum.inr (⟨#[c]⟩ : Str) : Key)) gd
      have gi : atI ((lensI l (i + 1)).map V.int) ((i : Nat) : Int) = some (V.int (L (l.take i) : Int)) := atI_nat (lensV_get (by omega))
      have fin : ∀ z : Int, z = (L (l.take (i + 1)) : Int) → sDPut (tVar 2) (tVar 4) (tVar 3) { nx := fun σ H1 => ∃ a b kvs, σ = [some (.str (T l)), some (.ref f), some (.ref d), a, b] ∧ Same H H1 ∧ H1 d = some (.dK kvs) ∧ H1 f = some (.lst ((lensI l (i + 1 + 1)).map V.int)) ∧ DLast l (i + 1) kvs, rt := Q }
          [some (.str (T l)), some (.ref f), some (.ref d), some (.int (i : Nat)), some (.str (T [c]))] (upd H4 f (.lst ((lensI l (i + 1)).map V.int ++ [V.int z]))) := fun z hz => by
        refine ⟨_, rfl, _, rfl, _, rfl, d, _, rfl, DPut.k (k := (Sum.inr (⟨#[c]⟩ : Str) : Key)) (by rw [upd_ne nfd.symm]; exact gd) (small1000 (by have := D1.1; omega)), ?_⟩
        refine ⟨_, _, _, rfl, fun b o e => ?_, upd_same, ?_, D1.step hc⟩
        · rw [upd_ne (ne_of_none e hd0), upd_ne (ne_of_none e hf)]
          exact gs _ _ e
        · rw [upd_ne nfd, upd_same, lensI_succ l (i + 1), List.map_append, hz]; rfl
      refine ⟨_, rfl, .inl ⟨rfl, _, SqL.of gf⟩, ?_⟩
      rcases D1.2 c with ⟨v1, v2⟩ | ⟨j, v1, v2, v3, v4⟩
      · rw [v1] at hg
        have hnw : IsNew l i := fun m hm => by rw [hc]; exact v2 m hm
        refine ⟨_, rfl, _, rfl, d, _, rfl, hg, _, rfl, iteF ?_⟩
        refine ⟨_, rfl, _, rfl, f, _, _, _, rfl, rfl, SqL.of gf, gi, 2, _, rfl, rfl, .inl ⟨by decide, by decide⟩, _, 1, rfl, rfl, f, _, _, rfl, rfl, gf, hll, ?_⟩
        exact fin _ (by rw [len_new hc hnw]; omega)
      · rw [v1] at hg
        have hlt : IsLast l i j := ⟨v2, by rw [hc]; exact v3, fun m h1 h2 => by rw [hc]; exact v4 m h1 h2⟩
        obtain ⟨e1, e2⟩ := len_old hc hlt
        refine ⟨_, rfl, _, rfl, d, _, rfl, hg, _, rfl, iteT ?_⟩
        refine ⟨_, rfl, _, rfl, f, _, _, _, rfl, rfl, SqL.of gf, gi, 2, _, rfl, rfl, .inl ⟨by decide, by decide⟩, _, rfl, _, rfl, _, rfl, d, _, rfl, hg, f, _, _, _, rfl, rfl, SqL.of gf, atI_nat (lensV_get (i := j) (by omega)), _, _, rfl, rfl, f, _, _, rfl, rfl, gf, hll, ?_⟩
        exact fin _ (by omega)
    · rintro σ H1 ⟨a, b, kvs, rfl, s1, h1d, h1f, D1⟩
      rw [T_size] at h1f
      exact ⟨_, rfl, k f H1 s1 hf h1f⟩
/-! ### _law_far: level 2 -/
abbrev sFar : Stmt := top 48
def spFar : Sp := fun vs H Q _ => ∃ (d : Addr) (n m : Nat), vs = [.ref d, .int (m : Nat)] ∧ Draw H d n ∧ n + 8 ≤ 1000000 ∧ ∀ (r : Nat) H', r ≤ m → Draw H' d (n + 8) → SameB d H H' → Q (.int (r : Nat)) H'
theorem scFar : FnScope ["_law_draw", "_law_most", "_law_found", "_law_turn"] ["_law_draw", "_law_most"] (defScope sFar) := ⟨rfl, rfl, rfl, by decide +kernel, rfl, by decide +kernel, by decide +kernel⟩
theorem ok_far {f : Addr} {fd : FuncData} (F : Fun K "_law_far" "_law_far" sFar f fd) (G : Txt K mg) (hT : Has P w K mg base 1 "_law_take" ["_law_draw", "_law_edge"] spTak) : FnOk P w K mg base CX0 2 f fd ["_law_draw", "_law_most"] spFar := by
  refine F.ok scFar (fun vs H Q E h => ?_) (fun cdv A outer s H vs Q E hr h => ?_)
  · obtain ⟨d, n, m, rfl, _⟩ := h
    rfl
  · obtain ⟨d, n, m, rfl, D, hn, k⟩ := h
    refine ⟨_, pss_cons (ps_set (i := 2) scFar.nd rfl (.inl rfl) pe_int)
      (pss_cons (ps_for PassesOwn.never rfl (pi_range1 (by rfl) G.range (pa_cons pe_int pa_nil)) (pg_name (i := 3) scFar.nd rfl (.inl rfl))
        (pss_one (ps_set (i := 2) scFar.nd rfl (.inl rfl) (pe_op op_add (pe_op op_mul (pv 2) (pe_op op_pow pe_int pe_int)) (pe_has hT hr (pa_cons (pv 0) (pa_cons (pe_op op_pow pe_int pe_int) pa_nil)))))))
      (pss_one (ps_ret (pe_op op_mod (pv 2) (pe_op op_add (pv 1) pe_int))))), ?_⟩
    refine ⟨8, rfl, by decide, by decide, for_it walk_range (fun i σ H1 => ∃ (x : Int) (y : Option V), σ = [some (.ref d), some (.int (m : Nat)), some (.int x), y] ∧ Draw H1 d (n + i) ∧ SameB d H H1) ⟨0, none, rfl, D, SameB.refl d H⟩ (fun _ _ _ _ _ => True.intro) ?_ ?_⟩
    · rintro i y σ H1 H2 hi ⟨x, y0, rfl, D1, s1⟩ ⟨rfl, hx⟩
      have hi8 : i < 8 := hi
      refine ⟨_, rfl, 10, 9, rfl, rfl, ⟨by decide, by decide, by decide⟩, _, _, rfl, rfl, .inr ⟨by decide, by decide⟩, ?_⟩
      refine ⟨_, rfl, 10, 9, rfl, rfl, ⟨by decide, by decide, by decide⟩, d, n + i, 1000000000, rfl, by decide, by decide, D1, by omega, fun r H3 _ D3 s3 => ?_⟩
      exact ⟨_, _, rfl, rfl, _, _, rfl, D3, s1.trans s3⟩
    · rintro σ H1 ⟨x, y0, rfl, D1, s1⟩
      have hm0 : (0 : Int) < (m : Nat) + 1 := by omega
      refine ⟨_, rfl, _, rfl, _, 1, rfl, rfl, _, _, rfl, rfl, hm0, ?_⟩
      have h0 := Int.emod_nonneg x (Int.ne_of_gt hm0)
      have h1 := Int.emod_lt_of_pos x hm0
      have := k (x % ((m : Nat) + 1)).toNat H1 (by omega) D1 s1
      rw [Int.toNat_of_nonneg h0] at this
      exact this
end
end Mw

namespace Mw
open PySem L2 Mp TL
/-- the letter at a place of a text, 0 beyond its ends -/
def sgn (m : W) (k : Int) : Nat := if 0 ≤ k ∧ k < (m.length : Int) then m.getD k.toNat 0 else 0
theorem sgn_lt {m : W} (hm : Ltr m) (k : Int) : sgn m k < 128 := by
  unfold sgn
  split
  · rename_i h
    obtain ⟨h1, h2⟩ := h
    have hk : k.toNat < m.length := by omega
    rw [List.getD_eq_getElem?_getD, List.getElem?_eq_getElem hk]
    exact (hm _ (List.getElem_mem hk)).2
  · decide
theorem count_take {l : List Nat} {c : Nat} : (if c ∈ l then some (V.int (l.count c : Nat)) else none).getD (V.int 0) = V.int ((l.count c : Nat) : Int) := by
  split
  · rfl
  · rename_i h
    rw [List.count_eq_zero_of_not_mem h]; rfl
section
variable {P : Program} {w : World} {K : PySem.W.Frag} {mg : Str → Option Value} {base : Heap}
/-! ### _law_seen: level 4 -/
abbrev sSee : Stmt := top 49
def spSee (K : PySem.W.Frag) : Sp := fun vs H Q _ => ∃ (d p : Addr) (n : Nat) (v : W), vs = [.ref d, .str (T v), .ref p, .int 30] ∧ Low v ∧ v.length ≤ 200 ∧ SqL K H p ((lensI v (v.length + 1)).map V.int) ∧ Draw H d n ∧ n + 10 ≤ 1000000 ∧
  ∀ (z : W) H', z <:+: M v → z.length ≤ 30 → Draw H' d (n + 10) → SameB d H H' → Q (.str (T z)) H'
theorem scSee : FnScope ["_law_draw", "_law_row_here", "_law_lens_here", "_law_most", "_law_many", "_law_size", "_law_start"] ["_law_draw", "_law_row_here", "_law_lens_here", "_law_most"] (defScope sSee) := ⟨rfl, rfl, rfl, by decide +kernel, rfl, by decide +kernel, by decide +kernel⟩
theorem ok_see {f : Addr} {fd : FuncData} (F : Fun K "_law_seen" "_law_seen" sSee f fd) (G : Txt K mg) (hT : Has P w K mg base 1 "_law_take" ["_law_draw", "_law_edge"] spTak) (hO : Has P w K mg base 2 "_law_of" ["_law_draw", "_law_some"] (spOf K))
    (hF : Has P w K mg base 2 "_law_far" ["_law_draw", "_law_most"] spFar) (hW : Has P w K mg base 3 "window" ["presses", "start", "many"] spWin) : FnOk P w K mg base CX0 4 f fd ["_law_draw", "_law_row_here", "_law_lens_here", "_law_most"] (spSee K) := by
  refine F.ok scSee (fun vs H Q E h => ?_) (fun cdv A outer s H vs Q E hr h => ?_)
  · obtain ⟨d, p, n, v, rfl, _⟩ := h
    rfl
  · obtain ⟨d, p, n, v, rfl, hv, hvl, hp, D, hn, k⟩ := h
    have hr1 : Room 1 _ := hr.mono (by decide)
    have hr2 : Room 2 _ := hr.mono (by decide)
    refine ⟨_, pss_cons (ps_par (i := 4) (j := 5) rfl scSee.nd rfl rfl (by decide) rfl rfl (pa_cons (pe_ix ix_list (pv 2) (pe_un un_neg pe_int) (fun _ _ => rfl))
        (pa_cons (pe_has hT hr1 (pa_cons (pv 0) (pa_cons (pe_op op_add (pe_callB (call_min2 rfl) (by rfl) G.min PyProof.Rows.boot_min (pa_cons (pv 3) (pa_cons (pe_ix ix_list (pv 2) (pe_un un_neg pe_int) (fun _ _ => rfl)) pa_nil))) pe_int) pa_nil))) pa_nil)) (by rfl))
      (pss_cons (ps_set (i := 6) scSee.nd rfl (.inl rfl) (pe_has hO hr2 (pa_cons (pv 0) (pa_cons (pe_lst (pa_cons (pe_has hF hr2 (pa_cons (pv 0) (pa_cons (pe_op op_sub (pv 4) (pv 5)) pa_nil))) (pa_cons pe_int (pa_cons (pe_op op_sub (pv 4) (pv 5)) (pa_cons (pe_op op_fdiv (pe_op op_sub (pv 4) (pv 5)) pe_int) pa_nil))))) pa_nil))))
      (pss_one (ps_ret (pe_has hW hr (pa_cons (pv 1) (pa_cons (pv 6) (pa_cons (pv 5) pa_nil))))))), ?_⟩
    have hlast := lensV_last v v.length
    rw [List.take_length] at hlast
    have e1 : (if ((L v : Nat) : Int) < 30 then ((L v : Nat) : Int) else 30) + 1 = ((min 30 (L v) + 1 : Nat) : Int) := by split <;> omega
    refine ⟨_, rfl, 1, rfl, p, _, _, _, rfl, rfl, hp, hlast, ?_⟩
    refine ⟨_, rfl, _, rfl, _, rfl, 1, rfl, p, _, _, _, rfl, rfl, hp, hlast, _, _, rfl, _, 1, rfl, rfl, d, n, min 30 (L v) + 1, (by rw [← e1]; rfl), by omega, by omega, D, by omega, fun r H1 hr1' D1 s1 => ⟨_, _, rfl, ?_⟩⟩
    have hrL : r ≤ L v := by omega
    have hr30 : r ≤ 30 := by omega
    have e2 : ((L v : Nat) : Int) - ((r : Nat) : Int) = ((L v - r : Nat) : Int) := by omega
    refine ⟨_, rfl, _, rfl, _, rfl, _, rfl, _, _, rfl, rfl, d, n + 1, L v - r, (by rw [← e2]; rfl), D1, by omega, fun r2 H2 hr2' D2 s2 => ?_⟩
    refine ⟨_, rfl, _, rfl, _, _, rfl, rfl, _, rfl, _, rfl, _, _, rfl, rfl, _, 2, rfl, rfl, ⟨by decide, by decide⟩, by show 4 ≤ sizeLine; decide, fun q hq => ?_⟩
    have sq := same_new (o := HO.lst [V.int (r2 : Nat), V.int 0, V.int (((L v : Nat) : Int) - ((r : Nat) : Int)), V.int ((((L v : Nat) : Int) - ((r : Nat) : Int)) / 2)]) hq
    refine ⟨d, n + 9, .ref q, fun x => ∃ j : Nat, x = .int (j : Nat) ∧ j + r ≤ L v, rfl, D2.same sq, by omega, .inl ⟨q, _, rfl, SqL.of upd_same, by simp, by show 4 ≤ 1000; decide, fun x hx => ?_⟩, fun x H3 hx D3 s3 => ?_⟩
    · simp only [List.mem_cons, List.not_mem_nil, or_false] at hx
      rcases hx with rfl | rfl | rfl | rfl
      · exact ⟨r2, rfl, by omega⟩
      · exact ⟨0, rfl, by omega⟩
      · exact ⟨L v - r, by rw [e2], by omega⟩
      · refine ⟨(L v - r) / 2, ?_, by omega⟩
        rw [e2]
        congr 1
    · obtain ⟨j, rfl, hj⟩ := hx
      refine ⟨_, rfl, _, rfl, _, rfl, v, j, r, rfl, hv, hvl, hj, by omega, fun H4 s4 => ?_⟩
      refine k _ H4 ((List.take_prefix _ _).isInfix.trans (List.drop_suffix _ _).isInfix) (by rw [List.length_take]; omega) (D3.same s4) (s1.trans (s2.trans ((sq.b d).trans (s3.trans (s4.b d)))))
/-! ### _law_signs: level 1 -/
abbrev sSig : Stmt := top 50
def spSig (K : PySem.W.Frag) : Sp := fun vs H Q _ => ∃ (m : W) (p : Addr) (ks : List Int), vs = [.str (T m), .ref p] ∧ SqL K H p (ks.map V.int) ∧ Ltr m ∧ m.length ≤ 900 ∧ ks.length ≤ 900 ∧ ∀ q H', Same H H' → H q = none → H' q = some (.dK (talK (tal (ks.map (sgn m))))) → Q (.ref q) H'
theorem scSig : FnScope ["_law_text", "_law_spots_here", "_law_found", "_law_sign", "_law_at"] ["_law_text", "_law_spots_here"] (defScope sSig) := ⟨rfl, rfl, rfl, by decide +kernel, rfl, by decide +kernel, by decide +kernel⟩
theorem ok_sig {f : Addr} {fd : FuncData} (F : Fun K "_law_signs" "_law_signs" sSig f fd) (G : Txt K mg) : FnOk P w K mg base CX0 1 f fd ["_law_text", "_law_spots_here"] (spSig K) := by
  refine F.ok scSig (fun vs H Q E h => ?_) (fun cdv A outer s H vs Q E hr h => ?_)
  · obtain ⟨m, p, ks, rfl, _⟩ := h
    rfl
  · obtain ⟨m, p, ks, rfl, hp, hm, hml, hkl, k⟩ := h
    have hu := hu_of hr
    refine ⟨_, pss_cons (ps_set (i := 2) scSig.nd rfl (.inl rfl) pe_dnewK)
      (pss_cons (ps_for PassesOwn.never rfl (pi_list (pe_callB cr_sortedSA (by rfl) G.sorted PyProof.Rows.boot_sorted (pa_cons (pe_lc (own := [("_law_at", 4)]) (g := gName 4) (tt := tYes) rfl scSig.nd (pi_list (pv 1))
          (blkOk_by (own := [("_law_at", 4)]) (N := ["_law_text", "_law_spots_here", "_law_found", "_law_sign", "_law_at"]) (sc := defScope sSig) (by decide +kernel)) (fun _ _ _ _ _ => pg_name (i := 4) scSig.nd rfl (Or.inl rfl)) (fun _ _ _ _ _ => pts_nil)
          (fun _ _ _ _ _ => pe_ifExp (pt_chain op_le op_lt pe_int (pv 4) (pe_callB call_len_str (by rfl) G.len PySem.boot_len (pa_cons (pv 0) pa_nil))) (pe_ix ix_str (pv 0) (pv 4) (fun _ _ => rfl)) pe_str)) pa_nil)))
        (pg_name (i := 3) scSig.nd rfl (.inl rfl))
        (pss_one (ps_dput hu (pv 2) (pv 3) (pe_op op_add (pe_dget2 hu (pv 2) (pv 3) pe_int m2) pe_int) rfl)))
      (pss_one (ps_ret (pv 2)))), ?_⟩
    intro d hd
    have s0 := same_new (o := HO.dK []) hd
    refine ⟨_, rfl, p, rfl, ⟨_, s0.seq hp⟩, fun D hD => ?_⟩
    have hmT : (T m).length ≤ sizeLine := len_text (by omega)
    have ndD : d ≠ D := ne_of_none upd_same hD
    refine lc_it (walk_list (K := K) (a := p) (xs := ks.map V.int)) (fun i H3 => Same (upd H d (.dK [])) H3 ∧ H3 D = some (.lst (((ks.take i).map fun k => sg (sgn m k)).map V.str))) ⟨same_new hD, by rw [List.take_zero]; exact upd_same⟩ (fun i H3 _ q => q.1.seq (s0.seq hp)) ?_ ?_
    · rintro i x H3 H4 hi ⟨s3, hDl⟩ ⟨rfl, hx⟩
      rw [List.length_map] at hi
      have hki : ks[i]? = some ks[i] := List.getElem?_eq_getElem hi
      generalize ks[i] = kk at hki
      rw [List.getElem?_map, hki] at hx
      have hx' : V.int kk = x := Option.some.inj hx
      subst hx'
      refine ⟨rfl, ?_⟩
      dsimp only [tYes]
      rw [if_pos rfl]
      have hD0 : ∀ b o, H b = some o → b ≠ D := fun b o e => ne_of_none (s0 _ _ e) hD
      have fin : ∀ x : Str, x = sg (sgn m kk) → ∃ acc, H4 D = some (.lst acc) ∧ acc.length < sizeLine ∧ Same (upd H d (.dK [])) (upd H4 D (.lst (acc ++ [V.str x]))) ∧ upd H4 D (.lst (acc ++ [V.str x])) D = some (.lst (((ks.take (i + 1)).map fun k => sg (sgn m k)).map V.str)) := fun x hx => by
        refine ⟨_, hDl, by rw [List.length_map, List.length_map, List.length_take]; exact small1000 (by omega), fun b o e => ?_, ?_⟩
        · rw [upd_ne (ne_of_none e hD)]; exact s3 _ _ e
        · rw [upd_same, List.take_add_one, hki, List.map_append, List.map_append, hx]; rfl
      refine ⟨_, rfl, 0, _, rfl, rfl, _, rfl, ?_⟩
      refine ite2 (fun h0 => ?_) (fun h0 => ?_)
      · have h0' : 0 ≤ kk := of_decide_eq_true h0
        refine ⟨_, rfl, T m, rfl, hmT, _, _, rfl, rfl, _, rfl, ?_⟩
        rw [T_len]
        refine ite2 (fun h1 => ?_) (fun h1 => ?_)
        · have h1' : kk < (m.length : Int) := of_decide_eq_true h1
          obtain ⟨j, rfl⟩ : ∃ j : Nat, kk = (j : Int) := ⟨kk.toNat, (Int.toNat_of_nonneg h0').symm⟩
          have hj : j < m.length := by omega
          have hmj : m[j]? = some m[j] := List.getElem?_eq_getElem hj
          refine ⟨_, rfl, _, rfl, T m, _, m[j], rfl, rfl, hmT, atI_nat hmj, ?_⟩
          refine fin (T [m[j]]) ?_
          have e : sgn m (j : Nat) = m[j] := by
            unfold sgn
            rw [if_pos ⟨h0', h1'⟩, Int.toNat_natCast, List.getD_eq_getElem?_getD, hmj]; rfl
          rw [e, sg_pos (hm _ (List.getElem_mem hj)).1]
        · have h1' : ¬ kk < (m.length : Int) := fun z => h1 (decide_eq_true z)
          refine fin (Str.ofString "") ?_
          unfold sgn
          rw [if_neg fun z => h1' z.2]
          rfl
      · have h0' : ¬ 0 ≤ kk := fun z => h0 (decide_eq_true z)
        refine ⟨_, rfl, iteF ?_⟩
        refine fin (Str.ofString "") ?_
        unfold sgn
        rw [if_neg fun z => h0' z.1]
        rfl
    · rintro H3 ⟨s3, hDl⟩
      rw [List.length_map, List.take_length] at hDl
      refine ⟨D, ks.map fun k => sg (sgn m k), rfl, SqL.of hDl, fun ys q hys hso hq => ⟨q, rfl, ⟨_, SqL.of upd_same⟩, ?_⟩⟩
      have e0 : (ks.map fun k => sg (sgn m k)) = (ks.map (sgn m)).map sg := by rw [List.map_map]; rfl
      rw [e0] at hys
      obtain ⟨ds, rfl, hdp, hdle⟩ := sort_sg hys hso
      have hdl : ds.length = ks.length := by rw [hdp.length_eq, List.length_map]
      have hd128 : ∀ a ∈ ds, a < 128 := fun a ha => by
        obtain ⟨kk, _, rfl⟩ := List.mem_map.mp (hdp.mem_iff.mp ha)
        exact sgn_lt hm kk
      have h3d := s3 _ _ (upd_same (H := H) (a := d) (o := .dK []))
      have ndq : d ≠ q := ne_of_none h3d hq
      have sq := same_new (o := HO.lst ((ds.map sg).map V.str)) hq
      have s03 := s0.trans s3
      refine for_list (K := K) (a := q) (xs := (ds.map sg).map V.str) (fun i σ H4 => ∃ x3 x4, σ = [some (.str (T m)), some (.ref p), some (.ref d), x3, x4] ∧ Same H H4 ∧ H4 q = some (.lst ((ds.map sg).map V.str)) ∧ H4 d = some (.dK (talK (tal (ds.take i)))))
        ⟨none, none, rfl, s03.trans sq, upd_same, by rw [upd_ne ndq]; exact h3d⟩ (fun i σ H4 _ ⟨_, _, _, _, h, _⟩ => SqL.of h) ?_ ?_
      · rintro i x σ H4 hx ⟨x3, x4, rfl, s4, h4q, h4d⟩
        have hi : i < ds.length := by
          have := (List.getElem?_eq_some_iff.mp hx).1
          rw [List.length_map, List.length_map] at this
          exact this
        have hci : ds[i]? = some ds[i] := List.getElem?_eq_getElem hi
        have hle : ∀ a ∈ ds.take i, a ≤ ds[i] := fun a ha => by
          obtain ⟨j, hj, hja⟩ := List.getElem_of_mem ha
          rw [List.length_take] at hj
          rw [List.getElem_take] at hja
          rw [← hja]
          exact List.pairwise_iff_getElem.mp hdle j i (by omega) hi (by omega)
        have hc128 := hd128 _ (List.getElem_mem hi)
        generalize ds[i] = c at hci hle hc128
        rw [List.getElem?_map, List.getElem?_map, hci] at hx
        have hx' : V.str (sg c) = x := Option.some.inj hx
        subst hx'
        have hlen : (talK (tal (ds.take i))).length ≤ 128 := by
          unfold talK tal
          rw [List.length_map, List.length_map]
          refine Nat.le_trans (List.length_filter_le _ _) ?_
          rw [List.length_range]
          exact Nat.le_refl _
        refine ⟨_, rfl, d, rfl, .inl ⟨_, .inl h4d⟩, _, rfl, _, DGet.k (k := (Sum.inr (sg c) : Key)) h4d, (((ds.take i).count c : Nat) : Int), 1, (by rw [tal_val hc128]; exact count_take), rfl, _, rfl, _, rfl, d, _, rfl, DPut.k (k := (Sum.inr (sg c) : Key)) h4d (small1000 (by omega)), ?_⟩
        · have e := tal_put (S := ds.take i) hle hc128
          have e2 : (((ds.take i).count c : Nat) : Int) + 1 = (((ds.take i).count c + 1 : Nat) : Int) := rfl
          refine ⟨some (.str (sg c)), x4, rfl, fun b o eb => ?_, by rw [upd_ne ndq.symm]; exact h4q, ?_⟩
          · rw [upd_ne (ne_of_none eb hd)]; exact s4 _ _ eb
          · rw [upd_same]
            show some (HO.dK (putK (talK (tal (ds.take i))) (Sum.inr (sg c) : Key) (.int (((ds.take i).count c : Nat) + 1)))) = _
            rw [e2, e, List.take_add_one, hci]
            rfl
      · rintro σ H4 ⟨x3, x4, rfl, s4, h4q, h4d⟩
        rw [List.length_map, List.length_map, List.take_length, tal_perm hdp] at h4d
        exact ⟨_, rfl, k d H4 s4 hd h4d⟩
end
end Mw

namespace Mw
open PySem L2 Mp TL
section
variable {P : Program} {w : World} {K : PySem.W.Frag} {mg : Str → Option Value} {base : Heap}
/-! ### _law_both_right: level 6 -/
abbrev sBot : Stmt := top 53
def spBot (K : PySem.W.Frag) : Sp := fun vs H Q _ => ∃ (d p : Addr) (n : Nat) (v : W), vs = [.ref d, .str (T v), .ref p] ∧ Low v ∧ v.length ≤ 200 ∧ v ≠ [] ∧ SqL K H p ((lensI v (v.length + 1)).map V.int) ∧ Draw H d n ∧ n + 7 ≤ 1000000 ∧ ∀ H', Draw H' d (n + 7) → SameB d H H' → Q (.bl true) H'
theorem scBot : FnScope ["_law_draw", "_law_row_here", "_law_lens_here", "_law_some", "_law_cut", "_law_first", "_law_rest", "_law_turn", "_law_pair", "_law_k"] ["_law_draw", "_law_row_here", "_law_lens_here"] (defScope sBot) := ⟨rfl, rfl, rfl, by decide +kernel, rfl, by decide +kernel, by decide +kernel⟩
def cutsOf (v : W) (n : Nat) : List Nat := (List.range n).filter fun k => decide (L (v.take k) < 91)
theorem ok_bot {f : Addr} {fd : FuncData} (F : Fun K "_law_both_right" "_law_both_right" sBot f fd) (G : Txt K mg) (hO : Has P w K mg base 2 "_law_of" ["_law_draw", "_law_some"] (spOf K)) (hW : Has P w K mg base 3 "window" ["presses", "start", "many"] spWin)
    (hH : Has P w K mg base 5 "how_often" ["presses", "piece"] spHow) : FnOk P w K mg base CX0 6 f fd ["_law_draw", "_law_row_here", "_law_lens_here"] (spBot K) := by
  refine F.ok scBot (fun vs H Q E h => ?_) (fun cdv A outer s H vs Q E hr h => ?_)
  · obtain ⟨d, p, n, v, rfl, _⟩ := h
    rfl
  · obtain ⟨d, p, n, v, rfl, hv, hvl, hne, hp, D, hn, k⟩ := h
    have hr2 : Room 2 _ := hr.mono (by decide)
    have hr3 : Room 3 _ := hr.mono (by decide)
    refine ⟨_, pss_cons (ps_setLc (i := 3) (own := [("_law_k", 9)]) (g := gName 9) (tt := tTest (tOp (rI0 fun i j => .bl (decide (i < j))) (tOp (rIxL K) (tVar 2) (tVar 9)) (tC (.int 91)))) rfl scBot.nd rfl rfl (sw_true rfl rfl rfl (by decide +kernel))
        (pi_range1 (by rfl) G.range (pa_cons (pe_callB call_len_str (by rfl) G.len PySem.boot_len (pa_cons (pv 1) pa_nil)) pa_nil))
        (blkOk_by (own := [("_law_k", 9)]) (N := ["_law_draw", "_law_row_here", "_law_lens_here", "_law_some", "_law_cut", "_law_first", "_law_rest", "_law_turn", "_law_pair", "_law_k"]) (sc := defScope sBot) (by decide +kernel)) (fun _ _ _ _ _ => pg_name (i := 9) scBot.nd rfl (Or.inl rfl))
        (fun _ _ _ _ _ => pts_one (pt_cmpR op_lt (pe_ix ix_list (pv 2) (pv 9) (fun _ _ => rfl)) pe_int (nomark _)))
        (fun _ _ _ _ _ => pv 9))
      (pss_cons (ps_set (i := 4) scBot.nd rfl (.inl rfl) (pe_has hO hr2 (pa_cons (pv 0) (pa_cons (pv 3) pa_nil))))
      (pss_cons (ps_par (i := 5) (j := 6) rfl scBot.nd rfl rfl (by decide) rfl rfl (pa_cons (pe_has hW hr3 (pa_cons (pv 1) (pa_cons pe_int (pa_cons (pe_ix ix_list (pv 2) (pv 4) (fun _ _ => rfl)) pa_nil)))) (pa_cons (pe_slice sl_str (pv 1) (po_some (pv 4)) po_none) pa_nil)) (by rfl))
      (pss_cons (ps_for PassesOwn.never rfl (pi_range1 (by rfl) G.range (pa_cons pe_int pa_nil)) (pg_name (i := 7) scBot.nd rfl (.inl rfl))
        (pss_cons (ps_set (i := 8) scBot.nd rfl (.inl rfl) (pe_op op_add_str (pe_has hO hr2 (pa_cons (pv 0) (pa_cons (pv 6) pa_nil))) (pe_has hO hr2 (pa_cons (pv 0) (pa_cons (pv 6) pa_nil)))))
        (pss_one (ps_if (pt_cmpR op_ne (pe_has hH hr (pa_cons (pv 1) (pa_cons (pe_op op_add_str (pe_op op_add_str (pe_ix ix_str (pv 8) pe_int (fun _ _ => rfl)) (pv 5)) (pe_ix ix_str (pv 8) pe_int (fun _ _ => rfl))) pa_nil)))
            (pe_has hH hr (pa_cons (pv 6) (pa_cons (pv 8) pa_nil))) (nomark _)) (pss_one (ps_ret pe_bl)) pss_nil))))
      (pss_one (ps_ret pe_bl))))), ?_⟩
    have hvp := List.length_pos_iff.mpr hne
    refine ⟨_, rfl, T v, rfl, len_text (by omega), _, rfl, by rw [T_len]; omega, by rw [T_len]; omega, fun Dl hD => ?_⟩
    rw [T_len, Int.toNat_natCast]
    refine lc_it walk_range (fun i H3 => Same H H3 ∧ H3 Dl = some (.lst (natsV (cutsOf v i)))) ⟨same_new hD, upd_same⟩ (fun _ _ _ _ => True.intro) ?_ ?_
    · rintro i x H3 H4 hi ⟨s3, hDl⟩ ⟨rfl, hx⟩
      have hx' : x = V.int (i : Nat) := hx.trans (congrArg V.int (Int.zero_add _))
      subst hx'
      refine ⟨rfl, ?_⟩
      refine ⟨_, rfl, _, rfl, p, _, _, _, rfl, rfl, s3.seq hp, atI_nat (lensV_get (i := i) (by omega)), _, 91, rfl, rfl, _, rfl, ?_⟩
      have e4 : cutsOf v (i + 1) = cutsOf v i ++ (if decide (L (v.take i) < 91) = true then [i] else []) := by
        unfold cutsOf
        rw [List.range_succ, List.filter_append]
        congr 1
        cases q : decide (L (v.take i) < 91) <;> simp [q]
      have e5 : decide (((L (v.take i) : Nat) : Int) < 91) = decide (L (v.take i) < 91) := by
        by_cases q : L (v.take i) < 91
        · rw [decide_eq_true q]; exact decide_eq_true (by omega)
        · rw [decide_eq_false q]; exact decide_eq_false (by omega)
      rw [e5]
      cases q : decide (L (v.take i) < 91) with
      | true =>
        refine iteT ?_
        refine ⟨_, rfl, _, hDl, ?_, fun b o e => ?_, ?_⟩
        · rw [List.length_map]
          unfold cutsOf
          refine small1000 (Nat.le_trans (List.length_filter_le _ _) ?_)
          rw [List.length_range]; omega
        · rw [upd_ne (ne_of_none e hD)]; exact s3 _ _ e
        · rw [upd_same, e4, q, if_pos rfl]
          show some (HO.lst (_ ++ [V.int (i : Nat)])) = some (HO.lst ((_ ++ [i]).map fun j => V.int (j : Nat)))
          rw [List.map_append]; rfl
      | false =>
        refine iteF ?_
        refine ⟨s3, ?_⟩
        rw [e4, q, if_neg Bool.false_ne_true, List.append_nil]
        exact hDl
    · rintro H3 ⟨s3, hDl⟩
      have h0 : 0 ∈ cutsOf v v.length := by
        unfold cutsOf
        rw [List.mem_filter, List.mem_range]
        exact ⟨hvp, by simp [L, M]⟩
      have hcl : (cutsOf v v.length).length ≤ 200 := by
        unfold cutsOf
        refine Nat.le_trans (List.length_filter_le _ _) ?_
        rw [List.length_range]; exact hvl
      refine ⟨_, rfl, _, rfl, d, n, .ref Dl, fun x => ∃ c, x = .int (c : Nat) ∧ c < v.length ∧ L (v.take c) < 91, rfl, D.same s3, by omega, .inl ⟨Dl, _, rfl, SqL.of hDl, ?_, ?_, fun x hx => ?_⟩, fun x H4 hx D4 s4 => ?_⟩
      · intro z
        rw [List.map_eq_nil_iff] at z
        rw [z] at h0; cases h0
      · rw [List.length_map]; omega
      · obtain ⟨c, hc, rfl⟩ := List.mem_map.mp hx
        unfold cutsOf at hc
        rw [List.mem_filter, List.mem_range] at hc
        exact ⟨c, rfl, hc.1, of_decide_eq_true hc.2⟩
      · obtain ⟨c, rfl, hcv, hcL⟩ := hx
        have s34 : SameB d H H4 := (s3.b d).trans s4
        have hp4 := s34.seq D hp
        have htk := L_take_le v c
        refine ⟨_, rfl, _, rfl, _, rfl, p, _, _, _, rfl, rfl, hp4, atI_nat (lensV_get (i := c) (by omega)), v, 0, L (v.take c), rfl, hv, hvl, by omega, by omega, fun H5 s5 => ?_⟩
        rw [List.drop_zero, M_take]
        refine ⟨_, rfl, _, rfl, _, rfl, T v, rfl, len_text (by omega), ?_⟩
        rw [cut_from]
        refine ⟨_, _, rfl, ?_⟩
        have hrl : (v.drop c).length ≤ 200 := by rw [List.length_drop]; omega
        have hrne : v.drop c ≠ [] := by
          intro z
          have := congrArg List.length z
          rw [List.length_drop] at this
          simp at this
          omega
        have s35 : SameB d H H5 := s34.trans (s5.b d)
        refine ⟨3, rfl, by decide, by decide, for_it walk_range (fun i σ H6 => ∃ (x7 x8 x9 : Option V), σ = [some (.ref d), some (.str (T v)), some (.ref p), some (.ref Dl), some (.int (c : Nat)), some (.str (T (M (v.take c)))), some (.str (T (v.drop c))), x7, x8, x9] ∧ Draw H6 d (n + 1 + 2 * i) ∧ SameB d H H6)
          ⟨none, none, none, rfl, D4.same s5, s35⟩ (fun _ _ _ _ _ => True.intro) ?_ ?_⟩
        · rintro i y σ H6 H7 hi ⟨x7, x8, x9, rfl, D6, s6⟩ ⟨rfl, hx⟩
          have hi3 : i < 3 := hi
          refine ⟨_, rfl, _, rfl, d, n + 1 + 2 * i, _, fun x => ∃ a, x = .str (T [a]) ∧ a ∈ v.drop c, rfl, D6, by omega, .inr ⟨v.drop c, rfl, hrne, by omega, fun a ha => ⟨a, rfl, ha⟩⟩, fun x1 H8 hx1 D8 s8 => ?_⟩
          obtain ⟨a, rfl, ha⟩ := hx1
          refine ⟨_, rfl, _, rfl, d, n + 1 + 2 * i + 1, _, fun x => ∃ a, x = .str (T [a]) ∧ a ∈ v.drop c, rfl, D8, by omega, .inr ⟨v.drop c, rfl, hrne, by omega, fun a ha => ⟨a, rfl, ha⟩⟩, fun x2 H9 hx2 D9 s9 => ?_⟩
          obtain ⟨b, rfl, hb⟩ := hx2
          refine ⟨T [a], T [b], rfl, rfl, by rw [T_len, T_len]; exact small200 (by simp), ?_⟩
          rw [T_app]
          have hla := (hv.drop c) a ha
          have hlb := (hv.drop c) b hb
          have hMl : (M (v.take c)).length < 91 := hcL
          have hlow : Low (a :: M (v.take c) ++ [b]) := by
            intro q hq
            rcases List.mem_append.mp hq with hq | hq
            · rcases List.mem_cons.mp hq with hq | hq
              · rw [hq]; exact hla
              · exact hv.take c q (mem_M.mp hq)
            · rw [List.mem_singleton.mp hq]; exact hlb
          refine ⟨_, rfl, _, rfl, T [a, b], _, a, rfl, rfl, by rw [T_len]; exact small200 (by simp), atI_nat (j := 0) rfl, _, rfl, T [a], T (M (v.take c)), rfl, rfl, by rw [T_len, T_len]; exact small200 (by simp; omega), ?_⟩
          rw [T_app]
          refine ⟨_, rfl, T [a, b], _, b, rfl, rfl, by rw [T_len]; exact small200 (by simp), atI_nat (j := 1) rfl, T ([a] ++ M (v.take c)), T [b], rfl, rfl, by rw [T_len, T_len]; exact small200 (by simp; omega), ?_⟩
          rw [T_app]
          refine ⟨v, a :: M (v.take c) ++ [b], rfl, hv, hvl, hlow, by simp; omega, fun H10 s10 => ?_⟩
          refine ⟨_, rfl, _, rfl, v.drop c, [a, b], rfl, hv.drop c, hrl, ?_, by simp, fun H11 s11 => ?_⟩
          · intro q hq
            simp only [List.mem_cons, List.not_mem_nil, or_false] at hq
            rcases hq with rfl | rfl
            · exact hla
            · exact hlb
          · have e : cnt (a :: M (v.take c) ++ [b]) (M v) = cnt [a, b] (M (v.drop c)) := by
              have := read_at a b (v.take c) (v.drop c)
              rwa [List.take_append_drop] at this
            rw [e]
            refine ⟨rfl, _, rfl, ?_⟩
            refine iteNS rfl ?_
            have sF : Same H9 H11 := s10.trans s11
            exact ⟨_, _, _, rfl, (D9.same sF).mono (by omega), s6.trans (s8.trans (s9.trans (sF.b d)))⟩
        · rintro σ H6 ⟨x7, x8, x9, rfl, D6, s6⟩
          exact k H6 D6 s6
end
end Mw

namespace Mw
open PySem PySem.Spec PyProof.Rows L2 Mp TL
theorem nodup_sub {α : Type} [DecidableEq α] : ∀ {l m : List α}, l.Nodup → (∀ a ∈ l, a ∈ m) → l.length ≤ m.length
  | [], m, _, _ => Nat.zero_le _
  | a :: l, m, nd, h => by
    have ha := h a List.mem_cons_self
    rw [List.nodup_cons] at nd
    have := nodup_sub (l := l) (m := m.erase a) nd.2 fun b hb => (List.mem_erase_of_ne fun (e : b = a) => nd.1 (by rw [← e]; exact hb)).mpr (h b (List.mem_cons_of_mem _ hb))
    rw [List.length_erase_of_mem ha] at this
    have hp : 0 < m.length := List.length_pos_of_mem ha
    rw [List.length_cons]
    omega
theorem nodup_same {α : Type} [DecidableEq α] {l m : List α} (hl : l.Nodup) (hm : m.Nodup) (h : ∀ a, a ∈ l ↔ a ∈ m) : l.length = m.length :=
  Nat.le_antisymm (nodup_sub hl fun a ha => (h a).mp ha) (nodup_sub hm fun a ha => (h a).mpr ha)
theorem mem_putsK {x : Str} : ∀ {l s : List Str}, x ∈ putsK s l ↔ x ∈ s ∨ x ∈ l
  | [], s => by show x ∈ s ↔ _; simp
  | c :: l, s => by
    show x ∈ putsK (putS s c) l ↔ _
    rw [mem_putsK, putS_mem, List.mem_cons, or_assoc]
theorem nd_putsK : ∀ {l s : List Str}, s.Nodup → (putsK s l).Nodup
  | [], _, h => h
  | c :: l, s, h => nd_putsK (l := l) (putS_nd h)
theorem valV_mem : ∀ {kvs : List (Key × V)}, (kvs.map (·.1)).Nodup → ∀ p ∈ kvs, valV kvs p.1 = some p.2
  | [], _, p, hp => nomatch hp
  | q :: r, nd, p, hp => by
    rw [List.map_cons, List.nodup_cons] at nd
    unfold valV
    rcases List.mem_cons.mp hp with e | e
    · subst e
      rw [List.find?_cons, decide_eq_true rfl]; rfl
    · have hne : ¬ q.1 = p.1 := fun z => nd.1 (z ▸ List.mem_map_of_mem e)
      rw [List.find?_cons, decide_eq_false hne]
      exact valV_mem nd.2 p e
theorem shaped_strs {ss : List Str} (h : ∀ x ∈ ss, PyData.strOk x = true) : SeqAt.shaped (.list (ss.map PyData.str)) = true := by
  have h1 : ∀ ss : List Str, (∀ x ∈ ss, PyData.strOk x = true) → PyData.canLayAll0 (ss.map PyData.str) = true := fun ss h => by
    induction ss with
    | nil => rfl
    | cons a r ih => simp [PyData.canLayAll0, PyData.canLay0, ih fun x hx => h x (List.mem_cons_of_mem _ hx), h a List.mem_cons_self]
  have h2 : ∀ ss : List Str, PyData.depthAll (ss.map PyData.str) = 0 := fun ss => by
    induction ss with
    | nil => rfl
    | cons a r ih => simp [PyData.depthAll, PyData.depth, ih]
  simp [SeqAt.shaped, PyData.canLay0, PyData.depth, h1 ss h, h2]
theorem sg_ok {c : Nat} (h : c < 128) : PyData.strOk (sg c) = true := by
  unfold sg PyData.strOk
  split
  · simp
  · simp
    omega
theorem bes_ok {t : W} {o : Option Nat} (ho : ∀ c, o = some c → c < 128) : ∀ x ∈ ((besideN t o).map (·.1)).map sg, PyData.strOk x = true := fun x hx => by
  obtain ⟨c, hc, rfl⟩ := List.mem_map.mp hx
  refine sg_ok ?_
  cases o with
  | some d =>
    rw [show (besideN t (some d)).map (·.1) = [d] from rfl, List.mem_singleton] at hc
    rw [hc]; exact ho d rfl
  | none =>
    rw [show (besideN t none).map (·.1) = 0 :: (countsN t).map (·.1) from rfl, List.mem_cons] at hc
    rcases hc with rfl | hc
    · decide
    · unfold countsN at hc
      rw [List.map_map, List.mem_map] at hc
      obtain ⟨d, hd, rfl⟩ := hc
      exact List.mem_range.mp (List.mem_filter.mp hd).1
theorem eqv_strs (ss : List Str) : PyData.eqv (.list (ss.map PyData.str)) (.list (ss.map PyData.str)) = true := by
  have h1 : ∀ ss : List Str, PyData.eqvAll (ss.map PyData.str) (ss.map PyData.str) = true := fun ss => by
    induction ss with
    | nil => rfl
    | cons a r ih => simp [PyData.eqvAll, PyData.eqv, ih]
  rw [PyData.eqv]; exact h1 ss
theorem dp_strs {K : PySem.W.Frag} {H : Hp} : ∀ ss : List Str, DpAll K H (ss.map V.str) (ss.map PyData.str)
  | [] => .nil
  | n :: ns => .cons (.str n) (dp_strs ns)
/-! ### what stands beside -/
theorem besN_none (t : W) : besideN t none = (0, 1) :: countsN t := rfl
theorem besN_some (t : W) (c : Nat) : besideN t (some c) = [(c, L t + 1)] := rfl
theorem cnt_keys (t : W) : (countsN t).map (·.1) = letters t := by
  unfold countsN letters
  rw [List.map_map]
  exact List.map_id _
theorem bes_rising {t : W} (ht : Low t) (o : Option Nat) : ((besideN t o).map (·.1)).Pairwise (· < ·) := by
  cases o with
  | some c => rw [besN_some]; exact List.pairwise_singleton _ _
  | none =>
    rw [besN_none, List.map_cons, cnt_keys, List.pairwise_cons]
    refine ⟨fun a ha => ?_, letters_lt t⟩
    unfold letters at ha
    rw [List.mem_filter] at ha
    have := ht a (of_decide_eq_true ha.2)
    show 0 < a
    omega
theorem bes_few {t : W} {cs : List Nat} (hc : cs.length ≤ 4) (h : ∀ a ∈ t, a ∈ cs) (o : Option Nat) : (besideN t o).length ≤ 5 := by
  cases o with
  | some c => rw [besN_some]; exact (by decide : (1 : Nat) ≤ 5)
  | none =>
    have e := congrArg List.length (cnt_keys t)
    rw [List.length_map] at e
    have := nodup_sub (l := letters t) (m := cs) ((letters_lt t).imp fun h => Nat.ne_of_lt h) fun a ha => h a (by
      unfold letters at ha
      exact of_decide_eq_true (List.mem_filter.mp ha).2)
    rw [besN_none, List.length_cons]
    omega
def bKeys (B : Tal) : List Str := (B.map (·.1)).map sg
theorem bKeys_talK (B : Tal) : (talK B).map (·.1) = (bKeys B).map Sum.inr := by
  unfold talK bKeys
  rw [List.map_map, List.map_map, List.map_map]; rfl
theorem bKeys_nd {B : Tal} (h : (B.map (·.1)).Pairwise (· < ·)) : (bKeys B).Nodup := by
  unfold bKeys
  exact List.pairwise_map.mpr (h.imp fun {a b} hab z => by rw [sg_inj] at z; omega)
theorem talK_nd {B : Tal} (h : (B.map (·.1)).Pairwise (· < ·)) : ((talK B).map (·.1)).Nodup := by
  rw [bKeys_talK]
  exact List.pairwise_map.mpr ((bKeys_nd h).imp fun {a b} hab z => hab (Sum.inr.inj z))
theorem bKeys_sorted {B : Tal} (h : (B.map (·.1)).Pairwise (· < ·)) {ys : List Str} (hp : ys.Perm (bKeys B)) (hs : PyProof.Rows.sortedS ys = true) : ys = bKeys B := by
  obtain ⟨ds, rfl, hd, hle⟩ := sort_sg hp hs
  have nd : ds.Nodup := hd.nodup_iff.mpr (h.imp fun h => Nat.ne_of_lt h)
  have hlt : ds.Pairwise (· < ·) := by
    refine List.Pairwise.imp₂ (fun a b h1 h2 => Nat.lt_of_le_of_ne h1 h2) hle nd
  rw [show bKeys B = (B.map (·.1)).map sg from rfl, sorted_ext hlt h fun x => hd.mem_iff]
theorem talK_len (B : Tal) : (talK B).length = B.length := by unfold talK; rw [List.length_map]
theorem talK_flat {B : Tal} : ∀ p ∈ talK B, flatB p.2 = true := fun p hp => by
  unfold talK at hp
  obtain ⟨q, _, rfl⟩ := List.mem_map.mp hp
  rfl
theorem exHome {v z : W} (h : z <:+: M v) : ∃ Kk a, IsHome v z Kk a := by
  obtain ⟨K, hK, ho, hn⟩ := home_exists h
  obtain ⟨p, h1, h2⟩ := infix_at.mp ho
  exact ⟨K, p, hK, h1, h2, hn⟩
theorem low_infix {v z : W} (h : Low v) (hz : z <:+: M v) : Low z := fun a ha => h a (mem_M.mp (hz.subset ha))
theorem led_is {v z : W} {Kk a : Nat} (hv : Low v) (h : IsHome v z Kk a) : besideN (v.drop Kk) (rLed v z.reverse Kk (L (v.take Kk) - z.length - a)) = besideN (v.drop Kk) (rFol v z Kk a) := by
  have h1 := led_tal hv.ltr h.rev
  have h2 := followed_tal hv.ltr h
  rw [led_rev] at h1
  exact h1.symm.trans h2
/-- the end's own letters -/
theorem end_sets {t : W} (ht : Low t) : let l := putsK [] (bKeys (besideN t none)); let m := putS (putsS [] t) (Str.ofString ""); l.length = m.length ∧ ∀ k ∈ l, k ∈ m := by
  intro l m
  have hm : ∀ x, x ∈ l ↔ x ∈ m := fun x => by
    show x ∈ putsK [] _ ↔ x ∈ putS _ _
    rw [mem_putsK, putS_mem, mem_putsS]
    have e : bKeys (besideN t none) = Str.ofString "" :: (letters t).map sg := by
      unfold bKeys
      rw [besN_none, List.map_cons, cnt_keys]; rfl
    rw [e, List.mem_cons, List.mem_map]
    have hl : ∀ c, c ∈ letters t ↔ c ∈ t := fun c => mem_letters fun a ha => by have := ht a ha; omega
    constructor
    · rintro (h | h | ⟨c, hc, rfl⟩)
      · cases h
      · exact .inr h
      · have hc' := (hl c).mp hc
        exact .inl (.inr ⟨c, hc', sg_pos (by have := ht c hc'; omega)⟩)
    · rintro ((h | ⟨c, hc, rfl⟩) | h)
      · cases h
      · exact .inr (.inr ⟨c, (hl c).mpr hc, sg_pos (by have := ht c hc; omega)⟩)
      · exact .inr (.inl h)
  exact ⟨nodup_same (nd_putsK List.nodup_nil) (putS_nd (nd_putsS List.nodup_nil)) hm, fun k hk => (hm k).mp hk⟩
theorem few_set {t : W} {cs : List Nat} (hc : cs.length ≤ 4) (h : ∀ a ∈ t, a ∈ cs) : (putsS [] t).length ≤ 4 := by
  have := nodup_sub (l := putsS [] t) (m := cs.map fun c => T [c]) (nd_putsS List.nodup_nil) fun x hx => by
    rcases mem_putsS.mp hx with h1 | ⟨c, h1, rfl⟩
    · cases h1
    · exact List.mem_map_of_mem (f := fun c => T [c]) (h c h1)
  rw [List.length_map] at this
  omega
section
variable {P : Program} {w : World} {K : PySem.W.Frag} {mg : Str → Option Value} {base : Heap}
/-- with the code object known to be the module's -/
theorem fun_okC {x qual : Str} {st : Stmt} {f : Addr} {fd : FuncData} {N ps : List Str} {k : Nat} {sp : Sp} (F : Fun K x qual st f fd) (S : FnScope N ps (defScope st)) (len : ∀ vs H Q E, sp vs H Q E → vs.length = ps.length)
    (hbody : ∀ (cdv : Value) (A : Around) (outer : List Env) (s : Shared) (H : Hp) (vs : List V) (Q : VK) (E : XK), PySem.W.kdsCode K cdv = true → Room k (A.deeper (envOfC qual (defScope st) s.heap.objs.size f cdv)) → sp vs H Q E →
      ∃ t, PSs (cxOf CX0 P w K mg base N qual (defScope st) f cdv A outer s H E).nox (defBody st) t ∧ t { nx := fun _ H' => Q .non H', rt := Q } (start N vs) H) : FnOk P w K mg base CX0 (k + 1) f fd ps sp := by
  obtain ⟨oc, od, kV, doc, pm, an, cdv, ct, osl, rfl, lk, hcd⟩ := F.ex
  refine fn_of lk hcd S len fun A outer s H vs Q E hr hsp => ?_
  obtain ⟨t, h, q⟩ := hbody cdv A outer s H vs Q E (kdsCode_of hcd) hr hsp
  exact ⟨t, h.nox, q⟩
end
end Mw

namespace Mw
open PySem L2 Mp TL
theorem iteD {c A B : Prop} [Decidable c] (hc : c) (h : A) : if decide c = true then A else B := by
  rw [decide_eq_true hc]
  exact iteT h
theorem iteND {c A B : Prop} [Decidable c] (hc : ¬ c) (h : B) : if decide c = true then A else B := by
  rw [decide_eq_false hc]
  exact iteF h
section
variable {P : Program} {w : World} {K : PySem.W.Frag} {mg : Str → Option Value} {base : Heap}
/-! ### _law_great_right: level 8 -/
abbrev sGre : Stmt := top 52
def spGre (K : PySem.W.Frag) : Sp := fun vs H Q _ => ∃ (p : Addr) (v z : W) (cs : List Nat), vs = [.str (T v), .ref p, .str (T z)] ∧ Low v ∧ v.length ≤ 200 ∧ cs.length ≤ 4 ∧ (∀ a ∈ v, a ∈ cs) ∧ z <:+: M v ∧ z.length ≤ 200 ∧ SqL K H p ((lensI v (v.length + 1)).map V.int) ∧ ∀ H', Same H H' → Q (.bl true) H'
theorem scGre : FnScope ["_law_row_here", "_law_lens_here", "_law_bit_here", "_law_told", "_law_many", "_law_at", "_law_is_end"] ["_law_row_here", "_law_lens_here", "_law_bit_here"] (defScope sGre) := ⟨rfl, rfl, rfl, by decide +kernel, rfl, by decide +kernel, by decide +kernel⟩
theorem ok_gre {f : Addr} {fd : FuncData} (F : Fun K "_law_great_right" "_law_great_right" sGre f fd) (G : Txt K mg) (hF : Has P w K mg base 7 "followed" ["presses", "piece"] (spFol rFol)) (hL : Has P w K mg base 7 "led" ["presses", "piece"] (spFol rLed))
    (hO : Has P w K mg base 5 "how_often" ["presses", "piece"] spHow) (hH : Has P w K mg base 5 "home" ["presses", "piece"] spHom) : FnOk P w K mg base CX0 8 f fd ["_law_row_here", "_law_lens_here", "_law_bit_here"] (spGre K) := by
  refine fun_okC F scGre (fun vs H Q E h => ?_) (fun cdv A outer s H vs Q E hcd hr h => ?_)
  · obtain ⟨p, v, z, cs, rfl, _⟩ := h
    rfl
  · obtain ⟨p, v, z, cs, rfl, hv, hvl, hcs, hvc, hz, hzl, hp, k⟩ := h
    have hr5 : Room 5 _ := hr.mono (by decide)
    have hu := hu_of hr
    refine ⟨_, pss_cons (ps_par3 (i := 3) (j := 4) (l := 5) rfl scGre.nd rfl rfl rfl (by decide) (by decide) (by decide) rfl rfl rfl
        (pa_cons (pe_has hF hr (pa_cons (pv 0) (pa_cons (pv 2) pa_nil))) (pa_cons (pe_has hO hr5 (pa_cons (pv 0) (pa_cons (pv 2) pa_nil))) (pa_cons (pe_has hH hr5 (pa_cons (pv 0) (pa_cons (pv 2) pa_nil))) pa_nil))) (by rfl))
      (pss_cons (ps_if (PW.pt (pw_or (pt_cmpR op_ne (pe_callB (cr_sumV rfl) (by rfl) G.sum PyProof.Rows.boot_sum (pa_cons (pe_bm0 PySem.F.plainAttrs_dict PySem.F.slot_dict_values PySem.F.type_dict_values mt_dvals (pv 3)) pa_nil)) (pv 4) (nomark _))
          (pw_or (pt_cmpR (op_neD hr.units) (pe_callTy (call_list_dK rfl) (by rfl) G.list PySem.Pv.boot_list (pa_cons (pv 3) pa_nil)) (pe_callB (call_sortedD rfl) (by rfl) G.sorted PyProof.Rows.boot_sorted (pa_cons (pv 3) pa_nil)) (nomark _))
          (pw_or1 (pt_cmpR (op_ne_dictA (Nat.lt_of_succ_lt hu)) (pe_has hL hr (pa_cons (pv 0) (pa_cons (pe_revS (pv 2)) pa_nil))) (pv 3) (nomark _))))))
        (pss_one (ps_ret pe_bl)) pss_nil)
      (pss_cons (ps_set (i := 6) scGre.nd rfl (.inl rfl) (pe_cmpR op_eq (pe_op op_add (pe_ix ix_tup (pv 5) pe_int (fun _ _ => rfl)) (pe_callB call_len_str (by rfl) G.len PySem.boot_len (pa_cons (pv 2) pa_nil)))
          (pe_ix ix_list (pv 1) (pe_ix ix_tup (pv 5) pe_int (fun _ _ => rfl)) (fun _ _ => rfl)) (nomark _)))
      (pss_cons (ps_if (pt_val (pv 6)) (pss_one (ps_ret (pe_and (pe_cmpR op_eq (pe_dget2 hu (pv 3) pe_str pe_int m2) pe_int (nomark _))
          (pe_one (pe_cmpR (op_setEq (Nat.lt_of_succ_lt hu)) (pe_callTy (cr_setDk rfl) (by rfl) G.set PyProof.Rows.boot_set (pa_cons (pv 3) pa_nil))
            (pe_op op_setOr (pe_callTy (cr_setS rfl) (by rfl) G.set PyProof.Rows.boot_set (pa_cons (pe_slice sl_str (pv 0) (po_some (pe_ix ix_tup (pv 5) pe_int (fun _ _ => rfl))) po_none) pa_nil)) (pe_set1 hcd)) (nomark _)))))) pss_nil)
      (pss_one (ps_ret (pe_and (pe_cmpR op_eq (pe_callB call_lenD (by rfl) G.len PySem.boot_len (pa_cons (pv 3) pa_nil)) pe_int (nomark _)) (pe_one (pe_cmp (pc_dnotin hu pe_str (pv 3)))))))))), ?_⟩
    obtain ⟨Kk, a, hh⟩ := exHome hz
    have hzL := low_infix hv hz
    have hT : (T z).length ≤ sizeLine := len_text (by omega)
    have hDL : Low (v.drop Kk) := hv.drop Kk
    have hDl : (v.drop Kk).length ≤ 200 := by rw [List.length_drop]; omega
    have hDc : ∀ x ∈ v.drop Kk, x ∈ cs := fun x hx => hvc x (List.mem_of_mem_drop hx)
    refine ⟨_, rfl, _, rfl, v, z, Kk, a, rfl, hv, hvl, hzL, hzl, hh, fun D H1 s1 hD0 hD => ?_⟩
    refine ⟨_, rfl, _, rfl, v, z, rfl, hv, hvl, hzL, hzl, fun H2 s2 => ?_⟩
    refine ⟨_, rfl, _, rfl, v, z, Kk, a, rfl, hv, hvl, hzL, hzl, hh, fun t H3 s3 ht0 ht => ⟨_, _, _, rfl, ?_⟩⟩
    have s13 : Same H H3 := s1.trans (s2.trans s3)
    have hD3 := s3 _ _ (s2 _ _ hD)
    have hris := bes_rising hDL (rFol v z Kk a)
    have hfew := bes_few hcs hDc (rFol v z Kk a)
    have hsum := besideN_sum hDL.ltr (rFol v z Kk a)
    have hled := led_is hv hh
    have hok : ∀ x ∈ bKeys (besideN (v.drop Kk) (rFol v z Kk a)), PyData.strOk x = true := bes_ok fun c hc => by
      have := low_M (hv.take Kk) (show (M (v.take Kk))[a + z.length]? = some c from hc)
      omega
    -- sum(told.values()) != many
    refine ⟨_, rfl, .inr (.inr (.inl ⟨rfl, .inl ⟨_, hD3⟩⟩)), D, _, rfl, rfl, hD3, fun q hq => ?_⟩
    have sq := same_new (o := viewO "dict_values" q D) hq
    refine ⟨q, D, _, (besideN (v.drop Kk) (rFol v z Kk a)).map fun x => ((x.2 : Nat) : Int), rfl, upd_same, sq _ _ hD3, ?_, ?_⟩
    · unfold talK
      rw [List.map_map, List.map_map]; rfl
    have e1 : ((besideN (v.drop Kk) (rFol v z Kk a)).map fun x => ((x.2 : Nat) : Int)).sum = ((cnt z (M v) : Nat) : Int) := by
      rw [hh.cnt_eq, ← hsum]
      generalize besideN (v.drop Kk) (rFol v z Kk a) = B
      induction B with
      | nil => rfl
      | cons x B ih => simp only [List.map_cons, List.sum_cons, ih, Int.natCast_add]
    rw [e1]
    refine ⟨_, rfl, rfl, _, rfl, ?_⟩
    refine iteNS rfl ?_
    -- list(told) != sorted(told)
    refine ⟨_, rfl, D, _, rfl, sq _ _ hD3, fun l hl => ?_⟩
    have sl := same_new (o := HO.lst ((talK (besideN (v.drop Kk) (rFol v z Kk a))).map fun kv => kV kv.1)) hl
    have el : (talK (besideN (v.drop Kk) (rFol v z Kk a))).map (fun kv => kV kv.1) = (bKeys (besideN (v.drop Kk) (rFol v z Kk a))).map V.str := by
      unfold talK bKeys
      rw [List.map_map, List.map_map, List.map_map]; rfl
    refine ⟨_, rfl, D, _, bKeys (besideN (v.drop Kk) (rFol v z Kk a)), rfl, Rd.of (sl _ _ (sq _ _ hD3)), bKeys_talK _, by unfold bKeys; rw [List.length_map, List.length_map]; omega, fun ys o hys hso ho => ?_⟩
    have hys' := bKeys_sorted hris hys hso
    subst hys'
    have so := same_new (o := HO.lst ((bKeys (besideN (v.drop Kk) (rFol v z Kk a))).map V.str)) ho
    refine ⟨_, _, Dp.lst (SqL.of (so _ _ (by rw [upd_same, el]))) (dp_strs _), Dp.lst (SqL.of upd_same) (dp_strs _), shaped_strs hok, shaped_strs hok, _, rfl, ?_⟩
    rw [eqv_strs]
    refine iteF ?_
    -- led(row, bit[::-1]) != told
    have s4 := (sq.trans sl).trans so
    refine ⟨_, rfl, _, rfl, T z, rfl, hT, ?_⟩
    rw [rev_T]
    refine ⟨v, z.reverse, Kk, L (v.take Kk) - z.length - a, rfl, hv, hvl, fun x hx => hzL x (List.mem_reverse.mp hx), by rw [List.length_reverse]; exact hzl, hh.rev, fun D2 H5 s5 hD20 hD2 => ?_⟩
    rw [hled] at hD2
    refine ⟨_, rfl, D2, D, _, _, rfl, rfl, hD2, s5 _ _ (s4 _ _ hD3), rfl, fun q hq => ⟨valV_mem (talK_nd hris) q hq, talK_flat q hq⟩, _, rfl, ?_⟩
    refine iteF ?_
    -- the end
    have s35 := s4.trans s5
    have ht5 := s35 _ _ ht
    have hD5 := s35 _ _ hD3
    have s05 := s13.trans s35
    refine ⟨_, rfl, t, _, 1, _, rfl, rfl, SqT.of ht5, atI_nat (j := 1) rfl, _, rfl, T z, rfl, hT, _, _, rfl, rfl, ?_⟩
    refine ⟨_, rfl, _, rfl, t, _, 0, _, rfl, rfl, SqT.of ht5, atI_nat (j := 0) rfl, p, _, _, _, rfl, rfl, s05.seq hp, atI_nat (lensV_get (i := Kk) (by have := hh.le; omega)), rfl, ?_⟩
    have e2 : ((a : Nat) : Int) + ((T z).length : Nat) = ((a + z.length : Nat) : Int) := by rw [T_len]; omega
    have hfit := hh.fits
    refine ⟨_, rfl, _, rfl, ?_⟩
    cases hc : (M (v.take Kk))[a + z.length]? with
    | none =>
      have hge : L (v.take Kk) ≤ a + z.length := List.getElem?_eq_none_iff.mp hc
      have hr0 : rFol v z Kk a = none := hc
      rw [hr0] at hD5 hris
      refine iteD (by exact congrArg V.int (by show ((a : Nat) : Int) + ((T z).length : Nat) = _; rw [e2]; omega)) ?_
      have hv0 : valV (talK (besideN (v.drop Kk) none)) (Sum.inr (Str.ofString "")) = some (.int 1) := valV_mem (talK_nd hris) (Sum.inr (sg 0), .int ((1 : Nat) : Int)) List.mem_cons_self
      refine ⟨_, rfl, D, rfl, .inl ⟨_, Rd.of hD5⟩, _, DGet.k (k := Sum.inr (Str.ofString "")) hD5, ?_⟩
      rw [hv0]
      refine ⟨rfl, _, rfl, iteT ?_⟩
      have hf5 : (bKeys (besideN (v.drop Kk) none)).length ≤ 5 := by unfold bKeys; rw [List.length_map, List.length_map, ← hr0]; exact hfew
      refine ⟨_, rfl, D, _, bKeys (besideN (v.drop Kk) none), rfl, Rd.of hD5, bKeys_talK _, hf5, fun p1 hp1 => ?_⟩
      have q1 := same_new (o := SetTO w false (putsK [] (bKeys (besideN (v.drop Kk) none))) p1) hp1
      refine ⟨_, rfl, _, rfl, t, _, 0, _, rfl, rfl, SqT.of (q1 _ _ ht5), atI_nat (j := 0) rfl, _, rfl, T v, rfl, len_text (by omega), ?_⟩
      rw [cut_from]
      refine ⟨_, rfl, ?_, fun p2 hp2 => ?_⟩
      · rw [T_size]; show _ + 1 < 4096; omega
      · have q2 := same_new (o := SetTO w true (putsS [] (T (v.drop Kk)).cps.toList) p2) hp2
        intro p3 hp3
        have q3 := same_new (o := SetTO w false [Str.ofString ""] p3) hp3
        have n23 : p2 ≠ p3 := ne_of_none upd_same hp3
        refine ⟨p2, p3, _, _, _, _, rfl, rfl, q3 _ _ upd_same, upd_same, n23, few_set hcs hDc, fun p4 hp4 => ?_⟩
        have q4 := same_new (o := SetTO w false (putS (putsS [] (T (v.drop Kk)).cps.toList) (Str.ofString "")) p4) hp4
        obtain ⟨g1, g2⟩ := end_sets hDL
        refine ⟨p1, p4, _, _, _, _, rfl, rfl, q4 _ _ (q3 _ _ (q2 _ _ upd_same)), upd_same, g1, g2, ?_⟩
        exact k _ (s05.trans (((q1.trans q2).trans q3).trans q4))
    | some c =>
      have hlt : a + z.length < L (v.take Kk) := (List.getElem?_eq_some_iff.mp hc).1
      have hr0 : rFol v z Kk a = some c := hc
      rw [hr0] at hD5
      refine iteND (fun q => ?_) ?_
      · have q' : ((a : Nat) : Int) + ((T z).length : Nat) = ((L (v.take Kk) : Nat) : Int) := by injection q
        rw [e2] at q'
        omega
      refine ⟨_, rfl, D, _, rfl, hD5, rfl, _, rfl, ?_⟩
      refine iteD rfl ?_
      have hc97 := low_M (hv.take Kk) hc
      have hv0 : valV (talK (besideN (v.drop Kk) (some c))) (Sum.inr (Str.ofString "")) = none := by
        unfold valV
        rw [show talK (besideN (v.drop Kk) (some c)) = [(Sum.inr (sg c), .int ((L (v.drop Kk) + 1 : Nat) : Int))] from rfl, List.find?_cons, decide_eq_false (fun z => by
          have := kin_sg (a := c) (b := 0) |>.mp z
          omega)]
        rfl
      refine ⟨_, rfl, D, _, rfl, DGet.k (k := Sum.inr (Str.ofString "")) hD5, ?_⟩
      rw [hv0]
      exact k _ s05
end
end Mw

namespace Mw
open PySem PySem.Spec PyProof.Rows L2 Mp TL
/-! ### repr of a list of two tallies -/
def pdK (B : Tal) : List (PyData × PyData) := B.map fun q => (PyData.str (sg q.1), PyData.int (q.2 : Nat))
def pdOf (B : Tal) : PyData := .dict (pdK B)
theorem pdK_keys (B : Tal) : (pdK B).map (·.1) = B.map fun q => PyData.str (sg q.1) := by unfold pdK; rw [List.map_map]; rfl
theorem pdK_vals (B : Tal) : (pdK B).map (·.2) = B.map fun q => PyData.int (q.2 : Nat) := by unfold pdK; rw [List.map_map]; rfl
theorem tal_reads {P : Program} {w : World} {h : Heap} : ∀ {B : Tal} {vs : List (Key × Value)} {es : List DictEntry}, KV (talK B) vs → PySem.Pairs (mixKind P w) es vs →
    ReadsAll h (es.map (·.key)) (B.map fun q => PyData.str (sg q.1)) [] ∧ ReadsAll h (es.map (·.val)) (B.map fun q => PyData.int (q.2 : Nat)) []
  | [], _, _, .nil, .nil => ⟨.nil, .nil⟩
  | q :: B, (k, u) :: vs, e :: es, .cons hk hr, .cons he hv hs => by
    obtain ⟨h1, h2⟩ := tal_reads hr hs
    obtain ⟨e1, r⟩ := hk
    have e1' : (Sum.inr (sg q.1) : Key) = k := e1
    subst e1'
    obtain ⟨t, rt⟩ : ∃ t, u = Value.int (q.2 : Nat) t := r
    rcases keyIs_shape (show keyIs (Sum.inr (sg q.1)) e.key = true from he) with ⟨i, t', z, _⟩ | ⟨x, t', z, ez⟩
    · cases z
    · have z' : sg q.1 = x := Sum.inr.inj z
      subst z'
      refine ⟨?_, ?_⟩
      · show ReadsAll h (e.key :: es.map (·.key)) (PyData.str (sg q.1) :: _) ([] ++ [])
        rw [ez]
        exact .cons (.str _ t') h1
      · show ReadsAll h (e.val :: es.map (·.val)) (PyData.int (q.2 : Nat) :: _) ([] ++ [])
        rw [hv]
        show ReadsAll h (u :: _) _ _
        rw [rt]
        exact .cons (.int _ t) h2
/-- no great numbers -/
structure Sh (B : Tal) : Prop where
  few : B.length ≤ 200
  small : ∀ q ∈ B, q.1 < 128 ∧ q.2 ≤ 100000
theorem log_small {n : Nat} (h : n ≤ 100000) : n.log2 < 20 := by
  by_cases e : n = 0
  · subst e; decide
  · exact (Nat.log2_lt e).mpr (by omega)
theorem sh_show : ∀ {B : Tal}, (∀ q ∈ B, q.1 < 128 ∧ q.2 ≤ 100000) → PyData.showableKv (pdK B) = true ∧ PyData.leavesShortKv 13 (pdK B) = true ∧ PyData.weightKv (pdK B) ≤ 30 * B.length ∧ PyData.depthKv (pdK B) = 0
  | [], _ => ⟨rfl, rfl, Nat.le_refl _, rfl⟩
  | q :: B, h => by
    obtain ⟨h1, h2, h3, h4⟩ := sh_show (B := B) fun q hq => h q (List.mem_cons_of_mem _ hq)
    obtain ⟨a1, a2⟩ := h q List.mem_cons_self
    have hl := log_small a2
    have e : pdK (q :: B) = (PyData.str (sg q.1), PyData.int (q.2 : Nat)) :: pdK B := rfl
    rw [e]
    refine ⟨?_, ?_, ?_, ?_⟩
    · simp only [PyData.showableKv, PyData.showable, h1, Bool.and_true, Bool.true_and, decide_eq_true_eq]
      show (q.2).log2 < 1920
      omega
    · simp only [PyData.leavesShortKv, PyData.leavesShort, h2, Bool.and_true, Bool.and_eq_true, decide_eq_true_eq, List.all_eq_true]
      refine ⟨fun c hc => ?_, PyData.shown_int_le (by show q.2 < _; omega)⟩
      unfold sg at hc
      split at hc
      · cases hc
      · have : c = q.1 := List.mem_singleton.mp hc
        rw [this]
        omega
    · simp only [PyData.weightKv, PyData.weight, List.length_cons]
      have s1 : (sg q.1).cps.size ≤ 1 := sg_len q.1
      have s2 : (if ((q.2 : Nat) : Int) == 0 then 0 else ((q.2 : Nat) : Int).natAbs.log2 + 1) ≤ 21 := by
        split
        · omega
        · show q.2.log2 + 1 ≤ 21
          omega
      omega
    · simp only [PyData.depthKv, PyData.depth, h4]
      rfl
def shown2 (B1 B2 : Tal) : Str := (PyData.list [pdOf B1, pdOf B2]).shown
def rRepr2 : List V → Hp → VK → Prop := fun xs H Q => ∃ (l a b : Addr) (B1 B2 : Tal), xs = [.ref l] ∧ l ≠ sysModules ∧ H l = some (.lst [.ref a, .ref b]) ∧ H a = some (.dK (talK B1)) ∧ H b = some (.dK (talK B2)) ∧ Sh B1 ∧ Sh B2 ∧ Q (.str (shown2 B1 B2)) H
section
variable {X : Cx} {pins : List (Addr × Obj)} {σ : L2.St} {H : Hp} {s : Shared}
theorem dk_reads (I : Inv X pins σ H s) {a : Addr} {B : Tal} (h : H a = some (.dK (talK B))) : Reads s.heap (.ref a) (pdOf B) [a] ∧ a ≠ sysModules := by
  obtain ⟨_, ya, va, ra, o, es, ep, ho, hx, hd, _, hp, _⟩ := (show ObjOk X.prog X.w H s.heap a (.dK (talK B)) from I.hok a _ h)
  obtain ⟨h1, h2⟩ := tal_reads (h := s.heap) ra hp
  have r := Reads.dict (kvs := pdK B) ho hx.1 hd (by rw [pdK_keys]; exact h1) (by rw [pdK_vals]; exact h2)
  exact ⟨r, fun e => by rw [e] at ya; exact absurd ya (by decide)⟩
/-- a list display, its place beyond the first objects -/
def tLstB (t : TA) : TE := fun σ H Q => t σ H fun xs H1 => xs.length ≤ sizeLine ∧ ∀ p, p ≠ sysModules → H1 p = none → Q (.ref p) (upd H1 p (.lst xs))
theorem pe_lstB {es : List Expr} {pos : Pos} {t : TA} (h : PA X es t) : PE X (.List es pos) (tLstB t) := by
  refine ⟨fun pins s σ H Q I hq => ?_⟩
  refine wpAny_List_spliced (thn (h.run pos pins s σ H _ I hq) fun us s1 ⟨xs, H1, I1, r, z, q⟩ => ⟨by rw [← r.length]; exact z, ?_⟩)
  have hf : H1 s1.heap.objs.size = none := I1.hok.fresh (Nat.le_refl _)
  refine ⟨.ref s1.heap.objs.size, upd H1 s1.heap.objs.size (.lst xs), I1.laid (t' := s1.toks) (fun b u e => Heap.get?_push_of_some _ e) (Nat.le_refl _) ?_, rfl, q _ (Nat.ne_of_gt I1.big) hf⟩
  exact ⟨z, us, 0, r, Heap.get?_push_size _ rfl⟩
theorem cr_repr2 (hg : X.A.guards = some []) (hu : X.A.units + 64 < cLine) : CallR X (.builtin "repr") rRepr2 := by
  intro pins s σ H xs us Q I r q
  obtain ⟨l, a, b, B1, B2, rfl, hl', hl, ha, hb, n1, n2, q⟩ := q
  obtain ⟨u, rfl, ru⟩ := vals1 r
  obtain rfl : u = Value.ref l := ru
  obtain ⟨ra, na⟩ := dk_reads I ha
  obtain ⟨rb, nb⟩ := dk_reads I hb
  obtain ⟨_, its, n, rv, hget⟩ := (show ObjOk X.prog X.w H s.heap l (.lst [.ref a, .ref b]) from I.hok l _ hl)
  obtain ⟨u1, u2, ei, r1, r2⟩ := vals2 rv
  subst ei
  obtain rfl : u1 = Value.ref a := r1
  obtain rfl : u2 = Value.ref b := r2
  have rr : Reads s.heap (.ref l) (.list [pdOf B1, pdOf B2]) (l :: ([a] ++ ([b] ++ []))) := Reads.list hget rfl rfl (.cons ra (.cons rb .nil))
  obtain ⟨c1, c2, c3, c4⟩ := sh_show n1.small
  obtain ⟨d1, d2, d3, d4⟩ := sh_show n2.small
  have f1 := n1.few
  have f2 := n2.few
  have hdep : (PyData.list [pdOf B1, pdOf B2]).depth = 2 := by simp [PyData.depth, PyData.depthAll, pdOf, c4, d4]
  refine repr_of_reads' (h₀ := s.heap) rr ?_ (fun _ hm => ?_) hg ?_ (fun b o e => e) (fun h' u tk hk => ⟨.str _, H, I.kept hk, ⟨u, rfl⟩, q⟩) ?_
  · simp [PyData.showable, PyData.showableAll, pdOf, c1, d1]
  · simp only [List.cons_append, List.nil_append, List.mem_cons, List.not_mem_nil, or_false] at hm
    rcases hm with e | e | e
    · exact hl' e.symm
    · exact na e.symm
    · exact nb e.symm
  · rw [hdep]; omega
  · refine PyData.shown_fits (B := 13) (by decide) (by decide) ?_ ?_
    · simp [PyData.leavesShort, PyData.leavesShortAll, pdOf, c2, d2]
    · simp only [PyData.weight, PyData.weightAll, pdOf]
      show _ ≤ 1048576
      omega
end
end Mw

namespace Mw
open PySem PySem.Spec PyProof.Rows L2 Mp TL
/-- a def whose calls are known to stand within no guard -/
structure FnG (P : Program) (w : World) (K : PySem.W.Frag) (mg : Str → Option Value) (base : Heap) (k : Nat) (f : Addr) (fd : FuncData) (ps : List Str) (sp : Sp) : Prop where
  len : ∀ vs H Q E, sp vs H Q E → vs.length = ps.length
  run : ∀ (A : Around) (outer : List Env) (s : Shared) (H : Hp) (args : Args) (us : List Value) (vs : List V) (Q : VK) (E : XK), A.guards = some [] → Room k A → Env0 P w K mg base A outer s H → BindsTo s fd args (ps.zip us) → Vals vs us → sp vs H Q E →
    codeAny (model P w) A (.call (.ref f) args) (CR CX0 outer P w H s Q E) s
section
variable {P : Program} {w : World} {K : PySem.W.Frag} {mg : Str → Option Value} {base : Heap}
/-- by its body -/
theorem funG {x qual : Str} {st : Stmt} {f : Addr} {fd : FuncData} {N ps : List Str} {k : Nat} {sp : Sp} (F : L2.Fun K x qual st f fd) (S : FnScope N ps (defScope st)) (len : ∀ vs H Q E, sp vs H Q E → vs.length = ps.length)
    (hbody : ∀ (cdv : Value) (A : Around) (outer : List Env) (s : Shared) (H : Hp) (vs : List V) (Q : VK) (E : XK), A.guards = some [] → Room k (A.deeper (envOfC qual (defScope st) s.heap.objs.size f cdv)) → sp vs H Q E →
      ∃ t, PSs (cxOf CX0 P w K mg base N qual (defScope st) f cdv A outer s H E).nox (defBody st) t ∧ t { nx := fun _ H' => Q .non H', rt := Q } (start N vs) H) : FnG P w K mg base (k + 1) f fd ps sp := by
  obtain ⟨oc, od, kV, doc, pm, an, cdv, ct, osl, rfl, lk, hcd⟩ := F.ex
  refine ⟨len, fun A outer s H args us vs Q E hg hr e0 hb r hsp => ?_⟩
  have KX : K.In s.heap := e0.mod.kin.keeps fun b o e => (e0.bs b o e).1
  refine codeAny_call_function hr.depth (KX _ _ lk) rfl S.co S.gen rfl (PySem.W.codeRec_of KX hcd) (hb _ _ _ _ ?_)
  refine wpAny_newFunctionEnv_cells S.kind (fun ⟨n, v⟩ hy => (S.par n (List.of_mem_zip hy).1).imp id fun q => ⟨q, PySem.W.cellsFrom_some _ _ _ (.inl q)⟩) fun env he s1 x => ?_
  subst he
  have lim : s1.heap.NoLimit := (e0.mod.nolimit.keeps fun b o e => (e0.bs b o e).1).keeps x.toInCall.keep
  refine ⟨lim, codeAny_func ?_⟩
  obtain ⟨t, ht, hq⟩ := hbody cdv A outer s H vs Q E hg (hr.deeper _) hsp
  refine wpAny_mono (ht.nox.run [] s1 (start N vs) H _ (inv_start S hr.hd e0 (len _ _ _ _ hsp) r x) hq) (fun fl s' hs => ?_) fun e s' hs => hs
  cases fl with
  | ret u => obtain ⟨v, σ', H', J, rv, q⟩ := hs; exact ⟨v, H', J.os, J.bare, J.base, J.hok, rv, q⟩
  | next => obtain ⟨σ', H', J, q⟩ := hs; exact ⟨.non, H', J.os, J.bare, J.base, J.hok, rfl, q⟩
  | brk => obtain ⟨_, _, _, q⟩ := hs; exact q.elim
  | cont => obtain ⟨_, _, _, q⟩ := hs; exact q.elim
structure HasG (P : Program) (w : World) (K : PySem.W.Frag) (mg : Str → Option Value) (base : Heap) (k : Nat) (x : Str) (ps : List Str) (sp : Sp) : Prop where
  ex : ∃ f fd, mg x = some (.ref f) ∧ PySem.W.keepIn K (.ref f) = true ∧ Binds K fd ps [] ∧ FnG P w K mg base k f fd ps sp
theorem pe_hasG {X : Cx} {k : Nat} {x : Str} {ps : List Str} {sp : Sp} {p pos : Pos} {e : Expr} {es : List Expr} {t : TA} (h : HasG X.prog X.w X.K X.mg X.base k x ps sp) (hgd : X.A.guards = some []) (hr : Room k X.A) (ha : PA X (e :: es) t) (hg : Gl X x := by rfl)
    (hdb : (x == ("__debug__" : Str)) = false := by decide) (he : starEach (e :: es) X.env = (false, eval e X.env) :: starEach es X.env := by rfl) (hpl : (backTo pos (starEach es X.env)).any (·.1) = false := by rfl) :
    PE X (.Call (.Name x p) (e :: es) [] pos) (tCall sp [] E0 t) := by
  obtain ⟨f, fd, hm, hk, hb, F⟩ := h.ex
  refine ⟨fun pins s σ H Q I h => ?_⟩
  refine wpAny_Call_Name_kw (ld_glob I hg hm ?_ hdb)
  refine PySem.W.callWith_K (h₀ := X.base) I.ok.mod.kin hk (thn (ha.run pos pins s σ H _ I h) fun us s1 ⟨vs, H1, I1, r, q⟩ => ⟨I1.kIn, ?_⟩) he hpl
  have q : sp vs H1 Q E0 := by
    have q' : sp (vs ++ []) H1 Q E0 := q
    rwa [List.append_nil] at q'
  have hl : (us ++ []).length = ps.length := by rw [List.append_nil, ← r.length]; exact F.len _ _ _ _ q
  have hb' := hb s1 us I1.kIn hl
  rw [List.append_nil] at hb'
  refine wpAny_call (codeAny_mono (F.run X.A X.stack s1 H1 ⟨us, []⟩ us vs Q E0 hgd hr I1.env0 hb' r q) fun r s' hq => ?_)
  cases r with
  | error e => exact (pass0 (X := X) pins σ H1 s1 e s' I1 hq)
  | ok fl =>
    cases fl with
    | ret u => exact I1.after hq
    | next => exact False.elim hq
    | brk => exact False.elim hq
    | cont => exact False.elim hq
end
section
/-- the law's own def, called by the claim's caller -/
theorem law_callG {P : Program} {w : World} {K : PySem.W.Frag} {mg mb : Str → Option Value} {k : Nat} {fa a : Addr} {fd : FuncData} {x : Str} {sp : Sp} {s₁ : Shared} {vs : List Value} {ns : List Int}
    (KX : K.In s₁.heap) (hns : s₁.heap.Ns mainGlobals mg) (hb : s₁.heap.Ns builtinsNs mb) (hbb : ∀ x : Str, x ≠ "__name__" → mb x = bootBuiltins x) (hlim : s₁.heap.NoLimit) (hg : s₁.gens = #[])
    (ha : s₁.heap.get? a = some { cls := .type "list", data := .seq vs.toArray }) (hi : IntsAre vs ns) (hl : ns.length ≤ sizeLine) (hr : Room k callerA)
    (F : ∀ base : Heap, K.In base → base.Ns mainGlobals mg → FnG P w K mg base k fa fd [x] sp) (hbind : ∀ (s : Shared) (u : Value), BindsTo s fd ⟨[u], []⟩ [(x, u)])
    (hsp : ∀ H : Hp, SqL K H a (ns.map V.int) → sp [.ref a] H (fun v _ => v = .bl true) fun _ _ _ => False) :
    codeAny (model P w) callerA (.call (.ref fa) ⟨[.ref a], []⟩) (fun r s' => r = .ok (.ret (.bool true)) ∧ OldK s₁.heap s'.heap ∧ s'.os = s₁.os ∧ AllBare s'.gens) s₁ := by
  have rv := vals_ints hi
  have lenV := hi.length
  -- a heap that tracks the script at most: hidden from the base
  have core : ∀ H : Hp, SqL K H a (ns.map V.int) → HOk P w H s₁.heap → (∀ b u, H b = some u → b = a ∧ K.lookup b = none ∧ ∃ o xs, u = .frz o (.lst xs)) →
      codeAny (model P w) callerA (.call (.ref fa) ⟨[.ref a], []⟩) (fun r s' => r = .ok (.ret (.bool true)) ∧ OldK s₁.heap s'.heap ∧ s'.os = s₁.os ∧ AllBare s'.gens) s₁ := by
    intro H hS hok hA
    have keepD : ∀ {b : Addr} {m : Str → Option Value}, s₁.heap.Ns b m → (hidT s₁.heap H).Ns b m := fun {b m} ⟨o, es, ep, e, d, r⟩ => by
      refine ⟨o, es, ep, hidT_get e ?_, d, r⟩
      cases q : H b with
      | none => rfl
      | some u =>
        obtain ⟨rfl, _, _⟩ := hA b u q
        rw [ha] at e
        cases e
        cases (show Data.seq vs.toArray _ = Data.dict es ep from d)
    have keepK : K.In (hidT s₁.heap H) := fun b o e => hidT_get (KX b o e) (by
      cases q : H b with
      | none => rfl
      | some u =>
        obtain ⟨_, e', _⟩ := hA b u q
        rw [e] at e'; cases e')
    have hM : L2.Mod K mg (hidT s₁.heap H) := ⟨keepK, keepD hns, ⟨mb, keepD hb, hbb⟩, let ⟨mc, h1, h2⟩ := hlim; ⟨mc, keepD h1, h2⟩⟩
    have e0 : Env0 P w K mg (hidT s₁.heap H) callerA [] s₁ H := ⟨rfl, hM, fun b o e => of_hidT e, Nat.le_of_eq (hidT_size _ _), trivial, fun b hb => absurd (show b ∈ ([] : List Addr) from hb) (by simp), hok, .of_eq hg⟩
    refine codeAny_mono ((F _ keepK (keepD hns)).run callerA [] s₁ H ⟨[.ref a], []⟩ [.ref a] [.ref a] _ _ rfl hr e0 (hbind s₁ (.ref a)) (.cons rfl .nil) (hsp H hS)) fun r s' h => ?_
    match r, h with
    | .error _, h => exact (show False from h).elim
    | .ok .next, h => exact False.elim h
    | .ok .brk, h => exact False.elim h
    | .ok .cont, h => exact False.elim h
    | .ok (.ret u), ⟨v, H', os, bare, un, hok', r', q⟩ =>
      obtain rfl : v = .bl true := q
      obtain rfl : u = Value.bool true := r'
      refine ⟨rfl, OldK.of_keep fun b o e => ?_, os, bare⟩
      cases q : H b with
      | none => exact un.keep b o e q (fun z => absurd (show b ∈ ([] : List Addr) from z) (by simp)) (by simp)
      | some u =>
        obtain ⟨_, _, ob, xs, rfl⟩ := hA b u q
        obtain ⟨e1, _⟩ := hok b _ q
        obtain ⟨e2, _⟩ := hok' b _ (un.frzs b ob _ q)
        rw [e] at e1; cases e1
        exact e2
  cases hk : K.lookup a with
  | some o =>
    have e := KX a o hk
    rw [ha] at e
    cases e
    exact core (fun _ => none) (.inr ⟨_, vs.toArray, _, hk, rfl, rfl, rfl, by rw [List.size_toArray, lenV]; exact hl, by simpa using rv⟩) (fun b u z => nomatch (show (none : Option HO) = some u from z)) fun b u z => nomatch (show (none : Option HO) = some u from z)
  | none =>
    have at1 : ∀ b u, (if b = a then some (HO.frz { cls := .type "list", data := .seq vs.toArray } (.lst (ns.map V.int))) else none) = some u → b = a ∧ u = .frz { cls := .type "list", data := .seq vs.toArray } (.lst (ns.map V.int)) := fun b u z => by
      by_cases hb : b = a
      · rw [if_pos hb] at z
        exact ⟨hb, (Option.some.inj z).symm⟩
      · rw [if_neg hb] at z; cases z
    refine core (fun b => if b = a then some (.frz { cls := .type "list", data := .seq vs.toArray } (.lst (ns.map V.int))) else none) (.inl (.inr ⟨{ cls := .type "list", data := .seq vs.toArray }, if_pos rfl⟩)) (fun b u z => ?_) fun b u z => ?_
    · obtain ⟨rfl, rfl⟩ := at1 b u z
      exact ⟨ha, by rw [List.length_map]; exact hl, vs, _, rv, ha⟩
    · obtain ⟨rfl, rfl⟩ := at1 b u z
      exact ⟨rfl, hk, _, _, rfl⟩
theorem walk_ofG {l : PySem.W.OpenLaw} {n k : Nat} {q : Program} {loose : List Str} {XP : (Str → Option Value) → Heap → Prop} {YP : World → Heap → Prop} {d : DefRec} {K : Params → PySem.W.Frag} {sp : World → Sp} {x : Str}
    (hn : l.most = some n) (hn2 : n ≤ sizeLine) (hdf : d.params.defaults = []) (hr : Room k callerA) (hY : ∀ (w : World) (h : Heap), YP w h → (K w.params).In h)
    (F : ∀ (w : World) (mg : Str → Option Value) (fa : Addr) (h : Heap), (K w.params).In h → h.Ns mainGlobals mg → mg d.name = some (.ref fa) →
      ∃ fd : FuncData, (∀ (s : Shared) (u : Value), BindsTo s fd ⟨[u], []⟩ [(x, u)]) ∧ ∀ base : Heap, (K w.params).In base → base.Ns mainGlobals mg → FnG l.prog w (K w.params) mg base k fa fd [x] (sp w))
    (hsp : ∀ (w : World) (H : Hp) (a : Addr) (ns : List Int), ns.length ≤ n → SqL (K w.params) H a (ns.map V.int) → sp w [.ref a] H (fun v _ => v = .bl true) fun _ _ _ => False) :
    PySem.W.WalkO q loose XP YP l.row.toRowW d [] (fun f vs => PySem.call f vs) := by
  refine Att.attach_call hn hdf fun w s₀ s₁ mg mb fa o pm cd doc a vs ns G Y ho hd hcd hmg hobj hints hlen hg => ?_
  have KX := hY w _ Y
  obtain ⟨fd, hb, hF⟩ := F w mg fa _ KX G.T.g hmg
  exact law_callG KX G.T.g G.T.b G.T.builtins G.T.nolimit hg hobj hints (Nat.le_trans hlen hn2) hr hF hb fun H hS => hsp w H a ns hlen hS
end
end Mw

namespace Mw
open PySem L2 Mp TL
theorem bes_sh {t : W} {o : Option Nat} (hL : L t ≤ 1000) (ho : ∀ c, o = some c → c < 128) : Sh (besideN t o) := by
  cases o with
  | some c =>
    refine ⟨by rw [besN_some]; exact (by decide : (1 : Nat) ≤ 200), fun q hq => ?_⟩
    rw [besN_some, List.mem_singleton] at hq
    subst hq
    exact ⟨ho c rfl, by show L t + 1 ≤ _; omega⟩
  | none =>
    refine ⟨?_, fun q hq => ?_⟩
    · rw [besN_none, List.length_cons]
      unfold countsN
      rw [List.length_map]
      have := List.length_filter_le (fun c => decide (c ∈ t)) (List.range 128)
      rw [List.length_range] at this
      omega
    · rw [besN_none] at hq
      rcases List.mem_cons.mp hq with rfl | hq
      · exact ⟨by decide, by decide⟩
      · unfold countsN at hq
        obtain ⟨c, hc, rfl⟩ := List.mem_map.mp hq
        refine ⟨List.mem_range.mp (List.mem_filter.mp hc).1, ?_⟩
        have := List.count_le_length (a := c) (l := M t)
        show (M t).count c ≤ _
        unfold L at hL
        omega
theorem sgn_nat (m : W) (k : Nat) : sgn m (k : Nat) = dn m[k]? := by
  unfold sgn dn
  by_cases h : k < m.length
  · rw [if_pos ⟨by omega, by omega⟩, Int.toNat_natCast, List.getD_eq_getElem?_getD]
  · rw [if_neg (fun z => h (by omega)), List.getElem?_eq_none (by omega)]; rfl
theorem sgn_neg (m : W) : sgn m (-1) = 0 := by
  unfold sgn
  rw [if_neg (by omega)]
def kAft (z m : W) : List Int := (pos z m).map fun i => ((i : Nat) : Int) + (z.length : Nat)
def kAhd (z m : W) : List Int := (pos z m).map fun i => ((i : Nat) : Int) - 1
theorem aft_tal {v z : W} {Kk a : Nat} (hv : Low v) (h : IsHome v z Kk a) : tal ((kAft z (M v)).map (sgn (M v))) = besideN (v.drop Kk) (rFol v z Kk a) := by
  rw [show rFol v z Kk a = (M (v.take Kk))[a + z.length]? from rfl, ← followed_tal hv.ltr h, fol_pos]
  unfold kAft
  rw [List.map_map, List.map_map]
  congr 1
  refine List.map_congr_left fun i _ => ?_
  show sgn (M v) (((i : Nat) : Int) + (z.length : Nat)) = dn (M v)[i + z.length]?
  rw [← sgn_nat]
  congr 1
theorem ahd_tal {v z : W} {Kk a : Nat} (hv : Low v) (h : IsHome v z Kk a) : tal ((kAhd z (M v)).map (sgn (M v))) = besideN (v.drop Kk) (rLed v z Kk a) := by
  rw [show rLed v z Kk a = (if a = 0 then none else (M (v.take Kk))[a - 1]?) from rfl, ← led_tal hv.ltr h]
  unfold kAhd aheads
  rw [List.map_map, List.map_map]
  congr 1
  refine List.map_congr_left fun i _ => ?_
  show sgn (M v) (((i : Nat) : Int) - 1) = dn (if i = 0 then none else (M v)[i - 1]?)
  by_cases hi : i = 0
  · subst hi
    rw [if_pos rfl]
    exact sgn_neg _
  · rw [if_neg hi, ← sgn_nat]
    congr 1
    omega
theorem pos_few (z m : W) : (pos z m).length ≤ m.length + 1 := by
  unfold pos
  have := List.length_filter_le (fun i => z.isPrefixOf (m.drop i)) (List.range (m.length + 1))
  rwa [List.length_range] at this
section
variable {P : Program} {w : World} {K : PySem.W.Frag} {mg : Str → Option Value} {base : Heap}
/-! ### _law_small_right: level 8 -/
abbrev sSma : Stmt := top 51
def spSma : Sp := fun vs H Q _ => ∃ (v z : W), vs = [.str (T v), .str (T (M v)), .str (T z)] ∧ Low v ∧ v.length ≤ 200 ∧ L v ≤ 150 ∧ z <:+: M v ∧ ∀ H', Same H H' → Q (.bl true) H'
theorem scSma : FnScope ["_law_row_here", "_law_text", "_law_bit_here", "_law_spots_here", "_law_after", "_law_ahead", "_law_told", "_law_at"] ["_law_row_here", "_law_text", "_law_bit_here"] (defScope sSma) := ⟨rfl, rfl, rfl, by decide +kernel, rfl, by decide +kernel, by decide +kernel⟩
theorem ok_sma {f : Addr} {fd : FuncData} (F : Fun K "_law_small_right" "_law_small_right" sSma f fd) (G : Txt K mg) (hF : HasF P w K mg base 7 "followed" (spFol rFol)) (hL : HasF P w K mg base 7 "led" (spFol rLed))
    (hSp : Has P w K mg base 1 "_law_spots" ["_law_text", "_law_bit_here"] spSpo) (hSi : Has P w K mg base 1 "_law_signs" ["_law_text", "_law_spots_here"] (spSig K)) : FnG P w K mg base 8 f fd ["_law_row_here", "_law_text", "_law_bit_here"] spSma := by
  refine funG F scSma (fun vs H Q E h => ?_) (fun cdv A outer s H vs Q E hgd hr h => ?_)
  · obtain ⟨v, z, rfl, _⟩ := h
    rfl
  · obtain ⟨v, z, rfl, hv, hvl, hvL, hz, k⟩ := h
    have hr1 : Room 1 _ := hr.mono (by decide)
    have hu := hu_of hr
    refine ⟨_, pss_cons (ps_set (i := 3) scSma.nd rfl (.inl rfl) (pe_has hSp hr1 (pa_cons (pv 1) (pa_cons (pv 2) pa_nil))))
      (pss_cons (ps_par (i := 4) (j := 5) rfl scSma.nd rfl rfl (by decide) rfl rfl
        (pa_cons (pe_has hSi hr1 (pa_cons (pv 1) (pa_cons (pe_lc (own := [("_law_at", 7)]) (g := gName 7) (tt := tYes) rfl scSma.nd (pi_list (pv 3))
            (blkOk_by (own := [("_law_at", 7)]) (N := ["_law_row_here", "_law_text", "_law_bit_here", "_law_spots_here", "_law_after", "_law_ahead", "_law_told", "_law_at"]) (sc := defScope sSma) (by decide +kernel)) (fun _ _ _ _ _ => pg_name (i := 7) scSma.nd rfl (Or.inl rfl)) (fun _ _ _ _ _ => pts_nil)
            (fun _ _ _ _ _ => pe_op op_add (pv 7) (pe_callB call_len_str (by rfl) G.len PySem.boot_len (pa_cons (pv 2) pa_nil)))) pa_nil)))
        (pa_cons (pe_has hSi hr1 (pa_cons (pv 1) (pa_cons (pe_lc (own := [("_law_at", 7)]) (g := gName 7) (tt := tYes) rfl scSma.nd (pi_list (pv 3))
            (blkOk_by (own := [("_law_at", 7)]) (N := ["_law_row_here", "_law_text", "_law_bit_here", "_law_spots_here", "_law_after", "_law_ahead", "_law_told", "_law_at"]) (sc := defScope sSma) (by decide +kernel)) (fun _ _ _ _ _ => pg_name (i := 7) scSma.nd rfl (Or.inl rfl)) (fun _ _ _ _ _ => pts_nil)
            (fun _ _ _ _ _ => pe_op op_sub (pv 7) pe_int)) pa_nil))) pa_nil)) (by rfl))
      (pss_cons (ps_set (i := 6) scSma.nd rfl (.inl rfl) (pe_lstB (pa_cons (pe_has hF.has hr (pa_cons (pv 0) (pa_cons (pv 2) pa_nil))) (pa_cons (pe_has hL.has hr (pa_cons (pv 0) (pa_cons (pv 2) pa_nil))) pa_nil))))
      (pss_cons (ps_if (pt_cmpR op_ne (pe_callB (cr_repr2 hgd hr.units) (by rfl) G.repr PyProof.Rows.boot_repr (pa_cons (pv 6) pa_nil)) (pe_callB (cr_repr2 hgd hr.units) (by rfl) G.repr PyProof.Rows.boot_repr (pa_cons (pe_lstB (pa_cons (pv 4) (pa_cons (pv 5) pa_nil))) pa_nil)) (nomark _)) (pss_one (ps_ret pe_bl)) pss_nil)
      (pss_cons (ps_expr (pe_dclear (pe_ix ix_list (pv 6) pe_int (fun _ _ => rfl))))
      (pss_cons (ps_dput hu (pe_ix ix_list (pv 6) pe_int (fun _ _ => rfl)) pe_str pe_int rfl)
      (pss_one (ps_ret (pe_and (pe_cmpR (op_eq_dictA (Nat.lt_of_succ_lt hu)) (pe_hasF hF hr (pk_cons (pv 2) (pk_cons (pv 0) pk_nil))) (pv 4) (nomark _))
        (pe_one (pe_cmpR (op_eq_dictA (Nat.lt_of_succ_lt hu)) (pe_hasF hL hr (pk_cons (pv 2) (pk_cons (pv 0) pk_nil))) (pv 5) (nomark _))))))))))), ?_⟩
    obtain ⟨Kk, a, hh⟩ := exHome hz
    have hzL := low_infix hv hz
    have hLM : (M v).length ≤ 150 := hvL
    have hzl : z.length ≤ 150 := Nat.le_trans hz.length_le hLM
    have hMl : Ltr (M v) := fun a ha => hv.ltr a (mem_M.mp ha)
    have hpf := pos_few z (M v)
    have hT : (T z).length ≤ sizeLine := len_text (by omega)
    have hB1 := aft_tal hv hh
    have hB2 := ahd_tal hv hh
    have hdl : L (v.drop Kk) ≤ 1000 := by
      have e := hh.cnt_eq
      unfold cnt at e
      rw [fol_pos, List.length_map] at e
      omega
    have sh1 : Sh (besideN (v.drop Kk) (rFol v z Kk a)) := bes_sh hdl fun c hc => by
      have := low_M (hv.take Kk) (show (M (v.take Kk))[a + z.length]? = some c from hc)
      omega
    have sh2 : Sh (besideN (v.drop Kk) (rLed v z Kk a)) := bes_sh hdl fun c hc => by
      have hc' : (if a = 0 then none else (M (v.take Kk))[a - 1]?) = some c := hc
      by_cases ha : a = 0
      · rw [if_pos ha] at hc'; cases hc'
      · rw [if_neg ha] at hc'
        have := low_M (hv.take Kk) hc'
        omega
    have ris1 := bes_rising (hv.drop Kk) (rFol v z Kk a)
    have ris2 := bes_rising (hv.drop Kk) (rLed v z Kk a)
    refine ⟨_, rfl, _, rfl, M v, z, rfl, hz.length_le, by omega, fun p1 H1 s1 hp0 hp1 => ?_⟩
    -- the letters behind
    refine ⟨_, rfl, _, rfl, p1, rfl, ⟨_, SqL.of hp1⟩, fun D hD => ?_⟩
    refine lc_it (walk_list (K := K) (a := p1) (xs := natsV (pos z (M v)))) (fun i H3 => Same H1 H3 ∧ H3 D = some (.lst ((((pos z (M v)).take i).map fun i => ((i : Nat) : Int) + (z.length : Nat)).map V.int))) ⟨same_new hD, by rw [List.take_zero]; exact upd_same⟩ (fun i H3 _ q => SqL.of (q.1 _ _ hp1)) ?_ ?_
    · rintro i x H3 H4 hi ⟨s3, hDl⟩ ⟨rfl, hx⟩
      rw [List.length_map] at hi
      have hki : (pos z (M v))[i]? = some (pos z (M v))[i] := List.getElem?_eq_getElem hi
      generalize (pos z (M v))[i] = kk at hki
      rw [List.getElem?_map, hki] at hx
      have hx' : V.int (kk : Nat) = x := Option.some.inj hx
      subst hx'
      refine ⟨rfl, ?_⟩
      dsimp only [tYes]
      rw [if_pos rfl]
      refine ⟨_, rfl, _, rfl, T z, rfl, hT, _, _, rfl, rfl, _, hDl, ?_, fun b o e => ?_, ?_⟩
      · rw [List.length_map, List.length_map, List.length_take]; exact small1000 (by omega)
      · rw [upd_ne (ne_of_none e hD)]; exact s3 _ _ e
      · rw [upd_same, List.take_add_one, hki, List.map_append, List.map_append, T_len]; rfl
    rintro H3 ⟨s3, hDl⟩
    rw [List.length_map, List.take_length] at hDl
    have hka : (kAft z (M v)).length ≤ 900 := by unfold kAft; rw [List.length_map]; omega
    refine ⟨M v, D, kAft z (M v), rfl, SqL.of hDl, hMl, by omega, hka, fun q1 H4 s4 hq10 hq1 => ?_⟩
    rw [hB1] at hq1
    -- the letters ahead
    have s14 := s3.trans s4
    have hp4 := s14 _ _ hp1
    refine ⟨_, rfl, _, rfl, p1, rfl, ⟨_, SqL.of hp4⟩, fun D' hD' => ?_⟩
    refine lc_it (walk_list (K := K) (a := p1) (xs := natsV (pos z (M v)))) (fun i H5 => Same H4 H5 ∧ H5 D' = some (.lst ((((pos z (M v)).take i).map fun i => ((i : Nat) : Int) - 1).map V.int))) ⟨same_new hD', by rw [List.take_zero]; exact upd_same⟩ (fun i H5 _ q => SqL.of (q.1 _ _ hp4)) ?_ ?_
    · rintro i x H5 H6 hi ⟨s5, hDl⟩ ⟨rfl, hx⟩
      rw [List.length_map] at hi
      have hki : (pos z (M v))[i]? = some (pos z (M v))[i] := List.getElem?_eq_getElem hi
      generalize (pos z (M v))[i] = kk at hki
      rw [List.getElem?_map, hki] at hx
      have hx' : V.int (kk : Nat) = x := Option.some.inj hx
      subst hx'
      refine ⟨rfl, ?_⟩
      dsimp only [tYes]
      rw [if_pos rfl]
      refine ⟨_, rfl, _, _, rfl, rfl, _, hDl, ?_, fun b o e => ?_, ?_⟩
      · rw [List.length_map, List.length_map, List.length_take]; exact small1000 (by omega)
      · rw [upd_ne (ne_of_none e hD')]; exact s5 _ _ e
      · rw [upd_same, List.take_add_one, hki, List.map_append, List.map_append]; rfl
    rintro H5 ⟨s5, hDl'⟩
    rw [List.length_map, List.take_length] at hDl'
    have hkb : (kAhd z (M v)).length ≤ 900 := by unfold kAhd; rw [List.length_map]; omega
    refine ⟨M v, D', kAhd z (M v), rfl, SqL.of hDl', hMl, by omega, hkb, fun q2 H6 s6 hq20 hq2 => ⟨_, _, rfl, ?_⟩⟩
    rw [hB2] at hq2
    have s46 := s5.trans s6
    have s06 : Same H H6 := s1.trans (s14.trans s46)
    have hq16 := s46 _ _ hq1
    -- what is told
    refine ⟨_, rfl, _, rfl, v, z, Kk, a, rfl, hv, hvl, hzL, by omega, hh, fun D1 H7 s7 hD10 hD1 => ?_⟩
    refine ⟨_, rfl, _, rfl, v, z, Kk, a, rfl, hv, hvl, hzL, by omega, hh, fun D2 H8 s8 hD20 hD2 => ?_⟩
    refine ⟨by show 2 ≤ sizeLine; decide, fun l hls hl => ?_⟩
    have sl := same_new (o := HO.lst [.ref D1, .ref D2]) hl
    have g1 := sl _ _ (s8 _ _ hD1)
    have g2 := sl _ _ hD2
    have gl := upd_same (H := H8) (a := l) (o := HO.lst [.ref D1, .ref D2])
    have s68 := (s7.trans s8).trans sl
    generalize upd H8 l (HO.lst [.ref D1, .ref D2]) = H9 at sl g1 g2 gl s68 ⊢
    refine ⟨_, rfl, l, D1, D2, _, _, rfl, hls, gl, g1, g2, sh1, sh2, ?_⟩
    refine ⟨_, rfl, _, rfl, by show 2 ≤ sizeLine; decide, fun l2 hls2 hl2 => ?_⟩
    have sl2 := same_new (o := HO.lst [.ref q1, .ref q2]) hl2
    refine ⟨l2, q1, q2, _, _, rfl, hls2, upd_same, sl2 _ _ (s68 _ _ hq16), sl2 _ _ (s68 _ _ hq2), sh1, sh2, rfl, _, rfl, ?_⟩
    refine iteNS rfl ?_
    have k1 := sl2 _ _ g1
    have k2 := sl2 _ _ g2
    have kl := sl2 _ _ gl
    have t1 := sl2 _ _ (s68 _ _ hq16)
    have t2 := sl2 _ _ (s68 _ _ hq2)
    have sA := s68.trans sl2
    generalize upd H9 l2 (HO.lst [.ref q1, .ref q2]) = HA at sl2 k1 k2 kl t1 t2 sA ⊢
    -- what was told may be changed
    have n1q : D1 ≠ q1 := (ne_of_none hq16 hD10).symm
    have n1p : D1 ≠ q2 := (ne_of_none hq2 hD10).symm
    have n12 : D1 ≠ D2 := ne_of_none hD1 hD20
    have n2q : D2 ≠ q1 := (ne_of_none (s7 _ _ hq16) hD20).symm
    have n2p : D2 ≠ q2 := (ne_of_none (s7 _ _ hq2) hD20).symm
    have nl1 : l ≠ D1 := (ne_of_none (s8 _ _ hD1) hl).symm
    refine ⟨_, rfl, l, _, 0, _, rfl, rfl, SqL.of kl, atI_nat (j := 0) rfl, .inr (.inr (.inl ⟨rfl, .inl ⟨_, k1⟩⟩)), D1, _, rfl, rfl, k1, ?_⟩
    refine ⟨_, rfl, l, _, 1, _, rfl, rfl, SqL.of (by rw [upd_ne nl1]; exact kl), atI_nat (j := 1) rfl, D2, _, rfl, DPut.k (k := Sum.inr (Str.ofString "more")) (by rw [upd_ne n12.symm]; exact k2) (by rw [talK_len]; have := sh2.few; exact small1000 (by omega)), ?_⟩
    generalize hHC : upd (upd HA D1 (.dK [])) D2 (.dK (putK (talK (besideN (v.drop Kk) (rLed v z Kk a))) (Sum.inr (Str.ofString "more")) (.int 5))) = HC
    have c1 : HC q1 = some (.dK (talK (besideN (v.drop Kk) (rFol v z Kk a)))) := by rw [← hHC, upd_ne n2q.symm, upd_ne n1q.symm]; exact t1
    have c2 : HC q2 = some (.dK (talK (besideN (v.drop Kk) (rLed v z Kk a)))) := by rw [← hHC, upd_ne n2p.symm, upd_ne n1p.symm]; exact t2
    have sC : Same H HC := fun b o e => by
      have e6 := s06 _ _ e
      rw [← hHC, upd_ne (ne_of_none (s7 _ _ e6) hD20), upd_ne (ne_of_none e6 hD10)]
      exact sA _ _ e6
    refine ⟨_, rfl, _, rfl, v, z, Kk, a, rfl, hv, hvl, hzL, by omega, hh, fun D3 HD sD hD30 hD3 => ?_⟩
    refine ⟨_, rfl, D3, q1, _, _, rfl, rfl, hD3, sD _ _ c1, rfl, fun q hq => ⟨valV_mem (talK_nd ris1) q hq, talK_flat q hq⟩, _, rfl, iteT ?_⟩
    refine ⟨_, rfl, _, rfl, v, z, Kk, a, rfl, hv, hvl, hzL, by omega, hh, fun D4 HE sE hD40 hD4 => ?_⟩
    refine ⟨_, rfl, D4, q2, _, _, rfl, rfl, hD4, sE _ _ (sD _ _ c2), rfl, fun q hq => ⟨valV_mem (talK_nd ris2) q hq, talK_flat q hq⟩, ?_⟩
    exact k _ (sC.trans (sD.trans sE))
end
end Mw

namespace Mw
open PySem L2 Mp TL
section
variable {P : Program} {w : World} {K : PySem.W.Frag} {mg : Str → Option Value} {base : Heap}
/-! ### law: level 9 -/
abbrev sLaw : Stmt := top 54
def spLaw (K : PySem.W.Frag) : Sp := fun vs H Q _ => ∃ (s : Addr) (ns : List Int), vs = [.ref s] ∧ SqL K H s (ns.map V.int) ∧ ∀ H', Q (.bl true) H'
theorem scLaw : FnScope ["_law_script", "_law_k", "_law_draw", "_law_some", "_law_row_here", "_law_mirrors_so", "_law_turn", "_law_lens_here"] ["_law_script"] (defScope sLaw) := ⟨rfl, rfl, rfl, by decide +kernel, rfl, by decide +kernel, by decide +kernel⟩
theorem ok_law {f : Addr} {fd : FuncData} (F : Fun K "law" "law" sLaw f fd) (G : Txt K mg) (hBeg : Has P w K mg base 1 "_law_begun" ["_law_script", "_law_k"] (spBeg K)) (hTak : Has P w K mg base 1 "_law_take" ["_law_draw", "_law_edge"] spTak)
    (hOf : Has P w K mg base 2 "_law_of" ["_law_draw", "_law_some"] (spOf K)) (hLet : Has P w K mg base 3 "_law_letters" ["_law_draw", "_law_wide"] spLet) (hRow : Has P w K mg base 3 "_law_row" ["_law_draw", "_law_some", "_law_wide"] (spRow K))
    (hSho : Has P w K mg base 4 "_law_short" ["_law_draw", "_law_some", "_law_most"] (spSho K)) (hBit : Has P w K mg base 3 "_law_bit" ["_law_draw", "_law_text"] spBit) (hLns : Has P w K mg base 1 "_law_lens" ["_law_row_here"] spLen)
    (hSee : Has P w K mg base 4 "_law_seen" ["_law_draw", "_law_row_here", "_law_lens_here", "_law_most"] (spSee K)) (hSma : HasG P w K mg base 8 "_law_small_right" ["_law_row_here", "_law_text", "_law_bit_here"] spSma)
    (hGre : Has P w K mg base 8 "_law_great_right" ["_law_row_here", "_law_lens_here", "_law_bit_here"] (spGre K)) (hBot : Has P w K mg base 6 "_law_both_right" ["_law_draw", "_law_row_here", "_law_lens_here"] (spBot K)) :
    FnG P w K mg base 9 f fd ["_law_script"] (spLaw K) := by
  refine funG F scLaw (fun vs H Q E h => ?_) (fun cdv A outer s0 H vs Q E hgd hr h => ?_)
  · obtain ⟨s, ns, rfl, _⟩ := h
    rfl
  · obtain ⟨s, ns, rfl, hs, k⟩ := h
    have hr1 : Room 1 _ := hr.mono (by decide)
    have hr2 : Room 2 _ := hr.mono (by decide)
    have hr3 : Room 3 _ := hr.mono (by decide)
    have hr4 : Room 4 _ := hr.mono (by decide)
    have hr6 : Room 6 _ := hr.mono (by decide)
    refine ⟨_, pss_cons (ps_for PassesOwn.never rfl (pi_range1 (by rfl) G.range (pa_cons (pe_op op_add pe_int (pe_callB (call_min2 rfl) (by rfl) G.min PyProof.Rows.boot_min (pa_cons pe_int (pa_cons (pe_callB call_len (by rfl) G.len PySem.boot_len (pa_cons (pv 0) pa_nil)) pa_nil)))) pa_nil))
        (pg_name (i := 1) scLaw.nd rfl (.inl rfl))
        (pss_cons (ps_set (i := 2) scLaw.nd rfl (.inl rfl) (pe_has hBeg hr1 (pa_cons (pv 0) (pa_cons (pv 1) pa_nil))))
        (pss_cons (ps_set (i := 3) scLaw.nd rfl (.inl rfl) (pe_has hLet hr3 (pa_cons (pv 2) (pa_cons (pe_op op_add pe_int (pe_has hTak hr1 (pa_cons (pv 2) (pa_cons pe_int pa_nil)))) pa_nil))))
        (pss_cons (ps_asg (pe_has hSho hr4 (pa_cons (pv 2) (pa_cons (pv 3) (pa_cons pe_int pa_nil)))) (pg_tup rfl (pgs_cons (pg_name (i := 4) scLaw.nd rfl (.inl rfl)) (pgs_cons (pg_name (i := 5) scLaw.nd rfl (.inl rfl)) pgs_nil))))
        (pss_cons (ps_for PassesOwn.never rfl (pi_range1 (by rfl) G.range (pa_cons pe_int pa_nil)) (pg_name (i := 6) scLaw.nd rfl (.inl rfl))
          (pss_one (ps_if (pt_not (pt_val (pe_hasG hSma hgd hr (pa_cons (pv 4) (pa_cons (pe_ix ix_list (pv 5) (pe_un un_neg pe_int) (fun _ _ => rfl)) (pa_cons (pe_has hBit hr3 (pa_cons (pv 2) (pa_cons (pe_ix ix_list (pv 5) (pe_un un_neg pe_int) (fun _ _ => rfl)) pa_nil))) pa_nil)))))) (pss_one (ps_ret pe_bl)) pss_nil)))
        (pss_cons (ps_set (i := 4) scLaw.nd rfl (.inl rfl) (pe_has hRow hr3 (pa_cons (pv 2) (pa_cons (pv 3) (pa_cons (pe_op op_add pe_int (pe_has hOf hr2 (pa_cons (pv 2) (pa_cons (pe_lst (pa_cons (pe_has hTak hr1 (pa_cons (pv 2) (pa_cons pe_int pa_nil))) (pa_cons pe_int (pa_cons pe_int pa_nil)))) pa_nil)))) pa_nil)))))
        (pss_cons (ps_set (i := 7) scLaw.nd rfl (.inl rfl) (pe_has hLns hr1 (pa_cons (pv 4) pa_nil)))
        (pss_cons (ps_for PassesOwn.never rfl (pi_range1 (by rfl) G.range (pa_cons pe_int pa_nil)) (pg_name (i := 6) scLaw.nd rfl (.inl rfl))
          (pss_one (ps_if (pt_not (pt_val (pe_has hGre hr (pa_cons (pv 4) (pa_cons (pv 7) (pa_cons (pe_has hSee hr4 (pa_cons (pv 2) (pa_cons (pv 4) (pa_cons (pv 7) (pa_cons pe_int pa_nil))))) pa_nil)))))) (pss_one (ps_ret pe_bl)) pss_nil)))
        (pss_one (ps_if (pt_not (pt_val (pe_has hBot hr6 (pa_cons (pv 2) (pa_cons (pv 4) (pa_cons (pv 7) pa_nil)))))) (pss_one (ps_ret pe_bl)) pss_nil))))))))))
      (pss_one (ps_ret pe_bl)), ?_⟩
    refine ⟨_, rfl, .ref s, (ns.map V.int).length, rfl, .inl ⟨_, hs, rfl⟩, _, _, rfl, 1, _, rfl, rfl, ?_⟩
    obtain ⟨m, hm, hm4⟩ : ∃ m : Nat, (1 : Int) + (if (((ns.map V.int).length : Nat) : Int) < 3 then (((ns.map V.int).length : Nat) : Int) else 3) = (m : Int) ∧ m ≤ 4 := by
      split
      · exact ⟨1 + (ns.map V.int).length, by omega, by omega⟩
      · exact ⟨4, rfl, Nat.le_refl _⟩
    refine ⟨(m : Int), by rw [← hm], by omega, by omega, ?_⟩
    rw [Int.toNat_natCast]
    refine for_it walk_range (fun i σ H1 => ∃ x1 x2 x3 x4 x5 x6 x7, σ = [some (.ref s), x1, x2, x3, x4, x5, x6, x7] ∧ Same H H1)
      ⟨none, none, none, none, none, none, none, rfl, Same.refl H⟩ (fun _ _ _ _ _ => True.intro) ?_ ?_
    · rintro i x σ H0 H0' hi ⟨x1, x2, x3, x4, x5, x6, x7, rfl, sH⟩ ⟨rfl, hx⟩
      have hx' : x = V.int (i : Nat) := hx.trans (congrArg V.int (Int.zero_add _))
      subst hx'
      refine ⟨_, rfl, _, rfl, s, ns, i, rfl, sH.seq hs, by omega, fun d H1 s1 hd0 D1 => ?_⟩
      refine ⟨_, rfl, _, rfl, d, 180, 4, rfl, by decide, by decide, D1, by decide, fun r H2 hr4' D2 s2 => ?_⟩
      refine ⟨1, (r : Nat), rfl, rfl, d, 181, 1 + r, rfl, by omega, D2, by decide, fun p cs H3 hcl hcs hp hp0 D3 s3 => ?_⟩
      have hne : cs ≠ [] := fun z => by rw [z] at hcl; simp at hcl; omega
      refine ⟨_, rfl, _, rfl, d, p, 183, cs, rfl, SqL.of hp, hne, by omega, hcs, D3, by decide, fun t fl v xs H4 hv hvl hvL ht hf D4 s4 => ?_⟩
      have hLM : (M v).length ≤ 150 := hvL
      have hp4 : SqL K H4 p (lettersV cs) := s4.seq D3 (SqL.of hp)
      refine ⟨t, _, rfl, SqT.of ht, rfl, _, _, rfl, _, _, rfl, rfl, ?_⟩
      refine ⟨4, rfl, by decide, by decide, for_it walk_range (fun i2 σ H5 => ∃ y6, σ = [some (.ref s), some (.int (i : Nat)), some (.ref d), some (.ref p), some (.str (T v)), some (.ref fl), y6, x7] ∧ Draw H5 d (208 + 5 * i2) ∧ SameB d H4 H5)
        ⟨x6, rfl, D4, SameB.refl d H4⟩ (fun _ _ _ _ _ => True.intro) ?_ ?_⟩
      · rintro i2 y σ H5 H5' hi2 ⟨y6, rfl, D5, s5⟩ ⟨rfl, hy⟩
        have hi2' : i2 < 4 := hi2
        have hf5 := s5.seq D4 (K := K) (SqL.of hf)
        refine ⟨_, rfl, _, rfl, 1, rfl, fl, _, _, _, rfl, rfl, hf5, atI_last _ _, ?_⟩
        refine ⟨_, rfl, _, rfl, 1, rfl, fl, _, _, _, rfl, rfl, hf5, atI_last _ _, d, _, M v, rfl, by omega, D5, by omega, fun z H6 hz D6 s6 => ?_⟩
        refine ⟨v, z, rfl, hv, by omega, hvL, hz, fun H7 s7 => ⟨_, rfl, ?_⟩⟩
        refine iteF ?_
        exact ⟨_, rfl, (D6.same s7).mono (by omega), s5.trans (s6.trans (s7.b d))⟩
      · rintro σ H5 ⟨y6, rfl, D5, s5⟩
        have D5' : Draw H5 d 228 := D5
        have hp5 := s5.seq D4 hp4
        refine ⟨_, rfl, _, rfl, _, rfl, _, rfl, d, 228, 30, rfl, by decide, by decide, D5', by decide, fun r2 H6 hr30 D6 s6 => ?_⟩
        refine ⟨by show 3 ≤ sizeLine; decide, fun q hq => ?_⟩
        have sq := same_new (o := HO.lst [V.int (r2 : Nat), V.int 60, V.int 140]) hq
        refine ⟨d, 229, .ref q, fun x => ∃ j : Nat, x = .int (j : Nat) ∧ j ≤ 140, rfl, D6.same sq, by decide, .inl ⟨q, _, rfl, SqL.of upd_same, by simp, by show 3 ≤ 1000; decide, fun x hx => ?_⟩, fun x H7 hx D7 s7 => ?_⟩
        · simp only [List.mem_cons, List.not_mem_nil, or_false] at hx
          rcases hx with rfl | rfl | rfl
          · exact ⟨r2, rfl, by omega⟩
          · exact ⟨60, rfl, by decide⟩
          · exact ⟨140, rfl, by decide⟩
        · obtain ⟨j, rfl, hj⟩ := hx
          have s57 : SameB d H5 H7 := s6.trans ((sq.b d).trans s7)
          have hp7 := s57.seq D5' hp5
          refine ⟨10, (j : Nat), rfl, rfl, d, p, 230, 10 + j, cs, rfl, by omega, hp7, hne, by omega, hcs, D7, by omega, fun l H8 hll hlow hmem D8 s8 => ?_⟩
          have D8' : Draw H8 d 530 := D8.mono (by omega)
          refine ⟨_, rfl, l, rfl, by omega, fun pl H9 s9 hpl0 hpl => ?_⟩
          have D9 : Draw H9 d 530 := D8'.same s9
          refine ⟨2, rfl, by decide, by decide, for_it walk_range (fun i3 σ H10 => ∃ y6, σ = [some (.ref s), some (.int (i : Nat)), some (.ref d), some (.ref p), some (.str (T l)), some (.ref fl), y6, some (.ref pl)] ∧ Draw H10 d (530 + 10 * i3) ∧ SameB d H9 H10)
            ⟨y6, rfl, D9, SameB.refl d H9⟩ (fun _ _ _ _ _ => True.intro) ?_ ?_⟩
          · rintro i3 y σ H10 H10' hi3 ⟨z6, rfl, D10, s10⟩ ⟨rfl, hy⟩
            have hi3' : i3 < 2 := hi3
            have hpl10 := s10.seq D9 (K := K) (SqL.of hpl)
            refine ⟨_, rfl, _, rfl, _, rfl, _, rfl, _, rfl, d, pl, _, l, rfl, hlow, by omega, hpl10, D10, by omega, fun z H11 hz hzl D11 s11 => ?_⟩
            refine ⟨pl, l, z, cs, rfl, hlow, by omega, by omega, hmem, hz, by omega, s11.seq D10 hpl10, fun H12 s12 => ⟨_, rfl, ?_⟩⟩
            refine iteF ?_
            exact ⟨_, rfl, (D11.same s12).mono (by omega), s10.trans (s11.trans (s12.b d))⟩
          · rintro σ H10 ⟨z6, rfl, D10, s10⟩
            have D10' : Draw H10 d 550 := D10
            have hpl10 := s10.seq D9 (K := K) (SqL.of hpl)
            refine ⟨_, rfl, _, rfl, _, rfl, d, pl, 550, l, rfl, hlow, by omega, fun z => by rw [z] at hll; simp at hll; omega, hpl10, D10', by decide, fun H11 D11 s11 => ⟨_, rfl, ?_⟩⟩
            refine iteF ?_
            refine ⟨_, _, _, _, _, _, _, rfl, fun b o e => ?_⟩
            have e0 := sH _ _ e
            have hbd : b ≠ d := ne_of_none e0 hd0
            have sAll : SameB d H1 H11 := s2.trans (s3.trans (s4.trans (s5.trans (s57.trans (s8.trans ((s9.b d).trans (s10.trans s11)))))))
            exact sAll b o hbd (s1 _ _ e0)
    · rintro σ H1 ⟨x1, x2, x3, x4, x5, x6, x7, rfl, sH⟩
      exact k H1
end
end Mw

namespace Mw
open PySem L2 Mp TL
structure TopF (K : PySem.W.Frag) (x : Str) (st : Stmt) : Prop where
  ex : ∃ f fd, PySem.W.nsIn K mainGlobals x = some (some (.ref f)) ∧ Fun K x x st f fd
theorem topF_mk {K : PySem.W.Frag} {x : Str} {st : Stmt} {f : Addr} {oc : Value} {od an : Option Addr} {osl : Array (Option Value)} {kV doc pm cdv ct : Value} (a : PySem.W.nsIn K mainGlobals x = some (some (.ref f)))
    (l : K.lookup f = some ⟨oc, od, .func (PySem.W.fnOf x x (defArgs st) (defBody st) (defScope st) .none kV doc pm an cdv ct), osl⟩) (c : PySem.W.codeIn K cdv x = true) (k : PySem.W.keepIn K (.ref f) = true) : TopF K x st := ⟨f, _, a, fun_mk l c k⟩
structure MethF (K : PySem.W.Frag) (C : Addr) (m qual : Str) (st : Stmt) : Prop where
  ex : ∃ f fd, Meth K C m f ∧ Fun K m qual st f fd
theorem methF_mk {K : PySem.W.Frag} {C : Addr} {m qual : Str} {st : Stmt} {f : Addr} {oc : Value} {od an : Option Addr} {osl : Array (Option Value)} {kV doc pm cdv ct : Value} (a : PySem.W.findIn K (.ref C) m = some (some (.ref f))) (i : PySem.W.isFn K (.ref f) = true)
    (l : K.lookup f = some ⟨oc, od, .func (PySem.W.fnOf m qual (defArgs st) (defBody st) (defScope st) .none kV doc pm an cdv ct), osl⟩) (c : PySem.W.codeIn K cdv qual = true) (k : PySem.W.keepIn K (.ref f) = true) : MethF K C m qual st := ⟨f, _, ⟨a, i, k⟩, fun_mk l c k⟩
abbrev isWkw : List (Str × V) := [("least", .int 0), ("most", .non)]
structure TopW (K : PySem.W.Frag) : Prop where
  ex : ∃ f fd, PySem.W.nsIn K mainGlobals "is_whole" = some (some (.ref f)) ∧ FunD K "is_whole" "is_whole" (defArgs sIsW) (defBody sIsW) (defScope sIsW) [] isWkw f fd
theorem topW_mk {K : PySem.W.Frag} {f D : Addr} {oc : Value} {od an : Option Addr} {osl : Array (Option Value)} {doc pm cdv ct : Value} {t : Tok} (a : PySem.W.nsIn K mainGlobals "is_whole" = some (some (.ref f)))
    (l : K.lookup f = some ⟨oc, od, .func (PySem.W.fnOf "is_whole" "is_whole" (defArgs sIsW) (defBody sIsW) (defScope sIsW) .none (.ref D) doc pm an cdv ct), osl⟩) (c : PySem.W.codeIn K cdv "is_whole" = true) (k : PySem.W.keepIn K (.ref f) = true)
    (d1 : PySem.W.nsIn K D "least" = some (some (.int 0 t))) (d2 : PySem.W.nsIn K D "most" = some (some .none)) : TopW K :=
  ⟨f, _, a, ⟨⟨oc, od, _, _, doc, pm, an, cdv, ct, osl, rfl, l, c, .inl ⟨rfl, rfl⟩, .inr ⟨D, rfl, fun q hq => by
    rcases List.mem_cons.mp hq with e | hq
    · subst e; exact ⟨_, d1, ⟨t, rfl⟩⟩
    · rw [List.mem_singleton.mp hq]; exact ⟨_, d2, rfl⟩⟩⟩, k⟩⟩
theorem TopW.has {P : Program} {w : World} {K : PySem.W.Frag} {h : Heap} {mg : Str → Option Value} {base : Heap} (T : TopW K) (X : K.In h) (G : h.Ns mainGlobals mg) (TX : Txt K mg) : HasIsW P w K mg base := by
  obtain ⟨f, fd, a, F⟩ := T.ex
  obtain ⟨mv, hb⟩ := F.kbinds0 (ps := ["thing", "least", "most"]) 1 ["most"] [("least", V.int 0)] (fun us mv ws => us ++ mv ++ ws) (fun z => by cases z) (fun q hq => by rw [List.mem_singleton.mp hq]; exact List.mem_cons_self)
    (fun r1 r2 r3 => (r1.append r2).append r3) fun D doc pm an cdv ct us mv ws h1 h2 h3 => by
      match us, mv, ws, h1, h2, h3 with
      | [u], [m], [z], _, _, _ => exact ⟨_, _, _, _, _, _, rfl, rfl, rfl⟩
  exact ⟨f, fd, _, PySem.W.mg_of X G a, F.kp, hb, ok_isW F TX⟩
end Mw

namespace Mw
open PySem L2 Mp TL
section
variable {P : Program} {w : World} {K : PySem.W.Frag} {h : Heap} {mg : Str → Option Value} {base : Heap}
theorem TopF.has {x : Str} {st : Stmt} {ps : List Str} {k : Nat} {sp : Sp} (T : TopF K x st) (X : K.In h) (G : h.Ns mainGlobals mg)
    (hb : ∀ (kV doc pm : Value) (an : Option Addr) (cdv ct : Value) (us : List Value), us.length = ps.length → bindArgs (PySem.W.fnOf x x (defArgs st) (defBody st) (defScope st) .none kV doc pm an cdv ct) ⟨us, []⟩ = pure (ps.zip us))
    (ok : ∀ {f : Addr} {fd : FuncData}, L2.Fun K x x st f fd → FnOk P w K mg base CX0 k f fd ps sp) : Has P w K mg base k x ps sp := by
  obtain ⟨f, fd, a, F⟩ := T.ex
  exact ⟨f, fd, PySem.W.mg_of X G a, F.kp, F.binds hb, ok F⟩
theorem TopF.hasG {x : Str} {st : Stmt} {ps : List Str} {k : Nat} {sp : Sp} (T : TopF K x st) (X : K.In h) (G : h.Ns mainGlobals mg)
    (hb : ∀ (kV doc pm : Value) (an : Option Addr) (cdv ct : Value) (us : List Value), us.length = ps.length → bindArgs (PySem.W.fnOf x x (defArgs st) (defBody st) (defScope st) .none kV doc pm an cdv ct) ⟨us, []⟩ = pure (ps.zip us))
    (ok : ∀ {f : Addr} {fd : FuncData}, L2.Fun K x x st f fd → FnG P w K mg base k f fd ps sp) : HasG P w K mg base k x ps sp := by
  obtain ⟨f, fd, a, F⟩ := T.ex
  exact ⟨f, fd, PySem.W.mg_of X G a, F.kp, F.binds hb, ok F⟩
theorem turned2_len {α : Type} (us ws : List α) : (turned2 us ws).length = us.length + ws.length := by
  match ws with
  | [] => exact List.length_append
  | [_] => exact List.length_append
  | [_, _] => exact List.length_append
  | _ :: _ :: _ :: _ => exact List.length_append
theorem turned2_rel {vs zs : List V} {us ws : List Value} (r : Vals vs us) (rz : Vals zs ws) : Vals (turned2 vs zs) (turned2 us ws) := by
  refine r.append ?_
  match rz with
  | .nil => exact .nil
  | .cons a .nil => exact .cons a .nil
  | .cons a (.cons b .nil) => exact .cons b (.cons a .nil)
  | .cons a (.cons b (.cons c d)) => exact .cons a (.cons b (.cons c d))
theorem TopF.hasF {x : Str} {st : Stmt} {k : Nat} {sp : Sp} (T : TopF K x st) (X : K.In h) (G : h.Ns mainGlobals mg)
    (hb : ∀ (kV doc pm : Value) (an : Option Addr) (cdv ct : Value) (us : List Value), us.length = (["presses", "piece"] : List Str).length → bindArgs (PySem.W.fnOf x x (defArgs st) (defBody st) (defScope st) .none kV doc pm an cdv ct) ⟨us, []⟩ = pure ((["presses", "piece"] : List Str).zip us))
    (hk : ∀ (kV doc pm : Value) (an : Option Addr) (cdv ct : Value) (u v : Value), bindArgs (PySem.W.fnOf x x (defArgs st) (defBody st) (defScope st) .none kV doc pm an cdv ct) ⟨[], [(("piece" : Str), u), (("presses" : Str), v)]⟩ = pure [(("presses" : Str), v), (("piece" : Str), u)])
    (hk1 : ∀ (kV doc pm : Value) (an : Option Addr) (cdv ct : Value) (u v : Value), bindArgs (PySem.W.fnOf x x (defArgs st) (defBody st) (defScope st) .none kV doc pm an cdv ct) ⟨[u], [(("piece" : Str), v)]⟩ = pure [(("presses" : Str), u), (("piece" : Str), v)])
    (ok : ∀ {f : Addr} {fd : FuncData}, L2.Fun K x x st f fd → FnOk P w K mg base CX0 k f fd ["presses", "piece"] sp) : HasF P w K mg base k x sp := by
  obtain ⟨f, fd, a, F⟩ := T.ex
  have hbd := F.binds hb
  refine ⟨f, fd, PySem.W.mg_of X G a, F.kp, hbd, ⟨fun s us ws hK hl => ?_, turned2_rel⟩, ok F⟩
  have hl2 : us.length + ws.length = 2 := (turned2_len us ws).symm.trans hl
  match us, ws, hl2 with
  | [u, v], [], _ => exact hbd s [u, v] hK rfl
  | [u], [v], _ =>
    obtain ⟨oc, od, kV, doc, pm, an, cdv, ct, osl, rfl, lk, hcd⟩ := F.ex
    exact .of_eq (hk1 kV doc pm an cdv ct u v)
  | [], [u, v], _ =>
    obtain ⟨oc, od, kV, doc, pm, an, cdv, ct, osl, rfl, lk, hcd⟩ := F.ex
    exact .of_eq (hk kV doc pm an cdv ct u v)
  | [], [], e => exact absurd e (by simp only [List.length_cons, List.length_nil]; omega)
  | [], [_], e => exact absurd e (by simp only [List.length_cons, List.length_nil]; omega)
  | [], _ :: _ :: _ :: _, e => exact absurd e (by simp only [List.length_cons, List.length_nil]; omega)
  | [_], [], e => exact absurd e (by simp only [List.length_cons, List.length_nil]; omega)
  | [_], _ :: _ :: _, e => exact absurd e (by simp only [List.length_cons, List.length_nil]; omega)
  | [_, _], _ :: _, e => exact absurd e (by simp only [List.length_cons, List.length_nil]; omega)
  | _ :: _ :: _ :: _, _, e => exact absurd e (by simp only [List.length_cons, List.length_nil]; omega)
theorem MethF.has {C : Addr} {m qual : Str} {st : Stmt} {ps : List Str} {k : Nat} {sp : Sp} (T : MethF K C m qual st)
    (hb : ∀ (kV doc pm : Value) (an : Option Addr) (cdv ct : Value) (us : List Value), us.length = ps.length → bindArgs (PySem.W.fnOf m qual (defArgs st) (defBody st) (defScope st) .none kV doc pm an cdv ct) ⟨us, []⟩ = pure (ps.zip us))
    (ok : ∀ {f : Addr} {fd : FuncData}, L2.Fun K m qual st f fd → FnOk P w K mg base CX0 k f fd ps sp) : HasM P w K mg base k C m ps sp := by
  obtain ⟨f, fd, a, F⟩ := T.ex
  exact ⟨f, fd, a, F.binds hb, ok F⟩
theorem MethF.hasI {C : Addr} {qual : Str} {st : Stmt} {ps : List Str} {k : Nat} {sp : Sp} (T : MethF K C "__init__" qual st) (mk : PySem.W.makesIn K C = true) (kc : PySem.W.keepIn K (.ref C) = true)
    (hb : ∀ (kV doc pm : Value) (an : Option Addr) (cdv ct : Value) (us : List Value), us.length = ps.length → bindArgs (PySem.W.fnOf "__init__" qual (defArgs st) (defBody st) (defScope st) .none kV doc pm an cdv ct) ⟨us, []⟩ = pure (ps.zip us))
    (ok : ∀ {f : Addr} {fd : FuncData}, L2.Fun K "__init__" qual st f fd → FnOk P w K mg base CX0 k f fd ps sp) : HasI P w K mg base k C ps sp := by
  obtain ⟨f, fd, a, F⟩ := T.ex
  exact ⟨f, fd, ⟨mk, a.at_, a.fn, kc⟩, F.binds hb, ok F⟩
end
structure Ends (K : PySem.W.Frag) (C : Addr) : Prop where
  t_odd_place : TopF K "odd_place" sOdd
  t_need_presses : TopF K "need_presses" sNeP
  t_need_text : TopF K "need_text" sNeT
  t_lasts_of : TopF K "lasts_of" sLas
  t_lengths_of : TopF K "lengths_of" sLen
  t_length : TopF K "length" sLgt
  t_letter_there : TopF K "letter_there" sLth
  t_letter_at : TopF K "letter_at" sLat
  t_window : TopF K "window" sWin
  t_count_there : TopF K "count_there" sCth
  t_counts : TopF K "counts" sCts
  t_need_piece : TopF K "need_piece" sNpc
  t_found_home : TopF K "found_home" sFho
  t_home : TopF K "home" sHom
  t_how_often : TopF K "how_often" sHow
  t_parted_at : TopF K "parted_at" sPar
  t_beside : TopF K "beside" sBes
  t_followed : TopF K "followed" sFol
  t_led : TopF K "led" sLed
  t__law_begun : TopF K "_law_begun" sBeg
  t__law_take : TopF K "_law_take" sTak
  t__law_of : TopF K "_law_of" sOf
  t__law_letters : TopF K "_law_letters" sLet
  t__law_row : TopF K "_law_row" sRow
  t__law_closed : TopF K "_law_closed" sClo
  t__law_short : TopF K "_law_short" sSho
  t__law_bit : TopF K "_law_bit" sBit
  t__law_spots : TopF K "_law_spots" sSpo
  t__law_lens : TopF K "_law_lens" sLns
  t__law_far : TopF K "_law_far" sFar
  t__law_seen : TopF K "_law_seen" sSee
  t__law_signs : TopF K "_law_signs" sSig
  t__law_small_right : TopF K "_law_small_right" sSma
  t__law_great_right : TopF K "_law_great_right" sGre
  t__law_both_right : TopF K "_law_both_right" sBot
  t_law : TopF K "law" sLaw
  tW : TopW K
  t_m__len__ : MethF K C "__len__" "Copies.__len__" cLen
  t_msize : MethF K C "size" "Copies.size" cSiz
  t_mhead : MethF K C "head" "Copies.head" cHea
  t_mmidst : MethF K C "midst" "Copies.midst" cMid
  t_init : MethF K C "__init__" "Copies.__init__" cIni
  kmk : PySem.W.makesIn K C = true
  kc : PySem.W.keepIn K (.ref C) = true
  aC : PySem.W.nsIn K mainGlobals "Copies" = some (some (.ref C))
  pg : PySem.W.plainGet K C Str.empty = true
  hd : PySem.W.hasDictIn K C = true
  po : PySem.W.plainOver K C = true
  sa : PySem.W.findIn K (.ref C) "__setattr__" = some (some (.builtin "object.__setattr__"))
  nP : PySem.W.findIn K (.ref C) "copy_presses" = some none
  nL : PySem.W.findIn K (.ref C) "copy_lengths" = some none
  nS : PySem.W.findIn K (.ref C) "copy_shared" = some none
  z_isi : PySem.W.nsIn K mainGlobals "isinstance" = some none
  z_len : PySem.W.nsIn K mainGlobals "len" = some none
  z_enu : PySem.W.nsIn K mainGlobals "enumerate" = some none
  z_zip : PySem.W.nsIn K mainGlobals "zip" = some none
  z_range : PySem.W.nsIn K mainGlobals "range" = some none
  z_min : PySem.W.nsIn K mainGlobals "min" = some none
  z_sorted : PySem.W.nsIn K mainGlobals "sorted" = some none
  z_set : PySem.W.nsIn K mainGlobals "set" = some none
  z_sum : PySem.W.nsIn K mainGlobals "sum" = some none
  z_list : PySem.W.nsIn K mainGlobals "list" = some none
  z_repr : PySem.W.nsIn K mainGlobals "repr" = some none
  z_str : PySem.W.nsIn K mainGlobals "str" = some none
  z_int : PySem.W.nsIn K mainGlobals "int" = some none
  z_bool : PySem.W.nsIn K mainGlobals "bool" = some none
  c_mT : ∃ t, PySem.W.nsIn K mainGlobals "MOST_TEXT" = some (some (.int 20000 t))
  c_mP : ∃ t, PySem.W.nsIn K mainGlobals "MOST_PRESSES" = some (some (.int 200 t))
  c_mW : ∃ t, PySem.W.nsIn K mainGlobals "MOST_WINDOW" = some (some (.int 1000 t))
  c_mC : ∃ t, PySem.W.nsIn K mainGlobals "MOST_PIECE" = some (some (.int 200 t))
  c_az : ∃ t, PySem.W.nsIn K mainGlobals "LETTERS" = some (some (.str AZ t))
theorem conI {K : PySem.W.Frag} {x : Str} {i : Int} {t : Tok} (a : PySem.W.nsIn K mainGlobals x = some (some (.int i t))) : ∃ t, PySem.W.nsIn K mainGlobals x = some (some (.int i t)) := ⟨t, a⟩
theorem conS {K : PySem.W.Frag} {t : Tok} (a : PySem.W.nsIn K mainGlobals "LETTERS" = some (some (.str "abcdefghijklmnopqrstuvwxyz" t))) : ∃ t, PySem.W.nsIn K mainGlobals "LETTERS" = some (some (.str AZ t)) := ⟨t, a⟩
theorem Ends.txt {K : PySem.W.Frag} {C : Addr} {h : Heap} {mg : Str → Option Value} (E : Ends K C) (X : K.In h) (G : h.Ns mainGlobals mg) : Txt K mg :=
  ⟨PySem.W.mg_none_of X G E.z_isi, PySem.W.mg_none_of X G E.z_len, PySem.W.mg_none_of X G E.z_enu, PySem.W.mg_none_of X G E.z_zip, PySem.W.mg_none_of X G E.z_range, PySem.W.mg_none_of X G E.z_min, PySem.W.mg_none_of X G E.z_sorted, PySem.W.mg_none_of X G E.z_set, PySem.W.mg_none_of X G E.z_sum, PySem.W.mg_none_of X G E.z_list, PySem.W.mg_none_of X G E.z_repr, PySem.W.mg_none_of X G E.z_str, PySem.W.mg_none_of X G E.z_int, PySem.W.mg_none_of X G E.z_bool, E.c_mT.imp fun _ e => PySem.W.mg_of X G e, E.c_mP.imp fun _ e => PySem.W.mg_of X G e, E.c_mW.imp fun _ e => PySem.W.mg_of X G e, E.c_mC.imp fun _ e => PySem.W.mg_of X G e, E.c_az.imp fun _ e => PySem.W.mg_of X G e⟩
theorem Ends.txtC {K : PySem.W.Frag} {C : Addr} {h : Heap} {mg : Str → Option Value} (E : Ends K C) (X : K.In h) (G : h.Ns mainGlobals mg) : TxtC K mg C := ⟨⟨E.pg, E.hd, E.po, E.sa⟩, E.nP, E.nL, E.nS, PySem.W.mg_of X G E.aC⟩
theorem all_mk {P : Program} {w : World} {K : PySem.W.Frag} {h : Heap} {mg : Str → Option Value} {fa C : Addr} (X : K.In h) (G : h.Ns mainGlobals mg) (hfa : mg "law" = some (.ref fa)) (E : Ends K C) :
    ∃ fd : FuncData, (∀ (s : Shared) (u : Value), BindsTo s fd ⟨[u], []⟩ [("_law_script", u)]) ∧ ∀ base : Heap, K.In base → base.Ns mainGlobals mg → FnG P w K mg base 9 fa fd ["_law_script"] (spLaw K) := by
  have TX := E.txt X G
  have GC := E.txtC X G
  obtain ⟨f0, fd0, a0, F0⟩ := E.t_law.ex
  have e := hfa.symm.trans (PySem.W.mg_of X G a0)
  cases e
  refine ⟨fd0, fun s u => ?_, fun base _ _ => ?_⟩
  · obtain ⟨oc, od, kV, doc, pm, an, cdv, ct, osl, rfl, _, _⟩ := F0.ex
    exact .of_eq rfl
  have hW : HasIsW P w K mg base := E.tW.has X G TX
  have h_odd_place := E.t_odd_place.has (P := P) (w := w) (base := base) X G (fun _ _ _ _ _ _ us hl => match us, hl with | [_], _ => rfl) fun F => ok_odd F TX 
  have h_need_presses := E.t_need_presses.has (P := P) (w := w) (base := base) X G (fun _ _ _ _ _ _ us hl => match us, hl with | [_], _ => rfl) fun F => ok_neP F TX h_odd_place
  have h_need_text := E.t_need_text.has (P := P) (w := w) (base := base) X G (fun _ _ _ _ _ _ us hl => match us, hl with | [_], _ => rfl) fun F => ok_neT F TX h_odd_place
  have h_lasts_of := E.t_lasts_of.has (P := P) (w := w) (base := base) X G (fun _ _ _ _ _ _ us hl => match us, hl with | [_], _ => rfl) fun F => ok_las F TX 
  have h_lengths_of := E.t_lengths_of.has (P := P) (w := w) (base := base) X G (fun _ _ _ _ _ _ us hl => match us, hl with | [_], _ => rfl) fun F => ok_len F TX h_lasts_of
  have h_length := E.t_length.has (P := P) (w := w) (base := base) X G (fun _ _ _ _ _ _ us hl => match us, hl with | [_], _ => rfl) fun F => ok_lgt F TX h_need_presses h_lengths_of
  have h_letter_there := E.t_letter_there.has (P := P) (w := w) (base := base) X G (fun _ _ _ _ _ _ us hl => match us, hl with | [_, _, _], _ => rfl) fun F => ok_lth F TX 
  have h_letter_at := E.t_letter_at.has (P := P) (w := w) (base := base) X G (fun _ _ _ _ _ _ us hl => match us, hl with | [_, _], _ => rfl) fun F => ok_lat F TX h_need_presses h_lengths_of hW h_letter_there
  have h_window := E.t_window.has (P := P) (w := w) (base := base) X G (fun _ _ _ _ _ _ us hl => match us, hl with | [_, _, _], _ => rfl) fun F => ok_win F TX h_need_presses h_lengths_of hW h_letter_there
  have h_count_there := E.t_count_there.has (P := P) (w := w) (base := base) X G (fun _ _ _ _ _ _ us hl => match us, hl with | [_, _], _ => rfl) fun F => ok_cth F TX h_lengths_of
  have h_counts := E.t_counts.has (P := P) (w := w) (base := base) X G (fun _ _ _ _ _ _ us hl => match us, hl with | [_], _ => rfl) fun F => ok_cts F TX h_need_presses h_count_there
  have h_need_piece := E.t_need_piece.has (P := P) (w := w) (base := base) X G (fun _ _ _ _ _ _ us hl => match us, hl with | [_], _ => rfl) fun F => ok_npc F TX h_need_text
  have m___len__ := E.t_m__len__.has (P := P) (w := w) (mg := mg) (base := base) (fun _ _ _ _ _ _ us hl => match us, hl with | [_], _ => rfl) fun F => ok_cln F TX GC 
  have m_size := E.t_msize.has (P := P) (w := w) (mg := mg) (base := base) (fun _ _ _ _ _ _ us hl => match us, hl with | [_, _], _ => rfl) fun F => ok_siz F TX GC 
  have m_head := E.t_mhead.has (P := P) (w := w) (mg := mg) (base := base) (fun _ _ _ _ _ _ us hl => match us, hl with | [_, _], _ => rfl) fun F => ok_hea F TX GC 
  have m_midst := E.t_mmidst.has (P := P) (w := w) (mg := mg) (base := base) (fun _ _ _ _ _ _ us hl => match us, hl with | [_, _, _, _], _ => rfl) fun F => ok_mid F TX GC m_size
  have hI := E.t_init.hasI (P := P) (w := w) (mg := mg) (base := base) E.kmk E.kc (fun _ _ _ _ _ _ us hl => match us, hl with | [_, _], _ => rfl) fun F => ok_ini F TX GC h_need_presses
  have h_found_home := E.t_found_home.has (P := P) (w := w) (base := base) X G (fun _ _ _ _ _ _ us hl => match us, hl with | [_, _], _ => rfl) fun F => ok_fho F TX GC m___len__ m_head m_midst
  have h_home := E.t_home.has (P := P) (w := w) (base := base) X G (fun _ _ _ _ _ _ us hl => match us, hl with | [_, _], _ => rfl) fun F => ok_hom F TX GC hI h_need_piece h_found_home
  have h_how_often := E.t_how_often.has (P := P) (w := w) (base := base) X G (fun _ _ _ _ _ _ us hl => match us, hl with | [_, _], _ => rfl) fun F => ok_how F TX GC hI h_need_piece h_found_home h_length
  have h_parted_at := E.t_parted_at.has (P := P) (w := w) (base := base) X G (fun _ _ _ _ _ _ us hl => match us, hl with | [_, _], _ => rfl) fun F => ok_par F TX h_home
  have h_beside := E.t_beside.has (P := P) (w := w) (base := base) X G (fun _ _ _ _ _ _ us hl => match us, hl with | [_, _], _ => rfl) fun F => ok_bes F TX h_length h_counts
  have H_followed := E.t_followed.hasF (P := P) (w := w) (base := base) X G (fun _ _ _ _ _ _ us hl => match us, hl with | [_, _], _ => rfl) (fun _ _ _ _ _ _ _ _ => rfl) (fun _ _ _ _ _ _ _ _ => rfl) fun F => ok_fol F TX h_parted_at h_beside h_letter_at h_length
  have H_led := E.t_led.hasF (P := P) (w := w) (base := base) X G (fun _ _ _ _ _ _ us hl => match us, hl with | [_, _], _ => rfl) (fun _ _ _ _ _ _ _ _ => rfl) (fun _ _ _ _ _ _ _ _ => rfl) fun F => ok_led F TX h_parted_at h_beside h_letter_at
  have h__law_begun := E.t__law_begun.has (P := P) (w := w) (base := base) X G (fun _ _ _ _ _ _ us hl => match us, hl with | [_, _], _ => rfl) fun F => ok_beg F TX 
  have h__law_take := E.t__law_take.has (P := P) (w := w) (base := base) X G (fun _ _ _ _ _ _ us hl => match us, hl with | [_, _], _ => rfl) fun F => ok_tak F TX 
  have h__law_of := E.t__law_of.has (P := P) (w := w) (base := base) X G (fun _ _ _ _ _ _ us hl => match us, hl with | [_, _], _ => rfl) fun F => ok_of F TX h__law_take
  have h__law_letters := E.t__law_letters.has (P := P) (w := w) (base := base) X G (fun _ _ _ _ _ _ us hl => match us, hl with | [_, _], _ => rfl) fun F => ok_let F TX h__law_take h__law_of
  have h__law_row := E.t__law_row.has (P := P) (w := w) (base := base) X G (fun _ _ _ _ _ _ us hl => match us, hl with | [_, _, _], _ => rfl) fun F => ok_row F TX h__law_of
  have h__law_closed := E.t__law_closed.has (P := P) (w := w) (base := base) X G (fun _ _ _ _ _ _ us hl => match us, hl with | [_, _], _ => rfl) fun F => ok_clo F TX 
  have h__law_short := E.t__law_short.has (P := P) (w := w) (base := base) X G (fun _ _ _ _ _ _ us hl => match us, hl with | [_, _, _], _ => rfl) fun F => ok_sho F TX h__law_take h__law_row h__law_closed
  have h__law_bit := E.t__law_bit.has (P := P) (w := w) (base := base) X G (fun _ _ _ _ _ _ us hl => match us, hl with | [_, _], _ => rfl) fun F => ok_bit F TX h__law_take h__law_of
  have h__law_spots := E.t__law_spots.has (P := P) (w := w) (base := base) X G (fun _ _ _ _ _ _ us hl => match us, hl with | [_, _], _ => rfl) fun F => ok_spo F TX 
  have h__law_lens := E.t__law_lens.has (P := P) (w := w) (base := base) X G (fun _ _ _ _ _ _ us hl => match us, hl with | [_], _ => rfl) fun F => ok_lns F TX 
  have h__law_far := E.t__law_far.has (P := P) (w := w) (base := base) X G (fun _ _ _ _ _ _ us hl => match us, hl with | [_, _], _ => rfl) fun F => ok_far F TX h__law_take
  have h__law_seen := E.t__law_seen.has (P := P) (w := w) (base := base) X G (fun _ _ _ _ _ _ us hl => match us, hl with | [_, _, _, _], _ => rfl) fun F => ok_see F TX h__law_take h__law_of h__law_far h_window
  have h__law_signs := E.t__law_signs.has (P := P) (w := w) (base := base) X G (fun _ _ _ _ _ _ us hl => match us, hl with | [_, _], _ => rfl) fun F => ok_sig F TX 
  have h__law_small_right := E.t__law_small_right.hasG (P := P) (w := w) (base := base) X G (fun _ _ _ _ _ _ us hl => match us, hl with | [_, _, _], _ => rfl) fun F => ok_sma F TX H_followed H_led h__law_spots h__law_signs
  have h__law_great_right := E.t__law_great_right.has (P := P) (w := w) (base := base) X G (fun _ _ _ _ _ _ us hl => match us, hl with | [_, _, _], _ => rfl) fun F => ok_gre F TX H_followed.has H_led.has h_how_often h_home
  have h__law_both_right := E.t__law_both_right.has (P := P) (w := w) (base := base) X G (fun _ _ _ _ _ _ us hl => match us, hl with | [_, _, _], _ => rfl) fun F => ok_bot F TX h__law_of h_window h_how_often
  exact ok_law F0 TX h__law_begun h__law_take h__law_of h__law_letters h__law_row h__law_short h__law_bit h__law_lens h__law_seen h__law_small_right h__law_great_right h__law_both_right

end Mw

namespace Mw
open PySem L2 Mp TL
theorem walk_law {l : PySem.W.OpenLaw} {q : Program} {loose : List Str} {XP : (Str → Option Value) → Heap → Prop} {YP : World → Heap → Prop} {d : DefRec} {K : Params → PySem.W.Frag} (hn : l.most = some 63) (hdf : d.params.defaults = [])
    (hY : ∀ (w : World) (h : Heap), YP w h → (K w.params).In h)
    (F : ∀ (w : World) (mg : Str → Option Value) (fa : Addr) (h : Heap), (K w.params).In h → h.Ns mainGlobals mg → mg d.name = some (.ref fa) →
      ∃ fd : FuncData, (∀ (s : Shared) (u : Value), BindsTo s fd ⟨[u], []⟩ [("_law_script", u)]) ∧ ∀ base : Heap, (K w.params).In base → base.Ns mainGlobals mg → FnG l.prog w (K w.params) mg base 9 fa fd ["_law_script"] (spLaw (K w.params))) :
    PySem.W.WalkO q loose XP YP l.row.toRowW d [] (fun f vs => PySem.call f vs) :=
  walk_ofG (n := 63) (k := 9) (x := "_law_script") (sp := fun w => spLaw (K w.params)) hn (by decide) hdf ⟨rfl, by decide, by decide⟩ hY F fun w H a ns _ hS => ⟨a, ns, rfl, hS, fun _ => rfl⟩
end Mw

open PySem PySem.W PyProof.Rows
set_option maxRecDepth 100000 in
set_option maxHeartbeats 0 in
theorem PySem.Challenge.cw_mirrorpress_k36_whole_what_stands_beside_holds : PySem.Challenge.rw_mirrorpress_k36_whole_what_stands_beside.Holds := by
  w_on; o_law; k_head; (case hw => w_witness2)
  k_fill
  refine Mw.walk_law (l := PySem.Challenge.rw_mirrorpress_k36_whole_what_stands_beside) rfl rfl (fun w h Y => PySem.W.kIn_of Y) ?F
  case F =>
    intro w mg fa h KX G hmg
    refine' Mw.all_mk KX G hmg ⟨?t_odd_place, ?t_need_presses, ?t_need_text, ?t_lasts_of, ?t_lengths_of, ?t_length, ?t_letter_there, ?t_letter_at, ?t_window, ?t_count_there, ?t_counts, ?t_need_piece, ?t_found_home, ?t_home, ?t_how_often, ?t_parted_at, ?t_beside, ?t_followed, ?t_led, ?t__law_begun, ?t__law_take, ?t__law_of, ?t__law_letters, ?t__law_row, ?t__law_closed, ?t__law_short, ?t__law_bit, ?t__law_spots, ?t__law_lens, ?t__law_far, ?t__law_seen, ?t__law_signs, ?t__law_small_right, ?t__law_great_right, ?t__law_both_right, ?t_law, ?tW, ?t_m__len__, ?t_msize, ?t_mhead, ?t_mmidst, ?t_init, ?kmk, ?kc, ?aC, ?pg, ?hd, ?po, ?sa, ?nP, ?nL, ?nS, ?z_isi, ?z_len, ?z_enu, ?z_zip, ?z_range, ?z_min, ?z_sorted, ?z_set, ?z_sum, ?z_list, ?z_repr, ?z_str, ?z_int, ?z_bool, ?c_mT, ?c_mP, ?c_mW, ?c_mC, ?c_az⟩
    (case aC => k_is)
    (case t_odd_place =>
      refine' Mw.topF_mk ?a ?l ?c ?k
      (case a => k_is); (case l => k_is); (case c => k_is); (case k => k_is))
    (case t_need_presses =>
      refine' Mw.topF_mk ?a ?l ?c ?k
      (case a => k_is); (case l => k_is); (case c => k_is); (case k => k_is))
    (case t_need_text =>
      refine' Mw.topF_mk ?a ?l ?c ?k
      (case a => k_is); (case l => k_is); (case c => k_is); (case k => k_is))
    (case t_lasts_of =>
      refine' Mw.topF_mk ?a ?l ?c ?k
      (case a => k_is); (case l => k_is); (case c => k_is); (case k => k_is))
    (case t_lengths_of =>
      refine' Mw.topF_mk ?a ?l ?c ?k
      (case a => k_is); (case l => k_is); (case c => k_is); (case k => k_is))
    (case t_length =>
      refine' Mw.topF_mk ?a ?l ?c ?k
      (case a => k_is); (case l => k_is); (case c => k_is); (case k => k_is))
    (case t_letter_there =>
      refine' Mw.topF_mk ?a ?l ?c ?k
      (case a => k_is); (case l => k_is); (case c => k_is); (case k => k_is))
    (case t_letter_at =>
      refine' Mw.topF_mk ?a ?l ?c ?k
      (case a => k_is); (case l => k_is); (case c => k_is); (case k => k_is))
    (case t_window =>
      refine' Mw.topF_mk ?a ?l ?c ?k
      (case a => k_is); (case l => k_is); (case c => k_is); (case k => k_is))
    (case t_count_there =>
      refine' Mw.topF_mk ?a ?l ?c ?k
      (case a => k_is); (case l => k_is); (case c => k_is); (case k => k_is))
    (case t_counts =>
      refine' Mw.topF_mk ?a ?l ?c ?k
      (case a => k_is); (case l => k_is); (case c => k_is); (case k => k_is))
    (case t_need_piece =>
      refine' Mw.topF_mk ?a ?l ?c ?k
      (case a => k_is); (case l => k_is); (case c => k_is); (case k => k_is))
    (case t_found_home =>
      refine' Mw.topF_mk ?a ?l ?c ?k
      (case a => k_is); (case l => k_is); (case c => k_is); (case k => k_is))
    (case t_home =>
      refine' Mw.topF_mk ?a ?l ?c ?k
      (case a => k_is); (case l => k_is); (case c => k_is); (case k => k_is))
    (case t_how_often =>
      refine' Mw.topF_mk ?a ?l ?c ?k
      (case a => k_is); (case l => k_is); (case c => k_is); (case k => k_is))
    (case t_parted_at =>
      refine' Mw.topF_mk ?a ?l ?c ?k
      (case a => k_is); (case l => k_is); (case c => k_is); (case k => k_is))
    (case t_beside =>
      refine' Mw.topF_mk ?a ?l ?c ?k
      (case a => k_is); (case l => k_is); (case c => k_is); (case k => k_is))
    (case t_followed =>
      refine' Mw.topF_mk ?a ?l ?c ?k
      (case a => k_is); (case l => k_is); (case c => k_is); (case k => k_is))
    (case t_led =>
      refine' Mw.topF_mk ?a ?l ?c ?k
      (case a => k_is); (case l => k_is); (case c => k_is); (case k => k_is))
    (case t__law_begun =>
      refine' Mw.topF_mk ?a ?l ?c ?k
      (case a => k_is); (case l => k_is); (case c => k_is); (case k => k_is))
    (case t__law_take =>
      refine' Mw.topF_mk ?a ?l ?c ?k
      (case a => k_is); (case l => k_is); (case c => k_is); (case k => k_is))
    (case t__law_of =>
      refine' Mw.topF_mk ?a ?l ?c ?k
      (case a => k_is); (case l => k_is); (case c => k_is); (case k => k_is))
    (case t__law_letters =>
      refine' Mw.topF_mk ?a ?l ?c ?k
      (case a => k_is); (case l => k_is); (case c => k_is); (case k => k_is))
    (case t__law_row =>
      refine' Mw.topF_mk ?a ?l ?c ?k
      (case a => k_is); (case l => k_is); (case c => k_is); (case k => k_is))
    (case t__law_closed =>
      refine' Mw.topF_mk ?a ?l ?c ?k
      (case a => k_is); (case l => k_is); (case c => k_is); (case k => k_is))
    (case t__law_short =>
      refine' Mw.topF_mk ?a ?l ?c ?k
      (case a => k_is); (case l => k_is); (case c => k_is); (case k => k_is))
    (case t__law_bit =>
      refine' Mw.topF_mk ?a ?l ?c ?k
      (case a => k_is); (case l => k_is); (case c => k_is); (case k => k_is))
    (case t__law_spots =>
      refine' Mw.topF_mk ?a ?l ?c ?k
      (case a => k_is); (case l => k_is); (case c => k_is); (case k => k_is))
    (case t__law_lens =>
      refine' Mw.topF_mk ?a ?l ?c ?k
      (case a => k_is); (case l => k_is); (case c => k_is); (case k => k_is))
    (case t__law_far =>
      refine' Mw.topF_mk ?a ?l ?c ?k
      (case a => k_is); (case l => k_is); (case c => k_is); (case k => k_is))
    (case t__law_seen =>
      refine' Mw.topF_mk ?a ?l ?c ?k
      (case a => k_is); (case l => k_is); (case c => k_is); (case k => k_is))
    (case t__law_signs =>
      refine' Mw.topF_mk ?a ?l ?c ?k
      (case a => k_is); (case l => k_is); (case c => k_is); (case k => k_is))
    (case t__law_small_right =>
      refine' Mw.topF_mk ?a ?l ?c ?k
      (case a => k_is); (case l => k_is); (case c => k_is); (case k => k_is))
    (case t__law_great_right =>
      refine' Mw.topF_mk ?a ?l ?c ?k
      (case a => k_is); (case l => k_is); (case c => k_is); (case k => k_is))
    (case t__law_both_right =>
      refine' Mw.topF_mk ?a ?l ?c ?k
      (case a => k_is); (case l => k_is); (case c => k_is); (case k => k_is))
    (case t_law =>
      refine' Mw.topF_mk ?a ?l ?c ?k
      (case a => k_is); (case l => k_is); (case c => k_is); (case k => k_is))
    (case tW =>
      refine' Mw.topW_mk ?a ?l ?c ?k ?d1 ?d2
      (case a => k_is); (case l => k_is); (case c => k_is); (case k => k_is); (case d1 => k_is); (case d2 => k_is))
    (case t_m__len__ =>
      refine' Mw.methF_mk ?a ?i ?l ?c ?k
      (case a => k_is); (case i => k_is); (case l => k_is); (case c => k_is); (case k => k_is))
    (case t_msize =>
      refine' Mw.methF_mk ?a ?i ?l ?c ?k
      (case a => k_is); (case i => k_is); (case l => k_is); (case c => k_is); (case k => k_is))
    (case t_mhead =>
      refine' Mw.methF_mk ?a ?i ?l ?c ?k
      (case a => k_is); (case i => k_is); (case l => k_is); (case c => k_is); (case k => k_is))
    (case t_mmidst =>
      refine' Mw.methF_mk ?a ?i ?l ?c ?k
      (case a => k_is); (case i => k_is); (case l => k_is); (case c => k_is); (case k => k_is))
    (case t_init =>
      refine' Mw.methF_mk ?a ?i ?l ?c ?k
      (case a => k_is); (case i => k_is); (case l => k_is); (case c => k_is); (case k => k_is))
    (case kmk => k_is)
    (case kc => k_is)
    (case pg => k_is)
    (case hd => k_is)
    (case po => k_is)
    (case sa => k_is)
    (case nP => k_is)
    (case nL => k_is)
    (case nS => k_is)
    (case z_isi => k_is)
    (case z_len => k_is)
    (case z_enu => k_is)
    (case z_zip => k_is)
    (case z_range => k_is)
    (case z_min => k_is)
    (case z_sorted => k_is)
    (case z_set => k_is)
    (case z_sum => k_is)
    (case z_list => k_is)
    (case z_repr => k_is)
    (case z_str => k_is)
    (case z_int => k_is)
    (case z_bool => k_is)
    (case c_mT =>
      refine' Mw.conI ?a
      (case a => k_is))
    (case c_mP =>
      refine' Mw.conI ?a
      (case a => k_is))
    (case c_mW =>
      refine' Mw.conI ?a
      (case a => k_is))
    (case c_mC =>
      refine' Mw.conI ?a
      (case a => k_is))
    (case c_az =>
      refine' Mw.conS ?a
      (case a => k_is))
