import PyProof.Rows.All
import Wide.All
import OpenK.AllK
import Wide.FinOn
import HandS.ForMost
import HandS.ForExc
import HandS.Lambda
import HandS.EndTab
import HandS.Zip
import HandS.Star
import HandS.Style
import HandS.IsInst
import HandS.ExcIs
import HandS.Sort
import HandS.SortRule
import HandS.TupAny
import HandS.Evl
import KE.SortData
import KE.GoesMore
import KE.GoesEnum
import KE.KIndexOf
import PySem.Challenge.RW_parkback_k38_whole_best_and_worst
set_option autoImplicit false
namespace PM

/-! ### aligned lists -/
def Al (R : Int → Int → Prop) : List Int → List Int → Prop
  | [], [] => True
  | a :: as, b :: bs => R a b ∧ Al R as bs
  | [], _ :: _ => False
  | _ :: _, [] => False

theorem Al.len {R : Int → Int → Prop} : ∀ {as bs : List Int}, Al R as bs → as.length = bs.length
  | [], [], _ => rfl
  | _ :: _, _ :: _, h => by rw [List.length_cons, List.length_cons, Al.len h.2]
theorem Al.imp {R S : Int → Int → Prop} (h : ∀ a b, R a b → S a b) : ∀ {as bs : List Int}, Al R as bs → Al S as bs
  | [], [], _ => True.intro
  | _ :: _, _ :: _, q => ⟨h _ _ q.1, Al.imp h q.2⟩
theorem Al.imp2 {R S U : Int → Int → Prop} (h : ∀ a b, R a b → S a b → U a b) : ∀ {as bs : List Int}, Al R as bs → Al S as bs → Al U as bs
  | [], [], _, _ => True.intro
  | _ :: _, _ :: _, q, r => ⟨h _ _ q.1 r.1, Al.imp2 h q.2 r.2⟩
theorem Al.snoc {R : Int → Int → Prop} {a b : Int} (r : R a b) : ∀ {as bs : List Int}, Al R as bs → Al R (as ++ [a]) (bs ++ [b])
  | [], [], _ => ⟨r, True.intro⟩
  | _ :: _, _ :: _, q => ⟨q.1, Al.snoc r q.2⟩
theorem Al.append {R : Int → Int → Prop} : ∀ {as bs cs ds : List Int}, Al R as bs → Al R cs ds → Al R (as ++ cs) (bs ++ ds)
  | [], [], _, _, _, h => h
  | _ :: _, _ :: _, _, _, q, h => ⟨q.1, Al.append q.2 h⟩
theorem Al.get {R : Int → Int → Prop} : ∀ {as bs : List Int} {i : Nat} {a b : Int}, Al R as bs → as[i]? = some a → bs[i]? = some b → R a b
  | [], [], _, _, _, _, h, _ => by simp at h
  | x :: xs, y :: ys, 0, a, b, q, h1, h2 => by
    simp at h1 h2
    subst h1 h2
    exact q.1
  | x :: xs, y :: ys, i + 1, a, b, q, h1, h2 => Al.get (i := i) q.2 (by simpa using h1) (by simpa using h2)
theorem Al.of_get {R : Int → Int → Prop} : ∀ {as bs : List Int}, as.length = bs.length → (∀ (i : Nat) (a b : Int), as[i]? = some a → bs[i]? = some b → R a b) → Al R as bs
  | [], [], _, _ => True.intro
  | x :: xs, y :: ys, hl, h => ⟨h 0 x y rfl rfl, Al.of_get (by simpa using hl) fun i a b h1 h2 => h (i + 1) a b (by simpa using h1) (by simpa using h2)⟩
  | [], _ :: _, hl, _ => by simp at hl
  | _ :: _, [], hl, _ => by simp at hl
theorem Al.left {R : Int → Int → Prop} {P : Int → Prop} (h : ∀ a b, R a b → P a) : ∀ {as bs : List Int}, Al R as bs → ∀ a ∈ as, P a
  | [], [], _, _, m => by cases m
  | _ :: _, _ :: _, q, a, m => by
    rcases List.mem_cons.mp m with rfl | m
    · exact h _ _ q.1
    · exact Al.left h q.2 a m
theorem Al.right {R : Int → Int → Prop} {P : Int → Prop} (h : ∀ a b, R a b → P b) : ∀ {as bs : List Int}, Al R as bs → ∀ b ∈ bs, P b
  | [], [], _, _, m => by cases m
  | _ :: _, _ :: _, q, b, m => by
    rcases List.mem_cons.mp m with rfl | m
    · exact h _ _ q.1
    · exact Al.right h q.2 b m
theorem Al.countL {R : Int → Int → Prop} {P Q : Int → Bool} (h : ∀ a b, R a b → P a = true → Q b = true) : ∀ {as bs : List Int}, Al R as bs → as.countP P ≤ bs.countP Q
  | [], [], _ => by simp
  | a :: as, b :: bs, q => by
    have ih := Al.countL h q.2
    rw [List.countP_cons, List.countP_cons]
    by_cases hp : P a = true
    · rw [if_pos hp, if_pos (h a b q.1 hp)]; omega
    · rw [if_neg hp]; omega
theorem Al.countR {R : Int → Int → Prop} {P Q : Int → Bool} (h : ∀ a b, R a b → Q b = true → P a = true) : ∀ {as bs : List Int}, Al R as bs → bs.countP Q ≤ as.countP P
  | [], [], _ => by simp
  | a :: as, b :: bs, q => by
    have ih := Al.countR h q.2
    rw [List.countP_cons, List.countP_cons]
    by_cases hq : Q b = true
    · rw [if_pos hq, if_pos (h a b q.1 hq)]; omega
    · rw [if_neg hq]; omega
/-- strictly, where one place has the one and not the other -/
theorem Al.countRs {R : Int → Int → Prop} {P Q : Int → Bool} (h : ∀ a b, R a b → P a = true → Q b = true) : ∀ {as bs : List Int} {i : Nat} {a b : Int}, Al R as bs → as[i]? = some a → bs[i]? = some b → P a = false → Q b = true → as.countP P + 1 ≤ bs.countP Q
  | [], [], _, _, _, _, e, _, _, _ => by simp at e
  | x :: xs, y :: ys, 0, a, b, q, h1, h2, h3, h4 => by
    simp at h1 h2
    subst h1 h2
    have ih := Al.countL (P := P) (Q := Q) h q.2
    rw [List.countP_cons, List.countP_cons, if_pos h4, if_neg (by rw [h3]; decide)]
    omega
  | x :: xs, y :: ys, i + 1, a, b, q, h1, h2, h3, h4 => by
    have ih := Al.countRs h (i := i) q.2 (by simpa using h1) (by simpa using h2) h3 h4
    rw [List.countP_cons, List.countP_cons]
    by_cases hp : P x = true
    · rw [if_pos hp, if_pos (h x y q.1 hp)]; omega
    · rw [if_neg hp]; omega

/-! ### the first free place -/
def ff : Nat → List Int → Int → Int
  | 0, _, p => p
  | k + 1, acc, p => if p ∈ acc then ff k acc (p + 1) else p
def park : List Int → List Int → List Int
  | acc, [] => acc
  | acc, h :: hs => park (acc ++ [ff acc.length acc h]) hs

theorem count_next {acc : List Int} {p : Int} (h : p ∈ acc) : acc.countP (fun x => decide (p + 1 ≤ x)) + 1 ≤ acc.countP (fun x => decide (p ≤ x)) := by
  induction acc with
  | nil => cases h
  | cons a r ih =>
    have mono : r.countP (fun x => decide (p + 1 ≤ x)) ≤ r.countP (fun x => decide (p ≤ x)) := List.countP_mono_left fun x _ hx => by
      simp at hx ⊢; omega
    rw [List.countP_cons, List.countP_cons]
    by_cases e : p = a
    · subst e
      rw [if_neg (by simp; omega), if_pos (by simp)]
      omega
    · have h' : p ∈ r := by
        rcases List.mem_cons.mp h with z | z
        · exact absurd z e
        · exact z
      have := ih h'
      by_cases h1 : p + 1 ≤ a
      · rw [if_pos (by simpa using h1), if_pos (by simp; omega)]; omega
      · rw [if_neg (by simpa using h1)]; omega
theorem ff_spec : ∀ (k : Nat) (acc : List Int) (p : Int), acc.countP (fun x => decide (p ≤ x)) ≤ k → ff k acc p ∉ acc ∧ p ≤ ff k acc p ∧ ∀ q, p ≤ q → q < ff k acc p → q ∈ acc
  | 0, acc, p, h => by
    refine ⟨fun m => ?_, Int.le_refl _, fun q h1 h2 => ?_⟩
    · have m' : p ∈ acc := m
      have := count_next m'
      omega
    · have h2' : q < p := h2
      omega
  | k + 1, acc, p, h => by
    unfold ff
    by_cases m : p ∈ acc
    · rw [if_pos m]
      have c := count_next m
      obtain ⟨h1, h2, h3⟩ := ff_spec k acc (p + 1) (by omega)
      refine ⟨h1, by omega, fun q q1 q2 => ?_⟩
      by_cases e : q = p
      · rw [e]; exact m
      · exact h3 q (by omega) q2
    · rw [if_neg m]
      exact ⟨m, Int.le_refl _, fun q q1 q2 => by omega⟩
theorem ff_spec' (acc : List Int) (p : Int) : ff acc.length acc p ∉ acc ∧ p ≤ ff acc.length acc p ∧ ∀ q, p ≤ q → q < ff acc.length acc p → q ∈ acc := ff_spec _ _ _ List.countP_le_length
theorem ff_uniq {acc : List Int} {h p p' : Int} (a : p ∉ acc ∧ h ≤ p ∧ ∀ q, h ≤ q → q < p → q ∈ acc) (b : p' ∉ acc ∧ h ≤ p' ∧ ∀ q, h ≤ q → q < p' → q ∈ acc) : p = p' := by
  rcases Int.lt_trichotomy p p' with l | e | l
  · exact absurd (b.2.2 p a.2.1 l) a.1
  · exact e
  · exact absurd (a.2.2 p' b.2.1 l) b.1
theorem ff_le : ∀ (k : Nat) (acc : List Int) (p : Int), ff k acc p ≤ p + k
  | 0, _, p => by show p ≤ p + 0; omega
  | k + 1, acc, p => by
    unfold ff
    split
    · have := ff_le k acc (p + 1); omega
    · omega

/-! ### stable places: each car's way from its home is taken -/
def StabIn (S hs s : List Int) : Prop := Al (fun h p => h ≤ p ∧ ∀ q, h ≤ q → q ≤ p → q ∈ S) hs s
def Stable (hs s : List Int) : Prop := s.Nodup ∧ StabIn s hs s
theorem StabIn.mono {S S' hs s : List Int} (m : ∀ q ∈ S, q ∈ S') (h : StabIn S hs s) : StabIn S' hs s := Al.imp (fun _ _ q => ⟨q.1, fun x a b => m x (q.2 x a b)⟩) h
theorem park_stable : ∀ (hs hs0 acc : List Int), Stable hs0 acc → Stable (hs0 ++ hs) (park acc hs)
  | [], hs0, acc, h => by
    rw [List.append_nil]; exact h
  | x :: hs, hs0, acc, h => by
    obtain ⟨h1, h2, h3⟩ := ff_spec' acc x
    have e : hs0 ++ x :: hs = (hs0 ++ [x]) ++ hs := by simp
    rw [e]
    refine park_stable hs (hs0 ++ [x]) _ ⟨?_, ?_⟩
    · rw [List.nodup_append]
      refine ⟨h.1, by simp, fun a ha b hb => ?_⟩
      simp at hb
      subst hb
      exact fun e => h1 (e ▸ ha)
    · refine Al.snoc ⟨h2, fun q q1 q2 => ?_⟩ (StabIn.mono (fun q hq => List.mem_append_left _ hq) h.2)
      by_cases e : q = ff acc.length acc x
      · rw [e]; simp
      · exact List.mem_append_left _ (h3 q q1 (by omega))
theorem stable_park (hs : List Int) : Stable hs (park [] hs) := park_stable hs [] [] ⟨List.nodup_nil, True.intro⟩
theorem park_len (hs : List Int) : (park [] hs).length = hs.length := (stable_park hs).2.len.symm

theorem count_same {a b : List Int} {P : Int → Bool} (ha : a.Nodup) (hb : b.Nodup) (h : ∀ x, P x = true → (x ∈ a ↔ x ∈ b)) : a.countP P = b.countP P := by
  rw [List.countP_eq_length_filter, List.countP_eq_length_filter]
  refine List.Perm.length_eq ((List.perm_ext_iff_of_nodup (ha.filter P) (hb.filter P)).mpr fun x => ?_)
  rw [List.mem_filter, List.mem_filter]
  constructor
  · rintro ⟨m, p⟩; exact ⟨(h x p).mp m, p⟩
  · rintro ⟨m, p⟩; exact ⟨(h x p).mpr m, p⟩
theorem count_le_lt {a : List Int} {q : Int} (h : q ∈ a) : a.countP (fun x => decide (x < q)) + 1 ≤ a.countP (fun x => decide (x ≤ q)) := by
  induction a with
  | nil => cases h
  | cons b r ih =>
    have mono : r.countP (fun x => decide (x < q)) ≤ r.countP (fun x => decide (x ≤ q)) := List.countP_mono_left fun x _ hx => by
      simp at hx ⊢; omega
    rw [List.countP_cons, List.countP_cons]
    by_cases e : q = b
    · subst e
      simp
      omega
    · have h' : q ∈ r := by
        rcases List.mem_cons.mp h with z | z
        · exact absurd z e
        · exact z
      have := ih h'
      by_cases h1 : b < q
      · rw [if_pos (by simpa using h1), if_pos (by simp; omega)]; omega
      · rw [if_neg (by simpa using h1)]; omega
/-- behind q no car passes, if q is free: as many cars stand before it as have homes up to it -/
theorem free_count {hs t : List Int} {q : Int} (h : StabIn t hs t) (n : q ∉ t) : hs.countP (fun x => decide (x ≤ q)) = t.countP (fun x => decide (x < q)) := by
  refine Nat.le_antisymm (Al.countL (fun a b r p => ?_) h) (Al.countR (fun a b r p => ?_) h)
  · have p := of_decide_eq_true p
    refine decide_eq_true ?_
    rcases Int.lt_or_le b q with z | z
    · exact z
    · exact absurd (r.2 q p z) n
  · have p := of_decide_eq_true p
    exact decide_eq_true (by have := r.1; omega)
theorem stable_step {hs hs' s t : List Int} {q : Int} (a : Stable hs s) (b : Stable hs' t) (c : hs.countP (fun x => decide (x ≤ q)) = hs'.countP (fun x => decide (x ≤ q))) (low : ∀ x, x < q → (x ∈ s ↔ x ∈ t)) (m : q ∈ s) : q ∈ t := by
  by_cases n : q ∈ t
  · exact n
  · exfalso
    have e1 := free_count b.2 n
    have e2 : s.countP (fun x => decide (x ≤ q)) ≤ hs.countP (fun x => decide (x ≤ q)) := Al.countR (fun _ _ r p => by
      have p := of_decide_eq_true p
      exact decide_eq_true (by have := r.1; omega)) a.2
    have e3 := count_le_lt m
    have e4 : s.countP (fun x => decide (x < q)) = t.countP (fun x => decide (x < q)) := count_same a.1 b.1 fun x p => low x (of_decide_eq_true p)
    omega
theorem low_bound (l : List Int) : ∃ L : Int, ∀ x ∈ l, L ≤ x := by
  induction l with
  | nil => exact ⟨0, fun _ h => by cases h⟩
  | cons a r ih =>
    obtain ⟨L, hL⟩ := ih
    refine ⟨min a L, fun x hx => ?_⟩
    rcases List.mem_cons.mp hx with rfl | hx
    · omega
    · have := hL x hx; omega
theorem stable_unique {hs hs' s t : List Int} (a : Stable hs s) (b : Stable hs' t) (c : hs.Perm hs') : ∀ q, q ∈ s ↔ q ∈ t := by
  obtain ⟨L, hL⟩ := low_bound (s ++ t)
  have key : ∀ n : Nat, ∀ q, q < L + n → (q ∈ s ↔ q ∈ t) := by
    intro n
    induction n with
    | zero =>
      intro q hq
      exact ⟨fun m => by have := hL q (List.mem_append_left _ m); omega, fun m => by have := hL q (List.mem_append_right _ m); omega⟩
    | succ n ih =>
      intro q hq
      rcases Int.lt_or_le q (L + n) with z | z
      · exact ih q z
      · have low : ∀ x, x < q → (x ∈ s ↔ x ∈ t) := fun x hx => ih x (by omega)
        have cq := c.countP_eq (fun x => decide (x ≤ q))
        exact ⟨stable_step a b cq low, stable_step b a cq.symm fun x hx => (low x hx).symm⟩
  intro q
  rcases Int.lt_or_le q L with z | z
  · exact key 0 q (by simpa using z)
  · exact key ((q - L).toNat + 1) q (by omega)
theorem park_perm {hs hs' : List Int} (c : hs.Perm hs') : (park [] hs).Perm (park [] hs') :=
  (List.perm_ext_iff_of_nodup (stable_park hs).1 (stable_park hs').1).mpr (stable_unique (stable_park hs) (stable_park hs') c)

/-! ### the taken places, ascending -/
def taken (hs : List Int) : List Int := (park [] hs).mergeSort (fun a b => decide (a ≤ b))
theorem taken_perm (hs : List Int) : (taken hs).Perm (park [] hs) := List.mergeSort_perm _ _
theorem taken_nodup (hs : List Int) : (taken hs).Nodup := (taken_perm hs).nodup_iff.mpr (stable_park hs).1
theorem taken_le (hs : List Int) : (taken hs).Pairwise (· ≤ ·) := by
  have h := List.pairwise_mergeSort (le := fun a b : Int => decide (a ≤ b)) (fun a b c h1 h2 => by simp at *; omega) (fun a b => by simp; omega) (park [] hs)
  exact h.imp fun h => by simpa using h
theorem sorted_eq {a b : List Int} (ha : a.Pairwise (· ≤ ·)) (hb : b.Pairwise (· ≤ ·)) (p : a.Perm b) : a = b := p.eq_of_pairwise (fun x y _ _ h1 h2 => Int.le_antisymm h1 h2) ha hb
theorem taken_lt (hs : List Int) : (taken hs).Pairwise (· < ·) := by
  have h1 := taken_le hs
  have h2 := taken_nodup hs
  exact (List.Pairwise.and h1 h2).imp fun ⟨a, b⟩ => by omega
theorem taken_eq {hs hs' l : List Int} (c : hs.Perm hs') (p : l.Perm (park [] hs')) (s : l.Pairwise (· ≤ ·)) : l = taken hs :=
  sorted_eq s (taken_le hs) (p.trans ((park_perm c).symm.trans (taken_perm hs).symm))
theorem taken_of_perm {hs hs' : List Int} (c : hs.Perm hs') : taken hs' = taken hs := taken_eq c (taken_perm hs') (taken_le hs')
theorem mem_taken {hs : List Int} {q : Int} : q ∈ taken hs ↔ q ∈ park [] hs := (taken_perm hs).mem_iff
theorem taken_len (hs : List Int) : (taken hs).length = hs.length := by rw [(taken_perm hs).length_eq, park_len]

/-! ### rows built place by place -/
def ext : List (List Int) → List Int → List (List Int)
  | [], row => [row]
  | L :: Ls, row => (L.filter (fun p => !decide (p ∈ row))).flatMap fun p => ext Ls (row ++ [p])
def stepL (L : List Int) (found : List (List Int)) : List (List Int) := found.flatMap fun row => (L.filter (fun p => !decide (p ∈ row))).map fun p => row ++ [p]
def build (Ls : List (List Int)) (found : List (List Int)) : List (List Int) := Ls.foldl (fun f L => stepL L f) found
theorem build_eq : ∀ (Ls found : List (List Int)), build Ls found = found.flatMap (ext Ls)
  | [], found => by
    show found = found.flatMap fun row => [row]
    simp
  | L :: Ls, found => by
    show build Ls (stepL L found) = _
    rw [build_eq Ls]
    unfold stepL
    rw [List.flatMap_assoc]
    congr 1
    funext row
    rw [List.flatMap_map]
    rfl
theorem build_nil (Ls : List (List Int)) : build Ls [[]] = ext Ls [] := by
  rw [build_eq]; simp
def Okx : List (List Int) → List Int → List Int → Prop
  | [], _, [] => True
  | L :: Ls, row, p :: s => p ∈ L ∧ p ∉ row ∧ Okx Ls (row ++ [p]) s
  | [], _, _ :: _ => False
  | _ :: _, _, [] => False
theorem mem_ext : ∀ {Ls : List (List Int)} {row r : List Int}, r ∈ ext Ls row ↔ ∃ s, r = row ++ s ∧ Okx Ls row s
  | [], row, r => by
    constructor
    · intro h
      have h : r ∈ [row] := h
      simp at h
      exact ⟨[], by simp [h], True.intro⟩
    · rintro ⟨s, rfl, h⟩
      cases s with
      | nil => show row ++ [] ∈ [row]; simp
      | cons a b => exact h.elim
  | L :: Ls, row, r => by
    show r ∈ (L.filter _).flatMap _ ↔ _
    rw [List.mem_flatMap]
    constructor
    · rintro ⟨p, hp, hr⟩
      rw [List.mem_filter] at hp
      obtain ⟨s, rfl, hs⟩ := mem_ext.mp hr
      exact ⟨p :: s, by simp, hp.1, by simpa using hp.2, hs⟩
    · rintro ⟨s, rfl, h⟩
      cases s with
      | nil => exact h.elim
      | cons p s =>
        obtain ⟨h1, h2, h3⟩ := h
        exact ⟨p, by rw [List.mem_filter]; exact ⟨h1, by simpa using h2⟩, mem_ext.mpr ⟨s, by simp, h3⟩⟩
theorem Okx.len : ∀ {Ls : List (List Int)} {row s : List Int}, Okx Ls row s → Ls.length = s.length
  | [], _, [], _ => rfl
  | _ :: _, _, _ :: _, h => by rw [List.length_cons, List.length_cons, Okx.len h.2.2]
theorem Okx.nodup : ∀ {Ls : List (List Int)} {row s : List Int}, Okx Ls row s → row.Nodup → (row ++ s).Nodup
  | [], row, [], _, h => by simpa using h
  | L :: Ls, row, p :: s, h, n => by
    have e : row ++ p :: s = (row ++ [p]) ++ s := by simp
    rw [e]
    refine Okx.nodup h.2.2 ?_
    rw [List.nodup_append]
    refine ⟨n, by simp, fun a ha b hb => ?_⟩
    simp at hb
    subst hb
    exact fun e => h.2.1 (e ▸ ha)
theorem Okx.get : ∀ {Ls : List (List Int)} {row s : List Int} {i : Nat} {L : List Int} {p : Int}, Okx Ls row s → Ls[i]? = some L → s[i]? = some p → p ∈ L
  | [], _, [], _, _, _, _, h, _ => by simp at h
  | L' :: Ls, row, p' :: s, 0, L, p, h, h1, h2 => by
    simp at h1 h2
    subst h1 h2
    exact h.1
  | L' :: Ls, row, p' :: s, i + 1, L, p, h, h1, h2 => Okx.get (i := i) h.2.2 (by simpa using h1) (by simpa using h2)
theorem Okx.mk : ∀ {Ls : List (List Int)} {row s : List Int}, Ls.length = s.length → (∀ (i : Nat) (L : List Int) (p : Int), Ls[i]? = some L → s[i]? = some p → p ∈ L) → (row ++ s).Nodup → Okx Ls row s
  | [], _, [], _, _, _ => True.intro
  | L :: Ls, row, p :: s, hl, h, n => by
    have n' := n
    rw [List.nodup_append] at n
    refine ⟨h 0 L p rfl rfl, fun m => n.2.2 p m p List.mem_cons_self rfl, Okx.mk (by simpa using hl) (fun i L' p' h1 h2 => h (i + 1) L' p' (by simpa using h1) (by simpa using h2)) ?_⟩
    have e : row ++ p :: s = (row ++ [p]) ++ s := by simp
    rw [e] at n'
    exact n'
  | [], _, _ :: _, hl, _, _ => by simp at hl
  | _ :: _, _, [], hl, _, _ => by simp at hl
theorem mem_ext0 {Ls : List (List Int)} {r : List Int} : r ∈ ext Ls [] ↔ Ls.length = r.length ∧ (∀ (i : Nat) (L : List Int) (p : Int), Ls[i]? = some L → r[i]? = some p → p ∈ L) ∧ r.Nodup := by
  rw [mem_ext]
  constructor
  · rintro ⟨s, e, h⟩
    have e : r = s := by simpa using e
    subst e
    exact ⟨h.len, fun i L p => h.get, by simpa using h.nodup List.nodup_nil⟩
  · rintro ⟨h1, h2, h3⟩
    exact ⟨r, by simp, Okx.mk h1 h2 (by simpa using h3)⟩

/-! ### a filter place by place -/
def alB (R : Int → Int → Bool) : List Int → List Int → Bool
  | [], [] => true
  | a :: as, b :: bs => R a b && alB R as bs
  | [], _ :: _ => false
  | _ :: _, [] => false
theorem alB_iff {R : Int → Int → Bool} : ∀ {as bs : List Int}, alB R as bs = true ↔ Al (fun a b => R a b = true) as bs
  | [], [] => by simp [alB, Al]
  | a :: as, b :: bs => by
    show (R a b && alB R as bs) = true ↔ R a b = true ∧ Al _ as bs
    rw [Bool.and_eq_true, alB_iff]
  | [], _ :: _ => by simp [alB, Al]
  | _ :: _, [] => by simp [alB, Al]
theorem alB_app {R : Int → Int → Bool} : ∀ {as bs cs ds : List Int}, as.length = bs.length → alB R (as ++ cs) (bs ++ ds) = (alB R as bs && alB R cs ds)
  | [], [], cs, ds, _ => by simp [alB]
  | a :: as, b :: bs, cs, ds, h => by
    show (R a b && alB R (as ++ cs) (bs ++ ds)) = (R a b && alB R as bs && alB R cs ds)
    rw [alB_app (by simpa using h), Bool.and_assoc]
  | [], _ :: _, _, _, h => by simp at h
  | _ :: _, [], _, _, h => by simp at h
theorem flatMap_if {α β : Type} {c : α → Bool} {f : α → List β} : ∀ l : List α, (l.flatMap fun p => if c p = true then f p else []) = (l.filter c).flatMap f
  | [] => rfl
  | a :: l => by
    rw [List.flatMap_cons, flatMap_if l, List.filter_cons]
    by_cases h : c a = true
    · rw [if_pos h, if_pos h, List.flatMap_cons]
    · rw [if_neg h, if_neg h, List.nil_append]
theorem ext_filter {R : Int → Int → Bool} : ∀ {Ls : List (List Int)} {xs row xs0 : List Int}, Ls.length = xs.length → xs0.length = row.length → alB R xs0 row = true →
    (ext Ls row).filter (alB R (xs0 ++ xs)) = ext (List.zipWith (fun L x => L.filter (R x)) Ls xs) row
  | [], [], row, xs0, _, _, h => by
    show [row].filter _ = [row]
    rw [List.append_nil, List.filter_cons, if_pos h]
    rfl
  | L :: Ls, x :: xs, row, xs0, hl, h0, h => by
    show ((L.filter fun p => !decide (p ∈ row)).flatMap fun p => ext Ls (row ++ [p])).filter _ = ((L.filter (R x)).filter fun p => !decide (p ∈ row)).flatMap _
    rw [List.filter_flatMap]
    have e : (fun p => (ext Ls (row ++ [p])).filter (alB R (xs0 ++ x :: xs))) = fun p => if R x p = true then ext (List.zipWith (fun L x => L.filter (R x)) Ls xs) (row ++ [p]) else [] := by
      funext p
      have e1 : xs0 ++ x :: xs = (xs0 ++ [x]) ++ xs := by simp
      by_cases hp : R x p = true
      · rw [if_pos hp, e1]
        refine ext_filter (by simpa using hl) (by simpa using h0) ?_
        rw [alB_app h0, h]
        simp [alB, hp]
      · rw [if_neg hp, List.filter_eq_nil_iff]
        intro r hr
        obtain ⟨s, rfl, hs⟩ := mem_ext.mp hr
        have e2 : row ++ [p] ++ s = row ++ p :: s := by simp
        rw [e2, alB_app h0, h]
        simp [alB, hp]
    rw [e, flatMap_if, List.filter_filter, List.filter_filter]
    congr 2
    funext p
    rw [Bool.and_comm]
theorem ext_filter0 {R : Int → Int → Bool} {Ls : List (List Int)} {xs : List Int} (h : Ls.length = xs.length) : (ext Ls []).filter (alB R xs) = ext (List.zipWith (fun L x => L.filter (R x)) Ls xs) [] := by
  have := ext_filter (R := R) (Ls := Ls) (xs := xs) (row := []) (xs0 := []) h rfl rfl
  simpa using this

theorem Al.countLs {R : Int → Int → Prop} {P Q : Int → Bool} (h : ∀ a b, R a b → Q b = true → P a = true) : ∀ {as bs : List Int} {i : Nat} {a b : Int}, Al R as bs → as[i]? = some a → bs[i]? = some b → P a = true → Q b = false → bs.countP Q + 1 ≤ as.countP P
  | [], [], _, _, _, _, e, _, _, _ => by simp at e
  | x :: xs, y :: ys, 0, a, b, q, h1, h2, h3, h4 => by
    simp at h1 h2
    subst h1 h2
    have ih := Al.countR (P := P) (Q := Q) h q.2
    rw [List.countP_cons, List.countP_cons, if_pos h3, if_neg (by rw [h4]; decide)]
    omega
  | x :: xs, y :: ys, i + 1, a, b, q, h1, h2, h3, h4 => by
    have ih := Al.countLs h (i := i) q.2 (by simpa using h1) (by simpa using h2) h3 h4
    rw [List.countP_cons, List.countP_cons]
    by_cases hq : Q y = true
    · rw [if_pos hq, if_pos (h x y q.1 hq)]; omega
    · rw [if_neg hq]; omega

/-! ### streets, states, rests -/
def Room (n : Int) (hs : List Int) : Prop := ∀ p : Int, 0 ≤ p → p ≤ n → (hs.countP (fun h => decide (p ≤ h)) : Int) ≤ n - p
def IsState (n : Int) (hs xs : List Int) : Prop := xs.Nodup ∧ Al (fun h x => h ≤ x ∧ x < n) hs xs
def whole (hs : List Int) : List (List Int) := ext (hs.map fun h => (taken hs).filter fun p => decide (h ≤ p)) []
def below (xs r : List Int) : Bool := alB (fun x p => decide (p ≤ x)) xs r
def restsIn (hs xs : List Int) : List (List Int) := ext (List.zipWith (fun h x => (taken hs).filter fun p => decide (h ≤ p) && decide (p ≤ x)) hs xs) []
theorem restsIn_eq {hs xs : List Int} (h : hs.length = xs.length) : restsIn hs xs = (whole hs).filter (below xs) := by
  have e := ext_filter0 (R := fun x p => decide (p ≤ x)) (Ls := hs.map fun h => (taken hs).filter fun p => decide (h ≤ p)) (xs := xs) (by simpa using h)
  have f : (alB fun x p => decide (p ≤ x)) xs = below xs := rfl
  unfold whole
  rw [← f, e, List.zipWith_map_left]
  unfold restsIn
  congr 2
  funext a b
  rw [List.filter_filter]
  congr 1
  funext p
  rw [Bool.and_comm]
theorem below_iff {xs r : List Int} : below xs r = true ↔ Al (fun x p => p ≤ x) xs r := by
  unfold below
  rw [alB_iff]
  constructor
  · exact Al.imp fun a b h => of_decide_eq_true h
  · exact Al.imp fun a b h => decide_eq_true h
theorem mem_whole {hs r : List Int} : r ∈ whole hs ↔ r.Nodup ∧ Al (fun h p => h ≤ p) hs r ∧ ∀ q ∈ r, q ∈ taken hs := by
  unfold whole
  rw [mem_ext0]
  constructor
  · rintro ⟨h1, h2, h3⟩
    have hl : hs.length = r.length := by simpa using h1
    have key : ∀ (i : Nat) (a b : Int), hs[i]? = some a → r[i]? = some b → a ≤ b ∧ b ∈ taken hs := fun i a b ha hb => by
      have := h2 i ((taken hs).filter fun p => decide (a ≤ p)) b (by rw [List.getElem?_map, ha]; rfl) hb
      rw [List.mem_filter] at this
      exact ⟨of_decide_eq_true this.2, this.1⟩
    refine ⟨h3, Al.of_get hl fun i a b ha hb => (key i a b ha hb).1, fun q hq => ?_⟩
    have a2 : Al (fun a b => a ≤ b ∧ b ∈ taken hs) hs r := Al.of_get hl key
    exact Al.right (fun a b h => h.2) a2 q hq
  · rintro ⟨h1, h2, h3⟩
    refine ⟨by simpa using h2.len, fun i L p hL hp => ?_, h1⟩
    rw [List.getElem?_map] at hL
    cases ha : hs[i]? with
    | none => rw [ha] at hL; cases hL
    | some a =>
      rw [ha] at hL
      have hL : (taken hs).filter (fun p => decide (a ≤ p)) = L := by simpa using hL
      rw [← hL, List.mem_filter]
      exact ⟨h3 p (List.mem_of_getElem? hp), decide_eq_true (h2.get ha hp)⟩
theorem rest_perm {hs r : List Int} (h : r ∈ whole hs) : r.Perm (taken hs) := by
  obtain ⟨n, a, m⟩ := mem_whole.mp h
  refine (List.perm_ext_iff_of_nodup n (taken_nodup hs)).mpr fun q => ⟨m q, fun hq => ?_⟩
  by_cases c : q ∈ r
  · exact c
  · exfalso
    have n2 : (q :: r).Nodup := List.nodup_cons.mpr ⟨c, n⟩
    have := n2.length_le_of_subset (l₂ := taken hs) fun x hx => by
      rcases List.mem_cons.mp hx with rfl | hx
      · exact hq
      · exact m x hx
    rw [taken_len, List.length_cons, a.len] at this
    omega
theorem rest_stable {hs r : List Int} (h : r ∈ whole hs) : Stable hs r := by
  obtain ⟨n, a, m⟩ := mem_whole.mp h
  have p := (rest_perm h).trans (taken_perm hs)
  refine ⟨n, Al.of_get a.len fun i x y hx hy => ⟨a.get hx hy, fun q q1 q2 => ?_⟩⟩
  by_cases c : q ∈ r
  · exact c
  · exfalso
    have c2 : q ∉ park [] hs := fun z => c (p.mem_iff.mpr z)
    have e := free_count (stable_park hs).2 c2
    have e2 := p.countP_eq (fun x => decide (x < q))
    have ne : y ≠ q := fun z => c (by rw [← z]; exact List.mem_of_getElem? hy)
    have e3 := Al.countLs (P := fun x => decide (x ≤ q)) (Q := fun x => decide (x < q)) (fun u v z w => decide_eq_true (by have := of_decide_eq_true w; omega)) a hx hy (decide_eq_true q1) (decide_eq_false (by omega))
    omega
/-! ### each state comes to a rest -/
theorem not_al {R S : Int → Int → Prop} : ∀ {as bs : List Int}, Al R as bs → ¬ Al S as bs → ∃ (i : Nat) (a b : Int), as[i]? = some a ∧ bs[i]? = some b ∧ R a b ∧ ¬ S a b
  | [], [], _, h => (h True.intro).elim
  | a :: as, b :: bs, q, h => by
    by_cases c : S a b
    · obtain ⟨i, x, y, h1, h2, h3, h4⟩ := not_al q.2 fun z => h ⟨c, z⟩
      exact ⟨i + 1, x, y, by simpa using h1, by simpa using h2, h3, h4⟩
    · exact ⟨0, a, b, rfl, rfl, q.1, c⟩
theorem al_set {R : Int → Int → Prop} {q : Int} : ∀ {as bs : List Int} {i : Nat} {a : Int}, Al R as bs → as[i]? = some a → R a q → Al R as (bs.set i q)
  | [], [], _, _, _, h, _ => by simp at h
  | x :: xs, y :: ys, 0, a, h, e, r => by
    simp at e
    subst e
    exact ⟨r, h.2⟩
  | x :: xs, y :: ys, i + 1, a, h, e, r => ⟨h.1, al_set (i := i) h.2 (by simpa using e) r⟩
theorem al_rfl : ∀ l : List Int, Al (fun x p => p ≤ x) l l
  | [] => True.intro
  | _ :: l => ⟨Int.le_refl _, al_rfl l⟩
theorem al_refl_set {q : Int} : ∀ {bs : List Int} {i : Nat} {b : Int}, bs[i]? = some b → q ≤ b → Al (fun x p => p ≤ x) bs (bs.set i q)
  | [], _, _, h, _ => by simp at h
  | y :: ys, 0, b, e, r => by
    simp at e
    subst e
    exact ⟨r, al_rfl ys⟩
  | y :: ys, i + 1, b, e, r => ⟨Int.le_refl _, al_refl_set (i := i) (by simpa using e) r⟩
theorem al_trans : ∀ {a b c : List Int}, Al (fun x p => p ≤ x) a b → Al (fun x p => p ≤ x) b c → Al (fun x p => p ≤ x) a c
  | [], [], [], _, _ => True.intro
  | _ :: _, _ :: _, _ :: _, h, k => ⟨Int.le_trans k.1 h.1, al_trans h.2 k.2⟩
theorem nodup_set {q : Int} : ∀ {l : List Int} {i : Nat}, l.Nodup → q ∉ l → (l.set i q).Nodup
  | [], i, _, _ => by simp
  | x :: l, 0, n, h => by
    show (q :: l).Nodup
    rw [List.nodup_cons] at n ⊢
    exact ⟨fun m => h (List.mem_cons_of_mem _ m), n.2⟩
  | x :: l, i + 1, n, h => by
    show (x :: l.set i q).Nodup
    rw [List.nodup_cons] at n ⊢
    refine ⟨fun m => ?_, nodup_set n.2 fun m => h (List.mem_cons_of_mem _ m)⟩
    rcases List.mem_or_eq_of_mem_set m with m | m
    · exact n.1 m
    · exact h (by rw [m]; exact List.mem_cons_self)
theorem sum_set {q : Int} : ∀ {l : List Int} {i : Nat} {b : Int}, l[i]? = some b → (l.set i q).sum = l.sum - b + q
  | [], _, _, h => by simp at h
  | x :: l, 0, b, e => by
    simp at e
    subst e
    show (q :: l).sum = (x :: l).sum - x + q
    rw [List.sum_cons, List.sum_cons]; omega
  | x :: l, i + 1, b, e => by
    have := sum_set (q := q) (l := l) (i := i) (b := b) (by simpa using e)
    show (x :: l.set i q).sum = (x :: l).sum - b + q
    rw [List.sum_cons, List.sum_cons, this]; omega
theorem al_sum : ∀ {as bs : List Int}, Al (fun h x => h ≤ x) as bs → as.sum ≤ bs.sum
  | [], [], _ => Int.le_refl _
  | _ :: _, _ :: _, h => by
    rw [List.sum_cons, List.sum_cons]
    have := al_sum h.2
    have := h.1
    omega
theorem descend {hs : List Int} : ∀ (k : Nat) (xs : List Int), (xs.sum - hs.sum).toNat ≤ k → xs.Nodup → Al (fun h x => h ≤ x) hs xs → ∃ s, Stable hs s ∧ Al (fun x p => p ≤ x) xs s := by
  intro k
  induction k with
  | zero =>
    intro xs hk n a
    by_cases c : StabIn xs hs xs
    · exact ⟨xs, ⟨n, c⟩, al_rfl xs⟩
    · exfalso
      obtain ⟨i, h, x, h1, h2, h3, h4⟩ := not_al a c
      have : ∃ q, h ≤ q ∧ q ≤ x ∧ q ∉ xs := by
        by_cases z : ∃ q, h ≤ q ∧ q ≤ x ∧ q ∉ xs
        · exact z
        · exact (h4 ⟨h3, fun q q1 q2 => Classical.byContradiction fun w => z ⟨q, q1, q2, w⟩⟩).elim
      obtain ⟨q, q1, q2, q3⟩ := this
      have ne : q ≠ x := fun e => q3 (by rw [e]; exact List.mem_of_getElem? h2)
      have s1 := al_sum (al_set (q := q) a h1 q1)
      rw [sum_set h2] at s1
      have s2 := al_sum a
      omega
  | succ k ih =>
    intro xs hk n a
    by_cases c : StabIn xs hs xs
    · exact ⟨xs, ⟨n, c⟩, al_rfl xs⟩
    · obtain ⟨i, h, x, h1, h2, h3, h4⟩ := not_al a c
      have : ∃ q, h ≤ q ∧ q ≤ x ∧ q ∉ xs := by
        by_cases z : ∃ q, h ≤ q ∧ q ≤ x ∧ q ∉ xs
        · exact z
        · exact (h4 ⟨h3, fun q q1 q2 => Classical.byContradiction fun w => z ⟨q, q1, q2, w⟩⟩).elim
      obtain ⟨q, q1, q2, q3⟩ := this
      have ne : q ≠ x := fun e => q3 (by rw [e]; exact List.mem_of_getElem? h2)
      have a' := al_set (q := q) a h1 q1
      have s1 := al_sum a'
      have e := sum_set (q := q) h2
      obtain ⟨s, hs1, hs2⟩ := ih (xs.set i q) (by rw [e]; rw [e] at s1; omega) (nodup_set n q3) a'
      exact ⟨s, hs1, al_trans (al_refl_set h2 q2) hs2⟩
theorem stable_whole {hs s : List Int} (h : Stable hs s) : s ∈ whole hs :=
  mem_whole.mpr ⟨h.1, Al.imp (fun _ _ q => q.1) h.2, fun q hq => mem_taken.mpr ((stable_unique h (stable_park hs) (List.Perm.refl hs) q).mp hq)⟩
theorem exists_rest {hs xs : List Int} (n : xs.Nodup) (a : Al (fun h x => h ≤ x) hs xs) : ∃ r, r ∈ whole hs ∧ below xs r = true := by
  obtain ⟨s, h1, h2⟩ := descend _ xs (Nat.le_refl _) n a
  exact ⟨s, stable_whole h1, below_iff.mpr h2⟩
theorem IsState.le {n : Int} {hs xs : List Int} (h : IsState n hs xs) : Al (fun h x => h ≤ x) hs xs := Al.imp (fun _ _ q => q.1) h.2
theorem restsIn_ne {n : Int} {hs xs : List Int} (h : IsState n hs xs) : restsIn hs xs ≠ [] := by
  obtain ⟨r, h1, h2⟩ := exists_rest h.1 h.le
  rw [restsIn_eq h.2.len]
  exact fun e => List.not_mem_nil (e ▸ List.mem_filter.mpr ⟨h1, h2⟩)
theorem taken_lt_n {n : Int} {hs xs : List Int} (h : IsState n hs xs) : ∀ q ∈ taken hs, q < n := by
  obtain ⟨r, h1, h2⟩ := exists_rest h.1 h.le
  intro q hq
  have hr : q ∈ r := (rest_perm h1).mem_iff.mpr hq
  have a : Al (fun x p => p < n) xs r := Al.of_get (below_iff.mp h2).len fun i x p hx hp => by
    have e := (below_iff.mp h2).get hx hp
    have l := Al.right (P := fun x => x < n) (fun _ _ z => z.2) h.2 x (List.mem_of_getElem? hx)
    omega
  exact Al.right (P := fun p => p < n) (fun _ _ z => z) a q hr
theorem rest_state {n : Int} {hs xs r : List Int} (h : IsState n hs xs) (hr : r ∈ whole hs) : IsState n hs r := by
  obtain ⟨n1, a, m⟩ := mem_whole.mp hr
  exact ⟨n1, Al.of_get a.len fun i x y hx hy => ⟨a.get hx hy, taken_lt_n h y (m y (List.mem_of_getElem? hy))⟩⟩

/-! ### how many states stand at or beyond a rest -/
def rangeL (a b : Int) : List Int := (List.range (b - a).toNat).map fun (i : Nat) => a + (i : Int)
theorem mem_rangeL {a b q : Int} : q ∈ rangeL a b ↔ a ≤ q ∧ q < b := by
  unfold rangeL
  rw [List.mem_map]
  constructor
  · rintro ⟨i, hi, rfl⟩
    rw [List.mem_range] at hi
    omega
  · rintro ⟨h1, h2⟩
    exact ⟨(q - a).toNat, by rw [List.mem_range]; omega, by omega⟩
theorem rangeL_nodup (a b : Int) : (rangeL a b).Nodup := by
  unfold rangeL
  rw [List.nodup_iff_pairwise_ne, List.pairwise_map]
  exact List.nodup_range.imp fun h e => h (by omega)
theorem rangeL_len (a b : Int) : (rangeL a b).length = (b - a).toNat := by
  unfold rangeL; simp
theorem rangeL_lt (a b : Int) : (rangeL a b).Pairwise (· < ·) := by
  unfold rangeL
  rw [List.pairwise_map]
  exact List.pairwise_lt_range.imp fun h => by omega
theorem sum_flat {α : Type} (A : List α) (f g : α → Nat) : (A.map fun x => f x + g x).sum = (A.map f).sum + (A.map g).sum := by
  induction A with
  | nil => rfl
  | cons a r ih => rw [List.map_cons, List.map_cons, List.map_cons, List.sum_cons, List.sum_cons, List.sum_cons, ih]; omega
theorem sum_zero {α : Type} (A : List α) : (A.map fun _ => 0).sum = 0 := by
  induction A with
  | nil => rfl
  | cons a r ih => rw [List.map_cons, List.sum_cons, ih]
theorem sum_swap {α β : Type} (A : List α) (B : List β) (g : α → β → Nat) : (A.map fun p => (B.map fun q => g p q).sum).sum = (B.map fun q => (A.map fun p => g p q).sum).sum := by
  induction A with
  | nil => rw [List.map_nil, List.sum_nil]; exact (sum_zero B).symm
  | cons a r ih =>
    rw [List.map_cons, List.sum_cons, ih, ← sum_flat]
    rfl
theorem sum_filter {α : Type} (A : List α) (c : α → Bool) (f : α → Nat) : ((A.filter c).map f).sum = (A.map fun x => if c x = true then f x else 0).sum := by
  induction A with
  | nil => rfl
  | cons a r ih =>
    rw [List.filter_cons, List.map_cons, List.sum_cons]
    by_cases h : c a = true
    · rw [if_pos h, if_pos h, List.map_cons, List.sum_cons, ih]
    · rw [if_neg h, if_neg h, ih]; omega
theorem ext_len (L : List Int) (Ls : List (List Int)) (row : List Int) : (ext (L :: Ls) row).length = ((L.filter (fun p => !decide (p ∈ row))).map fun p => (ext Ls (row ++ [p])).length).sum := by
  show ((L.filter _).flatMap _).length = _
  rw [List.length_flatMap]
theorem ext_count_row : ∀ (Ls : List (List Int)) (row row' : List Int), (∀ q, q ∈ row ↔ q ∈ row') → (ext Ls row).length = (ext Ls row').length
  | [], _, _, _ => rfl
  | L :: Ls, row, row', h => by
    rw [ext_len, ext_len]
    have e : (fun p => !decide (p ∈ row)) = fun p => !decide (p ∈ row') := by
      funext p
      rw [decide_eq_decide.mpr (h p)]
    rw [e]
    congr 1
    refine List.map_congr_left fun p _ => ext_count_row Ls _ _ fun q => ?_
    rw [List.mem_append, List.mem_append, h q]
theorem ext_count_perm {Ls Ls' : List (List Int)} (h : Ls.Perm Ls') : ∀ row : List Int, (ext Ls row).length = (ext Ls' row).length := by
  induction h with
  | nil => intro row; rfl
  | cons L _ ih =>
    intro row
    rw [ext_len, ext_len]
    congr 1
    exact List.map_congr_left fun p _ => ih _
  | swap A B l =>
    intro row
    have two : ∀ A B : List Int, (ext (A :: B :: l) row).length = ((A.filter fun p => !decide (p ∈ row)).map fun p => ((B.filter fun q => !decide (q ∈ row)).map fun q => if p = q then 0 else (ext l (row ++ [p, q])).length).sum).sum := by
      intro A B
      rw [ext_len]
      congr 1
      refine List.map_congr_left fun p _ => ?_
      rw [ext_len]
      have e : (B.filter fun q => !decide (q ∈ row ++ [p])) = (B.filter fun q => !decide (q ∈ row)).filter fun q => !decide (p = q) := by
        rw [List.filter_filter]
        congr 1
        funext q
        by_cases h1 : q ∈ row
        · simp [h1]
        · by_cases h2 : p = q
          · subst h2; simp
          · have h3 : q ≠ p := fun z => h2 z.symm
            simp [h1, h2, h3]
      rw [e, sum_filter]
      congr 1
      refine List.map_congr_left fun q _ => ?_
      by_cases h2 : p = q
      · simp [h2]
      · simp [h2]
    rw [two, two, sum_swap]
    congr 1
    refine List.map_congr_left fun p _ => ?_
    congr 1
    refine List.map_congr_left fun q _ => ?_
    by_cases h2 : p = q
    · rw [if_pos h2, if_pos h2.symm]
    · rw [if_neg h2, if_neg fun z => h2 z.symm]
      refine ext_count_row _ _ _ fun x => ?_
      simp only [List.mem_append, List.mem_cons, List.not_mem_nil, or_false]
      constructor
      · rintro (h | h | h)
        · exact .inl h
        · exact .inr (.inr h)
        · exact .inr (.inl h)
      · rintro (h | h | h)
        · exact .inl h
        · exact .inr (.inr h)
        · exact .inr (.inl h)
  | trans _ _ ih1 ih2 => intro row; rw [ih1, ih2]
def prodI (n : Int) : Int → Nat → List Int → Int
  | acc, _, [] => acc
  | acc, d, r :: rs => prodI n (acc * (n - r - (d : Int))) (d + 1) rs
theorem prodI_mul (n : Int) : ∀ (rs : List Int) (acc : Int) (d : Nat), prodI n acc d rs = acc * prodI n 1 d rs
  | [], acc, d => by show acc = acc * 1; omega
  | r :: rs, acc, d => by
    show prodI n (acc * (n - r - (d : Int))) (d + 1) rs = acc * prodI n (1 * (n - r - (d : Int))) (d + 1) rs
    rw [prodI_mul n rs, prodI_mul n rs (1 * _), Int.one_mul, Int.mul_assoc]
theorem sum_const {α : Type} (A : List α) (f : α → Nat) (c : Nat) (h : ∀ a ∈ A, f a = c) : (A.map f).sum = A.length * c := by
  induction A with
  | nil => simp
  | cons a r ih =>
    rw [List.map_cons, List.sum_cons, h a List.mem_cons_self, ih fun x hx => h x (List.mem_cons_of_mem _ hx), List.length_cons, Nat.add_mul]
    omega
theorem free_len {n r : Int} {row : List Int} (nd : row.Nodup) (h : ∀ q ∈ row, r ≤ q ∧ q < n) : ((rangeL r n).filter fun p => !decide (p ∈ row)).length + row.length = (n - r).toNat := by
  have e1 : ((rangeL r n).filter fun p => decide (p ∈ row)).length = row.length := by
    refine List.Perm.length_eq ((List.perm_ext_iff_of_nodup ((rangeL_nodup r n).filter _) nd).mpr fun q => ?_)
    rw [List.mem_filter, mem_rangeL]
    constructor
    · intro z; simpa using z.2
    · intro z; exact ⟨h q z, by simpa using z⟩
  have e2 : ∀ l : List Int, l.length = (l.filter fun p => decide (p ∈ row)).length + (l.filter fun p => !decide (p ∈ row)).length := fun l => by
    induction l with
    | nil => rfl
    | cons a l ih =>
      rw [List.filter_cons, List.filter_cons, List.length_cons]
      by_cases h : a ∈ row
      · rw [if_pos (by simpa using h), if_neg (by simpa using h), List.length_cons]; omega
      · rw [if_neg (by simpa using h), if_pos (by simpa using h), List.length_cons]; omega
  have e3 := e2 (rangeL r n)
  rw [rangeL_len] at e3
  omega
theorem count_desc {n : Int} : ∀ (rs row : List Int), rs.Pairwise (· ≥ ·) → row.Nodup → (∀ q ∈ row, q < n ∧ ∀ r ∈ rs, r ≤ q) → ((ext (rs.map fun r => rangeL r n) row).length : Int) = prodI n 1 row.length rs ∨ (ext (rs.map fun r => rangeL r n) row).length = 0 ∧ ∃ r ∈ rs, n ≤ r
  | [], row, _, _, _ => .inl rfl
  | r :: rs, row, hp, nd, h => by
    rw [List.map_cons, ext_len]
    have hp' := List.pairwise_cons.mp hp
    by_cases hr : r < n
    · have fl := free_len nd (r := r) (n := n) fun q hq => ⟨(h q hq).2 r List.mem_cons_self, (h q hq).1⟩
      left
      have cst : ∀ p ∈ (rangeL r n).filter (fun p => !decide (p ∈ row)), ((ext (rs.map fun r => rangeL r n) (row ++ [p])).length : Int) = prodI n 1 (row.length + 1) rs := fun p hp2 => by
        rw [List.mem_filter, mem_rangeL] at hp2
        have hpr : p ∉ row := by simpa using hp2.2
        have nd2 : (row ++ [p]).Nodup := by
          rw [List.nodup_append]
          refine ⟨nd, by simp, fun a ha b hb => ?_⟩
          simp at hb
          subst hb
          exact fun e => hpr (e ▸ ha)
        have c := count_desc rs (row ++ [p]) hp'.2 nd2 fun q hq => by
          rcases List.mem_append.mp hq with hq | hq
          · exact ⟨(h q hq).1, fun x hx => (h q hq).2 x (List.mem_cons_of_mem _ hx)⟩
          · simp at hq
            subst hq
            exact ⟨hp2.1.2, fun x hx => Int.le_trans (hp'.1 x hx) hp2.1.1⟩
        rw [List.length_append, List.length_singleton] at c
        rcases c with c | ⟨_, x, hx, hx2⟩
        · exact c
        · have := hp'.1 x hx
          omega
      show _ = prodI n (1 * (n - r - (row.length : Int))) (row.length + 1) rs
      rw [prodI_mul, Int.one_mul]
      generalize hA : (rangeL r n).filter (fun p => !decide (p ∈ row)) = A at *
      cases hA2 : A with
      | nil =>
        subst hA2
        have z : n - r - (row.length : Int) = 0 := by
          simp at fl
          omega
        rw [z, Int.zero_mul]
        rfl
      | cons p A' =>
        have c0 : ∀ a ∈ A, (ext (rs.map fun r => rangeL r n) (row ++ [a])).length = (prodI n 1 (row.length + 1) rs).toNat := fun a ha => by
          have := cst a ha
          omega
        have nn : 0 ≤ prodI n 1 (row.length + 1) rs := by
          have := cst p (by rw [hA2]; exact List.mem_cons_self)
          omega
        rw [← hA2, sum_const A _ _ c0, Int.natCast_mul, Int.toNat_of_nonneg nn]
        congr 1
        omega
    · right
      refine ⟨?_, r, List.mem_cons_self, by omega⟩
      have e : rangeL r n = [] := by
        rw [← List.length_eq_zero_iff, rangeL_len]; omega
      rw [e]
      rfl
/-- the states that stand at or beyond r, counted -/
theorem count_from {n : Int} {r rs : List Int} (p : rs.Perm r) (s : rs.Pairwise (· ≥ ·)) (h : ∀ q ∈ r, q < n) : ((ext (r.map fun q => rangeL q n) []).length : Int) = prodI n 1 0 rs := by
  rw [← ext_count_perm (p.map fun q => rangeL q n)]
  rcases count_desc (n := n) rs [] s List.nodup_nil (fun _ hq => by cases hq) with e | ⟨_, x, hx, hx2⟩
  · exact e
  · have := h x (p.mem_iff.mp hx)
    omega
def states (n : Int) (hs : List Int) : List (List Int) := ext (hs.map fun h => rangeL h n) []
def above (r xs : List Int) : Bool := alB (fun p x => decide (p ≤ x)) r xs
theorem above_count {n : Int} {hs r rs : List Int} (st : IsState n hs r) (p : rs.Perm r) (s : rs.Pairwise (· ≥ ·)) : (((states n hs).filter (above r)).length : Int) = prodI n 1 0 rs := by
  have e := ext_filter0 (R := fun p x => decide (p ≤ x)) (Ls := hs.map fun h => rangeL h n) (xs := r) (by simpa using st.2.len)
  have f : (alB fun p x => decide (p ≤ x)) r = above r := rfl
  rw [f] at e
  unfold states
  rw [e, List.zipWith_map_left]
  have e2 : List.zipWith (fun h q => (rangeL h n).filter fun x => decide (q ≤ x)) hs r = r.map fun q => rangeL q n := by
    have key : ∀ {hs r : List Int}, Al (fun h x => h ≤ x ∧ x < n) hs r → List.zipWith (fun h q => (rangeL h n).filter fun x => decide (q ≤ x)) hs r = r.map fun q => rangeL q n := by
      intro hs r h
      induction hs generalizing r with
      | nil =>
        cases r with
        | nil => rfl
        | cons _ _ => exact h.elim
      | cons a as ih =>
        cases r with
        | nil => exact h.elim
        | cons b bs =>
          rw [List.zipWith_cons_cons, List.map_cons, ih h.2]
          congr 1
          refine List.Perm.eq_of_pairwise (le := (· < ·)) (fun x y _ _ h1 h2 => by omega) ((rangeL_lt a n).filter _) (rangeL_lt b n) ((List.perm_ext_iff_of_nodup ((rangeL_nodup a n).filter _) (rangeL_nodup b n)).mpr fun q => ?_)
          rw [List.mem_filter, mem_rangeL, mem_rangeL, decide_eq_true_eq]
          have := h.1
          constructor
          · rintro ⟨⟨_, z⟩, w⟩; exact ⟨w, z⟩
          · rintro ⟨w, z⟩; exact ⟨⟨by omega, z⟩, w⟩
    exact key st.2
  rw [e2]
  exact count_from p s fun q hq => Al.right (fun _ _ z => z.2) st.2 q hq
end PM

set_option Elab.async false
set_option linter.all false
set_option maxRecDepth 100000
set_option maxHeartbeats 1000000
/-! own rules over the layer -/
namespace R1
open PySem PySem.Spec PyProof.Rows L2

/-! ### raise X() of an own class -/
section
variable {X : Cx} {C : Addr} {bmB : List Value} {B newId initId : String}
theorem pmk_own0 {x : Str} {p pos : Pos} (F : ExcBaseFacts B newId initId bmB) (q : PySem.W.excIn X.K C bmB newId = true) (gC : X.mg x = some (.ref C)) (kC : PySem.W.keepIn X.K (.ref C) = true) (r : Raises X (.ref C)) (hg : Gl X x)
    (hdb : (x == ("__debug__" : Str)) = false := by decide) : PMk X (.Call (.Name x p) [] [] pos) (fun _ H Q => Q (.ref C) none H) := by
  intro pins s σ H Q I h
  refine wpAny_Call_Name_kw (ld_glob I hg gC ?_ hdb)
  obtain ⟨bm, N, nm, qn, bs, hdct, sn, sub, ab, col, dd, k0, k1, k2, k3, k5, mN, hC, hN, hni, T⟩ := exc_obj I.kIn q
  obtain ⟨hp, g, dr, tk, os⟩ := s
  refine PySem.W.callWith_K0 I.kIn kC ?_
  exact wpAny_call_exc_subT F T hC hN hni (fun h' e hm => mk_of I hm r h (I.hok.gone hm.new)) (Nat.zero_le _)
end

/-! ### a tuple's items, collected; sorted of a tuple of ints -/
section
variable {prog : Program} {w : World} {A : Around} {E : Value → Shared → Prop} {s : Shared}
theorem extend_new {S it : Addr} {res : Value} {o : Obj} {items : Array Value} {n : Nat} {P : Fin → Shared → Prop}
    (hS : s.heap.get? S = some (seqObj "list" #[] 0)) (ho : s.heap.get? it = some o) (hc : o.cls = .type "tuple") (hd : o.data = .seq items n)
    (hP : P (.done (.ret res)) { s with heap := s.heap.update S (Obj.mapSeq (· ++ items)) }) (hz : items.size ≤ sizeLine) :
    wpAny (model prog w) A (Builtin.List.listExtendWith (.ref S) (.ref it) res) P E s := by
  unfold Builtin.List.listExtendWith
  refine wpAny_bind (wpAny_typeOf (T := "tuple") ⟨o, ho, hc⟩ ?_)
  have ht : (Builtin.List.listSameRef (.ref S) (.ref it) || Value.type "tuple" == Value.type "list" || Value.type "tuple" == Value.type "tuple") = true := by simp
  rw [if_pos ht]
  refine wpAny_bind (listItems_at ho hd (wpAny_bind (listItems_at hS rfl ?_)))
  rw [if_neg (show ¬ ((!(#[] : Array Value).isEmpty && Builtin.List.listTooLong ((#[] : Array Value).size + items.size)) = true) by simp)]
  refine wpAny_bind (listUpdate_at hS rfl ?_ (Nat.zero_le _) ?_)
  · exact wpAny_pure hP
  · rw [Array.size_append]
    show 0 + items.size ≤ sizeLine + 1
    omega
theorem collect_tup {l : Addr} {vs : List Value} {Q : List Value → Shared → Prop} (hl : s.heap.IsTuple l vs.toArray) (hz : vs.length ≤ sizeLine)
    (h : Q vs { s with heap := (s.heap.push (seqObj "list" #[] 0)).update s.heap.objs.size (Obj.mapSeq (· ++ vs.toArray)) }) :
    wpAny (model prog w) A (collect (.ref l)) Q E s := by
  obtain ⟨o, ho, hc, n, hd⟩ := id hl
  have hnew : (s.heap.push (seqObj "list" #[] 0)).get? s.heap.objs.size = some (seqObj "list" #[] 0) := Heap.get?_push_size _ rfl
  unfold collect
  refine wpAny_bind (wpAny_runValue (codeAny_builtin entry_proto_collect' ?_))
  refine wpAny_bind (wpAny_newList (wpAny_pure ⟨Code.quiet_builtin _ (by decide +kernel), codeAny_builtin entry_list_iadd' ?_⟩))
  refine extend_new (S := s.heap.objs.size) (s := { s with heap := s.heap.push (seqObj "list" #[] 0) }) hnew (Heap.get?_push_of_some _ ho) hc hd ?_ (by simpa using hz)
  refine wpAny_bind (wpAny_load (get?_update_seq hnew _) ?_)
  show wpAny _ _ (pure ((#[] : Array Value) ++ vs.toArray).toList) Q E _
  rw [show ((#[] : Array Value) ++ vs.toArray).toList = vs by simp]
  exact wpAny_pure h
theorem sorted_tup_ints {l : Addr} {vs : List Value} {ns : List Int} {Q : Value → Shared → Prop} (hl : s.heap.IsTuple l vs.toArray) (hI : IntsAre vs ns) (h64 : vs.length < 64)
    (h : ∀ (out : Array Value) (ns' : List Int), IntsAre out.toList ns' → ns'.Perm ns → ns'.Pairwise (· ≤ ·) → Q (.ref (s.heap.objs.size + 1)) { s with heap := sortedAll s.heap vs out }) :
    wpAny (model prog w) A (call (.builtin "sorted") [.ref l]) Q E s := by
  have hz : vs.length ≤ sizeLine := small64 h64
  refine Calls.call_function_entry kind_sorted plain_sorted entry_sorted (args_sorted1 _) ?_
  unfold Builtin.«sorted»
  refine wpAny_bind (m := checkCount "sorted" 1 1 _) (wpAny_pure ?_)
  refine wpAny_bind (collect_tup hl hz (wpAny_bind (wpAny_newList ?_ hz)))
  have hn : ((s.heap.push (seqObj "list" #[] 0)).update s.heap.objs.size (Obj.mapSeq (· ++ vs.toArray))).objs.size = s.heap.objs.size + 1 := by
    rw [Heap.size_update, size_push']
  have hoL := PySem.W.copyHeap_at s.heap vs
  show wpAny _ _ _ _ _ { s with heap := PySem.W.copyHeap s.heap vs }
  rw [hn]
  refine wpAny_bind (wpAny_holding (wpAny_call_entry slot_list_sort ⟨_, hoL, rfl⟩ entry_list_sort (list_sort_tree (s := { s with heap := PySem.W.copyHeap s.heap vs }) hoL hI h64 fun out ns' a1 a2 a3 => ⟨_, rfl, ?_⟩) (args_list_sort _)))
  exact wpAny_pure ⟨_, rfl, h out ns' a1 a2 a3⟩
end
section
variable {X : Cx}
def rSortedT (K : PySem.W.Frag) : List V → Hp → VK → Prop := fun vs H Q => ∃ (a : Addr) (ns : List Int), vs = [V.ref a] ∧ SqT K H a (ns.map V.int) ∧ ns.length < 64 ∧
  ∀ (ns' : List Int) (p : Addr), ns'.Perm ns → ns'.Pairwise (· ≤ ·) → H p = none → Q (.ref p) (upd H p (.lst (ns'.map V.int)))
theorem cr_sortedTI : CallR X (.builtin "sorted") (rSortedT X.K) := by
  intro pins s σ H vs us Q I r h
  obtain ⟨a, ns, rfl, hs, h64, q⟩ := h
  obtain ⟨its, rv, hl, _⟩ := I.tuple hs
  rw [Vals.ref1 r]
  have hi := rv.ints
  refine sorted_tup_ints hl hi (by rw [hi.length]; exact h64) fun out ns' h1 h2 h3 => ?_
  obtain ⟨ep, he'⟩ := PyProof.Rows.sortedAll_at s.heap its out
  have hlen : (ns'.map V.int).length ≤ sizeLine := by rw [List.length_map, h2.length_eq]; exact small64 h64
  have J : Inv X pins σ (upd H (s.heap.objs.size + 1) (.lst (ns'.map V.int))) { s with heap := sortedAll s.heap its out } :=
    I.laid (t' := s.toks) (fun _ _ => PyProof.Rows.sortedAll_old) (Nat.le_succ _) ⟨hlen, out.toList, ep, vals_of_ints h1, he'⟩
  exact ⟨.ref _, _, J, rfl, q ns' _ h2 h3 (I.hok.fresh (Nat.le_succ _))⟩
end

/-! ### t.index(n), ints -/
section
variable {X : Cx}
theorem mt_tup_index_int : MtR X "tuple.index" (fun x xs H Q => ∃ (p : Addr) (ns : List Int) (k : Int), x = .ref p ∧ xs = [.int k] ∧ SqT X.K H p (ns.map V.int) ∧ k ∈ ns ∧ Q (.int (ns.idxOf k : Nat)) H) := by
  intro pins s σ H x xs v us Q I rx rs h
  obtain ⟨p, ns, k, rfl, rfl, hq, hk, q⟩ := h
  cases rx
  obtain ⟨u, rfl, t, rfl⟩ := vals1 rs
  obtain ⟨its, r, pl, hz⟩ := I.tuple hq
  exact SeqAt.tuple_index_ints pl r.ints hk ⟨.int (ns.idxOf k : Nat), H, I.tok _, ⟨_, rfl⟩, q⟩
end

/-! ### min of a list whose items are compared over the heap -/
section
variable {prog : Program} {w : World} {A : Around} {R : Result → Shared → Prop} {I S : Addr} {fp wr : List Addr} {n : Nat} {P : Nat → Value → Prop} {St : Nat → Heap → Prop} {h0 : Heap} {bt : Nat → Nat → Bool}
def Kept (h h' : Heap) : Prop := ∀ b o, h.get? b = some o → h'.get? b = some o
/-- a < b of two items, over any heap that keeps h0 -/
def LtOver (prog : Program) (w : World) (A : Around) (h0 : Heap) (P : Nat → Value → Prop) (bt : Nat → Nat → Bool) : Prop :=
  ∀ (i j : Nat) (x y : Value) (s : Shared) (Q E : Value → Shared → Prop), Kept h0 s.heap → P i x → P j y → Q (.bool (bt i j)) s → wpAny (model prog w) A (richCompare .Lt x y) Q E s
structure Own (h0 : Heap) (S : Addr) (fp wr : List Addr) : Prop where
  sfp : S ∉ fp
  sub : ∀ b ∈ wr, b ∈ fp
  noS : h0.get? S = none
  now : ∀ b ∈ wr, h0.get? b = none
theorem loop_name : (toString "min" ++ toString ".loop" : String) = "min.loop" := by decide
theorem min_turns (W : Walks prog w A.in1 I fp wr n P St) (cmp : LtOver prog w A.in1 h0 P bt) (O : Own h0 S fp wr) :
    ∀ (m j : Nat) (s : Shared) (v : Value) (c : Nat), n = j + 1 + m → St (j + 1) s.heap → P (argBest bt j) v → s.heap.get? S = some (seqObj "list" #[v, v] c) → Kept h0 s.heap →
    (∀ x h' tk, P (argBest bt (n - 1)) x → Kept h0 h' → (∀ b o, b ∉ wr → b ≠ S → s.heap.get? b = some o → h'.get? b = some o) → R (.ok (.ret x)) { s with heap := h', toks := tk }) →
    codeAny (model prog w) A (.builtin "min.loop" ⟨[.ref I, .none, .ref S], []⟩) R s := by
  have sw : S ∉ wr := fun z => O.sfp (O.sub _ z)
  intro m
  induction m with
  | zero =>
    intro j s v c hn st p hS k0 fin
    have hn' : j + 1 = n := by omega
    refine codeAny_builtin PySem.F.entry_min_loop ?_
    rw [Around.under_plainId PySem.F.plain_min_loop _]
    refine wpAny_bind (wpAny_seqItems hS rfl (wpAny_bind (wpAny_tryCatch (W.done s _ _ (hn' ▸ st) fun h' tk kp => ?_))))
    have hS' := kp S _ sw hS
    refine wpAny_bind (wpAny_updateSeq hS' rfl (wpAny_bind (wpAny_letGo (wpAny_pure ?_))))
    have e : n - 1 = j := by omega
    refine fin v _ tk (by rw [e]; exact p) (fun b o q => ?_) fun b o hb hbS q => (Heap.get?_update_other _ _ (Ne.symm hbS)).trans (kp b o hb q)
    have n1 : S ≠ b := fun z => by rw [← z, O.noS] at q; cases q
    have n2 : b ∉ wr := fun z => by rw [O.now b z] at q; cases q
    exact (Heap.get?_update_other _ _ n1).trans (kp b o n2 (k0 b o q))
  | succ m ih =>
    intro j s v c hn st p hS k0 fin
    refine codeAny_builtin PySem.F.entry_min_loop ?_
    rw [Around.under_plainId PySem.F.plain_min_loop _]
    refine wpAny_bind (wpAny_seqItems hS rfl (wpAny_bind (wpAny_tryCatch (W.item (j + 1) s _ _ (by omega) st fun x h' tk px st' kp => ?_))))
    have hS' := kp S _ sw hS
    have k1 : Kept h0 h' := fun b o q => kp b o (fun z => by rw [O.now b z] at q; cases q) (k0 b o q)
    show wpAny _ _ (tryCatch (holding [x, x] (richCompare .Lt x v >>= _)) _ >>= _) _ _ _
    refine wpAny_bind (wpAny_tryCatch (wpAny_holding (wpAny_bind (cmp (j + 1) (argBest bt j) x v _ _ _ k1 px p ?_))))
    refine wpAny_bind (wpAny_holding (wpAny_truthy_bool (wpAny_bind (wpAny_letGo (wpAny_pure ?_)))))
    by_cases hb : bt (j + 1) (argBest bt j) = true
    · rw [hb]
      simp only [if_true]
      refine wpAny_bind ?_
      refine wpAny_updateSeq hS' rfl (wpAny_bind (wpAny_letGo ?_))
      rw [loop_name]
      refine wpAny_pure ⟨plainId_quiet PySem.F.plain_min_loop _, ih (j + 1) _ x _ (by omega) (W.frame _ _ _ st' fun b hf o q => ?_) (by unfold argBest; rw [if_pos hb]; exact px) (Heap.get?_update_self _ hS' rfl) (fun b o q => ?_)
        fun x' h'' tk' px' k2 kp' => fin x' h'' tk' px' k2 fun b o hbw hbS q => kp' b o hbw hbS ((Heap.get?_update_other _ _ (Ne.symm hbS)).trans (kp b o hbw q))⟩
      · exact (Heap.get?_update_other _ _ (fun z : S = b => O.sfp (by rw [z]; exact hf))).trans q
      · exact (Heap.get?_update_other _ _ (fun z : S = b => by rw [← z, O.noS] at q; cases q)).trans (k1 b o q)
    · have hb' : bt (j + 1) (argBest bt j) = false := by simpa using hb
      rw [hb']
      simp only [Bool.false_eq_true, if_false]
      refine wpAny_bind (wpAny_letGo ?_)
      rw [loop_name]
      exact wpAny_pure ⟨plainId_quiet PySem.F.plain_min_loop _, ih (j + 1) _ v c (by omega) st' (by unfold argBest; rw [if_neg hb]; exact p) hS' k1
        fun x' h'' tk' px' k2 kp' => fin x' h'' tk' px' k2 fun b o hbw hbS q => kp' b o hbw hbS (kp b o hbw q)⟩
theorem min_first (W : Walks prog w A.in1 I fp wr n P St) (cmp : LtOver prog w A.in1 h0 P bt) (O : Own h0 S fp wr) (hn : 0 < n) {s : Shared} {c : Nat} (st : St 0 s.heap) (hS : s.heap.get? S = some (seqObj "list" #[] c)) (k0 : Kept h0 s.heap)
    (fin : ∀ x h' tk, P (argBest bt (n - 1)) x → Kept h0 h' → (∀ b o, b ∉ wr → b ≠ S → s.heap.get? b = some o → h'.get? b = some o) → R (.ok (.ret x)) { s with heap := h', toks := tk }) :
    codeAny (model prog w) A (.builtin "min.loop" ⟨[.ref I, .none, .ref S], []⟩) R s := by
  have sw : S ∉ wr := fun z => O.sfp (O.sub _ z)
  refine codeAny_builtin PySem.F.entry_min_loop ?_
  rw [Around.under_plainId PySem.F.plain_min_loop _]
  refine wpAny_bind (wpAny_seqItems hS rfl (wpAny_bind (wpAny_tryCatch (W.item 0 s _ _ hn st fun x h' tk px st' kp => ?_))))
  have hS' := kp S _ sw hS
  have k1 : Kept h0 h' := fun b o q => kp b o (fun z => by rw [O.now b z] at q; cases q) (k0 b o q)
  show wpAny _ _ (updateSeq S (fun _ => #[x, x]) >>= _) _ _ _
  refine wpAny_bind ?_
  refine wpAny_updateSeq hS' rfl ?_
  rw [loop_name]
  refine wpAny_pure ⟨plainId_quiet PySem.F.plain_min_loop _, min_turns W cmp O (n - 1) 0 _ x _ (by omega) (W.frame _ _ _ st' fun b hf o q => ?_) px (Heap.get?_update_self _ hS' rfl) (fun b o q => ?_)
    fun x' h'' tk' px' k2 kp' => fin x' h'' tk' px' k2 fun b o hbw hbS q => kp' b o hbw hbS ((Heap.get?_update_other _ _ (Ne.symm hbS)).trans (kp b o hbw q))⟩
  · exact (Heap.get?_update_other _ _ (fun z : S = b => O.sfp (by rw [z]; exact hf))).trans q
  · exact (Heap.get?_update_other _ _ (fun z : S = b => by rw [← z, O.noS] at q; cases q)).trans (k1 b o q)
end
section
variable {prog : Program} {w : World} {A : Around} {E : Value → Shared → Prop} {s : Shared}
theorem min_list_over {l : Addr} {its : List Value} {bt : Nat → Nat → Bool} {Q : Value → Shared → Prop} (hh : A.handled = none) (hl : s.heap.IsList l its.toArray) (hne : 0 < its.length)
    (cmp : LtOver prog w A.in1 s.heap (fun i v => its[i]? = some v) bt)
    (h : ∀ v h' tk, its[argBest bt (its.length - 1)]? = some v → Kept s.heap h' → Q v { s with heap := h', toks := tk }) :
    wpAny (model prog w) A (call (.builtin "min") [.ref l]) Q E s := by
  have hlt : l < s.heap.objs.size := by obtain ⟨_, e, _⟩ := hl; exact Heap.lt_size e
  refine call_function_tree PySem.F.kind_min PySem.F.plain_min PySem.F.entry_min (PySem.F.args_min1 _) ?_
  show wpAny _ A.in1 (Builtin.Builtins.bindParams "min" ["key", "default"] 0 ⟨[], []⟩ >>= _) _ _ s
  refine wpAny_bind (wpAny_of_eq (show Builtin.Builtins.bindParams "min" ["key", "default"] 0 ⟨[], []⟩ = pure [none, none] from rfl) (wpAny_bind (wpAny_pure ?_)))
  refine wpAny_bind (wpAny_pyIter_list hl ?_)
  let h1 : Heap := s.heap.push { cls := .type "list_iterator", data := .fields #[.ref l, .int 0 0] }
  have z1 : h1.objs.size = s.heap.objs.size + 1 := Heap.size_push ..
  have k1 : Kept s.heap h1 := fun b o q => Heap.get?_push_of_some _ q
  refine wpAny_bind (wpAny_newObj_type ?_)
  rw [loop_name]
  have W := Walks.list (prog := prog) (w := w) (A := A.in1) hh s.heap.objs.size l (Nat.ne_of_lt hlt) its.toArray
  have none_at : ∀ b, s.heap.objs.size ≤ b → s.heap.get? b = none := fun b hb => Heap.get?_none_of_le hb
  have O : Own s.heap h1.objs.size [s.heap.objs.size, l] [s.heap.objs.size] := by
    refine ⟨fun m => ?_, fun b hb => ?_, none_at _ (by rw [z1]; exact Nat.le_succ _), fun b hb => ?_⟩
    · rw [z1] at m
      rcases List.mem_cons.mp m with e | m
      · exact absurd e (Nat.succ_ne_self _)
      · rcases List.mem_cons.mp m with e | m
        · rw [← e] at hlt
          exact absurd hlt (Nat.not_lt.mpr (Nat.le_succ _))
        · cases m
    · rw [List.mem_singleton.mp hb]
      exact List.mem_cons_self
    · rw [List.mem_singleton.mp hb]
      exact none_at _ (Nat.le_refl _)
  refine wpAny_pure ⟨plainId_quiet PySem.F.plain_min_loop _, min_first (h0 := s.heap) (bt := bt) (S := h1.objs.size) W (fun i j x y s' Q E k p q => cmp i j x y s' Q E k (by simpa using p) (by simpa using q)) O (by simpa using hne) ?_ (Heap.get?_push_size _ rfl) (fun b o q => Heap.get?_push_of_some _ (k1 b o q)) fun x h' tk px k2 kp => ?_⟩
  · exact ⟨⟨_, Heap.get?_push_of_some _ (Heap.get?_push_size _ rfl), rfl, rfl⟩, (hl.push _).push _⟩
  · exact h x h' tk (by simpa using px) k2
end

/-! ### min, sorted of a list of alike data -/
theorem dpAll_get {K : PySem.W.Frag} {H : Hp} : ∀ {vs : List V} {ds : List PyData} {i : Nat} {v : V}, DpAll K H vs ds → vs[i]? = some v → ∃ d, ds[i]? = some d ∧ Dp K H v d
  | [], [], _, _, _, h => by simp at h
  | v' :: vs, d' :: ds, 0, v, .cons h1 h2, e => by
    simp at e
    subst e
    exact ⟨d', rfl, h1⟩
  | v' :: vs, d' :: ds, i + 1, v, .cons h1 h2, e => by
    obtain ⟨d, e1, e2⟩ := dpAll_get (i := i) h2 (by simpa using e)
    exact ⟨d, by simpa using e1, e2⟩
theorem dpAll_get' {K : PySem.W.Frag} {H : Hp} : ∀ {vs : List V} {ds : List PyData} {i : Nat} {d : PyData}, DpAll K H vs ds → ds[i]? = some d → ∃ v, vs[i]? = some v ∧ Dp K H v d
  | [], [], _, _, _, h => by simp at h
  | v' :: vs, d' :: ds, 0, v, .cons h1 h2, e => by
    simp at e
    subst e
    exact ⟨v', rfl, h1⟩
  | v' :: vs, d' :: ds, i + 1, v, .cons h1 h2, e => by
    obtain ⟨d, e1, e2⟩ := dpAll_get' (i := i) h2 (by simpa using e)
    exact ⟨d, by simpa using e1, e2⟩
theorem dpAll_len {K : PySem.W.Frag} {H : Hp} : ∀ {vs : List V} {ds : List PyData}, DpAll K H vs ds → vs.length = ds.length
  | [], [], _ => rfl
  | _ :: _, _ :: _, .cons _ h => by rw [List.length_cons, List.length_cons, dpAll_len h]
theorem argBest_le (bt : Nat → Nat → Bool) : ∀ k, argBest bt k ≤ k
  | 0 => Nat.le_refl _
  | k + 1 => by
    unfold argBest
    split
    · exact Nat.le_refl _
    · exact Nat.le_succ_of_le (argBest_le bt k)
/-- the least by a strict order that is total where needed -/
theorem argBest_least {bt : Nat → Nat → Bool} {n : Nat} (tr : ∀ i j k, i < n → j < n → k < n → bt i j = false → bt j k = false → bt i k = false) (irr : ∀ i, i < n → bt i i = false) (asy : ∀ i j, i < n → j < n → bt i j = true → bt j i = false) :
    ∀ k, k < n → ∀ j, j ≤ k → bt j (argBest bt k) = false
  | 0, hk, j, hj => by
    have e : j = 0 := by omega
    subst e
    exact irr 0 hk
  | k + 1, hk, j, hj => by
    have ih := argBest_least tr irr asy k (by omega)
    have hb := argBest_le bt k
    unfold argBest
    by_cases h : bt (k + 1) (argBest bt k) = true
    · rw [if_pos h]
      by_cases e : j = k + 1
      · rw [e]; exact irr _ hk
      · exact tr j (argBest bt k) (k + 1) (by omega) (by omega) hk (ih j (by omega)) (asy _ _ hk (by omega) h)
    · rw [if_neg h]
      by_cases e : j = k + 1
      · rw [e]; simpa using h
      · exact ih j (by omega)
section
variable {X : Cx}
/-- min(xs): the item at the place that argBest tells -/
def rMinD (K : PySem.W.Frag) (A : Around) : List V → Hp → VK → Prop := fun xs H Q => ∃ (a : Addr) (vs : List V) (ds : List PyData), xs = [V.ref a] ∧ SqL K H a vs ∧ DpAll K H vs ds ∧ 0 < ds.length ∧
  (∀ d ∈ ds, ∀ e ∈ ds, PySem.W.alike d e = true ∧ d ≠ .none ∧ A.units + 1 + min d.depth e.depth < cLine) ∧
  ∀ v, vs[argBest (fun i j => PySem.W.dataLt (ds.getD i .none) (ds.getD j .none)) (ds.length - 1)]? = some v → Q v H
theorem cr_minD (hc : X.calm = true) : CallR X (.builtin "min") (rMinD X.K X.A) := by
  intro pins s σ H xs us Q I r h
  obtain ⟨a, vs, ds, rfl, hs, hd, hne, hal, q⟩ := h
  obtain ⟨its, rv, hl, _⟩ := I.list hs
  rw [Vals.ref1 r]
  have hlen : its.length = ds.length := by rw [← rv.length, dpAll_len hd]
  refine min_list_over (bt := fun i j => PySem.W.dataLt (ds.getD i .none) (ds.getD j .none)) (I.ok.hd hc) hl.isList (by omega) (fun i j x y s' Q' E' k hx hy hq => ?_) fun v h' tk hv k => ?_
  · obtain ⟨vi, ei, ri⟩ : ∃ v, vs[i]? = some v ∧ RelV v x := by
      have hi := (List.getElem?_eq_some_iff.mp hx).1
      have hi' : i < vs.length := by rw [rv.length]; exact hi
      obtain ⟨u, h1, h2⟩ := rv.get (i := i) (x := vs[i]) (List.getElem?_eq_getElem hi')
      rw [hx] at h1
      cases h1
      exact ⟨_, List.getElem?_eq_getElem hi', h2⟩
    obtain ⟨vj, ej, rj⟩ : ∃ v, vs[j]? = some v ∧ RelV v y := by
      have hi := (List.getElem?_eq_some_iff.mp hy).1
      have hi' : j < vs.length := by rw [rv.length]; exact hi
      obtain ⟨u, h1, h2⟩ := rv.get (i := j) (x := vs[j]) (List.getElem?_eq_getElem hi')
      rw [hy] at h1
      cases h1
      exact ⟨_, List.getElem?_eq_getElem hi', h2⟩
    obtain ⟨di, f1, g1⟩ := dpAll_get hd ei
    obtain ⟨dj, f2, g2⟩ := dpAll_get hd ej
    obtain ⟨as, t1⟩ := Dp.reads I di vi x g1 ri
    obtain ⟨bs, t2⟩ := Dp.reads I dj vj y g2 rj
    obtain ⟨c1, c2, c3⟩ := hal di (List.mem_of_getElem? f1) dj (List.mem_of_getElem? f2)
    have e1 : ds.getD i .none = di := by rw [List.getD_eq_getElem?_getD, f1]; rfl
    have e2 : ds.getD j .none = dj := by rw [List.getD_eq_getElem?_getD, f2]; rfl
    simp only [e1, e2] at hq
    exact PySem.W.rcLt_alike di dj X.A.in1 s' x y as bs (PyProof.Rows.Reads.keeps k t1) (PyProof.Rows.Reads.keeps k t2) c1 c2 (by show X.A.in1.units + min di.depth dj.depth < cLine; rw [show X.A.in1.units = X.A.units + 1 from rfl]; exact c3) X.prog X.w E' Q' hq
  · rw [hlen] at hv
    obtain ⟨v', e', r'⟩ : ∃ v', vs[argBest (fun i j => PySem.W.dataLt (ds.getD i .none) (ds.getD j .none)) (ds.length - 1)]? = some v' ∧ RelV v' v := by
      have hi := (List.getElem?_eq_some_iff.mp hv).1
      have hi' : argBest (fun i j => PySem.W.dataLt (ds.getD i .none) (ds.getD j .none)) (ds.length - 1) < vs.length := by rw [rv.length]; exact hi
      obtain ⟨u, h1, h2⟩ := rv.get (x := vs[argBest (fun i j => PySem.W.dataLt (ds.getD i .none) (ds.getD j .none)) (ds.length - 1)]) (List.getElem?_eq_getElem hi')
      rw [hv] at h1
      cases h1
      exact ⟨_, List.getElem?_eq_getElem hi', h2⟩
    exact ⟨v', H, I.kept (t' := tk) k, r', q v' e'⟩
end
end R1

set_option Elab.async false
set_option linter.all false
set_option maxRecDepth 100000
set_option maxHeartbeats 1000000
/-! enumerate over a tuple; the told def -/
namespace R1
open PySem PySem.Spec PyProof.Rows L2

theorem meets_enum1 {v : Value} {o : Obj} {G : Heap → Prop} (B : Begins v o G) :
    Meets (Builtin.«enumerate.__new__» ⟨[.type "enumerate", v], []⟩) (fun _ R s => G s.heap ∧
      R (.ok (.ret (.ref (s.heap.push o).objs.size))) { s with heap := (s.heap.push o).push { cls := .type "enumerate", data := .fields #[.none, .bool false, .ref s.heap.objs.size, rawInt 0, .none, .none] } }) :=
  .of_wp fun prog w A R s h => by
    obtain ⟨hp, g, d, tk, os⟩ := s
    obtain ⟨g0, h⟩ := h
    have hsub := sub_enumerate
    have go : ∀ {A' : Around} {E : Value → Shared → Prop} {Q : Value → Shared → Prop}, Q (.ref hp.objs.size) ⟨hp.push o, g, d, tk, os⟩ → wpAny (model prog w) A' (pyIter v) Q E ⟨hp, g, d, tk, os⟩ :=
      fun q => B.iter prog w _ _ ⟨hp, g, d, tk, os⟩ _ g0 q
    wp_walk using go
    refine wpAny_stack_any fun st => wpAny_pure ?_
    split
    · rename_i c _ _ _ _ _
      cases (c == Value.type "enumerate")
      · wp_walk using go
        exact ⟨_, rfl, h⟩
      · wp_walk using go
        exact ⟨_, rfl, h⟩
    · wp_walk using go
      exact ⟨_, rfl, h⟩
section
variable {prog : Program} {w : World} {A : Around} {E : Value → Shared → Prop} {s : Shared}
theorem call_enum1 {v : Value} {o : Obj} {G : Heap → Prop} {Q : Value → Shared → Prop} (B : Begins v o G) (g0 : G s.heap)
    (h : ∀ h', IsEnum h' (s.heap.objs.size + 1) s.heap.objs.size 0 .none → h'.get? s.heap.objs.size = some o → Kept s.heap h' → Q (.ref (s.heap.objs.size + 1)) { s with heap := h' }) :
    wpAny (model prog w) A (call (.type "enumerate") [v]) Q E s := by
  have hz : (s.heap.push o).objs.size = s.heap.objs.size + 1 := Heap.size_push ..
  have he : IsEnum ((s.heap.push o).push { cls := .type "enumerate", data := .fields #[.none, .bool false, .ref s.heap.objs.size, rawInt 0, .none, .none] }) (s.heap.objs.size + 1) s.heap.objs.size 0 .none := by
    rw [← hz]
    exact Heap.get?_push_size _ rfl
  refine callType_new F.called_enumerate (by decide) (F.typeCall_enumerate_1 _) (F.newCall_enumerate_1 _) (fun obj => F.args_object_init_2 obj _) F.entry_enumerate_new (meets_enum1 B) ⟨g0, ?_⟩
  show _ ∧ _
  rw [hz]
  exact ⟨⟨_, he, rfl⟩, h _ he (Heap.get?_push_of_some _ (Heap.get?_push_size _ B.free)) fun b o q => Heap.get?_push_of_some _ (Heap.get?_push_of_some _ q)⟩
end
/-- the tuple at a, each item in a new pair with its place -/
def IteT (K : PySem.W.Frag) (a : Addr) : It where
  go := fun i H => ∃ (xs : List V) (x : V), SqT K H a xs ∧ xs[i]? = some x
  yld := fun i H v H' => ∃ T x, v = .ref T ∧ H T = none ∧ H' = upd H T (.tup [.int (i : Nat), x]) ∧ ∀ xs, SqT K H a xs → xs[i]? = some x
  stop := fun i H => ∃ xs : List V, SqT K H a xs ∧ xs.length ≤ i
theorem turn_enumT {P : Program} {w : World} {K : PySem.W.Frag} {elts : List Expr} {kk : Nat} {tpos : Pos} (a e it : Addr) (ae : a ≠ e) (ai : a ≠ it) (ei : e ≠ it) :
    Turn P w K (.Tuple elts kk tpos) (IteT K a) [e, it] e (fun i h => (∃ old, IsEnum h e it ((i : Nat) : Int) old) ∧ h.IsTupleIter it a i) where
  mem := List.mem_cons_self
  obj := by
    rintro i h ⟨⟨old, he⟩, ⟨o, ho, hc, hd⟩⟩ b hb
    rcases List.mem_cons.mp hb with z | z
    · subst z
      exact ⟨_, he, fun v q => nomatch q⟩
    · have z := List.mem_singleton.mp z
      subst z
      exact ⟨o, ho, fun v q => by rw [hd] at q; cases q⟩
  keep := by
    rintro i h h' ⟨⟨old, he⟩, hi⟩ k
    exact ⟨⟨old, k e List.mem_cons_self _ he⟩, hi.at fun o q => k it (List.mem_cons_of_mem _ List.mem_cons_self) o q⟩
  item := by
    intro X hP hw hK hc i pins s σ H E I hf st hg
    subst hP hw hK
    obtain ⟨⟨old, he⟩, hit⟩ := st
    obtain ⟨xs, x, hq, hx⟩ := hg
    obtain ⟨its, rv, p, hz⟩ := I.tuple hq
    obtain ⟨u, hu, ru⟩ := rv.get hx
    have hel : e < s.heap.objs.size := Heap.lt_size he
    have hil : it < s.heap.objs.size := by obtain ⟨_, q, _⟩ := hit; exact Heap.lt_size q
    have hlt : i < its.toArray.size := by
      have := (List.getElem?_eq_some_iff.mp hu).1
      simpa using this
    have Dr := Draws.tuple (prog := X.prog) (w := X.w) (A := X.A.in1) (I.ok.hd hc) it a ai its.toArray
    refine wpAny_pyNext_enum_itemD Dr he ⟨hit, p⟩ hlt ei (fun m => ?_) fun u' h' tk hP ho hst hT hsz hk => ?_
    · rcases List.mem_cons.mp m with q | q
      · exact ei q
      · exact ae (List.mem_singleton.mp q).symm
    have eu : u' = u := by
      have hP : its.toArray[i]? = some u' := hP
      have : its[i]? = some u' := by simpa using hP
      rw [hu] at this
      exact (Option.some.inj this).symm
    subst eu
    refine ⟨_, rfl, wpAny_letOwnedTupleGo_enum (s := { s with heap := h', toks := tk + 1 }) ho fun h'' he' sb => ?_⟩
    have hT2 : h''.get? s.heap.objs.size = some { cls := .type "tuple", data := .seq #[.int i tk, u'] } := (sb.2 _ (Nat.ne_of_gt hel)).trans hT
    have new : ObjOk X.prog X.w (upd H s.heap.objs.size (.tup [.int (i : Nat), x])) h'' s.heap.objs.size (.tup [.int (i : Nat), x]) :=
      ⟨by show 2 ≤ sizeLine; decide, [.int i tk, u'], .cons ⟨_, rfl⟩ (.cons ru .nil), ⟨_, hT2, rfl, _, rfl⟩⟩
    have ne_ : ∀ {b : Addr}, b ∉ [e, it] → b ≠ e ∧ b ≠ it := fun hb => ⟨fun z => hb (by simp [z]), fun z => hb (by simp [z])⟩
    have I1 : Inv X pins σ (upd H s.heap.objs.size (.tup [.int (i : Nat), x])) { s with heap := h'', toks := tk + 1 } :=
      I.turnedNew (ch := [e, it]) (fun b ob hb q => (sb.2 b (ne_ hb).1).trans (hk b ob (ne_ hb).1 (ne_ hb).2 q)) hf (Nat.le_refl _) new
    refine ⟨.ref s.heap.objs.size, _, I1, rfl, ⟨_, x, rfl, I.hok.fresh (Nat.le_refl _), rfl, fun ys hy => by rw [I.tuple_inj hy hq]; exact hx⟩, ⟨⟨u', ?_⟩, hst.1.at fun o q => (sb.2 it (Ne.symm ei)).trans q⟩, fun b hb => ?_⟩
    · rw [show ((i + 1 : Nat) : Int) = (i : Int) + 1 by omega]
      exact he'
    · have hb' : b < s.heap.objs.size := by
        rcases List.mem_cons.mp hb with z | z
        · rw [z]; exact hel
        · rw [List.mem_singleton.mp z]; exact hil
      rw [upd_ne (Nat.ne_of_lt hb')]
      exact (hf b hb).1
  done := by
    intro X hP hw hK hc i pins s σ H E I hf st hg
    subst hP hw hK
    obtain ⟨⟨old, he⟩, hit⟩ := st
    obtain ⟨xs, hq, hx⟩ := hg
    obtain ⟨its, rv, p, hz⟩ := I.tuple hq
    obtain ⟨f0, f1, f2, f3, f4, f5⟩ := hf it (List.mem_cons_of_mem _ List.mem_cons_self)
    have hl := rv.length
    have hnone : its.toArray[i]? = none := by simp; omega
    have hT : (s.TypeIs (.ref e) "enumerate") := ⟨_, he, rfl⟩
    unfold pyNext
    refine wpAny_bind (wpAny_attempt (wpAny_callSpecial?_slot (name := Str.ofString "__next__") hT F.slot_enumerate_next (wpAny_call_entry F.slot_enumerate_next hT F.entry_enumerate_next ?_ (F.args_enumerate_next_1 _))))
    show wpAny _ _ (field (.ref e) 2 >>= _) _ _ _
    refine wpAny_bind (wpAny_field he rfl (x := .ref it) rfl ?_)
    refine wpAny_bind (wpAny_nextOf_tuple_end (I.ok.hd hc) hit p hnone fun h' x he' hx' => ?_)
    obtain ⟨o, ho, hcl⟩ := hx'
    refine wpAny_bind (wpAny_isInstance (T := "StopIteration") (b := true) ⟨o, ho, hcl⟩ isSubtype_stop ?_)
    exact wpAny_pure ⟨rfl, I.turned (t' := s.toks) (fun b o hb q => he' b o hb q) f0 f1 f3 f4 f5⟩
  self := by
    rintro A i s Q E ⟨⟨_, he⟩, _⟩ h
    exact wpAny_pyIter_enum he h
def iEnumT (K : PySem.W.Frag) (ta : TA) : TI := fun σ H R => ta σ H fun vs H1 => ∃ a xs, vs = [.ref a] ∧ SqT K H1 a xs ∧ R (IteT K a) H1
theorem pi_enumT {X : Cx} {e : Expr} {ta : TA} {p pos tpos : Pos} {elts : List Expr} {kk : Nat} (hg : Gl X "enumerate") (hm : X.mg "enumerate" = none) (ha : PA X [e] ta) (hs : starEach [e] X.env = [(false, eval e X.env)] := by rfl) :
    PI X (.Tuple elts kk tpos) (.Call (.Name "enumerate" p) [e] [] pos) (iEnumT X.K ta) := by
  refine ⟨fun pins s σ H R I h => ?_⟩
  refine Call_ (ld_blt I hg hm boot_enumerate (PyProof.Rows.callWith_type1 (thn (ha.run pos pins s σ H _ I h) fun us s1 ⟨vs, H1, I1, r1, q1⟩ => ?_) hs rfl))
  obtain ⟨a, xs, ex, hq, q⟩ := q1
  subst ex
  cases r1 with
  | cons r rr =>
    cases rr
    cases r
    obtain ⟨its, rv, p', hz⟩ := I1.tuple hq
    have alt : a < s1.heap.objs.size := by obtain ⟨_, z, _⟩ := p'; exact Heap.lt_size z
    refine call_enum1 (begins_tuple a its.toArray) p' fun h' he hit k => wpAny_pyIter_enum he ?_
    have I2 : Inv X pins σ H1 { s1 with heap := h' } := I1.kept (t' := s1.toks) k
    refine ⟨s1.heap.objs.size + 1, [s1.heap.objs.size + 1, s1.heap.objs.size], _, _, H1, rfl, I2, turn_enumT a (s1.heap.objs.size + 1) s1.heap.objs.size (Nat.ne_of_lt (Nat.lt_succ_of_lt alt)) (Nat.ne_of_lt alt) (Nat.succ_ne_self _), ⟨⟨.none, he⟩, ⟨_, hit, rfl, rfl⟩⟩, fun b hb => ?_, q⟩
    have hle : s1.heap.objs.size ≤ b := by
      rcases List.mem_cons.mp hb with z | z
      · rw [z]; exact Nat.le_succ _
      · rw [List.mem_singleton.mp z]; exact Nat.le_refl _
    exact I1.fpOk hle (I1.hok.fresh hle)
/-- a loop over enumerate of a tuple -/
theorem for_enumT {K : PySem.W.Frag} {a : Addr} {xs : List V} {g : TG} {tb : TS} {D : Ends} {σ : L2.St} {H : Hp} (Pv : Nat → L2.St → Hp → Prop) (h0 : Pv 0 σ H) (hq : ∀ i σ H, Pv i σ H → SqT K H a xs)
    (hs : ∀ (i : Nat) (x : V) (T : Addr) (σ : L2.St) (H : Hp), xs[i]? = some x → Pv i σ H → H T = none → g (.ref T) σ (upd H T (.tup [.int (i : Nat), x])) fun σ2 H2 => tb { D with nx := Pv (i + 1), ct := Pv (i + 1), bk := D.nx } σ2 H2) (hd : ∀ σ H, Pv xs.length σ H → D.nx σ H) :
    ∃ W : Nat → Nat → L2.St → Hp → Prop, (∃ m, W 0 m σ H) ∧ ∀ i m σ H, W i m σ H →
      ((IteT K a).stop i H ∧ D.nx σ H) ∨ ((IteT K a).go i H ∧ ∃ N : L2.St → Hp → Prop, (∀ σ' H', N σ' H' → ∃ m', m' < m ∧ W (i + 1) m' σ' H') ∧ ∀ v H', (IteT K a).yld i H v H' → g v σ H' fun σ2 H2 => tb { D with nx := N, ct := N, bk := D.nx } σ2 H2) := by
  refine ⟨fun i m σ H => m = xs.length - i ∧ i ≤ xs.length ∧ Pv i σ H, ⟨xs.length, rfl, Nat.zero_le _, h0⟩, ?_⟩
  rintro i m σ H ⟨rfl, hi, p⟩
  have qx := hq i σ H p
  by_cases hlt : i < xs.length
  · refine .inr ⟨⟨xs, _, qx, List.getElem?_eq_getElem hlt⟩, Pv (i + 1), fun σ' H' p' => ⟨xs.length - (i + 1), by omega, rfl, hlt, p'⟩, fun v H' y => ?_⟩
    obtain ⟨T, x', rfl, hT, rfl, f1⟩ := y
    exact hs i x' T σ H (f1 xs qx) p hT
  · have e : i = xs.length := by omega
    subst e
    exact .inl ⟨⟨xs, qx, Nat.le_refl _⟩, hd σ H p⟩
end R1

set_option Elab.async false
set_option linter.all false
set_option maxRecDepth 100000
set_option maxHeartbeats 1000000
/-! readings that evaluate to data -/
namespace DV
open PySem PySem.Spec PyProof.Rows L2 Evl R1 StX

/-! ### data that stay -/
section
variable {K : PySem.W.Frag} {H H' : Hp}
mutual
theorem dp_ex (e : Ex H H') : ∀ {d : PyData} {v : V}, Dp K H v d → Dp K H' v d
  | .none, _, .non => .non
  | .bool b, _, .bl _ => .bl b
  | .int i, _, .int _ => .int i
  | .str x, _, .str _ => .str x
  | .list ds, _, .lst h a => .lst (ex_l e h) (dpAll_ex e a)
  | .tuple ds, _, .tup h a => .tup (ex_t e h) (dpAll_ex e a)
theorem dpAll_ex (e : Ex H H') : ∀ {ds : List PyData} {vs : List V}, DpAll K H vs ds → DpAll K H' vs ds
  | [], _, .nil => .nil
  | _ :: _, _, .cons h a => .cons (dp_ex e h) (dpAll_ex e a)
end
mutual
/-- no list within -/
def nl : PyData → Bool
  | .list _ => false
  | .dict _ => false
  | .tuple ds => nlAll ds
  | .none => true
  | .bool _ => true
  | .int _ => true
  | .str _ => true
def nlAll : List PyData → Bool
  | [] => true
  | d :: ds => nl d && nlAll ds
end
/-- all but what stands at a is as it was -/
def But (a : Addr) (H H' : Hp) : Prop := ∀ b o, b ≠ a → H b = some o → H' b = some o
theorem But.refl (a : Addr) (H : Hp) : But a H H := fun _ _ _ h => h
theorem But.trans {a : Addr} {H H1 H2 : Hp} (x : But a H H1) (y : But a H1 H2) : But a H H2 := fun b o n h => y b o n (x b o n h)
theorem But.of {a : Addr} (e : Ex H H') : But a H H' := fun b o _ h => e b o h
theorem But.upd {a : Addr} {o : HO} : But a H (upd H a o) := fun b u n h => by
  rw [upd_ne n]
  exact h
/-- what changes is a list -/
def Lsty (a : Addr) (H : Hp) : Prop := ∃ xs, H a = some (.lst xs)
theorem but_t {a b : Addr} {xs : List V} (e : But a H H') (l : Lsty a H) (h : SqT K H b xs) : SqT K H' b xs := by
  obtain ⟨ys, l⟩ := l
  rcases h with (h | ⟨o, h⟩) | h
  · exact .inl (.inl (e b _ (fun z => by rw [z, l] at h; cases h) h))
  · exact .inl (.inr ⟨o, e b _ (fun z => by rw [z, l] at h; cases h) h⟩)
  · exact .inr h
mutual
theorem dp_but {a : Addr} (e : But a H H') (l : Lsty a H) : ∀ {d : PyData} {v : V}, nl d = true → Dp K H v d → Dp K H' v d
  | .none, _, _, .non => .non
  | .bool b, _, _, .bl _ => .bl b
  | .int i, _, _, .int _ => .int i
  | .str x, _, _, .str _ => .str x
  | .list ds, _, z, .lst h b => by simp [nl] at z
  | .tuple ds, _, z, .tup h b => .tup (but_t e l h) (dpAll_but e l (by simpa [nl] using z) b)
theorem dpAll_but {a : Addr} (e : But a H H') (l : Lsty a H) : ∀ {ds : List PyData} {vs : List V}, nlAll ds = true → DpAll K H vs ds → DpAll K H' vs ds
  | [], _, _, .nil => .nil
  | d :: ds, _, z, .cons h b => by
    have z' : nl d = true ∧ nlAll ds = true := by simpa [nlAll] using z
    exact .cons (dp_but e l z'.1 h) (dpAll_but e l z'.2 b)
end
theorem nlAll_iff : ∀ {ds : List PyData}, nlAll ds = true ↔ ∀ d ∈ ds, nl d = true
  | [] => by simp [nlAll]
  | d :: ds => by
    rw [nlAll, Bool.and_eq_true, nlAll_iff]
    simp
theorem nl_ints (ns : List Int) : nlAll (ns.map .int) = true := nlAll_iff.mpr fun d h => by
  obtain ⟨n, _, rfl⟩ := List.mem_map.mp h
  rfl
/-! ### readings of data -/
theorem dp_int {v : V} {n : Int} (h : Dp K H v (.int n)) : v = .int n := by cases h; rfl
theorem dp_bool {v : V} {b : Bool} (h : Dp K H v (.bool b)) : v = .bl b := by cases h; rfl
theorem dp_none {v : V} (h : Dp K H v .none) : v = .non := by cases h; rfl
theorem dp_tup {v : V} {ds : List PyData} (h : Dp K H v (.tuple ds)) : ∃ a xs, v = .ref a ∧ SqT K H a xs ∧ DpAll K H xs ds := by
  cases h with
  | tup h1 h2 => exact ⟨_, _, rfl, h1, h2⟩
theorem dp_lst {v : V} {ds : List PyData} (h : Dp K H v (.list ds)) : ∃ a xs, v = .ref a ∧ SqL K H a xs ∧ DpAll K H xs ds := by
  cases h with
  | lst h1 h2 => exact ⟨_, _, rfl, h1, h2⟩
theorem dpAll_ints : ∀ {ns : List Int} {vs : List V}, DpAll K H vs (ns.map .int) → vs = ns.map V.int
  | [], _, h => by cases h; rfl
  | n :: ns, _, h => by
    cases h with
    | cons h1 h2 => rw [List.map_cons, dp_int h1, dpAll_ints h2]
theorem ints_dpAll : ∀ (ns : List Int), DpAll K H (ns.map V.int) (ns.map .int)
  | [] => .nil
  | n :: ns => .cons (.int n) (ints_dpAll ns)
theorem dpAll_bools : ∀ {bs : List Bool} {vs : List V}, DpAll K H vs (bs.map .bool) → vs = bs.map V.bl
  | [], _, h => by cases h; rfl
  | n :: ns, _, h => by
    cases h with
    | cons h1 h2 => rw [List.map_cons, dp_bool h1, dpAll_bools h2]
theorem dpAll_app : ∀ {vs ws : List V} {ds es : List PyData}, DpAll K H vs ds → DpAll K H ws es → DpAll K H (vs ++ ws) (ds ++ es)
  | [], _, [], _, _, h => h
  | _ :: _, _, _ :: _, _, .cons a b, h => .cons a (dpAll_app b h)
theorem dpAll_take : ∀ {vs : List V} {ds : List PyData} (n : Nat), DpAll K H vs ds → DpAll K H (vs.take n) (ds.take n)
  | _, _, 0, _ => .nil
  | [], [], n + 1, _ => .nil
  | _ :: _, _ :: _, n + 1, .cons a b => .cons a (dpAll_take n b)
theorem dpAll_rev : ∀ {vs : List V} {ds : List PyData}, DpAll K H vs ds → DpAll K H vs.reverse ds.reverse
  | [], [], _ => .nil
  | _ :: _, _ :: _, .cons a b => by
    rw [List.reverse_cons, List.reverse_cons]
    exact dpAll_app (dpAll_rev b) (.cons a .nil)
theorem dpAll1 {vs : List V} {a : PyData} (h : DpAll K H vs [a]) : ∃ x, vs = [x] ∧ Dp K H x a := by
  cases h with
  | cons h1 h => cases h; exact ⟨_, rfl, h1⟩
theorem dpAll2 {vs : List V} {a b : PyData} (h : DpAll K H vs [a, b]) : ∃ x y, vs = [x, y] ∧ Dp K H x a ∧ Dp K H y b := by
  cases h with
  | cons h1 h =>
    obtain ⟨y, rfl, h2⟩ := dpAll1 h
    exact ⟨_, _, rfl, h1, h2⟩
theorem dpAll3 {vs : List V} {a b c : PyData} (h : DpAll K H vs [a, b, c]) : ∃ x y z, vs = [x, y, z] ∧ Dp K H x a ∧ Dp K H y b ∧ Dp K H z c := by
  cases h with
  | cons h1 h =>
    obtain ⟨y, z, rfl, h2, h3⟩ := dpAll2 h
    exact ⟨_, _, _, rfl, h1, h2, h3⟩
end

/-! ### short names of data -/
abbrev Dt := PyData
def T (ns : List Int) : Dt := .tuple (ns.map .int)
def LI (ns : List Int) : Dt := .list (ns.map .int)
def LT (xs : List (List Int)) : Dt := .list (xs.map T)
theorem nl_T (ns : List Int) : nl (T ns) = true := by
  unfold T
  rw [nl]
  exact nl_ints ns
theorem dp_T {K : PySem.W.Frag} {H : Hp} {v : V} {ns : List Int} (h : Dp K H v (T ns)) : ∃ a, v = .ref a ∧ SqT K H a (ns.map V.int) := by
  obtain ⟨a, xs, rfl, h1, h2⟩ := dp_tup h
  rw [dpAll_ints h2] at h1
  exact ⟨a, rfl, h1⟩
theorem T_dp {K : PySem.W.Frag} {H : Hp} {a : Addr} {ns : List Int} (h : SqT K H a (ns.map V.int)) : Dp K H (.ref a) (T ns) := .tup h (ints_dpAll ns)
theorem dp_LI {K : PySem.W.Frag} {H : Hp} {v : V} {ns : List Int} (h : Dp K H v (LI ns)) : ∃ a, v = .ref a ∧ SqL K H a (ns.map V.int) := by
  obtain ⟨a, xs, rfl, h1, h2⟩ := dp_lst h
  rw [dpAll_ints h2] at h1
  exact ⟨a, rfl, h1⟩
theorem LI_dp {K : PySem.W.Frag} {H : Hp} {a : Addr} {ns : List Int} (h : SqL K H a (ns.map V.int)) : Dp K H (.ref a) (LI ns) := .lst h (ints_dpAll ns)

/-! ### what evaluates to which data -/
def EvD (K : PySem.W.Frag) (te : TE) (σ : L2.St) (H : Hp) (d : Dt) : Prop := ∀ H1, Ex H H1 → ∀ Q : VK, (∀ v H2, Ex H1 H2 → Dp K H2 v d → Q v H2) → te σ H1 Q
def EvDs (K : PySem.W.Frag) (ta : TA) (σ : L2.St) (H : Hp) (ds : List Dt) : Prop := ∀ H1, Ex H H1 → ∀ Q : List V → Hp → Prop, (∀ vs H2, Ex H1 H2 → DpAll K H2 vs ds → Q vs H2) → ta σ H1 Q
/-- an operation on two data, a call on data -/
def RD (K : PySem.W.Frag) (r : R2) (x y : Dt) (z : Dt) : Prop := ∀ H u w, Dp K H u x → Dp K H w y → ∀ Q : VK, (∀ v H2, Ex H H2 → Dp K H2 v z → Q v H2) → r u w H Q
def RC (K : PySem.W.Frag) (r : List V → Hp → VK → Prop) (ds : List Dt) (z : Dt) : Prop := ∀ H vs, DpAll K H vs ds → ∀ Q : VK, (∀ v H2, Ex H H2 → Dp K H2 v z → Q v H2) → r vs H Q
/-- a promise: on such data it hands back that datum -/
def spP (K : PySem.W.Frag) (R : List Dt → Dt → Prop) : Sp := fun vs H Q _ => ∃ ds d, DpAll K H vs ds ∧ R ds d ∧ ∀ v H', Ex H H' → Dp K H' v d → Q v H'
theorem spP_len {K : PySem.W.Frag} {R : List Dt → Dt → Prop} {n : Nat} (h : ∀ ds d, R ds d → ds.length = n) : ∀ vs H Q E, spP K R vs H Q E → vs.length = n := by
  rintro vs H Q E ⟨ds, d, h1, h2, _⟩
  rw [dpAll_len h1]
  exact h ds d h2

section
variable {K : PySem.W.Frag} {σ : L2.St} {H H' : Hp} {ta tb tc te : TE} {t u : TT} {tA tr : TA} {x y z d e f : Dt} {v : V} {r r' : R2} {i j : Nat} {ds es : List Dt}
theorem EvD.mono (a : Ex H H') (h : EvD K te σ H d) : EvD K te σ H' d := fun H1 e Q q => h H1 (a.trans e) Q q
theorem EvD.is (h : EvD K te σ H d) (a : d = e) : EvD K te σ H e := by rw [← a]; exact h
theorem d_var (h : σ[i]? = some (some v)) (hd : Dp K H v d) : EvD K (tVar i) σ H d := fun H1 a _ q => ⟨v, h, q v H1 (Ex.refl _) (dp_ex a hd)⟩
theorem d_int {n : Int} : EvD K (tC (.int n)) σ H (.int n) := fun H1 _ _ q => q _ H1 (Ex.refl _) (.int n)
theorem d_bl {b : Bool} : EvD K (tC (.bl b)) σ H (.bool b) := fun H1 _ _ q => q _ H1 (Ex.refl _) (.bl b)
theorem d_non : EvD K (tC .non) σ H .none := fun H1 _ _ q => q _ H1 (Ex.refl _) .non
theorem d_op (ha : EvD K ta σ H x) (hb : EvD K tb σ H y) (hr : RD K r x y z) : EvD K (tOp r ta tb) σ H z := fun H1 a Q q =>
  ha H1 a _ fun u H2 a2 du => hb H2 (a.trans a2) _ fun w H3 a3 dw => hr H3 u w (dp_ex a3 du) dw Q fun v H4 a4 dv => q v H4 ((a2.trans a3).trans a4) dv
theorem d_neg {n : Int} (ha : EvD K ta σ H (.int n)) : EvD K (tUn (rU fun i => .int (-i)) ta) σ H (.int (-n)) := fun H1 a Q q =>
  ha H1 a _ fun u H2 a2 du => ⟨n, dp_int du, q _ H2 a2 (.int _)⟩
theorem rd_i {g : Int → Int → Int} {m n : Int} : RD K (rI0 fun i j => .int (g i j)) (.int m) (.int n) (.int (g m n)) := fun H u w hu hw Q q =>
  ⟨m, n, dp_int hu, dp_int hw, q _ H (Ex.refl _) (.int _)⟩
theorem rd_b {g : Int → Int → Bool} {m n : Int} : RD K (rI0 fun i j => .bl (g i j)) (.int m) (.int n) (.bool (g m n)) := fun H u w hu hw Q q =>
  ⟨m, n, dp_int hu, dp_int hw, q _ H (Ex.refl _) (.bl _)⟩
theorem rd_C {C : Int → Int → Prop} {g : Int → Int → Int} {m n : Int} (hc : C m n) : RD K (rI C fun i j => .int (g i j)) (.int m) (.int n) (.int (g m n)) := fun H u w hu hw Q q =>
  ⟨m, n, dp_int hu, dp_int hw, hc, q _ H (Ex.refl _) (.int _)⟩
theorem vint_iff {m n : Int} : (V.int m = V.int n) ↔ m = n := ⟨V.int.inj, fun e => by rw [e]⟩
theorem rd_eqI {m n : Int} : RD K rEq (.int m) (.int n) (.bool (decide (m = n))) := fun H u w hu hw Q q => by
  rw [dp_int hu, dp_int hw]
  refine ⟨rfl, ?_⟩
  rw [decide_eq_decide.mpr (vint_iff (m := m) (n := n))]
  exact q _ H (Ex.refl _) (.bl _)
theorem rd_neI {m n : Int} : RD K rNe (.int m) (.int n) (.bool (!decide (m = n))) := fun H u w hu hw Q q => by
  rw [dp_int hu, dp_int hw]
  refine ⟨rfl, ?_⟩
  rw [decide_eq_decide.mpr (vint_iff (m := m) (n := n))]
  exact q _ H (Ex.refl _) (.bl _)
theorem vbl_iff {m n : Bool} : (V.bl m = V.bl n) ↔ m = n := ⟨V.bl.inj, fun e => by rw [e]⟩
theorem rd_eqB {m n : Bool} : RD K rEq (.bool m) (.bool n) (.bool (decide (m = n))) := fun H u w hu hw Q q => by
  rw [dp_bool hu, dp_bool hw]
  refine ⟨rfl, ?_⟩
  rw [decide_eq_decide.mpr (vbl_iff (m := m) (n := n))]
  exact q _ H (Ex.refl _) (.bl _)
theorem rd_neB {m n : Bool} : RD K rNe (.bool m) (.bool n) (.bool (!decide (m = n))) := fun H u w hu hw Q q => by
  rw [dp_bool hu, dp_bool hw]
  refine ⟨rfl, ?_⟩
  rw [decide_eq_decide.mpr (vbl_iff (m := m) (n := n))]
  exact q _ H (Ex.refl _) (.bl _)
theorem rd_eqD (sx : SeqAt.shaped x = true) (sy : SeqAt.shaped y = true) : RD K (rEqD K) x y (.bool (PyData.eqv x y)) := fun H u w hu hw Q q =>
  ⟨x, y, hu, hw, sx, sy, q _ H (Ex.refl _) (.bl _)⟩
theorem rd_neD (sx : SeqAt.shaped x = true) (sy : SeqAt.shaped y = true) : RD K (rNeD K) x y (.bool (!PyData.eqv x y)) := fun H u w hu hw Q q =>
  ⟨x, y, hu, hw, sx, sy, q _ H (Ex.refl _) (.bl _)⟩
theorem rd_ixT {n : Int} (hj : n = (j : Int)) (hd : ds[j]? = some d) : RD K (rIxT K) (.tuple ds) (.int n) d := fun H u w hu hw Q q => by
  obtain ⟨a, xs, rfl, h1, h2⟩ := dp_tup hu
  obtain ⟨v, e1, e2⟩ := dpAll_get' h2 hd
  refine ⟨a, xs, n, v, rfl, dp_int hw, h1, ?_, q v H (Ex.refl _) e2⟩
  rw [hj]
  exact atI_nat e1
theorem rd_ixL {n : Int} (hj : n = (j : Int)) (hd : ds[j]? = some d) : RD K (rIxL K) (.list ds) (.int n) d := fun H u w hu hw Q q => by
  obtain ⟨a, xs, rfl, h1, h2⟩ := dp_lst hu
  obtain ⟨v, e1, e2⟩ := dpAll_get' h2 hd
  refine ⟨a, xs, n, v, rfl, dp_int hw, h1, ?_, q v H (Ex.refl _) e2⟩
  rw [hj]
  exact atI_nat e1
theorem flat_ints (ns : List Int) : (ns.map V.int).all flatV = true := by
  rw [List.all_map]
  exact List.all_eq_true.mpr fun _ _ => rfl
theorem in_ints (p : Int) (ns : List Int) : inV (.int p) (ns.map V.int) = decide (p ∈ ns) := by
  rw [Bool.eq_iff_iff, decide_eq_true_eq]
  unfold inV
  rw [List.any_map, List.any_eq_true]
  constructor
  · rintro ⟨n, hn, e⟩
    have e' : n = p := by simpa [eqV] using e
    rw [← e']
    exact hn
  · intro h
    exact ⟨p, h, by simp [eqV]⟩
theorem rd_inT {p : Int} {ns : List Int} : RD K (rIn K false) (.int p) (T ns) (.bool (decide (p ∈ ns))) := fun H u w hu hw Q q => by
  obtain ⟨a, rfl, h⟩ := dp_T hw
  rw [dp_int hu]
  refine ⟨a, _, rfl, .inr h, rfl, flat_ints ns, ?_⟩
  rw [if_neg Bool.false_ne_true, in_ints]
  exact q _ H (Ex.refl _) (.bl _)
theorem rd_niT {p : Int} {ns : List Int} : RD K (rIn K true) (.int p) (T ns) (.bool (!decide (p ∈ ns))) := fun H u w hu hw Q q => by
  obtain ⟨a, rfl, h⟩ := dp_T hw
  rw [dp_int hu]
  refine ⟨a, _, rfl, .inr h, rfl, flat_ints ns, ?_⟩
  rw [if_pos rfl, in_ints]
  exact q _ H (Ex.refl _) (.bl _)
theorem rd_inL {p : Int} {ns : List Int} : RD K (rIn K false) (.int p) (LI ns) (.bool (decide (p ∈ ns))) := fun H u w hu hw Q q => by
  obtain ⟨a, rfl, h⟩ := dp_LI hw
  rw [dp_int hu]
  refine ⟨a, _, rfl, .inl h, rfl, flat_ints ns, ?_⟩
  rw [if_neg Bool.false_ne_true, in_ints]
  exact q _ H (Ex.refl _) (.bl _)
theorem rd_niL {p : Int} {ns : List Int} : RD K (rIn K true) (.int p) (LI ns) (.bool (!decide (p ∈ ns))) := fun H u w hu hw Q q => by
  obtain ⟨a, rfl, h⟩ := dp_LI hw
  rw [dp_int hu]
  refine ⟨a, _, rfl, .inl h, rfl, flat_ints ns, ?_⟩
  rw [if_pos rfl, in_ints]
  exact q _ H (Ex.refl _) (.bl _)
theorem rd_catA (hz : ds.length + es.length ≤ 100000) : RD K (rCatA K) (.tuple ds) (.tuple es) (.tuple (ds ++ es)) := fun H u w hu hw Q q => by
  obtain ⟨a, xs, rfl, h1, h2⟩ := dp_tup hu
  obtain ⟨b, ys, rfl, k1, k2⟩ := dp_tup hw
  refine ⟨a, b, xs, ys, rfl, rfl, h1, k1, ?_, fun e => ?_, fun n e => ?_, fun n m p hp => ?_⟩
  · rw [dpAll_len h2, dpAll_len k2]
    exact sz_of hz
  · subst e
    cases h2
    exact q _ H (Ex.refl _) (.tup k1 k2)
  · subst e
    cases k2
    rw [List.append_nil] at q
    exact q _ H (Ex.refl _) (.tup h1 h2)
  · exact q _ _ (Ex.new hp) (.tup (st_of upd_same) (dpAll_ex (Ex.new hp) (dpAll_app h2 k2)))
theorem d_chain {b1 b2 : Bool} (ha : EvD K ta σ H x) (hb : EvD K tb σ H y) (hc : EvD K tc σ H z) (h1 : RD K r x y (.bool b1)) (h2 : RD K r' y z (.bool b2)) : EvD K (tChain r r' ta tb tc) σ H (.bool (b1 && b2)) := fun H1 a Q q =>
  ha H1 a _ fun u H2 a2 du => hb H2 (a.trans a2) _ fun w H3 a3 dw => h1 H3 u w (dp_ex a3 du) dw _ fun v H4 a4 dv => ⟨b1, dp_bool dv, by
    cases b1 with
    | true =>
      rw [if_pos rfl]
      exact hc H4 (((a.trans a2).trans a3).trans a4) _ fun o H5 a5 do_ => h2 H5 w o (dp_ex (a4.trans a5) dw) do_ Q fun p H6 a6 dp => q p H6 ((((a2.trans a3).trans a4).trans a5).trans a6) (by rw [Bool.true_and]; exact dp)
    | false =>
      rw [if_neg Bool.false_ne_true]
      exact q _ H4 ((a2.trans a3).trans a4) (.bl _)⟩
theorem d_andV {b1 b2 : Bool} (ha : EvD K ta σ H (.bool b1)) (hb : b1 = true → EvD K tb σ H (.bool b2)) : EvD K (tAndV ta tb) σ H (.bool (b1 && b2)) := fun H1 a Q q =>
  ha H1 a _ fun u H2 a2 du => ⟨b1, dp_bool du, by
    cases b1 with
    | true =>
      rw [if_pos rfl]
      exact hb rfl H2 (a.trans a2) _ fun w H3 a3 dw => q w H3 (a2.trans a3) (by rw [Bool.true_and]; exact dw)
    | false =>
      rw [if_neg Bool.false_ne_true]
      exact q _ H2 a2 (.bl _)⟩
theorem d_orV {b1 b2 : Bool} (ha : EvD K ta σ H (.bool b1)) (hb : b1 = false → EvD K tb σ H (.bool b2)) : EvD K (tOrV ta tb) σ H (.bool (b1 || b2)) := fun H1 a Q q =>
  ha H1 a _ fun u H2 a2 du => ⟨b1, dp_bool du, by
    cases b1 with
    | true =>
      rw [if_pos rfl]
      exact q _ H2 a2 (.bl _)
    | false =>
      rw [if_neg Bool.false_ne_true]
      exact hb rfl H2 (a.trans a2) _ fun w H3 a3 dw => q w H3 (a2.trans a3) (by rw [Bool.false_or]; exact dw)⟩
theorem d_notV {b : Bool} (ha : EvD K ta σ H (.bool b)) : EvD K (tNotV ta) σ H (.bool (!b)) := fun H1 a Q q =>
  ha H1 a _ fun u H2 a2 du => ⟨b, dp_bool du, q _ H2 a2 (.bl _)⟩
theorem d_if {b : Bool} (h : EvT t σ H b) (h1 : b = true → EvD K ta σ H d) (h2 : b = false → EvD K tb σ H d) : EvD K (tIf t ta tb) σ H d := fun H1 a Q q =>
  h H1 a _ fun H2 a2 => by
    cases b with
    | true =>
      rw [if_pos rfl]
      exact h1 rfl H2 (a.trans a2) _ fun w H3 a3 dw => q w H3 (a2.trans a3) dw
    | false =>
      rw [if_neg Bool.false_ne_true]
      exact h2 rfl H2 (a.trans a2) _ fun w H3 a3 dw => q w H3 (a2.trans a3) dw
theorem ds_nil : EvDs K tNil σ H [] := fun H1 _ _ q => q [] H1 (Ex.refl _) .nil
theorem ds_cons (h : EvD K te σ H d) (hr : EvDs K tr σ H ds) : EvDs K (tCons te tr) σ H (d :: ds) := fun H1 a Q q =>
  h H1 a _ fun v H2 a2 dv => hr H2 (a.trans a2) _ fun vs H3 a3 dvs => q _ H3 (a2.trans a3) (.cons (dp_ex a3 dv) dvs)
theorem ds_star (h : EvD K te σ H (.tuple ds)) (hr : EvDs K tr σ H es) : EvDs K (tStar K te tr) σ H (ds ++ es) := fun H1 a Q q =>
  h H1 a _ fun v H2 a2 dv => by
    obtain ⟨p, xs, rfl, h1, h2⟩ := dp_tup dv
    exact ⟨p, xs, rfl, .inl h1, hr H2 (a.trans a2) _ fun vs H3 a3 dvs => q _ H3 (a2.trans a3) (dpAll_app (dpAll_ex a3 h2) dvs)⟩
theorem d_tup (h : EvDs K tA σ H ds) (hz : ds.length ≤ 100000) : EvD K (tTup tA) σ H (.tuple ds) := fun H1 a Q q =>
  h H1 a _ fun vs H2 a2 dv => ⟨by rw [dpAll_len dv]; exact sz_of hz, fun p hp => q _ _ (a2.trans (Ex.new hp)) (.tup (st_of upd_same) (dpAll_ex (Ex.new hp) dv))⟩
theorem d_lst (h : EvDs K tA σ H ds) (hz : ds.length ≤ 100000) : EvD K (tLst tA) σ H (.list ds) := fun H1 a Q q =>
  h H1 a _ fun vs H2 a2 dv => ⟨by rw [dpAll_len dv]; exact sz_of hz, fun p hp => q _ _ (a2.trans (Ex.new hp)) (.lst (sq_of upd_same) (dpAll_ex (Ex.new hp) dv))⟩
theorem d_cb {rr : List V → Hp → VK → Prop} (h : EvDs K tA σ H ds) (hr : RC K rr ds d) : EvD K (tCB rr tA) σ H d := fun H1 a Q q =>
  h H1 a _ fun vs H2 a2 dv => hr H2 vs dv Q fun v H3 a3 dz => q v H3 (a2.trans a3) dz
theorem d_call {R : List Dt → Dt → Prop} {E : XK} (h : EvDs K tA σ H ds) (hr : R ds d) : EvD K (tCall (spP K R) [] E tA) σ H d := fun H1 a Q q =>
  h H1 a _ fun vs H2 a2 dv => by
    rw [List.append_nil]
    exact ⟨ds, d, dv, hr, fun v H3 a3 dz => q v H3 (a2.trans a3) dz⟩
theorem d_rev (h : EvD K te σ H (.list ds)) : EvD K (tRevL K te) σ H (.list ds.reverse) := fun H1 a Q q =>
  h H1 a _ fun v H2 a2 dv => by
    obtain ⟨p, xs, rfl, h1, h2⟩ := dp_lst dv
    exact ⟨p, xs, rfl, h1, fun l hl => q _ _ (a2.trans (Ex.new hl)) (.lst (sq_of upd_same) (dpAll_ex (Ex.new hl) (dpAll_rev h2)))⟩
/-- t[:n], not all of it -/
theorem d_slT {n : Nat} (h : EvD K te σ H (.tuple ds)) (hn : EvD K tb σ H (.int (n : Int))) (hl : n < ds.length) : EvD K (tSl (rSlT K) te tNoPart (tPart tb)) σ H (.tuple (ds.take n)) := fun H1 a Q q =>
  h H1 a _ fun v H2 a2 dv => by
    refine hn H2 (a.trans a2) _ fun w H3 a3 dw => ?_
    obtain ⟨p, xs, rfl, h1, h2⟩ := dp_tup (dp_ex a3 dv)
    have hx : xs.length = ds.length := dpAll_len h2
    have e1 : HT.sIx xs.length 0 Option.none = 0 := HT.sIx_none _ _
    have e2 : HT.sIx xs.length xs.length (some (n : Int)) = n := by rw [HT.sIx_nat]; omega
    refine ⟨(n : Int), dp_int dw, p, xs, rfl, h1, fun z => ?_, fun l hl => ?_⟩
    · rw [e2] at z
      omega
    · have e3 : cutV xs Option.none (some (n : Int)) = xs.take n := by
        unfold cutV
        rw [e1, e2]
        rfl
      rw [e3]
      exact q _ _ ((a2.trans a3).trans (Ex.new hl)) (.tup (st_of upd_same) (dpAll_ex (Ex.new hl) (dpAll_take n h2)))

/-! ### tests -/
theorem t_B {b : Bool} (h : EvD K te σ H (.bool b)) : EvT (tB te) σ H b := fun H1 a Q q => h H1 a _ fun v H2 a2 dv => ⟨b, dp_bool dv, q H2 a2⟩
theorem t_T {b : Bool} (h : EvD K te σ H (.bool b)) : EvT (tTest te) σ H b := fun H1 a Q q => h H1 a _ fun v H2 a2 dv => ⟨b, dp_bool dv, q H2 a2⟩
theorem t_yes : EvT tYes σ H true := fun H1 _ _ q => q H1 (Ex.refl _)

/-! ### statements -/
variable {Dn : Ends} {tu tw tz : TS}
theorem s_asg (h : EvD K te σ H d) (k : ∀ v H1, Ex H H1 → Dp K H1 v d → Dn.nx (σ.set i (some v)) H1) : tAsg te (gName i) Dn σ H := h H (Ex.refl H) _ k
theorem q_asg (h : EvD K te σ H d) (k : ∀ v H1, Ex H H1 → Dp K H1 v d → tz Dn (σ.set i (some v)) H1) : tSeq (tAsg te (gName i)) tz Dn σ H := s_asg (Dn := { Dn with nx := tz Dn }) h k
theorem s_ret (h : EvD K te σ H d) (k : ∀ v H1, Ex H H1 → Dp K H1 v d → Dn.rt v H1) : tRet te Dn σ H := h H (Ex.refl H) _ k
theorem s_drop (h : EvD K te σ H d) (k : ∀ v H1, Ex H H1 → Dp K H1 v d → Dn.nx σ H1) : tDrop te Dn σ H := h H (Ex.refl H) _ k
theorem q_drop (h : EvD K te σ H d) (k : ∀ v H1, Ex H H1 → Dp K H1 v d → tz Dn σ H1) : tSeq (tDrop te) tz Dn σ H := s_drop (Dn := { Dn with nx := tz Dn }) h k
/-- an if that is not taken -/
theorem q_pass (h : EvT t σ H false) (k : ∀ H1, Ex H H1 → tz Dn σ H1) : tSeq (tIfS t tu tNext) tz Dn σ H := h H (Ex.refl H) _ fun H1 e => by
  show (if false = true then _ else _)
  rw [if_neg Bool.false_ne_true]
  exact k H1 e
theorem s_pass (h : EvT t σ H false) (k : ∀ H1, Ex H H1 → Dn.nx σ H1) : tIfS t tu tNext Dn σ H := h H (Ex.refl H) _ fun H1 e => by
  show (if false = true then _ else _)
  rw [if_neg Bool.false_ne_true]
  exact k H1 e
end

/-! ### built-in functions on data -/
section
variable {K : PySem.W.Frag} {ds : List Dt} {d : Dt}
def rLenQ (K : PySem.W.Frag) : List V → Hp → VK → Prop := fun xs H Q => ∃ p ys, xs = [.ref p] ∧ (SqL K H p ys ∨ SqT K H p ys) ∧ Q (.int ys.length) H
theorem cr_len {X : Cx} : CallR X (.builtin "len") (rLenQ X.K) := call_len_seq
theorem rc_lenT : RC K (rLenQ K) [.tuple ds] (.int (ds.length : Int)) := fun H vs h Q q => by
  obtain ⟨x, rfl, hx⟩ := dpAll1 h
  obtain ⟨a, xs, rfl, h1, h2⟩ := dp_tup hx
  refine ⟨a, xs, rfl, .inr h1, ?_⟩
  rw [dpAll_len h2]
  exact q _ H (Ex.refl _) (.int _)
theorem rc_lenL : RC K (rLenQ K) [.list ds] (.int (ds.length : Int)) := fun H vs h Q q => by
  obtain ⟨x, rfl, hx⟩ := dpAll1 h
  obtain ⟨a, xs, rfl, h1, h2⟩ := dp_lst hx
  refine ⟨a, xs, rfl, .inl h1, ?_⟩
  rw [dpAll_len h2]
  exact q _ H (Ex.refl _) (.int _)
def rTupQ (K : PySem.W.Frag) : List V → Hp → VK → Prop := fun xs H Q => ∃ p ys, xs = [.ref p] ∧ ((SqL K H p ys ∧ ∀ l, H l = none → Q (.ref l) (upd H l (.tup ys))) ∨ (SqT K H p ys ∧ Q (.ref p) H))
theorem cr_tup {X : Cx} : CallR X (.type "tuple") (rTupQ X.K) := call_tuple_of
theorem rc_tupL : RC K (rTupQ K) [.list ds] (.tuple ds) := fun H vs h Q q => by
  obtain ⟨x, rfl, hx⟩ := dpAll1 h
  obtain ⟨a, xs, rfl, h1, h2⟩ := dp_lst hx
  exact ⟨a, xs, rfl, .inl ⟨h1, fun l hl => q _ _ (Ex.new hl) (.tup (st_of upd_same) (dpAll_ex (Ex.new hl) h2))⟩⟩
def rMax2Q : List V → Hp → VK → Prop := fun xs H Q => ∃ i j, xs = [.int i, .int j] ∧ Q (.int (if j > i then j else i)) H
theorem cr_max2 {X : Cx} (hc : X.calm = true) : CallR X (.builtin "max") rMax2Q := call_max2 hc
theorem rc_max2 {m n : Int} : RC K rMax2Q [.int m, .int n] (.int (max m n)) := fun H vs h Q q => by
  obtain ⟨x, y, rfl, h1, h2⟩ := dpAll2 h
  rw [dp_int h1, dp_int h2]
  refine ⟨m, n, rfl, ?_⟩
  have e : (if n > m then n else m) = max m n := by omega
  rw [e]
  exact q _ H (Ex.refl _) (.int _)
def rMin2Q : List V → Hp → VK → Prop := fun xs H Q => ∃ i j, xs = [.int i, .int j] ∧ Q (.int (if j < i then j else i)) H
theorem cr_min2 {X : Cx} (hc : X.calm = true) : CallR X (.builtin "min") rMin2Q := call_min2 hc
theorem rc_min2 {m n : Int} : RC K rMin2Q [.int m, .int n] (.int (min m n)) := fun H vs h Q q => by
  obtain ⟨x, y, rfl, h1, h2⟩ := dpAll2 h
  rw [dp_int h1, dp_int h2]
  refine ⟨m, n, rfl, ?_⟩
  have e : (if n < m then n else m) = min m n := by omega
  rw [e]
  exact q _ H (Ex.refl _) (.int _)
def rIntQ : List V → Hp → VK → Prop := fun xs H Q => (∃ i, xs = [.int i] ∧ Q (.int i) H) ∨ ∃ k, xs = [.bl k] ∧ Q (.int (if k then 1 else 0)) H
theorem cr_int {X : Cx} : CallR X (.type "int") rIntQ := call_int1
theorem rc_int {m : Int} : RC K rIntQ [.int m] (.int m) := fun H vs h Q q => by
  obtain ⟨x, rfl, hx⟩ := dpAll1 h
  rw [dp_int hx]
  exact .inl ⟨m, rfl, q _ H (Ex.refl _) (.int _)⟩
theorem rc_min {ns : List Int} {m : Int} (hm : m ∈ ns) (hl : ∀ y ∈ ns, m ≤ y) : RC K (rMin K) [LI ns] (.int m) := fun H vs h Q q => by
  obtain ⟨x, rfl, hx⟩ := dpAll1 h
  obtain ⟨a, rfl, h1⟩ := dp_LI hx
  refine ⟨a, ns, rfl, h1, List.length_pos_of_mem hm, fun m' h2 h3 => ?_⟩
  have e : m' = m := Int.le_antisymm (h3 m hm) (hl m' h2)
  rw [e]
  exact q _ H (Ex.refl _) (.int _)
theorem rc_max {ns : List Int} {m : Int} (hm : m ∈ ns) (hl : ∀ y ∈ ns, y ≤ m) : RC K (rMax K) [LI ns] (.int m) := fun H vs h Q q => by
  obtain ⟨x, rfl, hx⟩ := dpAll1 h
  obtain ⟨a, rfl, h1⟩ := dp_LI hx
  refine ⟨a, ns, rfl, h1, List.length_pos_of_mem hm, fun m' h2 h3 => ?_⟩
  have e : m' = m := Int.le_antisymm (hl m' h2) (h3 m hm)
  rw [e]
  exact q _ H (Ex.refl _) (.int _)
theorem rc_all {bs : List Bool} : RC K (rAll K) [.list (bs.map .bool)] (.bool (bs.all id)) := fun H vs h Q q => by
  obtain ⟨x, rfl, hx⟩ := dpAll1 h
  obtain ⟨a, xs, rfl, h1, h2⟩ := dp_lst hx
  rw [dpAll_bools h2] at h1
  exact ⟨a, bs, rfl, h1, q _ H (Ex.refl _) (.bl _)⟩
theorem rc_sortedL {ns ms : List Int} (hz : ns.length < 64) (hm : ∀ ns' : List Int, ns'.Perm ns → ns'.Pairwise (· ≤ ·) → ns' = ms) : RC K (rSorted K) [LI ns] (LI ms) := fun H vs h Q q => by
  obtain ⟨x, rfl, hx⟩ := dpAll1 h
  obtain ⟨a, rfl, h1⟩ := dp_LI hx
  refine ⟨a, ns, rfl, h1, hz, fun ns' p h2 h3 hp => ?_⟩
  rw [hm ns' h2 h3]
  exact q _ _ (Ex.new hp) (LI_dp (sq_of upd_same))
theorem rc_sortedT {ns ms : List Int} (hz : ns.length < 64) (hm : ∀ ns' : List Int, ns'.Perm ns → ns'.Pairwise (· ≤ ·) → ns' = ms) : RC K (rSortedT K) [T ns] (LI ms) := fun H vs h Q q => by
  obtain ⟨x, rfl, hx⟩ := dpAll1 h
  obtain ⟨a, rfl, h1⟩ := dp_T hx
  refine ⟨a, ns, rfl, h1, hz, fun ns' p h2 h3 hp => ?_⟩
  rw [hm ns' h2 h3]
  exact q _ _ (Ex.new hp) (LI_dp (sq_of upd_same))
end
end DV

set_option Elab.async false
set_option linter.all false
set_option maxRecDepth 100000
set_option maxHeartbeats 1000000
/-! sources of data, comprehensions to data, loops over data -/
namespace DV
open PySem PySem.Spec PyProof.Rows L2 Evl R1 StX PM

/-- a source that hands out these data wherever Rl -/
structure ItD (K : PySem.W.Frag) (Rl : Hp → Prop) (J : It) (ds : List Dt) : Prop where
  go : ∀ i H', Rl H' → i < ds.length → J.go i H'
  stop : ∀ H', Rl H' → J.stop ds.length H'
  yld : ∀ i H' x H'' d, Rl H' → ds[i]? = some d → J.yld i H' x H'' → Ex H' H'' ∧ Dp K H'' x d
theorem ItD.mono {K : PySem.W.Frag} {R S : Hp → Prop} {J : It} {ds : List Dt} (h : ItD K R J ds) (s : ∀ H, S H → R H) : ItD K S J ds :=
  ⟨fun i H' r => h.go i H' (s _ r), fun H' r => h.stop H' (s _ r), fun i H' x H'' d r => h.yld i H' x H'' d (s _ r)⟩
theorem getD_len {vs : List V} {K : PySem.W.Frag} {H : Hp} {ds : List Dt} {i : Nat} (h : DpAll K H vs ds) (hi : i < ds.length) : ∃ v, vs[i]? = some v := by
  have : i < vs.length := by rw [dpAll_len h]; exact hi
  exact ⟨_, List.getElem?_eq_getElem this⟩
theorem get_lt {α : Type} {xs : List α} {i : Nat} {d : α} (h : xs[i]? = some d) : i < xs.length := (List.getElem?_eq_some_iff.mp h).1
theorem dp_at {vs : List V} {K : PySem.W.Frag} {H : Hp} {ds : List Dt} {i : Nat} {v : V} {d : Dt} (h : DpAll K H vs ds) (hv : vs[i]? = some v) (hd : ds[i]? = some d) : Dp K H v d := by
  obtain ⟨v', e1, e2⟩ := dpAll_get' h hd
  rw [hv] at e1
  cases e1
  exact e2
theorem itd_l {K : PySem.W.Frag} {Rl : Hp → Prop} {a : Addr} {vs : List V} {ds : List Dt} (h : ∀ H, Rl H → SqL K H a vs ∧ DpAll K H vs ds) : ItD K Rl (Itl K a) ds := by
  refine ⟨fun i H' r hi => ?_, fun H' r => ?_, fun i H' x H'' d r hi y => ?_⟩
  · obtain ⟨h1, h2⟩ := h H' r
    obtain ⟨v, hv⟩ := getD_len h2 hi
    exact ⟨vs, v, h1, hv⟩
  · obtain ⟨h1, h2⟩ := h H' r
    exact ⟨vs, h1, by rw [dpAll_len h2]; exact Nat.le_refl _⟩
  · obtain ⟨h1, h2⟩ := h H' r
    obtain ⟨rfl, y⟩ := y
    exact ⟨Ex.refl _, dp_at h2 (y vs h1) hi⟩
theorem itd_t {K : PySem.W.Frag} {Rl : Hp → Prop} {a : Addr} {vs : List V} {ds : List Dt} (h : ∀ H, Rl H → SqT K H a vs ∧ DpAll K H vs ds) : ItD K Rl (Itt K a) ds := by
  refine ⟨fun i H' r hi => ?_, fun H' r => ?_, fun i H' x H'' d r hi y => ?_⟩
  · obtain ⟨h1, h2⟩ := h H' r
    obtain ⟨v, hv⟩ := getD_len h2 hi
    exact ⟨vs, v, h1, hv⟩
  · obtain ⟨h1, h2⟩ := h H' r
    exact ⟨vs, h1, by rw [dpAll_len h2]; exact Nat.le_refl _⟩
  · obtain ⟨h1, h2⟩ := h H' r
    obtain ⟨rfl, y⟩ := y
    exact ⟨Ex.refl _, dp_at h2 (y vs h1) hi⟩
theorem itd_r {K : PySem.W.Frag} {Rl : Hp → Prop} {lo : Int} {n : Nat} : ItD K Rl (Itr lo n) ((List.range n).map fun (i : Nat) => .int (lo + (i : Int))) := by
  refine ⟨fun i H' r hi => ?_, fun H' r => ?_, fun i H' x H'' d r hi y => ?_⟩
  · show i < n
    simpa using hi
  · show n ≤ _
    simp
  · obtain ⟨rfl, rfl⟩ := y
    have hl : i < n := by simpa using get_lt hi
    rw [List.getElem?_map, List.getElem?_range hl] at hi
    cases hi
    exact ⟨Ex.refl _, .int _⟩
/-- pairs with their places -/
def enumD : Nat → List Dt → List Dt
  | _, [] => []
  | i, d :: ds => .tuple [.int (i : Int), d] :: enumD (i + 1) ds
theorem enumD_len : ∀ (i : Nat) (ds : List Dt), (enumD i ds).length = ds.length
  | _, [] => rfl
  | i, d :: ds => by rw [enumD, List.length_cons, List.length_cons, enumD_len]
theorem enumD_get : ∀ (i : Nat) (ds : List Dt) (j : Nat), (enumD i ds)[j]? = ds[j]?.map fun d => .tuple [.int ((i + j : Nat) : Int), d]
  | _, [], _ => rfl
  | i, d :: ds, 0 => rfl
  | i, d :: ds, j + 1 => by
    rw [enumD, List.getElem?_cons_succ, List.getElem?_cons_succ, enumD_get]
    rw [show i + 1 + j = i + (j + 1) by omega]
theorem itd_e {K : PySem.W.Frag} {Rl : Hp → Prop} {a : Addr} {vs : List V} {ds : List Dt} (h : ∀ H, Rl H → SqL K H a vs ∧ DpAll K H vs ds) : ItD K Rl (Ite K a) (enumD 0 ds) := by
  refine ⟨fun i H' r hi => ?_, fun H' r => ?_, fun i H' x H'' d r hi y => ?_⟩
  · rw [enumD_len] at hi
    obtain ⟨h1, h2⟩ := h H' r
    obtain ⟨v, hv⟩ := getD_len h2 hi
    exact ⟨vs, v, h1, hv⟩
  · obtain ⟨h1, h2⟩ := h H' r
    rw [enumD_len]
    exact ⟨vs, h1, by rw [dpAll_len h2]; exact Nat.le_refl _⟩
  · obtain ⟨h1, h2⟩ := h H' r
    obtain ⟨T, x, rfl, hT, rfl, y⟩ := y
    rw [enumD_get, Option.map_eq_some_iff] at hi
    obtain ⟨d', hd, rfl⟩ := hi
    refine ⟨Ex.new hT, .tup (st_of upd_same) ?_⟩
    rw [Nat.zero_add]
    exact .cons (.int _) (.cons (dp_ex (Ex.new hT) (dp_at h2 (y vs h1) hd)) .nil)
theorem itd_eT {K : PySem.W.Frag} {Rl : Hp → Prop} {a : Addr} {vs : List V} {ds : List Dt} (h : ∀ H, Rl H → SqT K H a vs ∧ DpAll K H vs ds) : ItD K Rl (IteT K a) (enumD 0 ds) := by
  refine ⟨fun i H' r hi => ?_, fun H' r => ?_, fun i H' x H'' d r hi y => ?_⟩
  · rw [enumD_len] at hi
    obtain ⟨h1, h2⟩ := h H' r
    obtain ⟨v, hv⟩ := getD_len h2 hi
    exact ⟨vs, v, h1, hv⟩
  · obtain ⟨h1, h2⟩ := h H' r
    rw [enumD_len]
    exact ⟨vs, h1, by rw [dpAll_len h2]; exact Nat.le_refl _⟩
  · obtain ⟨h1, h2⟩ := h H' r
    obtain ⟨T, x, rfl, hT, rfl, y⟩ := y
    rw [enumD_get, Option.map_eq_some_iff] at hi
    obtain ⟨d', hd, rfl⟩ := hi
    refine ⟨Ex.new hT, .tup (st_of upd_same) ?_⟩
    rw [Nat.zero_add]
    exact .cons (.int _) (.cons (dp_ex (Ex.new hT) (dp_at h2 (y vs h1) hd)) .nil)
theorem itd_z {K : PySem.W.Frag} {Rl : Hp → Prop} {a b : Addr} {vs ws : List V} {ds es : List Dt} (hl : ds.length = es.length) (h : ∀ H, Rl H → (SqT K H a vs ∧ DpAll K H vs ds) ∧ SqT K H b ws ∧ DpAll K H ws es) :
    ItD K Rl (RZ.ItzT K a b) (List.zipWith (fun d e => .tuple [d, e]) ds es) := by
  have hz : (List.zipWith (fun d e => (.tuple [d, e] : Dt)) ds es).length = ds.length := by rw [List.length_zipWith]; omega
  refine ⟨fun i H' r hi => ?_, fun H' r => ?_, fun i H' x H'' d r hi y => ?_⟩
  · rw [hz] at hi
    obtain ⟨⟨h1, h2⟩, h3, h4⟩ := h H' r
    obtain ⟨v, hv⟩ := getD_len h2 hi
    obtain ⟨w, hw⟩ := getD_len h4 (i := i) (by omega)
    exact ⟨vs, ws, v, w, h1, h3, hv, hw⟩
  · obtain ⟨⟨h1, h2⟩, h3, h4⟩ := h H' r
    rw [hz]
    exact ⟨vs, ws, h1, h3, .inl (by rw [dpAll_len h2]; exact Nat.le_refl _)⟩
  · obtain ⟨⟨h1, h2⟩, h3, h4⟩ := h H' r
    obtain ⟨T, x, x', rfl, hT, rfl, y1, y2⟩ := y
    rw [List.getElem?_zipWith] at hi
    have hi' : ∃ d1 e1, ds[i]? = some d1 ∧ es[i]? = some e1 ∧ d = .tuple [d1, e1] := by
      cases q1 : ds[i]? with
      | none => rw [q1] at hi; simp at hi
      | some d1 =>
        cases q2 : es[i]? with
        | none => rw [q1, q2] at hi; simp at hi
        | some e1 =>
          rw [q1, q2] at hi
          simp at hi
          exact ⟨d1, e1, rfl, rfl, hi.symm⟩
    obtain ⟨d1, e1, q1, q2, rfl⟩ := hi'
    exact ⟨Ex.new hT, .tup (st_of upd_same) (.cons (dp_ex (Ex.new hT) (dp_at h2 (y1 vs h1) q1)) (.cons (dp_ex (Ex.new hT) (dp_at h4 (y2 ws h3) q2)) .nil))⟩

/-- a source in place of an expression; it stays good wherever the heap has grown (EvI), wherever it keeps the base B (EvS) -/
def EvI (K : PySem.W.Frag) (wi : TI) (σ : L2.St) (H : Hp) (ds : List Dt) : Prop := ∀ H1, Ex H H1 → ∀ R : It → Hp → Prop, (∀ J H2, Ex H1 H2 → ItD K (Ex H2) J ds → R J H2) → wi σ H1 R
def EvS (K : PySem.W.Frag) (wi : TI) (σ : L2.St) (B H : Hp) (ds : List Dt) : Prop := ∀ H1, Ex H H1 → ∀ R : It → Hp → Prop, (∀ J H2, Ex H1 H2 → ItD K (Ex B) J ds → R J H2) → wi σ H1 R
section
variable {K : PySem.W.Frag} {σ : L2.St} {H B : Hp} {te tl : TE} {ta : TA} {wi : TI} {ds es : List Dt}
theorem ei_l (h : EvD K te σ H (.list ds)) : EvI K (iList K te) σ H ds := fun H1 e R k => h H1 e _ fun v H2 e2 dv => by
  obtain ⟨a, xs, rfl, h1, h2⟩ := dp_lst dv
  exact ⟨a, rfl, ⟨xs, h1⟩, k _ H2 e2 (itd_l fun H' r => ⟨ex_l r h1, dpAll_ex r h2⟩)⟩
theorem ei_t (h : EvD K te σ H (.tuple ds)) : EvI K (iTup K te) σ H ds := fun H1 e R k => h H1 e _ fun v H2 e2 dv => by
  obtain ⟨a, xs, rfl, h1, h2⟩ := dp_tup dv
  exact ⟨a, rfl, ⟨xs, h1⟩, k _ H2 e2 (itd_t fun H' r => ⟨ex_t r h1, dpAll_ex r h2⟩)⟩
theorem ei_r1 {n : Int} (h : EvDs K ta σ H [.int n]) (hn : 0 ≤ n ∧ n ≤ 100000) : EvI K (iRng1 ta) σ H ((List.range n.toNat).map fun (i : Nat) => .int (i : Int)) := fun H1 e R k => h H1 e _ fun vs H2 e2 dv => by
  obtain ⟨x, rfl, hx⟩ := dpAll1 dv
  refine ⟨n, by rw [dp_int hx], by omega, by omega, k _ H2 e2 ?_⟩
  have := itd_r (K := K) (Rl := Ex H2) (lo := 0) (n := n.toNat)
  simpa using this
theorem ei_r2 {lo n : Int} (h : EvDs K ta σ H [.int lo, .int n]) (hn : 0 ≤ lo ∧ lo ≤ 100000 ∧ -100000 ≤ n ∧ n ≤ 100000) : EvS K (iRng2 ta) σ B H ((rangeL lo n).map .int) := fun H1 e R k => h H1 e _ fun vs H2 e2 dv => by
  obtain ⟨x, y, rfl, hx, hy⟩ := dpAll2 dv
  refine ⟨lo, n, by rw [dp_int hx, dp_int hy], ⟨by omega, by omega, by omega, by omega⟩, k _ H2 e2 ?_⟩
  have := itd_r (K := K) (Rl := Ex B) (lo := lo) (n := (n - lo).toNat)
  unfold rangeL
  rw [List.map_map]
  exact this
theorem EvS.ei (h : ∀ B, EvS K wi σ B H ds) : EvI K wi σ H ds := fun H1 e R k => h H H1 e R fun J H2 e2 it => k J H2 e2 (it.mono fun _ r => (e.trans e2).trans r)
/-- a list in a slot, known at the base -/
theorem es_l {i : Nat} {a : Addr} {xs : List V} (hv : σ[i]? = some (some (.ref a))) (h1 : SqL K B a xs) (h2 : DpAll K B xs ds) (e : Ex B H) : EvS K (iList K (tVar i)) σ B H ds := fun H1 e1 R k =>
  ⟨.ref a, hv, a, rfl, ⟨xs, ex_l (e.trans e1) h1⟩, k _ H1 (Ex.refl _) (itd_l fun H' r => ⟨ex_l r h1, dpAll_ex r h2⟩)⟩
theorem ei_e (h : EvDs K ta σ H [.list ds]) : EvI K (iEnum K ta) σ H (enumD 0 ds) := fun H1 e R k => h H1 e _ fun vs H2 e2 dv => by
  obtain ⟨x, rfl, hx⟩ := dpAll1 dv
  obtain ⟨a, xs, rfl, h1, h2⟩ := dp_lst hx
  exact ⟨a, xs, rfl, h1, k _ H2 e2 (itd_e fun H' r => ⟨ex_l r h1, dpAll_ex r h2⟩)⟩
theorem ei_eT (h : EvDs K ta σ H [.tuple ds]) : EvI K (iEnumT K ta) σ H (enumD 0 ds) := fun H1 e R k => h H1 e _ fun vs H2 e2 dv => by
  obtain ⟨x, rfl, hx⟩ := dpAll1 dv
  obtain ⟨a, xs, rfl, h1, h2⟩ := dp_tup hx
  exact ⟨a, xs, rfl, h1, k _ H2 e2 (itd_eT fun H' r => ⟨ex_t r h1, dpAll_ex r h2⟩)⟩
theorem ei_z (hl : ds.length = es.length) (h : EvDs K ta σ H [.tuple ds, .tuple es]) : EvI K (RZ.iZipA K ta) σ H (List.zipWith (fun d e => .tuple [d, e]) ds es) := fun H1 e R k => h H1 e _ fun vs H2 e2 dv => by
  obtain ⟨x, y, rfl, hx, hy⟩ := dpAll2 dv
  obtain ⟨a, xs, rfl, h1, h2⟩ := dp_tup hx
  obtain ⟨b, ys, rfl, h3, h4⟩ := dp_tup hy
  exact ⟨a, b, xs, ys, rfl, .inr ⟨h1, h3, k _ H2 e2 (itd_z hl fun H' r => ⟨⟨ex_t r h1, dpAll_ex r h2⟩, ex_t r h3, dpAll_ex r h4⟩)⟩⟩
/-- two names from a pair -/
theorem g_pair {v : V} {x y : Dt} {i j : Nat} {Q : L2.St → Hp → Prop} (h : Dp K H v (.tuple [x, y])) (k : ∀ u w, Dp K H u x → Dp K H w y → Q ((σ.set i (some u)).set j (some w)) H) : gTup K 2 (gCons (gName i) (gCons (gName j) gNil)) v σ H Q := by
  obtain ⟨a, xs, rfl, h1, h2⟩ := dp_tup h
  obtain ⟨u, w, rfl, d1, d2⟩ := dpAll2 h2
  exact ⟨a, _, rfl, h1, rfl, u, _, rfl, w, _, rfl, rfl, k u w d1 d2⟩
end

/-! ### comprehensions -/
/-- the new list at D holds acc -/
def CwD (K : PySem.W.Frag) (H : Hp) (D : Addr) (acc : List Dt) (H' : Hp) : Prop := H D = none ∧ Ex H H' ∧ ∃ vs, H' D = some (.lst vs) ∧ DpAll K H' vs acc
theorem CwD.grow {K : PySem.W.Frag} {H H1 H2 : Hp} {D : Addr} {acc : List Dt} (c : CwD K H D acc H1) (e : Ex H1 H2) : CwD K H D acc H2 := by
  obtain ⟨c1, c2, vs, c3, c4⟩ := c
  exact ⟨c1, c2.trans e, vs, e _ _ c3, dpAll_ex e c4⟩
theorem CwD.new {K : PySem.W.Frag} {H : Hp} {D : Addr} (h : H D = none) : CwD K H D [] (upd H D (.lst [])) := ⟨h, Ex.new h, [], upd_same, .nil⟩
theorem cw_turnD {K : PySem.W.Frag} {H H' : Hp} {D : Addr} {acc : List Dt} {σ2 : L2.St} {t : TT} {te : TE} {b : Bool} {d : Dt} {N : Hp → Prop} (c : CwD K H D acc H') (ht : EvT t σ2 H' b) (he : b = true → EvD K te σ2 H' d) (na : nlAll acc = true) (nd : b = true → nl d = true) (hz : acc.length < 50000)
    (h1 : b = true → ∀ H'', But D H' H'' → CwD K H D (acc ++ [d]) H'' → N H'') (h2 : b = false → ∀ H'', But D H' H'' → CwD K H D acc H'' → N H'') :
    t σ2 H' fun b H3 => if b = true then te σ2 H3 fun y H4 => ∃ acc, H4 D = some (.lst acc) ∧ acc.length < sizeLine ∧ N (upd H4 D (.lst (acc ++ [y]))) else N H3 := by
  refine ht H' (Ex.refl _) _ fun H3 e3 => ?_
  cases b with
  | false =>
    rw [if_neg Bool.false_ne_true]
    exact h2 rfl H3 (But.of e3) (c.grow e3)
  | true =>
    rw [if_pos rfl]
    refine he rfl H3 e3 _ fun y H4 e4 dy => ?_
    obtain ⟨c1, c2, vs, c3, c4⟩ := c.grow (e3.trans e4)
    refine ⟨vs, c3, sz_lt (by rw [dpAll_len c4]; omega), ?_⟩
    have l : Lsty D H4 := ⟨vs, c3⟩
    refine h1 rfl _ ((But.of (e3.trans e4)).trans But.upd) ⟨c1, Ex.mut c2 c1, _, upd_same, ?_⟩
    exact dpAll_app (dpAll_but But.upd l na c4) (.cons (dp_but But.upd l (nd rfl) dy) .nil)
theorem nlAll_app {xs ys : List Dt} (h1 : nlAll xs = true) (h2 : nlAll ys = true) : nlAll (xs ++ ys) = true := nlAll_iff.mpr fun d h => by
  rcases List.mem_append.mp h with h | h
  · exact nlAll_iff.mp h1 d h
  · exact nlAll_iff.mp h2 d h
theorem take_succ' {α : Type} {xs : List α} {i : Nat} {x : α} (h : xs[i]? = some x) : xs.take (i + 1) = xs.take i ++ [x] := by
  rw [List.take_succ, h]
  rfl
section
variable {K : PySem.W.Frag} {σ : L2.St} {H B : Hp} {wi wi1 : TI} {g g1 : TG} {t t1 : TT} {te : TE} {vs vs1 : List Nat} {α β : Type} {xs : List α} {enc : α → Dt} {ys : α → List β} {encB : β → Dt}
def got (p : α → Bool) (f : α → Dt) (xs : List α) : List Dt := (xs.filter p).map f
theorem got_nl {p : α → Bool} {f : α → Dt} (h : ∀ x ∈ xs, p x = true → nl (f x) = true) (i : Nat) : nlAll (got p f (xs.take i)) = true := nlAll_iff.mpr fun d hd => by
  obtain ⟨x, hx, rfl⟩ := List.mem_map.mp hd
  obtain ⟨h1, h2⟩ := List.mem_filter.mp hx
  exact h x (List.mem_of_mem_take h1) h2
theorem got_len (p : α → Bool) (f : α → Dt) (i : Nat) : (got p f (xs.take i)).length ≤ xs.length := by
  unfold got
  rw [List.length_map]
  refine Nat.le_trans (List.length_filter_le _ _) ?_
  rw [List.length_take]
  omega
theorem got_step {p : α → Bool} {f : α → Dt} {i : Nat} {x : α} (hx : xs[i]? = some x) : got p f (xs.take (i + 1)) = got p f (xs.take i) ++ (if p x = true then [f x] else []) := by
  unfold got
  rw [take_succ' hx, List.filter_append, List.map_append]
  congr 1
  rw [List.filter_cons]
  split <;> simp
theorem d_lc (p : α → Bool) (f : α → Dt) (h : EvI K wi σ H (xs.map enc)) (hz : xs.length < 40000) (hn : ∀ x ∈ xs, p x = true → nl (f x) = true)
    (hs : ∀ x ∈ xs, ∀ v H1, Ex H H1 → Dp K H1 v (enc x) → ∀ Q : L2.St → Hp → Prop, (∀ σ2 H2, Ex H1 H2 → wipe σ2 vs = wipe σ vs → EvT t σ2 H2 (p x) → (p x = true → EvD K te σ2 H2 (f x)) → Q σ2 H2) → g v (wipe σ vs) H1 Q) :
    EvD K (tLc wi g t te vs) σ H (.list (got p f xs)) := fun H0 e0 Q q => h H0 e0 _ fun J H1 e1 it D hD => by
  refine ⟨fun i m H' => m = xs.length - i ∧ i ≤ xs.length ∧ CwD K H1 D (got p f (xs.take i)) H', ⟨xs.length, by omega, by omega, CwD.new hD⟩, ?_⟩
  rintro i m H' ⟨rfl, hi, c⟩
  by_cases hlt : i < xs.length
  · have hx : xs[i]? = some xs[i] := List.getElem?_eq_getElem hlt
    generalize hxx : xs[i] = x at hx
    have hm : x ∈ xs := List.mem_of_getElem? hx
    have hd : (xs.map enc)[i]? = some (enc x) := by rw [List.getElem?_map, hx]; rfl
    refine .inr ⟨it.go i H' c.2.1 (by simpa using hlt), fun H'' => CwD K H1 D (got p f (xs.take (i + 1))) H'', fun H'' c' => ⟨xs.length - (i + 1), by omega, rfl, hlt, c'⟩, fun v H'' y => ?_⟩
    obtain ⟨e2, dv⟩ := it.yld i H' v H'' _ c.2.1 hd y
    have c2 := c.grow e2
    refine hs x hm v H'' ((e0.trans e1).trans c2.2.1) dv _ fun σ2 H2 e3 hw ht he => ⟨hw, ?_⟩
    refine cw_turnD (c2.grow e3) ht he (got_nl hn i) (hn x hm) (by have := got_len (xs := xs) p f i; omega) (fun hb H3 _ c3 => ?_) fun hb H3 _ c3 => ?_
    · rw [got_step hx, if_pos hb]
      exact c3
    · rw [got_step hx, if_neg (by rw [hb]; exact Bool.false_ne_true), List.append_nil]
      exact c3
  · have hi' : i = xs.length := by omega
    subst hi'
    rw [List.take_length] at c
    obtain ⟨c1, c2, ws, c3, c4⟩ := c
    refine .inl ⟨?_, q _ H' (e1.trans c2) (.lst (sq_of c3) c4)⟩
    have := it.stop H' c2
    simpa using this
/-- the target a name -/
theorem d_lcN {j : Nat} (p : α → Bool) (f : α → Dt) (h : EvI K wi σ H (xs.map enc)) (hz : xs.length < 40000) (hn : ∀ x ∈ xs, p x = true → nl (f x) = true) (hw : ∀ v, wipe ((wipe σ vs).set j (some v)) vs = wipe σ vs)
    (ht : ∀ x ∈ xs, ∀ v H1, Ex H H1 → Dp K H1 v (enc x) → EvT t ((wipe σ vs).set j (some v)) H1 (p x))
    (he : ∀ x ∈ xs, p x = true → ∀ v H1, Ex H H1 → Dp K H1 v (enc x) → EvD K te ((wipe σ vs).set j (some v)) H1 (f x)) :
    EvD K (tLc wi (gName j) t te vs) σ H (.list (got p f xs)) := d_lc p f h hz hn fun x hx v H1 e1 dv Q k => k _ H1 (Ex.refl _) (hw v) (ht x hx v H1 e1 dv) fun hb => he x hx hb v H1 e1 dv
/-- the same, of all -/
theorem d_lcA {j : Nat} (f : α → Dt) (h : EvI K wi σ H (xs.map enc)) (hz : xs.length < 40000) (hn : ∀ x ∈ xs, nl (f x) = true) (hw : ∀ v, wipe ((wipe σ vs).set j (some v)) vs = wipe σ vs)
    (he : ∀ x ∈ xs, ∀ v H1, Ex H H1 → Dp K H1 v (enc x) → EvD K te ((wipe σ vs).set j (some v)) H1 (f x)) :
    EvD K (tLc wi (gName j) tYes te vs) σ H (.list (xs.map f)) := (d_lcN (fun _ => true) f h hz (fun x hx _ => hn x hx) hw (fun _ _ _ _ _ _ => t_yes) fun x hx _ => he x hx).is (by
  unfold got
  rw [List.filter_eq_self.mpr fun _ _ => rfl])
/-- two clauses, targets names -/
theorem d_lc2 {i0 j0 : Nat} (p : α → β → Bool) (f : α → β → Dt) (h : EvI K wi σ H (xs.map enc)) (hz : (xs.map fun x => (ys x).length).sum < 40000) (hn : ∀ x ∈ xs, ∀ y ∈ ys x, p x y = true → nl (f x y) = true) (hx : ∀ x ∈ xs, nl (enc x) = true)
    (hw : ∀ v, wipe ((wipe σ vs).set i0 (some v)) vs = wipe σ vs) (hw1 : ∀ v w, wipe ((wipe ((wipe σ vs).set i0 (some v)) vs1).set j0 (some w)) vs1 = wipe ((wipe σ vs).set i0 (some v)) vs1)
    (h1 : ∀ x ∈ xs, ∀ v B H1, Ex H B → Ex B H1 → Dp K H1 v (enc x) → EvS K wi1 ((wipe σ vs).set i0 (some v)) B H1 ((ys x).map encB))
    (ht : ∀ x ∈ xs, ∀ y ∈ ys x, ∀ v w H1, Ex H H1 → Dp K H1 v (enc x) → Dp K H1 w (encB y) → EvT t1 ((wipe ((wipe σ vs).set i0 (some v)) vs1).set j0 (some w)) H1 (p x y))
    (he : ∀ x ∈ xs, ∀ y ∈ ys x, p x y = true → ∀ v w H1, Ex H H1 → Dp K H1 v (enc x) → Dp K H1 w (encB y) → EvD K te ((wipe ((wipe σ vs).set i0 (some v)) vs1).set j0 (some w)) H1 (f x y)) :
    EvD K (tLc2 wi (gName i0) tYes wi1 (gName j0) t1 te vs vs1) σ H (.list (xs.flatMap fun x => got (p x) (f x) (ys x))) := fun H0 e0 Q q => h H0 e0 _ fun J H1 e1 it D hD => by
  have nlF : ∀ i, nlAll ((xs.take i).flatMap fun x => got (p x) (f x) (ys x)) = true := fun i => nlAll_iff.mpr fun d hd => by
    obtain ⟨x, h1, h2⟩ := List.mem_flatMap.mp hd
    have := got_nl (xs := ys x) (p := p x) (f := f x) (hn x (List.mem_of_mem_take h1)) (ys x).length
    rw [List.take_length] at this
    exact nlAll_iff.mp this d h2
  have lenF : ∀ (l : List α), (l.flatMap fun x => got (p x) (f x) (ys x)).length ≤ (l.map fun x => (ys x).length).sum := by
    intro l
    induction l with
    | nil => simp
    | cons x l ih =>
      rw [List.flatMap_cons, List.length_append, List.map_cons, List.sum_cons]
      have := got_len (xs := ys x) (p x) (f x) (ys x).length
      rw [List.take_length] at this
      omega
  have sumT : ∀ (l : List α) (i : Nat), ((l.take i).map fun x => (ys x).length).sum ≤ (l.map fun x => (ys x).length).sum := by
    intro l
    induction l with
    | nil => intro i; simp
    | cons x l ih =>
      intro i
      cases i with
      | zero => simp
      | succ i =>
        rw [List.take_succ_cons, List.map_cons, List.map_cons, List.sum_cons, List.sum_cons]
        have := ih i
        omega
  refine ⟨fun i m H' => m = xs.length - i ∧ i ≤ xs.length ∧ CwD K H1 D ((xs.take i).flatMap fun x => got (p x) (f x) (ys x)) H', ⟨xs.length, by omega, by omega, CwD.new hD⟩, ?_⟩
  rintro i m H' ⟨rfl, hi, c⟩
  by_cases hlt : i < xs.length
  · have hxi : xs[i]? = some xs[i] := List.getElem?_eq_getElem hlt
    generalize hxx : xs[i] = x at hxi
    have hm : x ∈ xs := List.mem_of_getElem? hxi
    have hd : (xs.map enc)[i]? = some (enc x) := by rw [List.getElem?_map, hxi]; rfl
    have ez : (xs.take (i + 1)).flatMap (fun x => got (p x) (f x) (ys x)) = (xs.take i).flatMap (fun x => got (p x) (f x) (ys x)) ++ got (p x) (f x) (ys x) := by
      rw [take_succ' hxi, List.flatMap_append, List.flatMap_cons, List.flatMap_nil, List.append_nil]
    have hz1 : ((xs.take i).flatMap fun x => got (p x) (f x) (ys x)).length + (ys x).length < 40000 := by
      have a1 := lenF (xs.take i)
      have a2 := sumT xs (i + 1)
      rw [take_succ' hxi, List.map_append, List.sum_append] at a2
      have a3 : ([x].map fun x => (ys x).length).sum = (ys x).length := by simp
      omega
    refine .inr ⟨it.go i H' c.2.1 (by simpa using hlt), fun H'' => CwD K H1 D ((xs.take (i + 1)).flatMap fun x => got (p x) (f x) (ys x)) H'', fun H'' c' => ⟨xs.length - (i + 1), by omega, rfl, hlt, c'⟩, fun v H'' y => ?_⟩
    obtain ⟨e2, dv⟩ := it.yld i H' v H'' _ c.2.1 hd y
    have c2 := c.grow e2
    refine ⟨hw v, ?_⟩
    refine t_yes (σ := (wipe σ vs).set i0 (some v)) H'' (Ex.refl _) _ fun H3 e3 => ?_
    rw [if_pos rfl]
    have c3 := c2.grow e3
    have dv3 := dp_ex e3 dv
    refine h1 x hm v H1 H3 (e0.trans e1) c3.2.1 dv3 H3 (Ex.refl _) _ fun J1 H4 e4 it1 => ?_
    have c4 := c3.grow e4
    have dv4 := dp_ex e4 dv3
    have lD : Lsty D H4 := by obtain ⟨_, _, ws, z, _⟩ := c4; exact ⟨ws, z⟩
    refine ⟨fun j k H5 => k = (ys x).length - j ∧ j ≤ (ys x).length ∧ But D H4 H5 ∧ CwD K H1 D ((xs.take i).flatMap (fun x => got (p x) (f x) (ys x)) ++ got (p x) (f x) ((ys x).take j)) H5, ⟨(ys x).length, by omega, by omega, But.refl _ _, ?_⟩, ?_⟩
    · rw [List.take_zero]
      show CwD K H1 D (_ ++ []) H4
      rw [List.append_nil]
      exact c4
    rintro j k H5 ⟨rfl, hj, bt, c5⟩
    by_cases hlj : j < (ys x).length
    · have hyj : (ys x)[j]? = some (ys x)[j] := List.getElem?_eq_getElem hlj
      generalize hyy : (ys x)[j] = yy at hyj
      have hmy : yy ∈ ys x := List.mem_of_getElem? hyj
      have hdy : ((ys x).map encB)[j]? = some (encB yy) := by rw [List.getElem?_map, hyj]; rfl
      refine .inr ⟨it1.go j H5 c5.2.1 (by simpa using hlj), fun H6 => But D H4 H6 ∧ CwD K H1 D ((xs.take i).flatMap (fun x => got (p x) (f x) (ys x)) ++ got (p x) (f x) ((ys x).take (j + 1))) H6, fun H6 c' => ⟨(ys x).length - (j + 1), by omega, rfl, hlj, c'⟩, fun w H6 y6 => ?_⟩
      obtain ⟨e6, dw⟩ := it1.yld j H5 w H6 _ c5.2.1 hdy y6
      have c6 := c5.grow e6
      have b6 : But D H4 H6 := bt.trans (But.of e6)
      have dv6 : Dp K H6 v (enc x) := dp_but b6 lD (hx x hm) dv4
      refine ⟨hw1 v w, ?_⟩
      refine cw_turnD c6 (ht x hm yy hmy v w H6 ((e0.trans e1).trans c6.2.1) dv6 dw) (fun hb => he x hm yy hmy hb v w H6 ((e0.trans e1).trans c6.2.1) dv6 dw) (nlAll_app (nlF i) (got_nl (hn x hm) j)) (hn x hm yy hmy)
        (by rw [List.length_append]; have := got_len (xs := ys x) (p x) (f x) j; omega) (fun hb H7 b7 c7 => ?_) fun hb H7 b7 c7 => ?_
      · refine ⟨b6.trans b7, ?_⟩
        rw [got_step hyj, if_pos hb, ← List.append_assoc]
        exact c7
      · refine ⟨b6.trans b7, ?_⟩
        rw [got_step hyj, if_neg (by rw [hb]; exact Bool.false_ne_true), List.append_nil]
        exact c7
    · have hj' : j = (ys x).length := by omega
      subst hj'
      rw [List.take_length] at c5
      refine .inl ⟨?_, ?_⟩
      · have := it1.stop H5 c5.2.1
        simpa using this
      · rw [ez]
        exact c5
  · have hi' : i = xs.length := by omega
    subst hi'
    rw [List.take_length] at c
    obtain ⟨c1, c2, ws, c3, c4⟩ := c
    refine .inl ⟨?_, q _ H' (e1.trans c2) (.lst (sq_of c3) c4)⟩
    have := it.stop H' c2
    simpa using this

/-! ### loops in which the heap only grows -/
theorem s_forD {tb : TS} {Dn : Ends} (h : EvI K wi σ H (xs.map enc)) (Pv : Nat → L2.St → Hp → Prop) (h0 : ∀ H1, Ex H H1 → Pv 0 σ H1)
    (hs : ∀ i x, xs[i]? = some x → ∀ v σ' H', Ex H H' → Dp K H' v (enc x) → (∃ H0, Ex H0 H' ∧ Pv i σ' H0) → ∀ N : L2.St → Hp → Prop, (∀ σ2 H2, Ex H' H2 → Pv (i + 1) σ2 H2 → N σ2 H2) → g v σ' H' fun σ2 H2 => tb { Dn with nx := N, ct := N, bk := Dn.nx } σ2 H2)
    (hd : ∀ σ' H', Ex H H' → Pv xs.length σ' H' → Dn.nx σ' H') : tFor wi g tb Dn σ H := h H (Ex.refl H) _ fun J H1 e1 it => by
  refine ⟨fun i m σ' H' => m = xs.length - i ∧ i ≤ xs.length ∧ Ex H1 H' ∧ Pv i σ' H', ⟨xs.length, by omega, by omega, Ex.refl _, h0 H1 e1⟩, ?_⟩
  rintro i m σ' H' ⟨rfl, hi, e2, pv⟩
  by_cases hlt : i < xs.length
  · have hx : xs[i]? = some xs[i] := List.getElem?_eq_getElem hlt
    have hd : (xs.map enc)[i]? = some (enc xs[i]) := by rw [List.getElem?_map, hx]; rfl
    refine .inr ⟨it.go i H' e2 (by simpa using hlt), fun σ2 H2 => Ex H1 H2 ∧ Pv (i + 1) σ2 H2, fun σ2 H2 c => ⟨xs.length - (i + 1), by omega, rfl, hlt, c⟩, fun v H'' y => ?_⟩
    obtain ⟨e3, dv⟩ := it.yld i H' v H'' _ e2 hd y
    exact hs i _ hx v σ' H'' ((e1.trans e2).trans e3) dv ⟨H', e3, pv⟩ _ fun σ2 H2 e4 pv' => ⟨(e2.trans e3).trans e4, pv'⟩
  · have hi' : i = xs.length := by omega
    subst hi'
    refine .inl ⟨?_, hd σ' H' (e1.trans e2) pv⟩
    have := it.stop H' e2
    simpa using this
theorem q_forD {tb tz : TS} {Dn : Ends} (h : EvI K wi σ H (xs.map enc)) (Pv : Nat → L2.St → Hp → Prop) (h0 : ∀ H1, Ex H H1 → Pv 0 σ H1)
    (hs : ∀ i x, xs[i]? = some x → ∀ v σ' H', Ex H H' → Dp K H' v (enc x) → (∃ H0, Ex H0 H' ∧ Pv i σ' H0) → ∀ N : L2.St → Hp → Prop, (∀ σ2 H2, Ex H' H2 → Pv (i + 1) σ2 H2 → N σ2 H2) → g v σ' H' fun σ2 H2 => tb { Dn with nx := N, ct := N, bk := tz Dn } σ2 H2)
    (hd : ∀ σ' H', Ex H H' → Pv xs.length σ' H' → tz Dn σ' H') : tSeq (tFor wi g tb) tz Dn σ H := s_forD (Dn := { Dn with nx := tz Dn }) h Pv h0 hs hd
end

/-! ### types of data -/
def tyD : Dt → String
  | .none => "NoneType"
  | .bool _ => "bool"
  | .int _ => "int"
  | .str _ => "str"
  | .list _ => "list"
  | .tuple _ => "tuple"
  | .dict _ => "dict"
theorem dp_ty {K : PySem.W.Frag} {H : Hp} : ∀ {d : Dt} {v : V}, Dp K H v d → TyX K H v (.type (tyD d))
  | .none, _, .non => .base .non
  | .bool b, _, .bl _ => .base (.bl b)
  | .int i, _, .int _ => .base (.int i)
  | .str x, _, .str _ => .base (.str x)
  | .list ds, _, .lst h _ => by
    rcases h with (h | ⟨o, h⟩) | ⟨o, its, n, h, c, _⟩
    · exact .base (.lst h)
    · exact .base (.frz h)
    · exact .kList h c
  | .tuple ds, _, .tup h _ => by
    rcases h with (h | ⟨o, h⟩) | ⟨o, its, n, h, c, _⟩
    · exact .base (.tup h)
    · exact .fTuple h
    · exact .kTuple h c
section
variable {K : PySem.W.Frag} {σ : L2.St} {H : Hp} {te : TE} {d : Dt}
theorem d_isi {n : String} {b : Bool} (h : EvD K te σ H d) (hk : kitB (tyD d) n = some b) : EvD K (tCB (rIsi K) (tCons te (tCons (tC (.ty n)) tNil))) σ H (.bool b) := fun H1 a Q q =>
  h H1 a _ fun v H2 a2 dv => ⟨v, .ty n, .type (tyD d), .type n, b, rfl, .ty n, dp_ty dv, kit_ty hk, q _ H2 a2 (.bl b)⟩
/-- one of two built-in types -/
theorem d_isi2 {m n : String} {b c : Bool} (h : EvD K te σ H d) (hk : kitB (tyD d) m = some b) (hl : kitB (tyD d) n = some c) : EvD K (tCB (rIsiT K) (tCons te (tCons (tTup (tCons (tC (.ty m)) (tCons (tC (.ty n)) tNil))) tNil))) σ H (.bool (b || c)) := fun H1 a Q q =>
  h H1 a _ fun v H2 a2 dv => ⟨sz_of (n := 2) (by decide), fun p hp => ⟨v, p, [.ty m, .ty n], .type (tyD d), [.type m, .type n], b || c, rfl, upd_same, .cons (.ty m) (.cons (.ty n) .nil), dp_ty (dp_ex (Ex.new hp) dv), by
    refine kitAny_cons (kit_ty hk) (fun e => ?_) fun e => by rw [e]; rfl
    rw [e, Bool.false_or]
    refine kitAny_cons (kit_ty hl) (fun e => ?_) fun e => e
    rw [e]
    rfl, q _ _ (a2.trans (Ex.new hp)) (.bl _)⟩⟩
end
end DV

set_option Elab.async false
set_option linter.all false
set_option maxRecDepth 100000
set_option maxHeartbeats 1000000
/-! the text; calls by a name's promise; streets as data -/
namespace DF
open PySem PySem.Spec PyProof.Rows L2 Evl R1 StX PM DV

def topS (i : Nat) : Stmt := PySem.Challenge.pw_parkback_k38_whole_best_and_worst.main.body.getD i (.Pass ⟨0, 0, 0, 0⟩)
/-- what of the built-in names is not shadowed -/
structure Blt (mg : Str → Option Value) : Prop where
  isi : mg "isinstance" = none
  int : mg "int" = none
  bool : mg "bool" = none
  str : mg "str" = none
  tuple : mg "tuple" = none
  list : mg "list" = none
  len : mg "len" = none
  all : mg "all" = none
  range : mg "range" = none
  enum : mg "enumerate" = none
  sorted : mg "sorted" = none
  zip : mg "zip" = none
  min : mg "min" = none
  max : mg "max" = none
/-- a name of the top whose def keeps a promise -/
def GF (P : Program) (w : World) (K : PySem.W.Frag) (mg : Str → Option Value) (base : Heap) (k : Nat) (x : Str) (ps : List Str) (sp : Sp) : Prop :=
  ∃ f fd, FnOk P w K mg base CX0 k f fd ps sp ∧ mg x = some (.ref f) ∧ PySem.W.keepIn K (.ref f) = true ∧ Binds K fd ps []
theorem pe_gf {X : Cx} {k : Nat} {x : Str} {ps : List Str} {sp : Sp} {e : Expr} {es : List Expr} {t : TA} {p pos : Pos} (G : GF X.prog X.w X.K X.mg X.base k x ps sp) (hr : Room k X.A) (hg : Gl X x) (ha : PA X (e :: es) t)
    (hdb : (x == ("__debug__" : Str)) = false := by decide) (he : starEach (e :: es) X.env = (false, eval e X.env) :: starEach es X.env := by rfl) (hpl : (backTo pos (starEach es X.env)).any (·.1) = false := by rfl) :
    PE X (.Call (.Name x p) (e :: es) [] pos) (tCall sp [] E0 t) := by
  obtain ⟨f, fd, F, hm, hk, hb⟩ := G
  exact pe_call F hr hg hm hk hb .nil pass0 ha hdb he hpl

/-! ### rules over a named K (within a comprehension X.K must not show) -/
section
variable {X : Cx} (K : PySem.W.Frag)
theorem kx_ixT (h : X.K = K := by rfl) : IxR X (rIxT K) := by subst h; exact ix_tup
theorem kx_ixL (h : X.K = K := by rfl) : IxR X (rIxL K) := by subst h; exact ix_list
theorem ki_tup {tg l : Expr} {tl : TE} (hl : PE X l tl) (h : X.K = K := by rfl) : PI X tg l (iTup K tl) := by subst h; exact pi_tup hl
theorem ki_list {tg l : Expr} {tl : TE} (hl : PE X l tl) (h : X.K = K := by rfl) : PI X tg l (iList K tl) := by subst h; exact pi_list hl
theorem ko_in (h : X.K = K := by rfl) : OpR X (compareOp .In) (rIn K false) := by subst h; exact op_in_seq
theorem ko_ni (h : X.K = K := by rfl) : OpR X (compareOp .NotIn) (rIn K true) := by subst h; exact op_notIn_seq
theorem kc_len (h : X.K = K := by rfl) : CallR X (.builtin "len") (rLenQ K) := by subst h; exact cr_len
theorem kc_tup (h : X.K = K := by rfl) : CallR X (.type "tuple") (rTupQ K) := by subst h; exact cr_tup
theorem kc_min (hc : X.calm = true) (h : X.K = K := by rfl) : CallR X (.builtin "min") (rMin K) := by subst h; exact cr_min hc
theorem kc_isi (h : X.K = K := by rfl) : CallR X (.builtin "isinstance") (rIsi K) := by subst h; exact call_isi
theorem ko_catA (h : X.K = K := by rfl) : OpR X (binaryOp .Add) (rCatA K) := by subst h; exact op_catA
theorem ka_star {e : Expr} {es : List Expr} {te : TE} {t : TA} {p : Pos} (he : PE X e te) (hr : PA X es t) (hs : starEach (.Starred e p :: es) X.env = (true, eval e X.env) :: starEach es X.env := by rfl) (h : X.K = K := by rfl) : PA X (.Starred e p :: es) (tStar K te t) := by subst h; exact pa_star he hr hs
theorem kg_tup {es : List Expr} {k : Nat} {t : TGs} {n : Nat} {pos : Pos} (hc : X.calm = true) (hg : PGs X es t) (hn : (assignEach es X.env).length = n := by rfl) (hst : (assignEach es X.env).findIdx? (·.1) = none := by rfl) (h : X.K = K := by rfl) : PG X (.Tuple es k pos) (gTup K n t) := by
  subst h; exact pg_tup hc hg hn hst
theorem kgf {K : PySem.W.Frag} {P : Program} {w : World} {mg : Str → Option Value} {base : Heap} {k : Nat} {x : Str} {ps : List Str} {sp : Sp} {e : Expr} {es : List Expr} {t : TA} {p pos : Pos} (G : GF P w K mg base k x ps sp) (hr : Room k X.A) (hg : Gl X x) (ha : PA X (e :: es) t)
    (h1 : X.prog = P := by rfl) (h2 : X.w = w := by rfl) (h3 : X.K = K := by rfl) (h4 : X.mg = mg := by rfl) (h5 : X.base = base := by rfl)
    (hdb : (x == ("__debug__" : Str)) = false := by decide) (he : starEach (e :: es) X.env = (false, eval e X.env) :: starEach es X.env := by rfl) (hpl : (backTo pos (starEach es X.env)).any (·.1) = false := by rfl) :
    PE X (.Call (.Name x p) (e :: es) [] pos) (tCall sp [] E0 t) := by
  subst h1 h2 h3 h4 h5
  exact pe_gf G hr hg ha hdb he hpl
end
/-- a promise of a Lean relation between data, from the body -/
theorem ok_spP {P : Program} {w : World} {K : PySem.W.Frag} {mg : Str → Option Value} {base : Heap} {x qual : Str} {st : Stmt} {f : Addr} {fd : FuncData} {N ps : List Str} {k : Nat} {R : List Dt → Dt → Prop} (F : Fun K x qual st f fd) (S : FnScope N ps (defScope st)) (len : ∀ ds d, R ds d → ds.length = ps.length)
    (hbody : ∀ (cdv : Value) (A : Around) (outer : List Env) (s : Shared) (H : Hp) (E : XK), Room k (A.deeper (envOfC qual (defScope st) s.heap.objs.size f cdv)) →
      ∃ t, PSs (cxOf CX0 P w K mg base N qual (defScope st) f cdv A outer s H E).nox (defBody st) t ∧ ∀ vs ds d, DpAll K H vs ds → R ds d → ∀ Q : VK, (∀ v H', Ex H H' → Dp K H' v d → Q v H') → t { nx := fun _ H' => Q .non H', rt := Q } (start N vs) H) : FnOk P w K mg base CX0 (k + 1) f fd ps (spP K R) := by
  refine F.ok S (spP_len len) fun cdv A outer s H vs Q E hr h => ?_
  obtain ⟨ds, d, h1, h2, h3⟩ := h
  obtain ⟨t, ht, hh⟩ := hbody cdv A outer s H E hr
  exact ⟨t, ht, hh vs ds d h1 h2 Q h3⟩

/-! ### streets -/
def St (n : Int) (hs : List Int) : Dt := .tuple [.int n, T hs]
structure Good (n : Int) (hs : List Int) : Prop where
  n1 : 1 ≤ n
  n2 : n ≤ 7
  l1 : 1 ≤ hs.length
  l2 : hs.length ≤ 4
  hb : ∀ h ∈ hs, 0 ≤ h ∧ h ≤ n - 1
  room : Room n hs
theorem nl_St (n : Int) (hs : List Int) : nl (St n hs) = true := by
  unfold St
  rw [nl, nlAll, nlAll, nlAll, nl_T]
  rfl
theorem dp_non {K : PySem.W.Frag} {H : Hp} : Dp K H .non .none := .non
section
variable {K : PySem.W.Frag} {σ : L2.St} {H : Hp} {te : TE}
theorem Good.n {n : Int} {hs : List Int} (g : Good n hs) : 1 ≤ n ∧ n ≤ 7 := ⟨g.n1, g.n2⟩
/-- street[0], street[1] -/
theorem d_st0 {n : Int} {hs : List Int} (h : EvD K te σ H (St n hs)) : EvD K (tOp (rIxT K) te (tC (.int 0))) σ H (.int n) := d_op h d_int (rd_ixT (j := 0) rfl rfl)
theorem d_st1 {n : Int} {hs : List Int} (h : EvD K te σ H (St n hs)) : EvD K (tOp (rIxT K) te (tC (.int 1))) σ H (T hs) := d_op h d_int (rd_ixT (j := 1) rfl rfl)
theorem get_map {α β : Type} {f : α → β} {xs : List α} {i : Nat} {x : α} (h : xs[i]? = some x) : (xs.map f)[i]? = some (f x) := by rw [List.getElem?_map, h]; rfl
/-- t[i] of a tuple of ints -/
theorem d_ixI {tb : TE} {ns : List Int} {i : Int} {j : Nat} {n : Int} (h : EvD K te σ H (T ns)) (hi : EvD K tb σ H (.int i)) (hj : i = (j : Int)) (hn : ns[j]? = some n) : EvD K (tOp (rIxT K) te tb) σ H (.int n) := d_op h hi (rd_ixT hj (get_map hn))
end
end DF

set_option Elab.async false
set_option linter.all false
set_option maxRecDepth 100000
set_option maxHeartbeats 1000000
/-! checks -/
namespace DF
open PySem PySem.Spec PyProof.Rows L2 Evl R1 StX PM DV
theorem k_ii : kitB "int" "int" = some true := by decide +kernel
theorem k_ib : kitB "int" "bool" = some false := by decide +kernel
theorem k_tt : kitB "tuple" "tuple" = some true := by decide +kernel
theorem sc_is_integer : FnScope ["value"] ["value"] (defScope (topS 1)) := ⟨rfl, rfl, rfl, by decide +kernel, rfl, by decide +kernel, by decide +kernel⟩
theorem sc_is_in : FnScope ["value", "least", "most"] ["value", "least", "most"] (defScope (topS 2)) := ⟨rfl, rfl, rfl, by decide +kernel, rfl, by decide +kernel, by decide +kernel⟩
theorem sc_is_list : FnScope ["value", "least", "most"] ["value", "least", "most"] (defScope (topS 3)) := ⟨rfl, rfl, rfl, by decide +kernel, rfl, by decide +kernel, by decide +kernel⟩
def R_is_integer (ds : List Dt) (d : Dt) : Prop := ∃ n, ds = [.int n] ∧ d = .bool true
def R_is_in (ds : List Dt) (d : Dt) : Prop := ∃ v a b : Int, ds = [.int v, .int a, .int b] ∧ d = .bool (decide (a ≤ v) && decide (v ≤ b))
def R_is_list (ds : List Dt) (d : Dt) : Prop := ∃ (xs : List Dt) (a b : Int), ds = [.tuple xs, .int a, .int b] ∧ d = .bool (decide (a ≤ xs.length) && decide ((xs.length : Int) ≤ b))
section
variable {P : Program} {w : World} {K : PySem.W.Frag} {mg : Str → Option Value} {base : Heap} {f : Addr} {fd : FuncData}
theorem ok_is_integer (B : Blt mg) (F : Fun K "is_integer" "is_integer" (topS 1) f fd) : FnOk P w K mg base CX0 1 f fd ["value"] (spP K R_is_integer) := by
  refine ok_spP F sc_is_integer (fun ds d h => by obtain ⟨_, rfl, _⟩ := h; rfl) fun cdv A outer s H E hr => ?_
  refine ⟨_, pss_one (ps_ret (pe_and (pe_callB call_isi (by rfl) B.isi (by decide +kernel) (pa_cons (pv 0) (pa_cons (pe_bltn (v := .ty "int") (by rfl) B.int (by decide +kernel) rfl) pa_nil)))
    (pe_one (pe_not (pe_callB call_isi (by rfl) B.isi (by decide +kernel) (pa_cons (pv 0) (pa_cons (pe_bltn (v := .ty "bool") (by rfl) B.bool (by decide +kernel) rfl) pa_nil))))))), ?_⟩
  rintro vs ds d hd ⟨n, rfl, rfl⟩ Q q
  obtain ⟨x, rfl, hx⟩ := dpAll1 hd
  refine s_ret (d_andV (b1 := true) (b2 := true) (d_isi (d_var rfl hx) k_ii) fun _ => d_notV (b := false) (d_isi (d_var rfl hx) k_ib)) fun v H1 e dv => q v H1 e dv
theorem ok_is_in (F : Fun K "is_in" "is_in" (topS 2) f fd) (G : GF P w K mg base 1 "is_integer" ["value"] (spP K R_is_integer)) : FnOk P w K mg base CX0 2 f fd ["value", "least", "most"] (spP K R_is_in) := by
  refine ok_spP F sc_is_in (fun ds d h => by obtain ⟨_, _, _, rfl, _⟩ := h; rfl) fun cdv A outer s H E hr => ?_
  refine ⟨_, pss_one (ps_ret (pe_and (pe_gf G hr (by rfl) (pa_cons (pv 0) pa_nil)) (pe_one (pe_chain op_le op_le (pv 1) (pv 0) (pv 2))))), ?_⟩
  rintro vs ds d hd ⟨n, a, b, rfl, rfl⟩ Q q
  obtain ⟨x, y, z, rfl, hx, hy, hz⟩ := dpAll3 hd
  refine s_ret (d_andV (b1 := true) (d_call (ds_cons (d_var rfl hx) ds_nil) ⟨n, rfl, rfl⟩) fun _ => d_chain (d_var rfl hy) (d_var rfl hx) (d_var rfl hz) rd_b rd_b) fun v H1 e dv => q v H1 e (by rw [Bool.true_and] at dv; exact dv)
theorem ok_is_list (B : Blt mg) (F : Fun K "is_list" "is_list" (topS 3) f fd) : FnOk P w K mg base CX0 1 f fd ["value", "least", "most"] (spP K R_is_list) := by
  refine ok_spP F sc_is_list (fun ds d h => by obtain ⟨_, _, _, rfl, _⟩ := h; rfl) fun cdv A outer s H E hr => ?_
  refine ⟨_, pss_one (ps_ret (pe_and (pe_callB call_isi (by rfl) B.isi (by decide +kernel) (pa_cons (pv 0) (pa_cons (pe_bltn (v := .ty "tuple") (by rfl) B.tuple (by decide +kernel) rfl) pa_nil)))
    (pe_one (pe_chain op_le op_le (pv 1) (pe_callB cr_len (by rfl) B.len PySem.boot_len (pa_cons (pv 0) pa_nil)) (pv 2))))), ?_⟩
  rintro vs ds d hd ⟨xs, a, b, rfl, rfl⟩ Q q
  obtain ⟨x, y, z, rfl, hx, hy, hz⟩ := dpAll3 hd
  refine s_ret (d_andV (b1 := true) (d_isi (d_var rfl hx) k_tt) fun _ => d_chain (d_var rfl hy) (d_cb (ds_cons (d_var rfl hx) ds_nil) rc_lenT) (d_var rfl hz) rd_b rd_b) fun v H1 e dv => q v H1 e (by rw [Bool.true_and] at dv; exact dv)
end
end DF

set_option Elab.async false
set_option linter.all false
set_option maxRecDepth 100000
set_option maxHeartbeats 1000000
/-! has_room, need_street, need_places, need_state, need_car -/
namespace DF
open PySem PySem.Spec PyProof.Rows L2 Evl R1 StX PM DV
theorem enumI (ns : List Int) : enumD 0 (ns.map .int) = (List.range ns.length).map fun i => .tuple [.int (i : Int), .int (ns.getD i 0)] := by
  refine List.ext_getElem? fun i => ?_
  rw [enumD_get, List.getElem?_map]
  by_cases h : i < ns.length
  · rw [List.getElem?_map, List.getElem?_range h, List.getElem?_eq_getElem h]
    simp [List.getD_eq_getElem?_getD, h]
  · rw [List.getElem?_map, List.getElem?_eq_none (Nat.not_lt.mp h), List.getElem?_eq_none (by rw [List.length_range]; exact Nat.not_lt.mp h)]
    rfl
theorem getD_of {ns : List Int} {i : Nat} (h : i < ns.length) : ns[i]? = some (ns.getD i 0) := by rw [List.getD_eq_getElem?_getD, List.getElem?_eq_getElem h]; rfl
theorem q_asgP {K : PySem.W.Frag} {σ : L2.St} {H : Hp} {te : TE} {tz : TS} {Dn : Ends} {x y : Dt} {i j : Nat} (h : EvD K te σ H (.tuple [x, y])) (k : ∀ u w H1, Ex H H1 → Dp K H1 u x → Dp K H1 w y → tz Dn ((σ.set i (some u)).set j (some w)) H1) :
    tSeq (tAsg te (gTup K 2 (gCons (gName i) (gCons (gName j) gNil)))) tz Dn σ H := h H (Ex.refl H) _ fun v H1 e dv => g_pair dv fun u w d1 d2 => k u w H1 e d1 d2
theorem s_asgP {K : PySem.W.Frag} {σ : L2.St} {H : Hp} {te : TE} {Dn : Ends} {x y : Dt} {i j : Nat} (h : EvD K te σ H (.tuple [x, y])) (k : ∀ u w H1, Ex H H1 → Dp K H1 u x → Dp K H1 w y → Dn.nx ((σ.set i (some u)).set j (some w)) H1) :
    tAsg te (gTup K 2 (gCons (gName i) (gCons (gName j) gNil))) Dn σ H := h H (Ex.refl H) _ fun v H1 e dv => g_pair dv fun u w d1 d2 => k u w H1 e d1 d2

theorem sc_has_room : FnScope ["places", "homes", "place", "home"] ["places", "homes"] (defScope (topS 16)) := ⟨rfl, rfl, rfl, by decide +kernel, rfl, by decide +kernel, by decide +kernel⟩
theorem sc_need_street : FnScope ["street", "home"] ["street"] (defScope (topS 17)) := ⟨rfl, rfl, rfl, by decide +kernel, rfl, by decide +kernel, by decide +kernel⟩
theorem sc_need_places : FnScope ["street", "state", "places", "homes", "index", "place"] ["street", "state"] (defScope (topS 18)) := ⟨rfl, rfl, rfl, by decide +kernel, rfl, by decide +kernel, by decide +kernel⟩
theorem sc_need_state : FnScope ["street", "state"] ["street", "state"] (defScope (topS 19)) := ⟨rfl, rfl, rfl, by decide +kernel, rfl, by decide +kernel, by decide +kernel⟩
theorem sc_need_car : FnScope ["street", "car"] ["street", "car"] (defScope (topS 20)) := ⟨rfl, rfl, rfl, by decide +kernel, rfl, by decide +kernel, by decide +kernel⟩
def roomB (n : Int) (hs : List Int) : Bool := ((List.range n.toNat).map fun (i : Nat) => decide (((hs.filter fun h => decide (h ≥ (i : Int))).length : Int) ≤ n - (i : Int))).all id
theorem Good.roomB {n : Int} {hs : List Int} (g : Good n hs) : DF.roomB n hs = true := by
  unfold DF.roomB
  rw [List.all_eq_true]
  intro b hb
  obtain ⟨i, hi, rfl⟩ := List.mem_map.mp hb
  rw [List.mem_range] at hi
  have h := g.room (i : Int) (by omega) (by omega)
  have e : hs.countP (fun h => decide ((i : Int) ≤ h)) = (hs.filter fun h => decide (h ≥ (i : Int))).length := by rw [List.countP_eq_length_filter]
  rw [e] at h
  exact decide_eq_true h
def R_has_room (ds : List Dt) (d : Dt) : Prop := ∃ (n : Int) (hs : List Int), ds = [.int n, T hs] ∧ Good n hs ∧ d = .bool true
def R_need_street (ds : List Dt) (d : Dt) : Prop := ∃ (n : Int) (hs : List Int), ds = [St n hs] ∧ Good n hs ∧ d = .none
def R_need_places (ds : List Dt) (d : Dt) : Prop := ∃ (n : Int) (hs xs : List Int), ds = [St n hs, T xs] ∧ Good n hs ∧ IsState n hs xs ∧ d = .none
def R_need_car (ds : List Dt) (d : Dt) : Prop := ∃ (n : Int) (hs : List Int) (c : Int), ds = [St n hs, .int c] ∧ Good n hs ∧ 0 ≤ c ∧ c < hs.length ∧ d = .none
section
variable {P : Program} {w : World} {K : PySem.W.Frag} {mg : Str → Option Value} {base : Heap} {f : Addr} {fd : FuncData}
theorem ok_has_room (B : Blt mg) (F : Fun K "has_room" "has_room" (topS 16) f fd) : FnOk P w K mg base CX0 1 f fd ["places", "homes"] (spP K R_has_room) := by
  refine ok_spP F sc_has_room (fun ds d h => by obtain ⟨_, _, rfl, _⟩ := h; rfl) fun cdv A outer s H E hr => ?_
  refine ⟨_, pss_one (ps_ret (pe_callB (cr_all rfl) (by rfl) B.all (by decide +kernel) (pa_cons
    (pe_lc (own := [("place", 2)]) (g := gName 2) rfl sc_has_room.nd (pi_range1 (by rfl) B.range (pa_cons (pv 0) pa_nil)) (blkOk_by (N := ["places", "homes", "place", "home"]) (sc := defScope (topS 16)) (by decide +kernel)) (fun _ _ _ _ _ => pg_name (i := 2) sc_has_room.nd rfl (.inr rfl) (.inl rfl)) (fun _ _ _ _ _ => pts_nil)
      (fun _ _ _ _ _ => pe_cmpR op_le (pe_callB (kc_len K) (by rfl) B.len PySem.boot_len (pa_cons
        (pe_lc (own := [("home", 3)]) (g := gName 3) rfl sc_has_room.nd (ki_tup K (pv 1)) (blkOk_by (N := ["places", "homes", "place", "home"]) (sc := relS _ (defScope (topS 16))) (by decide +kernel)) (fun _ _ _ _ _ => pg_name (i := 3) sc_has_room.nd rfl (.inl rfl) (.inr rfl)) (fun _ _ _ _ _ => pts_one (pt_cmpR op_ge (pv 3) (pv 2) (nomark _))) (fun _ _ _ _ _ => pv 3)) pa_nil))
        (pe_op op_sub (pv 0) (pv 2)) (nomark _))) pa_nil))), ?_⟩
  rintro vs ds d hd ⟨n, hs, rfl, g, rfl⟩ Q q
  obtain ⟨x, y, rfl, hx, hy⟩ := dpAll2 hd
  have hn := g.n
  have hl := g.l2
  refine s_ret (d := .bool (roomB n hs)) (d_cb (ds_cons (EvD.is (d_lcA (fun (i : Nat) => .bool (decide (((hs.filter fun h => decide (h ≥ (i : Int))).length : Int) ≤ n - (i : Int)))) (ei_r1 (ds_cons (d_var rfl hx) ds_nil) (by omega)) (by rw [List.length_range]; omega) (fun _ _ => rfl) (fun _ => rfl) fun i _ v H1 e1 dv => ?_) ?_) ds_nil) rc_all)
    fun v H1 e dv => q v H1 e (by rw [g.roomB] at dv; exact dv)
  · refine d_op (x := .int ((hs.filter fun h => decide (h ≥ (i : Int))).length : Int)) (y := .int (n - (i : Int))) (d_cb (ds_cons (d_lcN (xs := hs) (enc := .int) (fun h => decide (h ≥ (i : Int))) .int (ei_t (d_var rfl (dp_ex e1 hy))) (by omega) (fun _ _ _ => rfl) (fun _ => rfl) (fun h _ u H2 e2 du => t_T (d_op (d_var rfl du) (d_var rfl (dp_ex e2 dv)) rd_b)) fun h _ _ u H2 e2 du => d_var rfl du) ds_nil) ?_)
      (d_op (d_var rfl (dp_ex e1 hx)) (d_var rfl dv) rd_i) rd_b
    have := rc_lenL (K := K) (ds := got (fun h => decide (h ≥ (i : Int))) .int hs)
    unfold got at this ⊢
    rw [List.length_map] at this
    exact this
  · rw [List.map_map]
    rfl
theorem ok_need_street (B : Blt mg) (F : Fun K "need_street" "need_street" (topS 17) f fd) (G1 : GF P w K mg base 1 "is_list" ["value", "least", "most"] (spP K R_is_list)) (G2 : GF P w K mg base 2 "is_in" ["value", "least", "most"] (spP K R_is_in)) (G3 : GF P w K mg base 1 "has_room" ["places", "homes"] (spP K R_has_room))
    {t1 t2 : Tok} (m1 : mg "MOST_PLACES" = some (.int 12 t1)) (m2 : mg "MOST_CARS" = some (.int 7 t2)) : FnOk P w K mg base CX0 3 f fd ["street"] (spP K R_need_street) := by
  refine ok_spP F sc_need_street (fun ds d h => by obtain ⟨_, _, rfl, _⟩ := h; rfl) fun cdv A outer s H E hr => ?_
  refine ⟨_, pss_cons (ps_if (PW.pt (pw_or (pt_not (pt_val (pe_gf G1 (hr.mono (by decide)) (by rfl) (pa_cons (pv 0) (pa_cons pe_int (pa_cons pe_int pa_nil)))))) (pw_or (pt_not (pt_val (pe_gf G2 hr (by rfl) (pa_cons (pe_ix ix_tup (pv 0) pe_int (fun _ _ => rfl)) (pa_cons pe_int (pa_cons (pe_glob rfl m1 (v := .int 12) ⟨_, rfl⟩) pa_nil))))))
      (pw_or1 (pt_not (pt_val (pe_gf G1 (hr.mono (by decide)) (by rfl) (pa_cons (pe_ix ix_tup (pv 0) pe_int (fun _ _ => rfl)) (pa_cons pe_int (pa_cons (pe_glob rfl m2 (v := .int 7) ⟨_, rfl⟩) pa_nil)))))))))) (pss_one ps_never) pss_nil)
    (pss_one (ps_if (PW.pt (pw_or (pt_not (pt_val (pe_callB (cr_all rfl) (by rfl) B.all (by decide +kernel) (pa_cons
        (pe_lc (own := [("home", 1)]) (g := gName 1) rfl sc_need_street.nd (pi_tup (pe_ix ix_tup (pv 0) pe_int (fun _ _ => rfl))) (blkOk_by (N := ["street", "home"]) (sc := defScope (topS 17)) (by decide +kernel)) (fun _ _ _ _ _ => pg_name (i := 1) sc_need_street.nd rfl (.inl rfl) (.inr rfl)) (fun _ _ _ _ _ => pts_nil)
          (fun _ _ _ _ _ => pe_gf G2 hr (by rfl) (pa_cons (pv 1) (pa_cons pe_int (pa_cons (pe_op op_sub (pe_ix (kx_ixT K) (pv 0) pe_int (fun _ _ => rfl)) pe_int) pa_nil))))) pa_nil))))
      (pw_or1 (pt_not (pt_val (pe_gf G3 (hr.mono (by decide)) (by rfl) (pa_cons (pe_ix ix_tup (pv 0) pe_int (fun _ _ => rfl)) (pa_cons (pe_ix ix_tup (pv 0) pe_int (fun _ _ => rfl)) pa_nil)))))))) (pss_one ps_never) pss_nil)), ?_⟩
  rintro vs ds d hd ⟨n, hs, rfl, g, rfl⟩ Q q
  obtain ⟨x, rfl, hx⟩ := dpAll1 hd
  have hn := g.n
  have hl := g.l2
  have hl1 := g.l1
  have hL : (hs.map PyData.int).length = hs.length := List.length_map _
  refine q_pass (et_is (et_or (a := false) (b := false) (et_is (et_not (t_B (d_call (ds_cons (d_var rfl hx) (ds_cons d_int (ds_cons d_int ds_nil))) ⟨_, 2, 2, rfl, rfl⟩))) rfl) fun _ => et_is (et_or (a := false) (b := false) (et_is (et_not (t_B (d_call (ds_cons (d_st0 (d_var rfl hx)) (ds_cons d_int (ds_cons d_int ds_nil))) ⟨n, 1, 12, rfl, rfl⟩))) ?_)
    fun _ => et_is (et_not (t_B (d_call (ds_cons (d_st1 (d_var rfl hx)) (ds_cons d_int (ds_cons d_int ds_nil))) ⟨_, 1, 7, rfl, rfl⟩))) ?_) rfl) rfl) fun H1 e1 => ?_
  · rw [decide_eq_true (by omega : (1 : Int) ≤ n), decide_eq_true (by omega : n ≤ 12)]
    rfl
  · rw [hL, decide_eq_true (by omega : (1 : Int) ≤ hs.length), decide_eq_true (by omega : (hs.length : Int) ≤ 7)]
    rfl
  have hx1 := dp_ex e1 hx
  refine s_pass (et_is (et_or (a := false) (b := false) (et_is (et_not (t_B (b := true) (EvD.is (d_cb (ds_cons (EvD.is (d_lcA (xs := hs) (enc := .int) (fun h => .bool (decide (0 ≤ h) && decide (h ≤ n - 1))) (ei_t (d_st1 (d_var rfl hx1))) (by omega) (fun _ _ => rfl) (fun _ => rfl) fun h _ v H2 e2 dv =>
      d_call (ds_cons (d_var rfl dv) (ds_cons d_int (ds_cons (d_op (d_st0 (d_var rfl (dp_ex e2 hx1))) d_int rd_i) ds_nil))) ⟨h, 0, n - 1, rfl, rfl⟩) (e := .list ((hs.map fun h => decide (0 ≤ h) && decide (h ≤ n - 1)).map .bool)) ?_) ds_nil) rc_all) ?_))) rfl)
    fun _ => et_is (et_not (t_B (d_call (ds_cons (d_st0 (d_var rfl hx1)) (ds_cons (d_st1 (d_var rfl hx1)) ds_nil)) ⟨n, hs, rfl, g, rfl⟩))) rfl) rfl) fun H2 e2 => q _ _ (e1.trans e2) .non
  · rw [List.map_map]
    rfl
  · refine congrArg PyData.bool ?_
    rw [List.all_eq_true]
    intro b hb
    obtain ⟨h, hh, rfl⟩ := List.mem_map.mp hb
    have := g.hb h hh
    show (decide (0 ≤ h) && decide (h ≤ n - 1)) = true
    rw [decide_eq_true this.1, decide_eq_true this.2]
    rfl
theorem ok_need_places (B : Blt mg) (F : Fun K "need_places" "need_places" (topS 18) f fd) (G1 : GF P w K mg base 1 "is_list" ["value", "least", "most"] (spP K R_is_list)) (G2 : GF P w K mg base 2 "is_in" ["value", "least", "most"] (spP K R_is_in)) : FnOk P w K mg base CX0 3 f fd ["street", "state"] (spP K R_need_places) := by
  refine ok_spP F sc_need_places (fun ds d h => by obtain ⟨_, _, _, rfl, _⟩ := h; rfl) fun cdv A outer s H E hr => ?_
  refine ⟨_, pss_cons (ps_asg (pv 0) (pg_tup rfl (pgs_cons (pg_name (i := 2) sc_need_places.nd rfl (.inl rfl)) (pgs_cons (pg_name (i := 3) sc_need_places.nd rfl (.inl rfl)) pgs_nil))))
    (pss_cons (ps_if (pt_not (pt_val (pe_gf G1 (hr.mono (by decide)) (by rfl) (pa_cons (pv 1) (pa_cons (pe_callB cr_len (by rfl) B.len PySem.boot_len (pa_cons (pv 3) pa_nil)) (pa_cons (pe_callB cr_len (by rfl) B.len PySem.boot_len (pa_cons (pv 3) pa_nil)) pa_nil)))))) (pss_one ps_never) pss_nil)
    (pss_one (ps_for PassesOwn.never rfl (pi_enumT (by rfl) B.enum (pa_cons (pv 1) pa_nil)) (pg_tup rfl (pgs_cons (pg_name (i := 4) sc_need_places.nd rfl (.inl rfl)) (pgs_cons (pg_name (i := 5) sc_need_places.nd rfl (.inl rfl)) pgs_nil)))
      (pss_one (ps_if (PW.pt (pw_or (pt_not (pt_val (pe_gf G2 hr (by rfl) (pa_cons (pv 5) (pa_cons (pe_ix ix_tup (pv 3) (pv 4) (fun _ _ => rfl)) (pa_cons (pe_op op_sub (pv 2) pe_int) pa_nil))))))
        (pw_or1 (pt_cmpR op_in_seq (pv 5) (pe_slice sl_tup (pv 1) po_none (po_some (pv 4))) (by rfl))))) (pss_one ps_never) pss_nil))))), ?_⟩
  rintro vs ds d hd ⟨n, hs, xs, rfl, g, st, rfl⟩ Q q
  obtain ⟨x, y, rfl, hx, hy⟩ := dpAll2 hd
  have hl := g.l2
  have hxl : hs.length = xs.length := st.2.len
  refine q_asgP (x := .int n) (y := T hs) (d_var rfl hx) fun u v H1 e1 du dv => ?_
  have hL : (hs.map PyData.int).length = hs.length := List.length_map _
  have hX : (xs.map PyData.int).length = xs.length := List.length_map _
  refine q_pass (et_is (et_not (t_B (d_call (ds_cons (d_var rfl (dp_ex e1 hy)) (ds_cons (d_cb (ds_cons (d_var rfl dv) ds_nil) rc_lenT) (ds_cons (d_cb (ds_cons (d_var rfl dv) ds_nil) rc_lenT) ds_nil))) ⟨_, _, _, rfl, rfl⟩))) ?_) fun H2 e2 => ?_
  · rw [hL, hX, hxl, decide_eq_true (Int.le_refl _)]
    rfl
  have hy2 := dp_ex e2 (dp_ex e1 hy)
  have du2 := dp_ex e2 du
  have dv2 := dp_ex e2 dv
  have src := ei_eT (ds_cons (d_var (σ := [some x, some y, some u, some v, none, none]) (i := 1) rfl hy2) ds_nil)
  rw [enumI] at src
  refine s_forD src (fun i σ' H' => ∃ a b, σ' = [some x, some y, some u, some v, a, b]) (fun _ _ => ⟨_, _, rfl⟩) (fun i j hj w0 σ' H' e3 dw pv N k => ?_) fun σ' H' e3 _ => q _ _ ((e1.trans e2).trans e3) .non
  obtain ⟨_, _, a, b, rfl⟩ := pv
  have hi : i < xs.length := by simpa using get_lt hj
  have ej : j = i := by rw [List.getElem?_range hi] at hj; exact (Option.some.inj hj).symm
  subst ej
  refine g_pair dw fun u4 u5 d4 d5 => ?_
  have hh : hs[j]? = some (hs.getD j 0) := getD_of (by omega)
  have hp : xs[j]? = some (xs.getD j 0) := getD_of hi
  have hr := Al.get st.2 hh hp
  refine s_pass (et_is (et_or (a := false) (b := false) (et_is (et_not (t_B (d_call (ds_cons (d_var rfl d5) (ds_cons (d_ixI (d_var rfl (dp_ex e3 dv2)) (d_var rfl d4) rfl hh) (ds_cons (d_op (d_var rfl (dp_ex e3 du2)) d_int rd_i) ds_nil))) ⟨_, _, _, rfl, rfl⟩))) ?_)
    fun _ => et_is (t_T (d_op (d_var rfl d5) (d_slT (d_var rfl (dp_ex e3 hy2)) (d_var rfl d4) (by rw [hX]; exact hi)) ?_)) rfl) rfl) fun H4 e4 => k _ _ e4 ⟨_, _, rfl⟩
  · rw [decide_eq_true hr.1, decide_eq_true (by omega : xs.getD j 0 ≤ n - 1)]
    rfl
  · have hz : decide (xs.getD j 0 ∈ xs.take j) = false := by
      refine decide_eq_false fun m => ?_
      obtain ⟨k', hk⟩ := List.mem_iff_getElem?.mp m
      have hk1 : k' < j := by have := get_lt hk; rw [List.length_take] at this; omega
      rw [List.getElem?_take_of_lt hk1] at hk
      have := (List.getElem?_inj (i := k') (j := j) (by omega) st.1).mp (hk.trans hp.symm)
      omega
    have := rd_inT (K := K) (p := xs.getD j 0) (ns := xs.take j)
    rw [hz] at this
    unfold T at this
    rw [List.map_take] at this
    exact this
theorem ok_need_state (F : Fun K "need_state" "need_state" (topS 19) f fd) (G1 : GF P w K mg base 3 "need_street" ["street"] (spP K R_need_street)) (G2 : GF P w K mg base 3 "need_places" ["street", "state"] (spP K R_need_places)) : FnOk P w K mg base CX0 4 f fd ["street", "state"] (spP K R_need_places) := by
  refine ok_spP F sc_need_state (fun ds d h => by obtain ⟨_, _, _, rfl, _⟩ := h; rfl) fun cdv A outer s H E hr => ?_
  refine ⟨_, pss_cons (ps_expr (pe_gf G1 hr (by rfl) (pa_cons (pv 0) pa_nil))) (pss_one (ps_expr (pe_gf G2 hr (by rfl) (pa_cons (pv 0) (pa_cons (pv 1) pa_nil))))), ?_⟩
  rintro vs ds d hd ⟨n, hs, xs, rfl, g, st, rfl⟩ Q q
  obtain ⟨x, y, rfl, hx, hy⟩ := dpAll2 hd
  refine q_drop (d_call (ds_cons (d_var rfl hx) ds_nil) ⟨n, hs, rfl, g, rfl⟩) fun v H1 e1 _ => ?_
  exact s_drop (d_call (ds_cons (d_var rfl (dp_ex e1 hx)) (ds_cons (d_var rfl (dp_ex e1 hy)) ds_nil)) ⟨n, hs, xs, rfl, g, st, rfl⟩) fun v H2 e2 _ => q _ _ (e1.trans e2) .non
theorem ok_need_car (B : Blt mg) (F : Fun K "need_car" "need_car" (topS 20) f fd) (G2 : GF P w K mg base 2 "is_in" ["value", "least", "most"] (spP K R_is_in)) : FnOk P w K mg base CX0 3 f fd ["street", "car"] (spP K R_need_car) := by
  refine ok_spP F sc_need_car (fun ds d h => by obtain ⟨_, _, _, rfl, _⟩ := h; rfl) fun cdv A outer s H E hr => ?_
  refine ⟨_, pss_one (ps_if (pt_not (pt_val (pe_gf G2 hr (by rfl) (pa_cons (pv 1) (pa_cons pe_int (pa_cons (pe_op op_sub (pe_callB cr_len (by rfl) B.len PySem.boot_len (pa_cons (pe_ix ix_tup (pv 0) pe_int (fun _ _ => rfl)) pa_nil)) pe_int) pa_nil)))))) (pss_one ps_never) pss_nil), ?_⟩
  rintro vs ds d hd ⟨n, hs, c, rfl, g, c1, c2, rfl⟩ Q q
  obtain ⟨x, y, rfl, hx, hy⟩ := dpAll2 hd
  have hL : (hs.map PyData.int).length = hs.length := List.length_map _
  refine s_pass (et_is (et_not (t_B (d_call (ds_cons (d_var rfl hy) (ds_cons d_int (ds_cons (d_op (d_cb (ds_cons (d_st1 (d_var rfl hx)) ds_nil) rc_lenT) d_int rd_i) ds_nil))) ⟨c, 0, _, rfl, rfl⟩))) ?_) fun H1 e1 => q _ _ e1 .non
  rw [hL, decide_eq_true c1, decide_eq_true (by omega : c ≤ (hs.length : Int) - 1)]
  rfl
end
end DF

set_option Elab.async false
set_option linter.all false
namespace PM
theorem build_snoc (Ls : List (List Int)) (L : List Int) (found : List (List Int)) : build (Ls ++ [L]) found = stepL L (build Ls found) := by
  unfold build
  rw [List.foldl_append]
  rfl
theorem stepL_len (L : List Int) (c : Nat) (h : L.length ≤ c) : ∀ found : List (List Int), (stepL L found).length ≤ found.length * c
  | [] => by simp [stepL]
  | r :: found => by
    have ih := stepL_len L c h found
    have e : stepL L (r :: found) = ((L.filter (fun p => !decide (p ∈ r))).map fun p => r ++ [p]) ++ stepL L found := rfl
    rw [e, List.length_append, List.length_map, List.length_cons, Nat.succ_mul]
    have := List.length_filter_le (fun p => !decide (p ∈ r)) L
    omega
theorem build_len (c : Nat) : ∀ (Ls found : List (List Int)), (∀ L ∈ Ls, L.length ≤ c) → (build Ls found).length ≤ found.length * c ^ Ls.length
  | [], found, _ => by
    show found.length ≤ found.length * c ^ 0
    rw [Nat.pow_zero, Nat.mul_one]
    exact Nat.le_refl _
  | L :: Ls, found, h => by
    have e : build (L :: Ls) found = build Ls (stepL L found) := rfl
    have h1 := build_len c Ls (stepL L found) fun M m => h M (List.mem_cons_of_mem _ m)
    have h2 := stepL_len L c (h L List.mem_cons_self) found
    rw [e, List.length_cons, Nat.pow_succ, Nat.mul_comm (c ^ Ls.length) c, ← Nat.mul_assoc]
    exact Nat.le_trans h1 (Nat.mul_le_mul_right _ h2)
theorem pow_bound {c k : Nat} (h : k ≤ 4) (hc : 1 ≤ c) : c ^ k ≤ c ^ 4 := Nat.pow_le_pow_right hc h
theorem prodI_snoc (n : Int) : ∀ (rs : List Int) (r acc : Int) (d : Nat), prodI n acc d (rs ++ [r]) = prodI n acc d rs * (n - r - ((d + rs.length : Nat) : Int))
  | [], r, acc, d => rfl
  | a :: rs, r, acc, d => by
    have ih := prodI_snoc n rs r (acc * (n - a - (d : Int))) (d + 1)
    show prodI n (acc * (n - a - (d : Int))) (d + 1) (rs ++ [r]) = prodI n (acc * (n - a - (d : Int))) (d + 1) rs * (n - r - ((d + (rs.length + 1) : Nat) : Int))
    rw [ih]
    have : d + 1 + rs.length = d + (rs.length + 1) := by omega
    rw [this]
theorem prodI_abs {n : Int} (hn : 1 ≤ n ∧ n ≤ 7) : ∀ (rs : List Int) (acc : Int) (d : Nat), (∀ r ∈ rs, 0 ≤ r ∧ r ≤ n - 1) → d + rs.length ≤ 4 → (prodI n acc d rs).natAbs ≤ acc.natAbs * 7 ^ rs.length
  | [], acc, d, _, _ => by
    show acc.natAbs ≤ acc.natAbs * 7 ^ 0
    omega
  | r :: rs, acc, d, h, hd => by
    rw [List.length_cons] at hd
    have h1 := prodI_abs hn rs (acc * (n - r - (d : Int))) (d + 1) (fun q m => h q (List.mem_cons_of_mem _ m)) (by omega)
    have h2 := h r List.mem_cons_self
    have h3 : (n - r - (d : Int)).natAbs ≤ 7 := by omega
    show (prodI n (acc * (n - r - (d : Int))) (d + 1) rs).natAbs ≤ acc.natAbs * 7 ^ (rs.length + 1)
    rw [Int.natAbs_mul] at h1
    refine Nat.le_trans h1 ?_
    rw [Nat.pow_succ, Nat.mul_comm (7 ^ rs.length) 7, ← Nat.mul_assoc]
    exact Nat.mul_le_mul_right _ (Nat.mul_le_mul_left _ h3)
/-- from the greatest down -/
def desc (hs : List Int) : List Int := (hs.mergeSort (fun a b => decide (a ≤ b))).reverse
theorem asc_le (hs : List Int) : (hs.mergeSort (fun a b => decide (a ≤ b))).Pairwise (· ≤ ·) := by
  have h := List.pairwise_mergeSort (le := fun a b : Int => decide (a ≤ b)) (fun a b c h1 h2 => by simp at *; omega) (fun a b => by simp; omega) hs
  exact h.imp fun h => by simpa using h
theorem asc_perm (hs : List Int) : (hs.mergeSort (fun a b => decide (a ≤ b))).Perm hs := List.mergeSort_perm _ _
theorem desc_perm (hs : List Int) : (desc hs).Perm hs := (List.reverse_perm _).trans (asc_perm hs)
theorem desc_ge (hs : List Int) : (desc hs).Pairwise (· ≥ ·) := by
  unfold desc
  rw [List.pairwise_reverse]
  exact asc_le hs
theorem desc_len (hs : List Int) : (desc hs).length = hs.length := (desc_perm hs).length_eq
theorem asc_eq {hs ms : List Int} (p : ms.Perm hs) (s : ms.Pairwise (· ≤ ·)) : ms = hs.mergeSort (fun a b => decide (a ≤ b)) := sorted_eq s (asc_le hs) (p.trans (asc_perm hs).symm)
theorem park_snoc : ∀ (hs acc : List Int) (h : Int), park acc (hs ++ [h]) = park acc hs ++ [ff (park acc hs).length (park acc hs) h]
  | [], acc, h => rfl
  | a :: hs, acc, h => park_snoc hs (acc ++ [ff acc.length acc a]) h
end PM

set_option Elab.async false
set_option linter.all false
set_option maxRecDepth 100000
set_option maxHeartbeats 1000000
/-! tuples known to have no dict; sorted of data; min of data -/
namespace DV
open PySem PySem.Spec PyProof.Rows L2 Evl R1 StX PM

/-- a tuple whose object is known and plain -/
def Nd (H : Hp) (v : V) : Prop := ∃ a o xs, v = .ref a ∧ H a = some (.frz o (.tup xs)) ∧ o.dict = none
theorem Nd.ex {H H' : Hp} {v : V} (e : Ex H H') (h : Nd H v) : Nd H' v := by
  obtain ⟨a, o, xs, rfl, h1, h2⟩ := h
  exact ⟨a, o, xs, rfl, e _ _ h1, h2⟩
theorem Nd.but {H H' : Hp} {v : V} {b : Addr} (e : But b H H') (l : Lsty b H) (h : Nd H v) : Nd H' v := by
  obtain ⟨a, o, xs, rfl, h1, h2⟩ := h
  obtain ⟨ys, l⟩ := l
  exact ⟨a, o, xs, rfl, e _ _ (fun z => by rw [z, l] at h1; cases h1) h1, h2⟩
def tTupF (t : TA) : TE := fun σ H Q => t σ H fun xs H1 => xs.length ≤ sizeLine ∧ ∀ p o, H1 p = none → o.dict = none → Q (.ref p) (upd H1 p (.frz o (.tup xs)))
def rCatF (K : PySem.W.Frag) : R2 := fun x y H Q => ∃ a b xs ys, x = .ref a ∧ y = .ref b ∧ SqT K H a xs ∧ SqT K H b ys ∧ xs.length + ys.length ≤ sizeLine ∧
  (xs = [] → Q (.ref b) H) ∧ (xs ≠ [] → ys = [] → Q (.ref a) H) ∧ (xs ≠ [] → ys ≠ [] → ∀ p o, H p = none → o.dict = none → Q (.ref p) (upd H p (.frz o (.tup (xs ++ ys)))))
def tBMN (r : V → List V → Hp → VK → Prop) (to : TE) (t : TA) : TE := fun σ H Q => to σ H fun x H1 => Nd H1 x ∧ t σ H1 fun xs H2 => r x xs H2 Q
section
variable {X : Cx}
theorem laid_frz {pins : List (Addr × Obj)} {s : Shared} {σ : L2.St} {H : Hp} {xs : List V} {us : List Value} (I : Inv X pins σ H s) (r : Vals xs us) (z : xs.length ≤ sizeLine) :
    Inv X pins σ (upd H s.heap.objs.size (.frz { cls := .type "tuple", data := .seq us.toArray } (.tup xs))) { s with heap := s.heap.push { cls := .type "tuple", data := .seq us.toArray } } :=
  have e := Heap.get?_push_size (o := { cls := .type "tuple", data := .seq us.toArray }) s.heap rfl
  I.laid (t' := s.toks) (fun _ _ q => Heap.get?_push_of_some _ q) (Nat.le_refl _) ⟨e, z, us, r, ⟨_, e, rfl, _, rfl⟩⟩
theorem pe_tupF {x1} {es : List Expr} {t : TA} {pos : Pos} (h : PA X es t) : PE X (.Tuple es x1 pos) (tTupF t) :=
  ⟨fun pins s σ H Q I hq => wpAny_Tuple_spliced (thn (h.run pos pins s σ H _ I hq) fun us s1 ⟨xs, H1, I1, r, z, q⟩ => ⟨by rw [← r.length]; exact z, ⟨.ref s1.heap.objs.size, _, laid_frz I1 r z, rfl, q _ _ (I1.hok.fresh (Nat.le_refl _)) rfl⟩⟩)⟩
theorem op_catF (K : PySem.W.Frag) (hK : X.K = K := by rfl) : OpR X (binaryOp .Add) (rCatF K) := by
  subst hK
  intro pins s σ H x y v u Q I rx ry ⟨a, b, xs, ys, e1, e2, ha, hb, hz, q0, q1, q2⟩
  subst e1 e2
  by_cases hx : xs = []
  · exact op_catA pins s σ H _ _ v u Q I rx ry ⟨a, b, xs, ys, rfl, rfl, ha, hb, hz, q0, q1, fun z => absurd hx z⟩
  · cases rx
    cases ry
    obtain ⟨is, r1, p1, _⟩ := I.tuple ha
    obtain ⟨js, r2, p2, _⟩ := I.tuple hb
    have hl : (xs ++ ys).length ≤ sizeLine := by rw [List.length_append]; exact hz
    exact HT.cat_tup p1 p2 (fun z => hx (r1.nil_iff.mp z)) (fun z => ⟨.ref a, H, I, rfl, q1 hx (r2.nil_iff.mp z)⟩)
      (fun z => ⟨.ref s.heap.objs.size, _, laid_frz I (r1.append r2) hl, rfl, q2 hx (fun w => z (r2.nil_iff.mpr w)) _ _ (I.hok.fresh (Nat.le_refl _)) rfl⟩) (by rw [← r1.length, ← r2.length]; exact hz)
variable {o e : Expr} {es : List Expr} {to : TE} {t : TA} {name : Str} {apos cpos : Pos} {id : String} {r : V → List V → Hp → VK → Prop}
theorem pe_bmN (pa : PlainAttrs "tuple") (slot : Slot "tuple" name id) (hty : typeOf (.builtin id) = pure (.type "method_descriptor")) (hm : MtR X id r) (ho : PE X o to) (ha : PA X (e :: es) t)
    (hb : attributeBase o name X.env (eval o X.env) = eval o X.env := by rfl)
    (hf : ((backTo cpos (starEach (e :: es) X.env)).all (fun x => !x.1) && (backToKw cpos (keywordEach [] X.env)).all (fun x => x.1.isSome) && decide ((e :: es).length + ([] : List Keyword).length + (if ([] : List Keyword).isEmpty then 0 else 1) < 30)) = true := by rfl)
    (hl : (apos.endLine == cpos.line) = true := by rfl) (hs : starEach (e :: es) X.env = (false, eval e X.env) :: starEach es X.env := by rfl) (hp : (backTo cpos (starEach es X.env)).any (·.1) = false := by rfl) : PE X (.Call (.Attribute o name apos) (e :: es) [] cpos) (tBMN r to t) := by
  constructor
  intro pins s σ H Q I h
  refine wpAny_Call_method_late hb hf hl rfl (thn (ho.run pins s σ H _ I h) fun v s1 ⟨x, H1, I1, r1, nd, q1⟩ => ?_)
  obtain ⟨a, ob, xs, rfl, h1, h2⟩ := nd
  cases (show v = Value.ref a from r1)
  obtain ⟨g1, _, _, _, o2, g2, g3, _⟩ := (show ObjOk X.prog X.w H1 s1.heap a (.frz ob (.tup xs)) from I1.hok a _ h1)
  refine ⟨"tuple", id, pa, slot, hty, ⟨o2, g2, g3⟩, fun b eb => ⟨ob, by cases eb; exact g1, h2⟩, ?_⟩
  have hA := ha.run cpos pins s1 σ H1 _ I1 q1
  rw [hs] at hA ⊢
  exact Calls.callWith_builtin (by show (false || (backTo cpos (starEach es X.env)).any (·.1)) = false; rw [hp] <;> rfl) (Calls.evalArgs_plain (thn hA fun us s2 ⟨vs, H2, I2, r2, q2⟩ => hm pins s2 σ H2 _ vs _ us Q I2 r1 r2 q2))
end
def rTidx (K : PySem.W.Frag) : V → List V → Hp → VK → Prop := fun x xs H Q => ∃ (p : Addr) (ns : List Int) (k : Int), x = .ref p ∧ xs = [.int k] ∧ SqT K H p (ns.map V.int) ∧ k ∈ ns ∧ Q (.int (ns.idxOf k : Nat)) H
theorem mt_tidx {X : Cx} : MtR X "tuple.index" (rTidx X.K) := mt_tup_index_int
section
variable {K : PySem.W.Frag} {σ : L2.St} {H : Hp}
/-- t.index(n), t in a slot -/
theorem d_tidx {i : Nat} {te : TE} {v : V} {ns : List Int} {k : Int} (hv : σ[i]? = some (some v)) (hd : Dp K H v (T ns)) (nd : Nd H v) (hk : EvD K te σ H (.int k)) (hm : k ∈ ns) : EvD K (tBMN (rTidx K) (tVar i) (tCons te tNil)) σ H (.int (ns.idxOf k : Nat)) := fun H1 a Q q =>
  ⟨v, hv, nd.ex a, hk H1 a _ fun w H2 a2 dw => by
    obtain ⟨p, rfl, hs⟩ := dp_T (dp_ex (a.trans a2) hd)
    exact ⟨p, ns, k, rfl, by rw [dp_int dw], hs, hm, q _ H2 a2 (.int _)⟩⟩
end

/-! ### the order of rows and pairs -/
theorem alike_ints : ∀ xs ys : List Int, PySem.W.alikeAll (xs.map .int) (ys.map .int) = true
  | [], _ => by rw [List.map_nil, PySem.W.alikeAll]
  | x :: xs, [] => by rw [List.map_nil, List.map_cons, PySem.W.alikeAll]
  | x :: xs, y :: ys => by
    rw [List.map_cons, List.map_cons, PySem.W.alikeAll, alike_ints xs ys, PySem.W.alike]
    rfl
theorem alike_T (xs ys : List Int) : PySem.W.alike (T xs) (T ys) = true := by
  unfold T
  rw [PySem.W.alike]
  exact alike_ints xs ys
theorem lt_T (xs ys : List Int) : PySem.W.dataLt (T xs) (T ys) = decide (xs < ys) := by
  unfold T
  rw [PySem.W.dataLt_tuple]
  exact PySem.W.dataLt_ints xs ys
/-- a number and a row -/
def P2 (p : Int × List Int) : Dt := .tuple [.int p.1, T p.2]
theorem alike_P2 (p q : Int × List Int) : PySem.W.alike (P2 p) (P2 q) = true := by
  unfold P2
  rw [PySem.W.alike, PySem.W.alikeAll, PySem.W.alikeAll, PySem.W.alikeAll, PySem.W.alike, alike_T]
  rfl
theorem eqv_T (xs ys : List Int) : PyData.eqv (T xs) (T ys) = decide (xs = ys) := by
  unfold T
  induction xs generalizing ys with
  | nil => cases ys <;> simp [PyData.eqv, PyData.eqvAll]
  | cons x xs ih =>
    cases ys with
    | nil => simp [PyData.eqv, PyData.eqvAll]
    | cons y ys =>
      have := ih ys
      simp only [PyData.eqv] at this
      simp only [PyData.eqv, List.map_cons, PyData.eqvAll, this]
      rw [Bool.eq_iff_iff]
      simp
theorem lt_P2 (p q : Int × List Int) : PySem.W.dataLt (P2 p) (P2 q) = decide (p.1 < q.1 ∨ (p.1 = q.1 ∧ p.2 < q.2)) := by
  unfold P2
  rw [PySem.W.dataLt_pair (by simp [PySem.W.alike]) (alike_T _ _), PySem.W.dataLt_int, lt_T, eqv_T]
  simp only [PyData.eqv, beq_iff_eq]
  by_cases h1 : p.1 = q.1
  · by_cases h2 : p.2 = q.2
    · simp [h1, h2, List.lt_irrefl]
    · simp [h1, h2]
  · simp [h1]
def ltP (p q : Int × List Int) : Prop := p.1 < q.1 ∨ (p.1 = q.1 ∧ p.2 < q.2)
instance (p q : Int × List Int) : Decidable (ltP p q) := inferInstanceAs (Decidable (_ ∨ _))
theorem rows_total {a b : List Int} (h1 : ¬ a < b) (h2 : ¬ b < a) : a = b := List.le_antisymm h2 h1
theorem ltP_total {p q : Int × List Int} (h1 : ¬ ltP p q) (h2 : ¬ ltP q p) : p = q := by
  unfold ltP at h1 h2
  have e : p.1 = q.1 := by omega
  refine Prod.ext e (rows_total (fun h => h1 (.inr ⟨e, h⟩)) fun h => h2 (.inr ⟨e.symm, h⟩))
theorem ltP_irr (p : Int × List Int) : ¬ ltP p p := fun h => by
  rcases h with h | ⟨_, h⟩
  · omega
  · exact List.lt_irrefl _ h
theorem ltP_trans {p q r : Int × List Int} (h1 : ltP p q) (h2 : ltP q r) : ltP p r := by
  unfold ltP at *
  rcases h1 with h1 | ⟨e1, h1⟩
  · rcases h2 with h2 | ⟨e2, _⟩
    · left; omega
    · left; omega
  · rcases h2 with h2 | ⟨e2, h2⟩
    · left; omega
    · right; exact ⟨by omega, List.lt_trans h1 h2⟩
theorem ltP_co {p q r : Int × List Int} (h1 : ¬ ltP p q) (h2 : ¬ ltP q r) : ¬ ltP p r := fun h => by
  by_cases e : q = p
  · subst e; exact h2 h
  · have h3 : ltP q p := Classical.byContradiction fun z => e (ltP_total z h1)
    exact h2 (ltP_trans h3 h)
/-- the least of a list, by its order -/
theorem best_of {α : Type} {xs : List α} {enc : α → Dt} {lt : α → α → Prop} [DecidableRel lt] (hne : 0 < xs.length) (hl : ∀ a b, PySem.W.dataLt (enc a) (enc b) = decide (lt a b)) (irr : ∀ a, ¬ lt a a) (co : ∀ a b c, ¬ lt a b → ¬ lt b c → ¬ lt a c) (asy : ∀ a b, lt a b → ¬ lt b a) :
    ∃ x, xs[argBest (fun i j => PySem.W.dataLt ((xs.map enc).getD i .none) ((xs.map enc).getD j .none)) ((xs.map enc).length - 1)]? = some x ∧ ∀ y ∈ xs, ¬ lt y x := by
  rw [List.length_map]
  have gd : ∀ i (h : i < xs.length), (xs.map enc).getD i .none = enc xs[i] := fun i h => by
    rw [List.getD_eq_getElem?_getD, List.getElem?_map, List.getElem?_eq_getElem h]
    rfl
  generalize hbt : (fun i j => PySem.W.dataLt ((xs.map enc).getD i .none) ((xs.map enc).getD j .none)) = bt
  have hb : ∀ i j (h1 : i < xs.length) (h2 : j < xs.length), bt i j = decide (lt xs[i] xs[j]) := fun i j h1 h2 => by
    rw [← hbt]
    show PySem.W.dataLt _ _ = _
    rw [gd i h1, gd j h2, hl]
  have hk : argBest bt (xs.length - 1) < xs.length := by have := argBest_le bt (xs.length - 1); omega
  refine ⟨_, List.getElem?_eq_getElem hk, fun y hy => ?_⟩
  obtain ⟨j, hj, rfl⟩ := List.mem_iff_getElem.mp hy
  have := argBest_least (bt := bt) (n := xs.length) (fun i j k h1 h2 h3 e1 e2 => ?_) (fun i h => ?_) (fun i j h1 h2 e => ?_) (xs.length - 1) (by omega) j (by omega)
  · rw [hb j _ hj hk] at this
    exact of_decide_eq_false this
  · rw [hb _ _ h1 h2] at e1
    rw [hb _ _ h2 h3] at e2
    rw [hb _ _ h1 h3]
    exact decide_eq_false (co _ _ _ (of_decide_eq_false e1) (of_decide_eq_false e2))
  · rw [hb _ _ h h]
    exact decide_eq_false (irr _)
  · rw [hb _ _ h1 h2] at e
    rw [hb _ _ h2 h1]
    exact decide_eq_false (asy _ _ (of_decide_eq_true e))
section
variable {K : PySem.W.Frag} {A : Around}
theorem depth_ints : ∀ ns : List Int, PyData.depthAll (ns.map .int) = 0
  | [] => by rw [List.map_nil, PyData.depthAll]
  | n :: ns => by rw [List.map_cons, PyData.depthAll, depth_ints ns, PyData.depth]; rfl
theorem depth_T (ns : List Int) : (T ns).depth = 1 := by
  unfold T
  rw [PyData.depth, depth_ints]
theorem depth_P2 (p : Int × List Int) : (P2 p).depth = 2 := by
  unfold P2
  rw [PyData.depth, PyData.depthAll, PyData.depthAll, PyData.depthAll, depth_T, PyData.depth]
  rfl
theorem rc_minOf {α : Type} {xs : List α} {enc : α → Dt} {lt : α → α → Prop} [DecidableRel lt] {d : Dt} (hne : 0 < xs.length) (hl : ∀ a b, PySem.W.dataLt (enc a) (enc b) = decide (lt a b)) (irr : ∀ a, ¬ lt a a) (co : ∀ a b c, ¬ lt a b → ¬ lt b c → ¬ lt a c) (asy : ∀ a b, lt a b → ¬ lt b a)
    (al : ∀ a b, PySem.W.alike (enc a) (enc b) = true) (nn : ∀ a, enc a ≠ .none) {k : Nat} (dp : ∀ a, (enc a).depth = k) (hu : A.units + 1 + k < cLine) (hd : ∀ x ∈ xs, (∀ y ∈ xs, ¬ lt y x) → enc x = d) : DV.RC K (rMinD K A) [.list (xs.map enc)] d := fun H vs h Q q => by
  obtain ⟨x, rfl, hx⟩ := dpAll1 h
  obtain ⟨a, ws, rfl, h1, h2⟩ := dp_lst hx
  refine ⟨a, ws, xs.map enc, rfl, h1, h2, by rw [List.length_map]; exact hne, fun d1 m1 d2 m2 => ?_, fun v hv => ?_⟩
  · obtain ⟨x1, _, rfl⟩ := List.mem_map.mp m1
    obtain ⟨x2, _, rfl⟩ := List.mem_map.mp m2
    exact ⟨al _ _, nn _, by rw [dp, dp, Nat.min_self]; exact hu⟩
  · obtain ⟨x, e1, e2⟩ := best_of hne hl irr co asy
    have := dp_at h2 hv (get_map1 e1)
    rw [hd x (List.mem_of_getElem? e1) e2] at this
    exact q v H (Ex.refl _) this
where
  get_map1 {α β : Type} {f : α → β} {xs : List α} {i : Nat} {x : α} (h : xs[i]? = some x) : (xs.map f)[i]? = some (f x) := by rw [List.getElem?_map, h]; rfl
theorem rc_minP {ps : List (Int × List Int)} {d : Dt} (hne : 0 < ps.length) (hu : A.units + 8 < cLine) (hd : ∀ p ∈ ps, (∀ q ∈ ps, ¬ ltP q p) → P2 p = d) : DV.RC K (rMinD K A) [.list (ps.map P2)] d :=
  rc_minOf hne lt_P2 ltP_irr (fun _ _ _ => ltP_co) (fun a b h1 h2 => ltP_irr _ (ltP_trans h1 h2)) alike_P2 (fun a e => by unfold P2 at e; cases e) depth_P2 (by omega) hd
theorem rows_co {a b c : List Int} (h1 : ¬ a < b) (h2 : ¬ b < c) : ¬ a < c := fun h => by
  by_cases e : b = a
  · subst e; exact h2 h
  · have h3 : b < a := Classical.byContradiction fun z => e (rows_total z h1)
    exact h2 (List.lt_trans h3 h)
theorem rc_minR {rs : List (List Int)} {d : Dt} (hne : 0 < rs.length) (hu : A.units + 8 < cLine) (hd : ∀ p ∈ rs, (∀ q ∈ rs, ¬ q < p) → T p = d) : DV.RC K (rMinD K A) [.list (rs.map T)] d :=
  rc_minOf (lt := fun a b => a < b) hne lt_T (fun a => List.lt_irrefl a) (fun _ _ _ => rows_co) (fun a b h1 h2 => List.lt_irrefl _ (List.lt_trans h1 h2)) alike_T (fun a e => by unfold T at e; cases e) depth_T (by omega) hd
end

/-! ### sorted(xs), data -/
section
variable {X : Cx}
theorem each_vals : ∀ {vs : List V} {us : List Value} {ds : List Dt}, Vals vs us → vs.length = ds.length → PySem.W.EachIs (fun (u : Value) (b : V × Dt) => RelV b.1 u) us (vs.zip ds)
  | [], _, _, .nil, _ => .nil
  | v :: vs, _, d :: ds, .cons r t, h => .cons r (each_vals t (by simpa using h))
theorem vals_each : ∀ {us : List Value} {bs : List (V × Dt)}, PySem.W.EachIs (fun (u : Value) (b : V × Dt) => RelV b.1 u) us bs → Vals (bs.map (·.1)) us
  | [], _, .nil => .nil
  | u :: us, b :: bs, .cons r t => .cons r (vals_each t)
theorem each_reads {pins : List (Addr × Obj)} {σ : L2.St} {H : Hp} {s : Shared} (I : Inv X pins σ H s) : ∀ {vs : List V} {us : List Value} {ds : List Dt}, Vals vs us → DpAll X.K H vs ds → PySem.W.EachIs (fun (u : Value) (b : V × Dt) => ∃ as, Reads s.heap u b.2 as) us (vs.zip ds)
  | [], _, _, .nil, .nil => .nil
  | v :: vs, _, d :: ds, .cons r t, .cons h g => .cons (Dp.reads I d v _ h r) (each_reads I t g)
def rSortD (K : PySem.W.Frag) (A : Around) : List V → Hp → VK → Prop := fun xs H Q => ∃ (a : Addr) (vs : List V) (ds : List Dt), xs = [V.ref a] ∧ SqL K H a vs ∧ DpAll K H vs ds ∧ PySem.W.AllAlike ds ∧ PySem.W.Sortable ds ∧ ds.length ≤ sizeLine ∧
  (∀ d ∈ ds, A.units + 2 + d.depth < cLine) ∧ ∀ p, H p = none → Q (.ref p) (upd H p (.lst (((vs.zip ds).mergeSort (PySem.W.dataLe false Prod.snd)).map Prod.fst)))
theorem cr_sortD : CallR X (.builtin "sorted") (rSortD X.K X.A) := by
  intro pins s σ H xs us Q I r ⟨a, vs, ds, e0, hs, hd, hal, hso, hz, hu, q⟩
  subst e0
  obtain ⟨its, rv, hl, _⟩ := I.list hs
  rw [Vals.ref1 r]
  have hlen : vs.length = ds.length := dpAll_len hd
  have e2 : (vs.zip ds).map Prod.snd = ds := by rw [← List.unzip_snd, List.unzip_zip hlen]
  have hzl : (vs.zip ds).length = ds.length := by rw [List.length_zip]; omega
  refine PySem.W.sorted_data (enc := Prod.snd) hl.isList (each_vals rv hlen) (each_reads I rv hd) (by rw [e2]; exact hal) (by rw [e2]; exact hso) (by rw [hzl]; exact hz) (fun b hb => hu _ (by rw [← e2]; exact List.mem_map_of_mem hb)) fun out ho eo => ?_
  obtain ⟨ep, he⟩ := PyProof.Rows.sortedAll_at s.heap its (List.toArray out)
  have hol : (((vs.zip ds).mergeSort (PySem.W.dataLe false Prod.snd)).map Prod.fst).length ≤ sizeLine := by rw [List.length_map, List.length_mergeSort, hzl]; exact hz
  exact ⟨.ref (s.heap.objs.size + 1), _, I.laid (a := s.heap.objs.size + 1) (o := .lst (((vs.zip ds).mergeSort (PySem.W.dataLe false Prod.snd)).map Prod.fst)) (t' := s.toks) (fun _ _ => PyProof.Rows.sortedAll_old) (Nat.le_succ _) ⟨hol, out, ep, vals_each eo, he⟩, rfl, q _ (I.hok.fresh (Nat.le_succ _))⟩
end
end DV

set_option Elab.async false
set_option linter.all false
set_option maxRecDepth 100000
set_option maxHeartbeats 1000000
/-! all_states, number_of_states, states, place_in, movers_in, rest_in, need_rest, taken_in -/
namespace DF
open PySem PySem.Spec PyProof.Rows L2 Evl R1 StX PM DV
/-- a promise that asks more of the values -/
def spX (K : PySem.W.Frag) (C : List V → Hp → Prop) (R : List Dt → Dt → Prop) : Sp := fun vs H Q _ => ∃ ds d, DpAll K H vs ds ∧ R ds d ∧ C vs H ∧ ∀ v H', Ex H H' → Dp K H' v d → Q v H'
theorem ok_spX {P : Program} {w : World} {K : PySem.W.Frag} {mg : Str → Option Value} {base : Heap} {x qual : Str} {st : Stmt} {f : Addr} {fd : FuncData} {N ps : List Str} {k : Nat} {C : List V → Hp → Prop} {R : List Dt → Dt → Prop} (F : Fun K x qual st f fd) (S : FnScope N ps (defScope st)) (len : ∀ ds d, R ds d → ds.length = ps.length)
    (hbody : ∀ (cdv : Value) (A : Around) (outer : List Env) (s : Shared) (H : Hp) (E : XK), Room k (A.deeper (envOfC qual (defScope st) s.heap.objs.size f cdv)) →
      ∃ t, PSs (cxOf CX0 P w K mg base N qual (defScope st) f cdv A outer s H E).nox (defBody st) t ∧ ∀ vs ds d, DpAll K H vs ds → R ds d → C vs H → ∀ Q : VK, (∀ v H', Ex H H' → Dp K H' v d → Q v H') → t { nx := fun _ H' => Q .non H', rt := Q } (start N vs) H) : FnOk P w K mg base CX0 (k + 1) f fd ps (spX K C R) := by
  refine F.ok S (fun vs H Q E h => ?_) fun cdv A outer s H vs Q E hr h => ?_
  · obtain ⟨ds, d, h1, h2, _⟩ := h
    rw [dpAll_len h1]
    exact len ds d h2
  · obtain ⟨ds, d, h1, h2, h3, h4⟩ := h
    obtain ⟨t, ht, hh⟩ := hbody cdv A outer s H E hr
    exact ⟨t, ht, hh vs ds d h1 h2 h3 Q h4⟩
theorem d_callX {K : PySem.W.Frag} {C : List V → Hp → Prop} {R : List Dt → Dt → Prop} {E : XK} {tA : TA} {σ : L2.St} {H : Hp} {vs : List V} {ds : List Dt} {d : Dt} (h : EvA tA σ H vs) (hd : DpAll K H vs ds) (hc : ∀ H1, Ex H H1 → C vs H1) (hr : R ds d) : EvD K (tCall (spX K C R) [] E tA) σ H d := fun H1 a Q q =>
  h H1 a _ fun H2 a2 => by
    rw [List.append_nil]
    exact ⟨ds, d, dpAll_ex (a.trans a2) hd, hr, hc H2 (a.trans a2), fun v H3 a3 dz => q v H3 (a2.trans a3) dz⟩
/-- the second value is a plain tuple -/
def CN (vs : List V) (H : Hp) : Prop := ∃ v, vs[1]? = some v ∧ Nd H v

theorem sc_all_states : FnScope ["street", "places", "homes", "found", "home", "row", "place"] ["street"] (defScope (topS 21)) := ⟨rfl, rfl, rfl, by decide +kernel, rfl, by decide +kernel, by decide +kernel⟩
theorem sc_number : FnScope ["street", "places", "homes", "found", "done", "home"] ["street"] (defScope (topS 22)) := ⟨rfl, rfl, rfl, by decide +kernel, rfl, by decide +kernel, by decide +kernel⟩
theorem sc_states : FnScope ["street"] ["street"] (defScope (topS 23)) := ⟨rfl, rfl, rfl, by decide +kernel, rfl, by decide +kernel, by decide +kernel⟩
theorem sc_place_in : FnScope ["street", "state", "car", "place"] ["street", "state", "car"] (defScope (topS 25)) := ⟨rfl, rfl, rfl, by decide +kernel, rfl, by decide +kernel, by decide +kernel⟩
theorem sc_movers_in : FnScope ["street", "state", "car"] ["street", "state"] (defScope (topS 26)) := ⟨rfl, rfl, rfl, by decide +kernel, rfl, by decide +kernel, by decide +kernel⟩
theorem sc_rest_in : FnScope ["street", "state"] ["street", "state"] (defScope (topS 28)) := ⟨rfl, rfl, rfl, by decide +kernel, rfl, by decide +kernel, by decide +kernel⟩
theorem sc_need_rest : FnScope ["street", "state"] ["street", "state"] (defScope (topS 29)) := ⟨rfl, rfl, rfl, by decide +kernel, rfl, by decide +kernel, by decide +kernel⟩
theorem sc_taken_in : FnScope ["homes", "found", "home", "place"] ["homes"] (defScope (topS 30)) := ⟨rfl, rfl, rfl, by decide +kernel, rfl, by decide +kernel, by decide +kernel⟩

def R_all_states (ds : List Dt) (d : Dt) : Prop := ∃ (n : Int) (hs : List Int), ds = [St n hs] ∧ Good n hs ∧ d = DV.LT (PM.states n hs)
def R_number (ds : List Dt) (d : Dt) : Prop := ∃ (n : Int) (hs : List Int), ds = [St n hs] ∧ Good n hs ∧ d = .int (prodI n 1 0 (desc hs))
def R_place_in (ds : List Dt) (d : Dt) : Prop := ∃ (n : Int) (hs r : List Int) (c : Nat) (p : Int), ds = [St n hs, T r, .int (c : Int)] ∧ Good n hs ∧ r ∈ whole hs ∧ r[c]? = some p ∧ d = .int p
def R_movers_in (ds : List Dt) (d : Dt) : Prop := ∃ (n : Int) (hs r : List Int), ds = [St n hs, T r] ∧ Good n hs ∧ r ∈ whole hs ∧ d = .list []
def R_rest_in (ds : List Dt) (d : Dt) : Prop := ∃ (n : Int) (hs r : List Int), ds = [St n hs, T r] ∧ Good n hs ∧ r ∈ whole hs ∧ d = .bool true
def R_need_rest (ds : List Dt) (d : Dt) : Prop := ∃ (n : Int) (hs r : List Int), ds = [St n hs, T r] ∧ Good n hs ∧ IsState n hs r ∧ r ∈ whole hs ∧ d = .none
def R_taken_in (ds : List Dt) (d : Dt) : Prop := ∃ hs : List Int, ds = [T hs] ∧ hs.length ≤ 4 ∧ d = LI (taken hs)
theorem got_T (L row : List Int) : got (fun p => !decide (p ∈ row)) (fun p => T (row ++ [p])) L = ((L.filter fun p => !decide (p ∈ row)).map fun p => row ++ [p]).map T := by
  unfold got
  rw [List.map_map]
  rfl
theorem LT_step (L : List Int) (found : List (List Int)) : (.list (found.flatMap fun row => got (fun p => !decide (p ∈ row)) (fun p => T (row ++ [p])) L) : Dt) = DV.LT (stepL L found) := by
  unfold DV.LT stepL
  refine congrArg PyData.list ?_
  rw [List.map_flatMap]
  exact congrArg (fun f => List.flatMap f found) (funext fun row => got_T L row)
theorem sum_const' (found : List (List Int)) (c : Nat) : (found.map fun _ => c).sum = found.length * c := by
  induction found with
  | nil => simp
  | cons a l ih => rw [List.map_cons, List.sum_cons, ih, List.length_cons, Nat.succ_mul]; omega
theorem build_small {Ls : List (List Int)} (h : Ls.length ≤ 4) (hL : ∀ L ∈ Ls, L.length ≤ 7) (i : Nat) : (build (Ls.take i) [[]]).length ≤ 2401 := by
  have h1 := build_len 7 (Ls.take i) [[]] fun L m => hL L (List.mem_of_mem_take m)
  have h2 : (Ls.take i).length ≤ 4 := by rw [List.length_take]; omega
  have h3 : 7 ^ (Ls.take i).length ≤ 7 ^ 4 := Nat.pow_le_pow_right (by decide) h2
  rw [List.length_singleton, Nat.one_mul] at h1
  have h4 : 7 ^ 4 = 2401 := by decide
  omega
section
variable {P : Program} {w : World} {K : PySem.W.Frag} {mg : Str → Option Value} {base : Heap} {f : Addr} {fd : FuncData}
theorem ok_all_states (B : Blt mg) (F : Fun K "all_states" "all_states" (topS 21) f fd) : FnOk P w K mg base CX0 1 f fd ["street"] (spP K R_all_states) := by
  refine ok_spP F sc_all_states (fun ds d h => by obtain ⟨_, _, rfl, _⟩ := h; rfl) fun cdv A outer s H E hr => ?_
  refine ⟨_, pss_cons (ps_asg (pv 0) (pg_tup rfl (pgs_cons (pg_name (i := 1) sc_all_states.nd rfl (.inr rfl)) (pgs_cons (pg_name (i := 2) sc_all_states.nd rfl (.inl rfl)) pgs_nil))))
    (pss_cons (ps_set (i := 3) sc_all_states.nd rfl (.inl rfl) (pe_lst (pa_cons (pe_tup pa_nil) pa_nil)))
    (pss_cons (ps_for PassesOwn.never rfl (pi_tup (pv 2)) (pg_name (i := 4) sc_all_states.nd rfl (.inr rfl))
      (pss_one (ps_setLc2 (i := 3) (own := [("row", 5), ("place", 6)]) (vs1 := [6]) (g := gName 5) (g1 := gName 6) rfl sc_all_states.nd rfl rfl (sw_true rfl rfl rfl (by decide +kernel)) (pi_list (pv 3)) (blkOk_by (N := ["street", "places", "homes", "found", "home", "row", "place"]) (sc := defScope (topS 21)) (by decide +kernel)) (by decide)
        (fun _ _ _ _ _ => pg_name (i := 5) sc_all_states.nd rfl (.inl rfl) (.inr rfl)) (fun _ _ _ _ _ => pts_nil) (fun _ _ _ _ _ => pi_range2 (by rfl) B.range (pa_cons (pv 4) (pa_cons (pv 1) pa_nil))) (fun _ _ _ _ _ => pg_name (i := 6) sc_all_states.nd rfl (.inl rfl) (.inr rfl))
        (fun _ _ _ _ _ => pts_one (pt_cmpR (ko_ni K) (pv 6) (pv 5) (by rfl))) (fun _ _ _ _ _ => pe_tup (ka_star K (pv 5) (pa_cons (pv 6) pa_nil))))))
    (pss_one (ps_ret (pv 3))))), ?_⟩
  rintro vs ds d hd ⟨n, hs, rfl, g, rfl⟩ Q q
  obtain ⟨x, rfl, hx⟩ := dpAll1 hd
  have hn := g.n
  have hl := g.l2
  refine q_asgP (x := .int n) (y := T hs) (d_var rfl hx) fun u v H1 e1 du dv => ?_
  refine DV.q_asg (K := K) (d_lst (ds_cons (d_tup ds_nil (by decide)) ds_nil) (by decide)) fun f0 H2 e2 df => ?_
  refine q_forD (xs := hs) (enc := .int) (ei_t (d_var rfl (dp_ex e2 dv))) (fun i σ' H' => ∃ y4, ∃ u3, σ' = [some x, some u, some v, some u3, y4, none, none] ∧ Dp K H' u3 (DV.LT (build ((hs.map fun h => rangeL h n).take i) [[]]))) (fun H3 e3 => ⟨_, _, rfl, dp_ex e3 df⟩) (fun i h hh v4 σ' H' e3 dh pv N k => ?_) fun σ' H' e3 pv => ?_
  · obtain ⟨H0, e0, y4, u3, rfl, d3⟩ := pv
    have hb := g.hb h (List.mem_of_getElem? hh)
    have d3' := dp_ex e0 d3
    have hL : ∀ L ∈ hs.map fun h => rangeL h n, L.length ≤ 7 := fun L m => by
      obtain ⟨h', m', rfl⟩ := List.mem_map.mp m
      have := g.hb h' m'
      rw [rangeL_len]
      omega
    have hsm := build_small (Ls := hs.map fun h => rangeL h n) (by rw [List.length_map]; exact hl) hL i
    refine DV.s_asg (K := K) (EvD.is (d_lc2 (xs := build ((hs.map fun h => rangeL h n).take i) [[]]) (enc := T) (ys := fun _ => rangeL h n) (encB := .int) (fun row p => !decide (p ∈ row)) (fun row p => T (row ++ [p])) (ei_l (d_var rfl d3')) ?_ (fun _ _ _ _ _ => nl_T _) (fun _ _ => nl_T _) (fun _ => rfl) (fun _ _ => rfl)
      (fun row _ w5 B H4 e4 e5 d5 => ei_r2 (ds_cons (d_var rfl (dp_ex (e4.trans e5) dh)) (ds_cons (d_var rfl (dp_ex ((e2.trans e3).trans (e4.trans e5)) du)) ds_nil)) ⟨by omega, by omega, by omega, by omega⟩)
      (fun row _ p _ w5 w6 H4 e4 d5 d6 => t_T (d_op (d_var rfl d6) (d_var rfl d5) rd_niT))
      (fun row hrow p _ _ w5 w6 H4 e4 d5 d6 => EvD.is (d_tup (ds_star (d_var rfl d5) (ds_cons (d_var rfl d6) ds_nil)) ?_) ?_)) (LT_step _ _)) fun u' H5 e5 d5 => k _ _ e5 ⟨_, _, rfl, ?_⟩
    · rw [sum_const', rangeL_len]
      have : (n - h).toNat ≤ 7 := by omega
      have := Nat.mul_le_mul hsm this
      omega
    · rw [List.length_append, List.length_map]
      have : row.length ≤ 4 := by
        rw [build_nil, mem_ext0] at hrow
        have h1 := hrow.1
        rw [List.length_take, List.length_map] at h1
        omega
      show row.length + 1 ≤ 100000
      omega
    · unfold T
      rw [List.map_append]
      rfl
    · rw [take_succ' (get_map (f := fun h => rangeL h n) hh), build_snoc]
      exact d5
  · obtain ⟨y4, u3, rfl, d3⟩ := pv
    rw [show hs.length = (hs.map fun h => rangeL h n).length from (List.length_map _).symm, List.take_length, build_nil] at d3
    exact DV.s_ret (K := K) (d_var rfl d3) fun v' H4 e4 d4 => q _ _ (((e1.trans e2).trans e3).trans e4) d4
theorem ok_number (B : Blt mg) (F : Fun K "number_of_states" "number_of_states" (topS 22) f fd) : FnOk P w K mg base CX0 1 f fd ["street"] (spP K R_number) := by
  refine ok_spP F sc_number (fun ds d h => by obtain ⟨_, _, rfl, _⟩ := h; rfl) fun cdv A outer s H E hr => ?_
  refine ⟨_, pss_cons (ps_asg (pv 0) (pg_tup rfl (pgs_cons (pg_name (i := 1) sc_number.nd rfl (.inl rfl)) (pgs_cons (pg_name (i := 2) sc_number.nd rfl (.inl rfl)) pgs_nil))))
    (pss_cons (ps_set (i := 3) sc_number.nd rfl (.inl rfl) pe_int)
    (pss_cons (ps_for PassesOwn.never rfl (pi_enum (by rfl) B.enum (pa_cons (pe_revL (pe_callB cr_sortedTI (by rfl) B.sorted (by decide +kernel) (pa_cons (pv 2) pa_nil))) pa_nil)) (pg_tup rfl (pgs_cons (pg_name (i := 4) sc_number.nd rfl (.inl rfl)) (pgs_cons (pg_name (i := 5) sc_number.nd rfl (.inl rfl)) pgs_nil)))
      (pss_one (ps_set (i := 3) sc_number.nd rfl (.inl rfl) (pe_op op_mul (pv 3) (pe_op op_sub (pe_op op_sub (pv 1) (pv 5)) (pv 4))))))
    (pss_one (ps_ret (pv 3))))), ?_⟩
  rintro vs ds d hd ⟨n, hs, rfl, g, rfl⟩ Q q
  obtain ⟨x, rfl, hx⟩ := dpAll1 hd
  have hn := g.n
  have hl := g.l2
  refine q_asgP (x := .int n) (y := T hs) (d_var rfl hx) fun u v H1 e1 du dv => ?_
  refine DV.q_asg (K := K) d_int fun f0 H2 e2 df => ?_
  have src := ei_e (ds_cons (d_rev (d_cb (ds_cons (d_var (σ := [some x, some u, some v, some f0, none, none]) (i := 2) rfl (dp_ex e2 dv)) ds_nil) (rc_sortedT (ns := hs) (by omega) fun ms p s => asc_eq p s))) ds_nil)
  rw [← List.map_reverse] at src
  rw [show (hs.mergeSort fun a b => decide (a ≤ b)).reverse = desc hs from rfl, enumI] at src
  refine q_forD src (fun i σ' H' => ∃ a b, σ' = [some x, some u, some v, some (.int (prodI n 1 0 ((desc hs).take i))), a, b]) (fun H3 e3 => ⟨none, none, by rw [dp_int df]; rfl⟩) (fun i j hj w0 σ' H' e3 dw pv N k => ?_) fun σ' H' e3 pv => ?_
  · obtain ⟨_, _, a, b, rfl⟩ := pv
    have hi : i < (desc hs).length := by simpa using get_lt hj
    have ej : j = i := by rw [List.getElem?_range hi] at hj; exact (Option.some.inj hj).symm
    subst ej
    refine g_pair dw fun u4 u5 d4 d5 => ?_
    have hm := getD_of hi
    have hb := g.hb _ ((desc_perm hs).mem_iff.mp (List.mem_of_getElem? hm))
    rw [desc_len] at hi
    refine DV.s_asg (K := K) (d_op (d_var rfl (.int _)) (d_op (d_op (d_var rfl (dp_ex (e2.trans e3) du)) (d_var rfl d5) rd_i) (d_var rfl d4) rd_i) (rd_C ?_)) fun v' H4 e4 d' => k _ _ e4 ⟨some u4, some u5, ?_⟩
    · exact .inr ⟨by omega, by omega⟩
    · rw [take_succ' hm, prodI_snoc, dp_int d', List.length_take, desc_len, Nat.zero_add, Nat.min_eq_left (by omega)]
      rfl
  · obtain ⟨a, b, rfl⟩ := pv
    rw [List.length_range, List.take_length]
    exact DV.s_ret (K := K) (d_var rfl (.int _)) fun v' H4 e4 d4 => q _ _ (((e1.trans e2).trans e3).trans e4) d4
theorem ok_states (F : Fun K "states" "states" (topS 23) f fd) (G1 : GF P w K mg base 3 "need_street" ["street"] (spP K R_need_street)) (G2 : GF P w K mg base 1 "number_of_states" ["street"] (spP K R_number)) (G3 : GF P w K mg base 1 "all_states" ["street"] (spP K R_all_states))
    {t1 : Tok} (m1 : mg "MOST_STATES" = some (.int 20000 t1)) : FnOk P w K mg base CX0 4 f fd ["street"] (spP K R_all_states) := by
  refine ok_spP F sc_states (fun ds d h => by obtain ⟨_, _, rfl, _⟩ := h; rfl) fun cdv A outer s H E hr => ?_
  refine ⟨_, pss_cons (ps_expr (pe_gf G1 hr (by rfl) (pa_cons (pv 0) pa_nil))) (pss_cons (ps_if (pt_cmpR op_gt (pe_gf G2 (hr.mono (by decide)) (by rfl) (pa_cons (pv 0) pa_nil)) (pe_glob rfl m1 (v := .int 20000) ⟨_, rfl⟩) (nomark _)) (pss_one ps_never) pss_nil)
    (pss_one (ps_ret (pe_gf G3 (hr.mono (by decide)) (by rfl) (pa_cons (pv 0) pa_nil))))), ?_⟩
  rintro vs ds d hd ⟨n, hs, rfl, g, rfl⟩ Q q
  obtain ⟨x, rfl, hx⟩ := dpAll1 hd
  refine DV.q_drop (K := K) (d_call (ds_cons (d_var rfl hx) ds_nil) ⟨n, hs, rfl, g, rfl⟩) fun v H1 e1 _ => ?_
  refine q_pass (et_is (t_T (d_op (d_call (ds_cons (d_var rfl (dp_ex e1 hx)) ds_nil) ⟨n, hs, rfl, g, rfl⟩) d_int rd_b)) ?_) fun H2 e2 => ?_
  · have h := prodI_abs g.n (desc hs) 1 0 (fun r m => g.hb r ((desc_perm hs).mem_iff.mp m)) (by rw [desc_len]; have := g.l2; omega)
    have h3 : 7 ^ (desc hs).length ≤ 7 ^ 4 := Nat.pow_le_pow_right (by decide) (by rw [desc_len]; exact g.l2)
    have h4 : 7 ^ 4 = 2401 := by decide
    have h5 : (1 : Int).natAbs = 1 := rfl
    rw [h5, Nat.one_mul] at h
    exact decide_eq_false (by omega)
  · exact DV.s_ret (K := K) (d_call (ds_cons (d_var rfl (dp_ex (e1.trans e2) hx)) ds_nil) ⟨n, hs, rfl, g, rfl⟩) fun v' H4 e4 d4 => q _ _ ((e1.trans e2).trans e4) d4
end
end DF

set_option Elab.async false
set_option linter.all false
set_option maxRecDepth 100000
set_option maxHeartbeats 1000000
namespace DF
open PySem PySem.Spec PyProof.Rows L2 Evl R1 StX PM DV
section
variable {P : Program} {w : World} {K : PySem.W.Frag} {mg : Str → Option Value} {base : Heap} {f : Addr} {fd : FuncData}
theorem ok_place_in (F : Fun K "place_in" "place_in" (topS 25) f fd) : FnOk P w K mg base CX0 1 f fd ["street", "state", "car"] (spX K CN R_place_in) := by
  refine ok_spX F sc_place_in (fun ds d h => by obtain ⟨_, _, _, _, _, rfl, _⟩ := h; rfl) fun cdv A outer s H E hr => ?_
  refine ⟨_, pss_cons (ps_set (i := 3) sc_place_in.nd rfl (.inl rfl) (pe_ix ix_tup (pe_ix ix_tup (pv 0) pe_int (fun _ _ => rfl)) (pv 2) (fun _ _ => rfl)))
    (pss_cons (ps_while PassesOwn.never (PW.pt (pw_and (pt_cmpR op_in_seq (pv 3) (pv 1) (by rfl)) (pw_and1 (pt_cmpR op_ne (pe_bmN PySem.F.plainAttrs_tuple PySem.F.slot_tuple_index PySem.F.type_tuple_index mt_tidx (pv 1) (pa_cons (pv 3) pa_nil)) (pv 2) (nomark _)))))
      (pss_one (ps_aug (i := 3) sc_place_in.nd rfl (.inl rfl) pe_int ip_add)))
    (pss_one (ps_ret (pv 3)))), ?_⟩
  rintro vs ds d hd ⟨n, hs, r, c, p, rfl, g, hr, hp, rfl⟩ hc Q q
  obtain ⟨x, y, z, rfl, hx, hy, hz⟩ := dpAll3 hd
  obtain ⟨y', ey, nd⟩ := hc
  cases (Option.some.inj ey)
  have st := rest_stable hr
  have hcl : c < hs.length := by rw [st.2.len]; exact get_lt hp
  have hh : hs[c]? = some (hs.getD c 0) := getD_of hcl
  generalize hs.getD c 0 = h at hh
  obtain ⟨s1, s2⟩ := Al.get st.2 hh hp
  refine DV.q_asg (K := K) (d_ixI (d_st1 (d_var rfl hx)) (d_var rfl hz) rfl hh) fun u H1 e1 du => ?_
  rw [dp_int du]
  refine q_while (fun m σ' H' => ∃ q, σ' = [some x, some y, some z, some (.int q)] ∧ Ex H1 H' ∧ h ≤ q ∧ q ≤ p ∧ m = (p - q).toNat) (p - h).toNat ⟨h, rfl, Ex.refl _, Int.le_refl _, s1, rfl⟩ fun m σ' H' hw => ?_
  obtain ⟨q', rfl, e2, q1, q2, rfl⟩ := hw
  have hm := s2 q' q1 q2
  refine ⟨_, et_and (a := true) (et_is (t_T (d_op (d_var rfl (.int _)) (d_var rfl (dp_ex (e1.trans e2) hy)) rd_inT)) (decide_eq_true hm)) fun _ => t_T (d_op (d_tidx (K := K) rfl (dp_ex (e1.trans e2) hy) (nd.ex (e1.trans e2)) (d_var rfl (.int _)) hm) (d_var rfl (dp_ex (e1.trans e2) hz)) rd_neI), fun hb H2 e3 => ?_, fun hb H2 e3 => ?_⟩
  · have hlt : q' < p := by
      refine Int.not_le.mp fun z => ?_
      have e : q' = p := Int.le_antisymm q2 z
      subst e
      have : r.idxOf q' = c := by
        have h1 := List.getElem?_eq_some_iff.mp hp
        obtain ⟨h1, h2⟩ := h1
        rw [← h2]
        exact List.Nodup.idxOf_getElem st.1 c h1
      rw [this] at hb
      simp at hb
    refine ⟨fun σ2 H3 => σ2 = [some x, some y, some z, some (.int (q' + 1))] ∧ Ex H1 H3, fun σ2 H3 hN => ⟨(p - (q' + 1)).toNat, by omega, q' + 1, hN.1, hN.2, by omega, by omega, rfl⟩, ?_⟩
    exact s_aug rfl ev_c fun H3 e4 => ⟨rfl, (e2.trans e3).trans e4⟩
  · have heq : q' = p := by
      refine Classical.byContradiction fun ne => ?_
      have : r.idxOf q' ≠ c := fun e => by
        have h1 := List.getElem_idxOf (List.idxOf_lt_length_of_mem hm)
        obtain ⟨h3, h2⟩ := List.getElem?_eq_some_iff.mp hp
        have : r[r.idxOf q']? = some p := by rw [e]; exact hp
        rw [List.getElem?_eq_getElem (List.idxOf_lt_length_of_mem hm), h1] at this
        exact ne (Option.some.inj this)
      have h4 : ¬ ((r.idxOf q' : Nat) : Int) = (c : Int) := by omega
      rw [decide_eq_false h4] at hb
      cases hb
    subst heq
    exact DV.s_ret (K := K) (d_var rfl (.int _)) fun v' H4 e4 d4 => q _ _ (((e1.trans e2).trans e3).trans e4) d4
theorem ok_movers_in (B : Blt mg) (F : Fun K "movers_in" "movers_in" (topS 26) f fd) (G : GF P w K mg base 1 "place_in" ["street", "state", "car"] (spX K CN R_place_in)) : FnOk P w K mg base CX0 2 f fd ["street", "state"] (spX K CN R_movers_in) := by
  refine ok_spX F sc_movers_in (fun ds d h => by obtain ⟨_, _, _, rfl, _⟩ := h; rfl) fun cdv A outer s H E hr => ?_
  refine ⟨_, pss_one (ps_ret (pe_lc (own := [("car", 2)]) (g := gName 2) rfl sc_movers_in.nd (pi_range1 (by rfl) B.range (pa_cons (pe_callB cr_len (by rfl) B.len PySem.boot_len (pa_cons (pv 1) pa_nil)) pa_nil)) (blkOk_by (N := ["street", "state", "car"]) (sc := defScope (topS 26)) (by decide +kernel))
    (fun _ _ _ _ _ => pg_name (i := 2) sc_movers_in.nd rfl (.inl rfl) (.inr rfl)) (fun _ _ _ _ _ => pts_one (pt_cmpR op_ne (pe_gf G hr (by rfl) (pa_cons (pv 0) (pa_cons (pv 1) (pa_cons (pv 2) pa_nil)))) (pe_ix (kx_ixT K) (pv 1) (pv 2) (fun _ _ => rfl)) (nomark _))) (fun _ _ _ _ _ => pv 2))), ?_⟩
  rintro vs ds d hd ⟨n, hs, r, rfl, g, hr, rfl⟩ hc Q q
  obtain ⟨x, y, rfl, hx, hy⟩ := dpAll2 hd
  obtain ⟨y', ey, nd⟩ := hc
  cases (Option.some.inj ey)
  have st := rest_stable hr
  have hl := g.l2
  have hrl : hs.length = r.length := st.2.len
  have hL : (r.map PyData.int).length = r.length := List.length_map _
  refine DV.s_ret (K := K) (EvD.is (d_lcN (xs := List.range r.length) (enc := fun (i : Nat) => .int (i : Int)) (fun _ => false) (fun i => .int (i : Int)) (?_) (by rw [List.length_range]; omega) (fun _ _ _ => rfl) (fun _ => rfl) (fun i hi v H1 e1 dv => ?_) (fun _ _ h => by cases h)) ?_) fun v' H4 e4 d4 => q _ _ e4 d4
  · have := ei_r1 (K := K) (σ := [some x, some y, none]) (H := H) (ds_cons (d_cb (ds_cons (d_var (i := 1) rfl hy) ds_nil) rc_lenT) ds_nil) (by rw [hL]; omega)
    rw [hL, Int.toNat_natCast] at this
    exact this
  · have hi' : i < r.length := List.mem_range.mp hi
    have hp := getD_of hi'
    refine et_is (t_T (d_op (d_callX (ea_cons (ev_var rfl) (ea_cons (ev_var rfl) (ea_cons (ev_var rfl) ea_nil))) (.cons (dp_ex e1 hx) (.cons (dp_ex e1 hy) (.cons dv .nil))) (fun H2 e2 => ⟨y, rfl, nd.ex (e1.trans e2)⟩) ⟨n, hs, r, i, _, rfl, g, hr, hp, rfl⟩) (d_ixI (d_var rfl (dp_ex e1 hy)) (d_var rfl dv) rfl hp) rd_neI)) ?_
    simp
  · unfold got
    simp
theorem ok_rest_in (F : Fun K "rest_in" "rest_in" (topS 28) f fd) (G : GF P w K mg base 2 "movers_in" ["street", "state"] (spX K CN R_movers_in)) : FnOk P w K mg base CX0 3 f fd ["street", "state"] (spX K CN R_rest_in) := by
  refine ok_spX F sc_rest_in (fun ds d h => by obtain ⟨_, _, _, rfl, _⟩ := h; rfl) fun cdv A outer s H E hr => ?_
  refine ⟨_, pss_one (ps_ret (pe_cmpR (op_eqD hr.units) (pe_gf G hr (by rfl) (pa_cons (pv 0) (pa_cons (pv 1) pa_nil))) (pe_lst pa_nil) (nomark _))), ?_⟩
  rintro vs ds d hd ⟨n, hs, r, rfl, g, hr, rfl⟩ hc Q q
  obtain ⟨x, y, rfl, hx, hy⟩ := dpAll2 hd
  obtain ⟨y', ey, nd⟩ := hc
  cases (Option.some.inj ey)
  exact DV.s_ret (K := K) (d_op (d_callX (ea_cons (ev_var rfl) (ea_cons (ev_var rfl) ea_nil)) (.cons hx (.cons hy .nil)) (fun H2 e2 => ⟨y, rfl, nd.ex e2⟩) ⟨n, hs, r, rfl, g, hr, rfl⟩) (d_lst ds_nil (by decide)) (rd_eqD rfl rfl)) fun v' H4 e4 d4 => q _ _ e4 d4
theorem ok_need_rest (F : Fun K "need_rest" "need_rest" (topS 29) f fd) (G1 : GF P w K mg base 3 "need_places" ["street", "state"] (spP K R_need_places)) (G2 : GF P w K mg base 3 "rest_in" ["street", "state"] (spX K CN R_rest_in)) : FnOk P w K mg base CX0 4 f fd ["street", "state"] (spX K CN R_need_rest) := by
  refine ok_spX F sc_need_rest (fun ds d h => by obtain ⟨_, _, _, rfl, _⟩ := h; rfl) fun cdv A outer s H E hr => ?_
  refine ⟨_, pss_cons (ps_expr (pe_gf G1 hr (by rfl) (pa_cons (pv 0) (pa_cons (pv 1) pa_nil)))) (pss_one (ps_if (pt_not (pt_val (pe_gf G2 hr (by rfl) (pa_cons (pv 0) (pa_cons (pv 1) pa_nil))))) (pss_one ps_never) pss_nil)), ?_⟩
  rintro vs ds d hd ⟨n, hs, r, rfl, g, st, hr, rfl⟩ hc Q q
  obtain ⟨x, y, rfl, hx, hy⟩ := dpAll2 hd
  obtain ⟨y', ey, nd⟩ := hc
  cases (Option.some.inj ey)
  refine DV.q_drop (K := K) (d_call (ds_cons (d_var rfl hx) (ds_cons (d_var rfl hy) ds_nil)) ⟨n, hs, r, rfl, g, st, rfl⟩) fun v H1 e1 _ => ?_
  exact s_pass (et_is (et_not (t_B (d_callX (ea_cons (ev_var rfl) (ea_cons (ev_var rfl) ea_nil)) (.cons (dp_ex e1 hx) (.cons (dp_ex e1 hy) .nil)) (fun H2 e2 => ⟨y, rfl, nd.ex (e1.trans e2)⟩) ⟨n, hs, r, rfl, g, hr, rfl⟩))) rfl) fun H2 e2 => q _ _ (e1.trans e2) .non
theorem ok_taken_in (B : Blt mg) (F : Fun K "taken_in" "taken_in" (topS 30) f fd) : FnOk P w K mg base CX0 1 f fd ["homes"] (spP K R_taken_in) := by
  refine ok_spP F sc_taken_in (fun ds d h => by obtain ⟨_, rfl, _⟩ := h; rfl) fun cdv A outer s H E hr => ?_
  refine ⟨_, pss_cons (ps_set (i := 1) sc_taken_in.nd rfl (.inl rfl) (pe_lst pa_nil))
    (pss_cons (ps_for PassesOwn.never rfl (pi_list (pe_callB cr_sortedTI (by rfl) B.sorted (by decide +kernel) (pa_cons (pv 0) pa_nil))) (pg_name (i := 2) sc_taken_in.nd rfl (.inl rfl))
      (pss_cons (ps_set (i := 3) sc_taken_in.nd rfl (.inl rfl) (pv 2))
      (pss_cons (ps_while PassesOwn.never (pt_cmpR op_in_seq (pv 3) (pv 1) (by rfl)) (pss_one (ps_aug (i := 3) sc_taken_in.nd rfl (.inl rfl) pe_int ip_add)))
      (pss_one (ps_expr (pe_bm PySem.F.plainAttrs_list PySem.F.slot_list_append PySem.F.type_list_append mt_append (pv 1) (pa_cons (pv 3) pa_nil)))))))
    (pss_one (ps_ret (pe_callB cr_sorted (by rfl) B.sorted (by decide +kernel) (pa_cons (pv 1) pa_nil))))), ?_⟩
  rintro vs ds d hd ⟨hs, rfl, hl, rfl⟩ Q q
  obtain ⟨x, rfl, hx⟩ := dpAll1 hd
  obtain ⟨a, rfl, ha⟩ := dp_T hx
  generalize hA : hs.mergeSort (fun a b => decide (a ≤ b)) = as
  have pA : as.Perm hs := by rw [← hA]; exact asc_perm hs
  refine q_asgL (el_lst ea_nil (by decide)) fun l H1 hn e1 h1 => ?_
  refine q_forNL (xs := as.map V.int) (el_cb (ea_cons (ev_var rfl) ea_nil) fun H2 e2 Q2 q2 => ⟨a, hs, rfl, ex_t (e1.trans e2) ha, by omega, fun ms p pp ps hp => ?_⟩)
    (fun p i σ' H' => ∃ b c, σ' = [some (.ref a), some (.ref l), b, c] ∧ Ex H H' ∧ p ≠ l ∧ H' p = some (.lst (as.map V.int)) ∧ H' l = some (.lst ((park [] (as.take i)).map V.int)))
    (fun p H2 hp e2 h2 => ⟨none, none, rfl, e1.trans e2, (ne_of_none h1 hp).symm, h2, e2 _ _ h1⟩) (fun p i σ' H' _ pv => ?_) (fun p i v σ' H' hv pv => ?_) fun p σ' H' pv => ?_
  · rw [show ms = as by rw [← hA]; exact asc_eq pp ps]
    exact q2 p _ hp (Ex.new hp) upd_same
  · obtain ⟨_, _, _, _, _, h2, _⟩ := pv
    exact sq_of h2
  · obtain ⟨b, c, rfl, e2, np, h2, h3⟩ := pv
    obtain ⟨h, hh, rfl⟩ : ∃ h, as[i]? = some h ∧ v = .int h := by
      rw [List.getElem?_map, Option.map_eq_some_iff] at hv
      obtain ⟨h, a1, a2⟩ := hv
      exact ⟨h, a1, a2.symm⟩
    generalize hacc : park [] (as.take i) = acc at h3
    obtain ⟨f1, f2, f3⟩ := ff_spec' acc h
    generalize hF : ff acc.length acc h = G at f1 f2 f3
    refine Evl.q_asg (ev_var rfl) fun H3 e3 => ?_
    refine q_while (fun m σ2 H2 => ∃ q', σ2 = [some (.ref a), some (.ref l), some (.int h), some (.int q')] ∧ Ex H3 H2 ∧ h ≤ q' ∧ q' ≤ G ∧ m = (G - q').toNat) (G - h).toNat ⟨h, rfl, Ex.refl _, Int.le_refl _, f2, rfl⟩ fun m σ2 H2 hw => ?_
    obtain ⟨q', rfl, e4, q1, q2, rfl⟩ := hw
    refine ⟨_, t_T (d_op (d_var rfl (.int _)) (d_var rfl (LI_dp (K := K) (ns := acc) (sq_of ((e3.trans e4) _ _ h3)))) rd_inL), fun hb H5 e5 => ?_, fun hb H5 e5 => ?_⟩
    · have hm : q' ∈ acc := of_decide_eq_true hb
      have hne : q' ≠ G := fun e => f1 (by rw [← e]; exact hm)
      exact ⟨fun σ2 H6 => σ2 = [some (.ref a), some (.ref l), some (.int h), some (.int (q' + 1))] ∧ Ex H3 H6, fun σ2 H6 hN => ⟨(G - (q' + 1)).toNat, by omega, q' + 1, hN.1, hN.2, by omega, by omega, rfl⟩, s_aug rfl ev_c fun H6 e6 => ⟨rfl, (e4.trans e5).trans e6⟩⟩
    · have hG : q' = G := by
        refine Classical.byContradiction fun ne => of_decide_eq_false hb (f3 q' q1 (by omega))
      subst hG
      have e35 := (e3.trans e4).trans e5
      refine s_app (e35 _ _ h3) (ev_var rfl) (ev_var rfl) ?_ fun H6 e6 => ⟨some (.int h), some (.int q'), rfl, ?_, np, ?_, ?_⟩
      · rw [List.length_map, ← hacc, park_len, List.length_take]
        have := pA.length_eq
        omega
      · exact Ex.mut ((e2.trans e35).trans e6) hn
      · rw [upd_ne np]
        exact (e35.trans e6) _ _ h2
      · rw [upd_same, take_succ' hh, park_snoc, hacc, hF, List.map_append]
        rfl
  · obtain ⟨b, c, rfl, e2, np, h2, h3⟩ := pv
    rw [List.length_map, List.take_length] at h3
    refine DV.s_ret (K := K) (d_cb (ds_cons (d_var rfl (LI_dp (sq_of h3))) ds_nil) (rc_sortedL (by rw [park_len, pA.length_eq]; omega) fun ms pp ps => taken_eq pA.symm pp ps)) fun v' H4 e4 d4 => q _ _ (e2.trans e4) d4
end
end DF

set_option Elab.async false
set_option linter.all false
set_option maxRecDepth 100000
set_option maxHeartbeats 1000000
namespace DF
open PySem PySem.Spec PyProof.Rows L2 Evl R1 StX PM DV
theorem sc_rests_in : FnScope ["street", "state", "taken", "found", "home", "far", "row", "place"] ["street", "state"] (defScope (topS 32)) := ⟨rfl, rfl, rfl, by decide +kernel, rfl, by decide +kernel, by decide +kernel⟩
theorem sc_unlike : FnScope ["one", "other", "car"] ["one", "other"] (defScope (topS 33)) := ⟨rfl, rfl, rfl, by decide +kernel, rfl, by decide +kernel, by decide +kernel⟩
theorem sc_best_for : FnScope ["street", "state", "car", "rest"] ["street", "state", "car"] (defScope (topS 35)) := ⟨rfl, rfl, rfl, by decide +kernel, rfl, by decide +kernel, by decide +kernel⟩
theorem sc_worst_for : FnScope ["street", "state", "car", "rest", "place"] ["street", "state", "car"] (defScope (topS 36)) := ⟨rfl, rfl, rfl, by decide +kernel, rfl, by decide +kernel, by decide +kernel⟩
theorem sc_common : FnScope ["street", "one", "other", "a", "b"] ["street", "one", "other"] (defScope (topS 37)) := ⟨rfl, rfl, rfl, by decide +kernel, rfl, by decide +kernel, by decide +kernel⟩
theorem sc_count : FnScope ["street", "rest", "found", "done", "place"] ["street", "rest"] (defScope (topS 39)) := ⟨rfl, rfl, rfl, by decide +kernel, rfl, by decide +kernel, by decide +kernel⟩
theorem sc_changed : FnScope ["street", "one", "other"] ["street", "one", "other"] (defScope (topS 40)) := ⟨rfl, rfl, rfl, by decide +kernel, rfl, by decide +kernel, by decide +kernel⟩
def unl (a b : List Int) : List Int := ((List.range a.length).filter fun i => !decide (a.getD i 0 = b.getD i 0)).map fun (i : Nat) => (i : Int)
def R_rests_in (ds : List Dt) (d : Dt) : Prop := ∃ (n : Int) (hs xs : List Int), ds = [St n hs, T xs] ∧ Good n hs ∧ hs.length = xs.length ∧ d = DV.LT (restsIn hs xs)
def R_unlike (ds : List Dt) (d : Dt) : Prop := ∃ a b : List Int, ds = [T a, T b] ∧ a.length = b.length ∧ a.length ≤ 4 ∧ d = LI (unl a b)
def byCar (c : Nat) (s : Int) (r : List Int) : Int × List Int := (s * r.getD c 0, r)
def R_best (ds : List Dt) (d : Dt) : Prop := ∃ (n : Int) (hs xs : List Int) (c : Nat) (r : List Int), ds = [St n hs, T xs, .int (c : Int)] ∧ Good n hs ∧ IsState n hs xs ∧ c < hs.length ∧ r ∈ restsIn hs xs ∧ (∀ s ∈ restsIn hs xs, ¬ ltP (byCar c 1 s) (byCar c 1 r)) ∧ d = P2 (r.getD c 0, r)
def R_worst (ds : List Dt) (d : Dt) : Prop := ∃ (n : Int) (hs xs : List Int) (c : Nat) (r : List Int), ds = [St n hs, T xs, .int (c : Int)] ∧ Good n hs ∧ IsState n hs xs ∧ c < hs.length ∧ r ∈ restsIn hs xs ∧ (∀ s ∈ restsIn hs xs, ¬ ltP (byCar c (-1) s) (byCar c (-1) r)) ∧ d = P2 (r.getD c 0, r)
def R_common (ds : List Dt) (d : Dt) : Prop := ∃ (n : Int) (hs xs ys : List Int), ds = [St n hs, T xs, T ys] ∧ Good n hs ∧ IsState n hs xs ∧ IsState n hs ys ∧ d = DV.LT (restsIn hs (List.zipWith min xs ys))
def R_count (ds : List Dt) (d : Dt) : Prop := ∃ (n : Int) (hs r : List Int), ds = [St n hs, T r] ∧ Good n hs ∧ IsState n hs r ∧ r ∈ whole hs ∧ d = .int (prodI n 1 0 (desc r))
def R_changed (ds : List Dt) (d : Dt) : Prop := ∃ (n : Int) (hs a b : List Int), ds = [St n hs, T a, T b] ∧ Good n hs ∧ IsState n hs a ∧ a ∈ whole hs ∧ IsState n hs b ∧ b ∈ whole hs ∧ d = T (unl a b)
def CN2 (vs : List V) (H : Hp) : Prop := ∃ u v, vs[1]? = some u ∧ vs[2]? = some v ∧ Nd H u ∧ Nd H v
theorem zipI : ∀ (hs xs : List Int), List.zipWith (fun d e => (.tuple [d, e] : Dt)) (hs.map .int) (xs.map .int) = (hs.zip xs).map fun p => .tuple [.int p.1, .int p.2]
  | [], _ => by simp
  | _ :: _, [] => by simp
  | h :: hs, x :: xs => by
    have := zipI hs xs
    simp only [List.map_cons, List.zipWith_cons_cons, List.zip_cons_cons, this]
theorem LT_step2 (c : Int → Bool) (L : List Int) (found : List (List Int)) : (.list (found.flatMap fun row => got (fun p => c p && !decide (p ∈ row)) (fun p => T (row ++ [p])) L) : Dt) = DV.LT (stepL (L.filter c) found) := by
  rw [← LT_step]
  refine congrArg PyData.list (congrArg (fun f => List.flatMap f found) (funext fun row => ?_))
  unfold got
  rw [List.filter_filter]
  refine congrArg (List.map _) (congrArg (fun f => List.filter f L) (funext fun p => ?_))
  exact Bool.and_comm _ _
theorem zw_get {hs xs : List Int} {g : Int → Int → List Int} {i : Nat} {p : Int × Int} (h : (hs.zip xs)[i]? = some p) : (List.zipWith g hs xs)[i]? = some (g p.1 p.2) := by
  rw [List.zip_eq_zipWith] at h
  rw [List.getElem?_zipWith] at h ⊢
  cases q1 : hs[i]? with
  | none => rw [q1] at h; simp at h
  | some a =>
    cases q2 : xs[i]? with
    | none => rw [q1, q2] at h; simp at h
    | some b =>
      rw [q1, q2] at h
      simp at h
      rw [← h]
section
variable {P : Program} {w : World} {K : PySem.W.Frag} {mg : Str → Option Value} {base : Heap} {f : Addr} {fd : FuncData}
theorem ok_rests_in (B : Blt mg) (F : Fun K "rests_in" "rests_in" (topS 32) f fd) (G : GF P w K mg base 1 "taken_in" ["homes"] (spP K R_taken_in)) : FnOk P w K mg base CX0 2 f fd ["street", "state"] (spP K R_rests_in) := by
  refine ok_spP F sc_rests_in (fun ds d h => by obtain ⟨_, _, _, rfl, _⟩ := h; rfl) fun cdv A outer s H E hr => ?_
  refine ⟨_, pss_cons (ps_asg (pe_tup (pa_cons (pe_gf G hr (by rfl) (pa_cons (pe_ix ix_tup (pv 0) pe_int (fun _ _ => rfl)) pa_nil)) (pa_cons (pe_lst (pa_cons (pe_tup pa_nil) pa_nil)) pa_nil))) (pg_tup rfl (pgs_cons (pg_name (i := 2) sc_rests_in.nd rfl (.inr rfl)) (pgs_cons (pg_name (i := 3) sc_rests_in.nd rfl (.inl rfl)) pgs_nil))))
    (pss_cons (ps_for PassesOwn.never rfl (RZ.pi_zipA (by rfl) B.zip (pa_cons (pe_ix ix_tup (pv 0) pe_int (fun _ _ => rfl)) (pa_cons (pv 1) pa_nil))) (pg_tup rfl (pgs_cons (pg_name (i := 4) sc_rests_in.nd rfl (.inr rfl)) (pgs_cons (pg_name (i := 5) sc_rests_in.nd rfl (.inr rfl)) pgs_nil)))
      (pss_one (ps_setLc2 (i := 3) (own := [("row", 6), ("place", 7)]) (vs1 := [7]) (g := gName 6) (g1 := gName 7) rfl sc_rests_in.nd rfl rfl (sw_true rfl rfl rfl (by decide +kernel)) (pi_list (pv 3)) (blkOk_by (N := ["street", "state", "taken", "found", "home", "far", "row", "place"]) (sc := defScope (topS 32)) (by decide +kernel)) (by decide)
        (fun _ _ _ _ _ => pg_name (i := 6) sc_rests_in.nd rfl (.inl rfl) (.inr rfl)) (fun _ _ _ _ _ => pts_nil) (fun _ _ _ _ _ => ki_list K (pv 2)) (fun _ _ _ _ _ => pg_name (i := 7) sc_rests_in.nd rfl (.inl rfl) (.inr rfl))
        (fun _ _ _ _ _ => pts_one (PW.pt (pw_and (pt_chain op_le op_le (pv 4) (pv 7) (pv 5)) (pw_and1 (pt_cmpR (ko_ni K) (pv 7) (pv 6) (by rfl)))))) (fun _ _ _ _ _ => pe_tup (ka_star K (pv 6) (pa_cons (pv 7) pa_nil))))))
    (pss_one (ps_ret (pv 3)))), ?_⟩
  rintro vs ds d hd ⟨n, hs, xs, rfl, g, hx, rfl⟩ Q q
  obtain ⟨x, y, rfl, dx, dy⟩ := dpAll2 hd
  have hl := g.l2
  refine q_asgP (K := K) (d_tup (ds_cons (d_call (ds_cons (d_st1 (d_var rfl dx)) ds_nil) ⟨hs, rfl, hl, rfl⟩) (ds_cons (d_lst (ds_cons (d_tup ds_nil (by decide)) ds_nil) (by decide)) ds_nil)) (by show 2 ≤ 100000; decide)) fun u f0 H1 e1 du df => ?_
  obtain ⟨a, rfl, ha⟩ := dp_LI du
  have src := ei_z (K := K) (σ := [some x, some y, some (.ref a), some f0, none, none, none, none]) (H := H1) (ds := hs.map .int) (es := xs.map .int) (by rw [List.length_map, List.length_map]; exact hx) (ds_cons (d_st1 (d_var (i := 0) rfl (dp_ex e1 dx))) (ds_cons (d_var (i := 1) rfl (dp_ex e1 dy)) ds_nil))
  rw [zipI] at src
  refine q_forD src (fun i σ' H' => ∃ y4 y5 u3, σ' = [some x, some y, some (.ref a), some u3, y4, y5, none, none] ∧ Dp K H' u3 (DV.LT (build ((List.zipWith (fun h x => (taken hs).filter fun p => decide (h ≤ p) && decide (p ≤ x)) hs xs).take i) [[]]))) (fun H3 e3 => ⟨_, _, _, rfl, dp_ex e3 df⟩) (fun i p hp v4 σ' H' e3 dh pv N k => ?_) fun σ' H' e3 pv => ?_
  · obtain ⟨H0, e0, y4, y5, u3, rfl, d3⟩ := pv
    have d3' := dp_ex e0 d3
    refine g_pair dh fun w4 w5 d4 d5 => ?_
    have hsm := build_small (Ls := List.zipWith (fun h x => (taken hs).filter fun p => decide (h ≤ p) && decide (p ≤ x)) hs xs) (by rw [List.length_zipWith]; omega) (fun L m => by
      obtain ⟨j, hj⟩ := List.mem_iff_getElem?.mp m
      rw [List.getElem?_zipWith] at hj
      have : ∃ h x, L = (taken hs).filter fun p => decide (h ≤ p) && decide (p ≤ x) := by
        split at hj
        · exact ⟨_, _, (Option.some.inj hj).symm⟩
        · cases hj
      obtain ⟨h, x, rfl⟩ := this
      have := List.length_filter_le (fun p => decide (h ≤ p) && decide (p ≤ x)) (taken hs)
      rw [taken_len] at this
      omega) i
    refine DV.s_asg (K := K) (EvD.is (d_lc2 (xs := build ((List.zipWith (fun h x => (taken hs).filter fun p => decide (h ≤ p) && decide (p ≤ x)) hs xs).take i) [[]]) (enc := T) (ys := fun _ => taken hs) (encB := .int) (fun row q => (decide (p.1 ≤ q) && decide (q ≤ p.2)) && !decide (q ∈ row)) (fun row q => T (row ++ [q])) (ei_l (d_var rfl d3')) ?_ (fun _ _ _ _ _ => nl_T _) (fun _ _ => nl_T _) (fun _ => rfl) (fun _ _ => rfl)
      (fun row _ w6 B H4 e4 e5 d6 => es_l rfl (ex_l (e3.trans e4) ha) (ints_dpAll _) e5)
      (fun row _ q _ w6 w7 H4 e4 d6 d7 => et_and (t_T (d_chain (d_var rfl (dp_ex e4 d4)) (d_var rfl d7) (d_var rfl (dp_ex e4 d5)) rd_b rd_b)) fun _ => t_T (d_op (d_var rfl d7) (d_var rfl d6) rd_niT))
      (fun row hrow q _ _ w6 w7 H4 e4 d6 d7 => EvD.is (d_tup (ds_star (d_var rfl d6) (ds_cons (d_var rfl d7) ds_nil)) ?_) ?_)) (LT_step2 _ _ _)) fun u' H5 e5 d5' => k _ _ e5 ⟨_, _, _, rfl, ?_⟩
    · rw [sum_const', taken_len]
      have := Nat.mul_le_mul hsm hl
      omega
    · rw [List.length_append, List.length_map]
      have : row.length ≤ 4 := by
        rw [build_nil, mem_ext0] at hrow
        have h1 := hrow.1
        rw [List.length_take, List.length_zipWith] at h1
        omega
      show row.length + 1 ≤ 100000
      omega
    · unfold T
      rw [List.map_append]
      rfl
    · rw [take_succ' (zw_get hp), build_snoc]
      exact d5'
  · obtain ⟨y4, y5, u3, rfl, d3⟩ := pv
    rw [show (hs.zip xs).length = (List.zipWith (fun h x => (taken hs).filter fun p => decide (h ≤ p) && decide (p ≤ x)) hs xs).length by rw [List.length_zip, List.length_zipWith], List.take_length, build_nil] at d3
    exact DV.s_ret (K := K) (d_var rfl d3) fun v' H4 e4 d4 => q _ _ ((e1.trans e3).trans e4) d4
theorem ok_unlike (B : Blt mg) (F : Fun K "unlike" "unlike" (topS 33) f fd) : FnOk P w K mg base CX0 1 f fd ["one", "other"] (spP K R_unlike) := by
  refine ok_spP F sc_unlike (fun ds d h => by obtain ⟨_, _, rfl, _⟩ := h; rfl) fun cdv A outer s H E hr => ?_
  refine ⟨_, pss_one (ps_ret (pe_lc (own := [("car", 2)]) (g := gName 2) rfl sc_unlike.nd (pi_range1 (by rfl) B.range (pa_cons (pe_callB cr_len (by rfl) B.len PySem.boot_len (pa_cons (pv 0) pa_nil)) pa_nil)) (blkOk_by (N := ["one", "other", "car"]) (sc := defScope (topS 33)) (by decide +kernel))
    (fun _ _ _ _ _ => pg_name (i := 2) sc_unlike.nd rfl (.inl rfl) (.inr rfl)) (fun _ _ _ _ _ => pts_one (pt_cmpR op_ne (pe_ix (kx_ixT K) (pv 0) (pv 2) (fun _ _ => rfl)) (pe_ix (kx_ixT K) (pv 1) (pv 2) (fun _ _ => rfl)) (nomark _))) (fun _ _ _ _ _ => pv 2))), ?_⟩
  rintro vs ds d hd ⟨a, b, rfl, hab, hl, rfl⟩ Q q
  obtain ⟨x, y, rfl, hx, hy⟩ := dpAll2 hd
  have hL : (a.map PyData.int).length = a.length := List.length_map _
  refine DV.s_ret (K := K) (EvD.is (d_lcN (xs := List.range a.length) (enc := fun (i : Nat) => .int (i : Int)) (fun i => !decide (a.getD i 0 = b.getD i 0)) (fun i => .int (i : Int)) ?_ (by rw [List.length_range]; omega) (fun _ _ _ => rfl) (fun _ => rfl) (fun i hi v H1 e1 dv => ?_) (fun i hi _ v H1 e1 dv => d_var rfl dv)) ?_) fun v' H4 e4 d4 => q _ _ e4 d4
  · have := ei_r1 (K := K) (σ := [some x, some y, none]) (H := H) (ds_cons (d_cb (ds_cons (d_var (i := 0) rfl hx) ds_nil) rc_lenT) ds_nil) (by rw [hL]; omega)
    rw [hL, Int.toNat_natCast] at this
    exact this
  · have hi' : i < a.length := List.mem_range.mp hi
    exact t_T (d_op (d_ixI (d_var rfl (dp_ex e1 hx)) (d_var rfl dv) rfl (getD_of hi')) (d_ixI (d_var rfl (dp_ex e1 hy)) (d_var rfl dv) rfl (getD_of (by omega))) rd_neI)
  · unfold got unl LI
    rw [List.map_map]
    rfl
theorem len_rest {hs xs r : List Int} (h : hs.length = xs.length) (hr : r ∈ restsIn hs xs) : r.length = hs.length := by
  rw [restsIn_eq h] at hr
  exact (rest_stable (List.mem_filter.mp hr).1).2.len.symm
theorem restsIn_small {hs xs : List Int} (hl : hs.length ≤ 4) : (restsIn hs xs).length ≤ 2401 := by
  have := build_small (Ls := List.zipWith (fun h x => (taken hs).filter fun p => decide (h ≤ p) && decide (p ≤ x)) hs xs) (by rw [List.length_zipWith]; omega) (fun L m => by
      obtain ⟨j, hj⟩ := List.mem_iff_getElem?.mp m
      rw [List.getElem?_zipWith] at hj
      have : ∃ h x, L = (taken hs).filter fun p => decide (h ≤ p) && decide (p ≤ x) := by
        split at hj
        · exact ⟨_, _, (Option.some.inj hj).symm⟩
        · cases hj
      obtain ⟨h, x, rfl⟩ := this
      have := List.length_filter_le (fun p => decide (h ≤ p) && decide (p ≤ x)) (taken hs)
      rw [taken_len] at this
      omega) (List.zipWith (fun h x => (taken hs).filter fun p => decide (h ≤ p) && decide (p ≤ x)) hs xs).length
  rw [List.take_length, build_nil] at this
  exact this
theorem ok_best_for (B : Blt mg) (F : Fun K "best_for" "best_for" (topS 35) f fd) (G1 : GF P w K mg base 4 "need_state" ["street", "state"] (spP K R_need_places)) (G2 : GF P w K mg base 3 "need_car" ["street", "car"] (spP K R_need_car)) (G3 : GF P w K mg base 2 "rests_in" ["street", "state"] (spP K R_rests_in)) : FnOk P w K mg base CX0 5 f fd ["street", "state", "car"] (spP K R_best) := by
  refine ok_spP F sc_best_for (fun ds d h => by obtain ⟨_, _, _, _, _, rfl, _⟩ := h; rfl) fun cdv A outer s H E hr => ?_
  refine ⟨_, pss_cons (ps_expr (pe_gf G1 hr (by rfl) (pa_cons (pv 0) (pa_cons (pv 1) pa_nil)))) (pss_cons (ps_expr (pe_gf G2 (hr.mono (by decide)) (by rfl) (pa_cons (pv 0) (pa_cons (pv 2) pa_nil))))
    (pss_one (ps_ret (pe_callB (cr_minD rfl) (by rfl) B.min (by decide +kernel) (pa_cons (pe_lc (own := [("rest", 3)]) (g := gName 3) rfl sc_best_for.nd (pi_list (pe_gf G3 (hr.mono (by decide)) (by rfl) (pa_cons (pv 0) (pa_cons (pv 1) pa_nil)))) (blkOk_by (N := ["street", "state", "car", "rest"]) (sc := defScope (topS 35)) (by decide +kernel))
      (fun _ _ _ _ _ => pg_name (i := 3) sc_best_for.nd rfl (.inl rfl) (.inr rfl)) (fun _ _ _ _ _ => pts_nil) (fun _ _ _ _ _ => pe_tup (pa_cons (pe_ix (kx_ixT K) (pv 3) (pv 2) (fun _ _ => rfl)) (pa_cons (pv 3) pa_nil)))) pa_nil))))), ?_⟩
  rintro vs ds d hd ⟨n, hs, xs, c, r, rfl, g, st, hc, hr1, hr2, rfl⟩ Q q
  obtain ⟨x, y, z, rfl, hx, hy, hz⟩ := dpAll3 hd
  have hu := hr.units
  have hl := g.l2
  have hxl := st.2.len
  have hsm := restsIn_small (xs := xs) hl
  refine DV.q_drop (K := K) (d_call (ds_cons (d_var rfl hx) (ds_cons (d_var rfl hy) ds_nil)) ⟨n, hs, xs, rfl, g, st, rfl⟩) fun v H1 e1 _ => ?_
  refine DV.q_drop (K := K) (d_call (ds_cons (d_var rfl (dp_ex e1 hx)) (ds_cons (d_var rfl (dp_ex e1 hz)) ds_nil)) ⟨n, hs, c, rfl, g, by omega, by omega, rfl⟩) fun v H2 e2 _ => ?_
  have e12 := e1.trans e2
  refine DV.s_ret (K := K) (d_cb (ds_cons (EvD.is (d_lcA (xs := restsIn hs xs) (enc := T) (fun r => P2 (byCar c 1 r)) (ei_l (d_call (ds_cons (d_var rfl (dp_ex e12 hx)) (ds_cons (d_var rfl (dp_ex e12 hy)) ds_nil)) ⟨n, hs, xs, rfl, g, hxl, rfl⟩)) (by omega) (fun r _ => ?_) (fun _ => rfl) fun r hrr v H3 e3 dv => ?_) (e := .list (((restsIn hs xs).map (byCar c 1)).map P2)) ?_) ds_nil)
    (rc_minP (by rw [List.length_map]; exact List.length_pos_of_mem hr1) (Nat.lt_of_le_of_lt (Nat.add_le_add_left (by decide : 8 ≤ 64) _) hu) fun p hp hpl => ?_)) fun v' H4 e4 d4 => q _ _ (e12.trans e4) d4
  · unfold P2
    rw [nl, nlAll, nlAll, nlAll, nl_T]
    rfl
  · have h := getD_of (ns := r) (i := c) (by rw [len_rest hxl hrr]; exact hc)
    refine d_tup (ds := [.int (1 * r.getD c 0), T r]) (ds_cons (EvD.is (d_ixI (d_var rfl dv) (d_var rfl (dp_ex (e12.trans e3) hz)) rfl h) ?_) (ds_cons (d_var rfl dv) ds_nil)) (by show 2 ≤ 100000; decide)
    rw [Int.one_mul]
  · rw [List.map_map]
    rfl
  · obtain ⟨s, hs1, rfl⟩ := List.mem_map.mp hp
    have := ltP_total (hpl _ (List.mem_map_of_mem hr1)) (hr2 s hs1)
    rw [← this]
    unfold byCar
    rw [Int.one_mul]
theorem ok_worst_for (B : Blt mg) (F : Fun K "worst_for" "worst_for" (topS 36) f fd) (G1 : GF P w K mg base 4 "need_state" ["street", "state"] (spP K R_need_places)) (G2 : GF P w K mg base 3 "need_car" ["street", "car"] (spP K R_need_car)) (G3 : GF P w K mg base 2 "rests_in" ["street", "state"] (spP K R_rests_in)) : FnOk P w K mg base CX0 5 f fd ["street", "state", "car"] (spP K R_worst) := by
  refine ok_spP F sc_worst_for (fun ds d h => by obtain ⟨_, _, _, _, _, rfl, _⟩ := h; rfl) fun cdv A outer s H E hr => ?_
  refine ⟨_, pss_cons (ps_expr (pe_gf G1 hr (by rfl) (pa_cons (pv 0) (pa_cons (pv 1) pa_nil)))) (pss_cons (ps_expr (pe_gf G2 (hr.mono (by decide)) (by rfl) (pa_cons (pv 0) (pa_cons (pv 2) pa_nil))))
    (pss_cons (ps_asg (pe_callB (cr_minD rfl) (by rfl) B.min (by decide +kernel) (pa_cons (pe_lc (own := [("rest", 3)]) (g := gName 3) rfl sc_worst_for.nd (pi_list (pe_gf G3 (hr.mono (by decide)) (by rfl) (pa_cons (pv 0) (pa_cons (pv 1) pa_nil)))) (blkOk_by (N := ["street", "state", "car", "rest", "place"]) (sc := defScope (topS 36)) (by decide +kernel))
      (fun _ _ _ _ _ => pg_name (i := 3) sc_worst_for.nd rfl (.inl rfl) (.inr rfl)) (fun _ _ _ _ _ => pts_nil) (fun _ _ _ _ _ => pe_tup (pa_cons (pe_un un_neg (pe_ix (kx_ixT K) (pv 3) (pv 2) (fun _ _ => rfl))) (pa_cons (pv 3) pa_nil)))) pa_nil))
      (pg_tup rfl (pgs_cons (pg_name (i := 4) sc_worst_for.nd rfl (.inl rfl)) (pgs_cons (pg_name (i := 3) sc_worst_for.nd rfl (.inl rfl)) pgs_nil))))
    (pss_one (ps_ret (pe_tup (pa_cons (pe_un un_neg (pv 4)) (pa_cons (pv 3) pa_nil))))))), ?_⟩
  rintro vs ds d hd ⟨n, hs, xs, c, r, rfl, g, st, hc, hr1, hr2, rfl⟩ Q q
  obtain ⟨x, y, z, rfl, hx, hy, hz⟩ := dpAll3 hd
  have hu := hr.units
  have hl := g.l2
  have hxl := st.2.len
  have hsm := restsIn_small (xs := xs) hl
  refine DV.q_drop (K := K) (d_call (ds_cons (d_var rfl hx) (ds_cons (d_var rfl hy) ds_nil)) ⟨n, hs, xs, rfl, g, st, rfl⟩) fun v H1 e1 _ => ?_
  refine DV.q_drop (K := K) (d_call (ds_cons (d_var rfl (dp_ex e1 hx)) (ds_cons (d_var rfl (dp_ex e1 hz)) ds_nil)) ⟨n, hs, c, rfl, g, by omega, by omega, rfl⟩) fun v H2 e2 _ => ?_
  have e12 := e1.trans e2
  refine q_asgP (K := K) (x := .int (byCar c (-1) r).1) (y := T r) (d_cb (ds_cons (EvD.is (d_lcA (xs := restsIn hs xs) (enc := T) (fun r => P2 (byCar c (-1) r)) (ei_l (d_call (ds_cons (d_var rfl (dp_ex e12 hx)) (ds_cons (d_var rfl (dp_ex e12 hy)) ds_nil)) ⟨n, hs, xs, rfl, g, hxl, rfl⟩)) (by omega) (fun r _ => ?_) (fun _ => rfl) fun r hrr v H3 e3 dv => ?_) (e := .list (((restsIn hs xs).map (byCar c (-1))).map P2)) ?_) ds_nil)
    (rc_minP (by rw [List.length_map]; exact List.length_pos_of_mem hr1) (Nat.lt_of_le_of_lt (Nat.add_le_add_left (by decide : 8 ≤ 64) _) hu) fun p hp hpl => ?_)) fun u4 u3 H3 e3 d4 d3 => ?_
  · unfold P2
    rw [nl, nlAll, nlAll, nlAll, nl_T]
    rfl
  · have h := getD_of (ns := r) (i := c) (by rw [len_rest hxl hrr]; exact hc)
    refine d_tup (ds := [.int (-1 * r.getD c 0), T r]) (ds_cons (EvD.is (d_neg (d_ixI (d_var rfl dv) (d_var rfl (dp_ex (e12.trans e3) hz)) rfl h)) ?_) (ds_cons (d_var rfl dv) ds_nil)) (by show 2 ≤ 100000; decide)
    refine congrArg PyData.int ?_
    omega
  · rw [List.map_map]
    rfl
  · obtain ⟨s, hs1, rfl⟩ := List.mem_map.mp hp
    have := ltP_total (hpl _ (List.mem_map_of_mem hr1)) (hr2 s hs1)
    rw [← this]
    rfl
  · refine DV.s_ret (K := K) (d_tup (ds := [.int (r.getD c 0), T r]) (ds_cons (EvD.is (d_neg (d_var rfl d4)) ?_) (ds_cons (d_var rfl d3) ds_nil)) (by show 2 ≤ 100000; decide)) fun v' H4 e4 d4 => q _ _ ((e12.trans e3).trans e4) d4
    refine congrArg PyData.int ?_
    unfold byCar
    show -(-1 * r.getD c 0) = r.getD c 0
    omega
theorem ok_common (B : Blt mg) (F : Fun K "common_rests" "common_rests" (topS 37) f fd) (G1 : GF P w K mg base 4 "need_state" ["street", "state"] (spP K R_need_places)) (G2 : GF P w K mg base 3 "need_places" ["street", "state"] (spP K R_need_places)) (G3 : GF P w K mg base 2 "rests_in" ["street", "state"] (spP K R_rests_in)) : FnOk P w K mg base CX0 5 f fd ["street", "one", "other"] (spP K R_common) := by
  refine ok_spP F sc_common (fun ds d h => by obtain ⟨_, _, _, _, rfl, _⟩ := h; rfl) fun cdv A outer s H E hr => ?_
  refine ⟨_, pss_cons (ps_expr (pe_gf G1 hr (by rfl) (pa_cons (pv 0) (pa_cons (pv 1) pa_nil)))) (pss_cons (ps_expr (pe_gf G2 (hr.mono (by decide)) (by rfl) (pa_cons (pv 0) (pa_cons (pv 2) pa_nil))))
    (pss_one (ps_ret (pe_gf G3 (hr.mono (by decide)) (by rfl) (pa_cons (pv 0) (pa_cons (pe_callTy cr_tup (by rfl) B.tuple (by decide +kernel) (pa_cons (pe_lc (own := [("a", 3), ("b", 4)]) (g := gTup K 2 (gCons (gName 3) (gCons (gName 4) gNil))) rfl sc_common.nd (RZ.pi_zipA (by rfl) B.zip (pa_cons (pv 1) (pa_cons (pv 2) pa_nil))) (blkOk_by (N := ["street", "one", "other", "a", "b"]) (sc := defScope (topS 37)) (by decide +kernel))
      (fun _ _ _ _ _ => kg_tup K rfl (pgs_cons (pg_name (i := 3) sc_common.nd rfl (.inl rfl) (.inr rfl)) (pgs_cons (pg_name (i := 4) sc_common.nd rfl (.inl rfl) (.inr rfl)) pgs_nil))) (fun _ _ _ _ _ => pts_nil)
      (fun _ _ _ _ _ => pe_callB (cr_min2 rfl) (by rfl) B.min (by decide +kernel) (pa_cons (pv 3) (pa_cons (pv 4) pa_nil)))) pa_nil)) pa_nil)))))), ?_⟩
  rintro vs ds d hd ⟨n, hs, xs, ys, rfl, g, st1, st2, rfl⟩ Q q
  obtain ⟨x, y, z, rfl, hx, hy, hz⟩ := dpAll3 hd
  have hl := g.l2
  have hx1 := st1.2.len
  have hx2 := st2.2.len
  refine DV.q_drop (K := K) (d_call (ds_cons (d_var rfl hx) (ds_cons (d_var rfl hy) ds_nil)) ⟨n, hs, xs, rfl, g, st1, rfl⟩) fun v H1 e1 _ => ?_
  refine DV.q_drop (K := K) (d_call (ds_cons (d_var rfl (dp_ex e1 hx)) (ds_cons (d_var rfl (dp_ex e1 hz)) ds_nil)) ⟨n, hs, ys, rfl, g, st2, rfl⟩) fun v H2 e2 _ => ?_
  have e12 := e1.trans e2
  have src := ei_z (K := K) (σ := [some x, some y, some z, none, none]) (H := H2) (ds := xs.map .int) (es := ys.map .int) (by rw [List.length_map, List.length_map]; omega) (ds_cons (d_var (i := 1) rfl (dp_ex e12 hy)) (ds_cons (d_var (i := 2) rfl (dp_ex e12 hz)) ds_nil))
  rw [zipI] at src
  refine DV.s_ret (K := K) (d_call (ds_cons (d_var rfl (dp_ex e12 hx)) (ds_cons (d_cb (ds_cons (EvD.is (d_lc (fun _ => true) (fun p => .int (min p.1 p.2)) src (by rw [List.length_zip]; omega) (fun _ _ _ => rfl) fun p hp v H3 e3 dv Q2 k2 => g_pair dv fun u w d1 d2 => k2 _ _ (Ex.refl _) rfl t_yes fun _ => d_cb (ds_cons (d_var rfl d1) (ds_cons (d_var rfl d2) ds_nil)) rc_min2) (e := LI (List.zipWith min xs ys)) ?_) ds_nil) rc_tupL) ds_nil)) ⟨n, hs, List.zipWith min xs ys, rfl, g, by rw [List.length_zipWith]; omega, rfl⟩) fun v' H4 e4 d4 => q _ _ (e12.trans e4) d4
  unfold got LI
  rw [List.filter_eq_self.mpr fun _ _ => rfl, List.map_zipWith, List.zip_eq_zipWith, List.map_zipWith]
theorem ok_count (B : Blt mg) (F : Fun K "count_sources" "count_sources" (topS 39) f fd) (G1 : GF P w K mg base 4 "need_state" ["street", "state"] (spP K R_need_places)) (G2 : GF P w K mg base 4 "need_rest" ["street", "state"] (spX K CN R_need_rest)) : FnOk P w K mg base CX0 5 f fd ["street", "rest"] (spX K CN R_count) := by
  refine ok_spX F sc_count (fun ds d h => by obtain ⟨_, _, _, rfl, _⟩ := h; rfl) fun cdv A outer s H E hr => ?_
  refine ⟨_, pss_cons (ps_expr (pe_gf G1 hr (by rfl) (pa_cons (pv 0) (pa_cons (pv 1) pa_nil)))) (pss_cons (ps_expr (pe_gf G2 hr (by rfl) (pa_cons (pv 0) (pa_cons (pv 1) pa_nil))))
    (pss_cons (ps_set (i := 2) sc_count.nd rfl (.inl rfl) pe_int)
    (pss_cons (ps_for PassesOwn.never rfl (pi_enum (by rfl) B.enum (pa_cons (pe_revL (pe_callB cr_sortedTI (by rfl) B.sorted (by decide +kernel) (pa_cons (pv 1) pa_nil))) pa_nil)) (pg_tup rfl (pgs_cons (pg_name (i := 3) sc_count.nd rfl (.inl rfl)) (pgs_cons (pg_name (i := 4) sc_count.nd rfl (.inl rfl)) pgs_nil)))
      (pss_one (ps_set (i := 2) sc_count.nd rfl (.inl rfl) (pe_op op_mul (pv 2) (pe_op op_sub (pe_op op_sub (pe_ix ix_tup (pv 0) pe_int (fun _ _ => rfl)) (pv 4)) (pv 3))))))
    (pss_one (ps_ret (pv 2)))))), ?_⟩
  rintro vs ds d hd ⟨n, hs, r, rfl, g, st, hr1, rfl⟩ hc Q q
  obtain ⟨x, y, rfl, hx, hy⟩ := dpAll2 hd
  obtain ⟨y', ey, nd⟩ := hc
  cases (Option.some.inj ey)
  have hn := g.n
  have hl := g.l2
  have hrl := st.2.len
  refine DV.q_drop (K := K) (d_call (ds_cons (d_var rfl hx) (ds_cons (d_var rfl hy) ds_nil)) ⟨n, hs, r, rfl, g, st, rfl⟩) fun v H1 e1 _ => ?_
  refine DV.q_drop (K := K) (d_callX (ea_cons (ev_var rfl) (ea_cons (ev_var rfl) ea_nil)) (.cons (dp_ex e1 hx) (.cons (dp_ex e1 hy) .nil)) (fun H2 e2 => ⟨y, rfl, nd.ex (e1.trans e2)⟩) ⟨n, hs, r, rfl, g, st, hr1, rfl⟩) fun v H2 e2 _ => ?_
  refine DV.q_asg (K := K) d_int fun f0 H3 e3 df => ?_
  have e123 := (e1.trans e2).trans e3
  have src := ei_e (ds_cons (d_rev (d_cb (ds_cons (d_var (K := K) (σ := [some x, some y, some f0, none, none]) (i := 1) rfl (dp_ex e123 hy)) ds_nil) (rc_sortedT (ns := r) (by omega) fun ms p s => asc_eq p s))) ds_nil)
  rw [← List.map_reverse] at src
  rw [show (r.mergeSort fun a b => decide (a ≤ b)).reverse = desc r from rfl, enumI] at src
  refine q_forD src (fun i σ' H' => ∃ a b, σ' = [some x, some y, some (.int (prodI n 1 0 ((desc r).take i))), a, b]) (fun H4 e4 => ⟨none, none, by rw [dp_int df]; rfl⟩) (fun i j hj w0 σ' H' e4 dw pv N k => ?_) fun σ' H' e4 pv => ?_
  · obtain ⟨_, _, a, b, rfl⟩ := pv
    have hi : i < (desc r).length := by simpa using get_lt hj
    have ej : j = i := by rw [List.getElem?_range hi] at hj; exact (Option.some.inj hj).symm
    subst ej
    refine g_pair dw fun u3 u4 d3 d4 => ?_
    have hm := getD_of hi
    have hb : 0 ≤ (desc r).getD j 0 ∧ (desc r).getD j 0 < n := by
      have hmem := (desc_perm r).mem_iff.mp (List.mem_of_getElem? hm)
      obtain ⟨k', hk⟩ := List.mem_iff_getElem?.mp hmem
      have hk2 := get_lt hk
      have hk3 := getD_of (ns := hs) (i := k') (by omega)
      have := Al.get st.2 hk3 hk
      have h4 := g.hb _ (List.mem_of_getElem? hk3)
      omega
    rw [desc_len] at hi
    refine DV.s_asg (K := K) (d_op (d_var rfl (.int _)) (d_op (d_op (d_st0 (d_var rfl (dp_ex (e123.trans e4) hx))) (d_var rfl d4) rd_i) (d_var rfl d3) rd_i) (rd_C ?_)) fun v' H5 e5 d' => k _ _ e5 ⟨some u3, some u4, ?_⟩
    · exact .inr ⟨by omega, by omega⟩
    · rw [take_succ' hm, prodI_snoc, dp_int d', List.length_take, desc_len, Nat.zero_add, Nat.min_eq_left (by omega)]
      rfl
  · obtain ⟨a, b, rfl⟩ := pv
    rw [List.length_range, List.take_length]
    exact DV.s_ret (K := K) (d_var rfl (.int _)) fun v' H5 e5 d4 => q _ _ ((e123.trans e4).trans e5) d4
theorem ok_changed (B : Blt mg) (F : Fun K "changed_cars" "changed_cars" (topS 40) f fd) (G1 : GF P w K mg base 4 "need_state" ["street", "state"] (spP K R_need_places)) (G2 : GF P w K mg base 4 "need_rest" ["street", "state"] (spX K CN R_need_rest)) (G3 : GF P w K mg base 1 "unlike" ["one", "other"] (spP K R_unlike)) : FnOk P w K mg base CX0 5 f fd ["street", "one", "other"] (spX K CN2 R_changed) := by
  refine ok_spX F sc_changed (fun ds d h => by obtain ⟨_, _, _, _, rfl, _⟩ := h; rfl) fun cdv A outer s H E hr => ?_
  refine ⟨_, pss_cons (ps_expr (pe_gf G1 hr (by rfl) (pa_cons (pv 0) (pa_cons (pv 1) pa_nil)))) (pss_cons (ps_expr (pe_gf G2 hr (by rfl) (pa_cons (pv 0) (pa_cons (pv 1) pa_nil))))
    (pss_cons (ps_expr (pe_gf G2 hr (by rfl) (pa_cons (pv 0) (pa_cons (pv 2) pa_nil))))
    (pss_one (ps_ret (pe_callTy cr_tup (by rfl) B.tuple (by decide +kernel) (pa_cons (pe_gf G3 (hr.mono (by decide)) (by rfl) (pa_cons (pv 1) (pa_cons (pv 2) pa_nil))) pa_nil)))))), ?_⟩
  rintro vs ds d hd ⟨n, hs, a, b, rfl, g, sa, ha, sb, hb, rfl⟩ hc Q q
  obtain ⟨x, y, z, rfl, hx, hy, hz⟩ := dpAll3 hd
  obtain ⟨y', z', ey, ez, nd1, nd2⟩ := hc
  cases (Option.some.inj ey)
  cases (Option.some.inj ez)
  have hl := g.l2
  have h1 := sa.2.len
  have h2 := sb.2.len
  refine DV.q_drop (K := K) (d_call (ds_cons (d_var rfl hx) (ds_cons (d_var rfl hy) ds_nil)) ⟨n, hs, a, rfl, g, sa, rfl⟩) fun v H1 e1 _ => ?_
  refine DV.q_drop (K := K) (d_callX (ea_cons (ev_var rfl) (ea_cons (ev_var rfl) ea_nil)) (.cons (dp_ex e1 hx) (.cons (dp_ex e1 hy) .nil)) (fun H2 e2 => ⟨y, rfl, nd1.ex (e1.trans e2)⟩) ⟨n, hs, a, rfl, g, sa, ha, rfl⟩) fun v H2 e2 _ => ?_
  have e12 := e1.trans e2
  refine DV.q_drop (K := K) (d_callX (ea_cons (ev_var rfl) (ea_cons (ev_var rfl) ea_nil)) (.cons (dp_ex e12 hx) (.cons (dp_ex e12 hz) .nil)) (fun H3 e3 => ⟨z, rfl, nd2.ex (e12.trans e3)⟩) ⟨n, hs, b, rfl, g, sb, hb, rfl⟩) fun v H3 e3 _ => ?_
  have e123 := e12.trans e3
  exact DV.s_ret (K := K) (d_cb (ds_cons (d_call (ds_cons (d_var rfl (dp_ex e123 hy)) (ds_cons (d_var rfl (dp_ex e123 hz)) ds_nil)) ⟨a, b, rfl, by omega, by omega, rfl⟩) ds_nil) rc_tupL) fun v' H4 e4 d4 => q _ _ (e123.trans e4) d4
end
end DF

set_option Elab.async false
set_option linter.all false
set_option maxRecDepth 100000
set_option maxHeartbeats 1000000
namespace DF
open PySem PySem.Spec PyProof.Rows L2 Evl R1 StX PM DV
theorem sc_nearest : FnScope ["street", "one", "other", "some", "a", "b", "rest"] ["street", "one", "other"] (defScope (topS 38)) := ⟨rfl, rfl, rfl, by decide +kernel, rfl, by decide +kernel, by decide +kernel⟩
/-- a class of errors as it stands in the written part -/
structure ExT (K : PySem.W.Frag) (mg : Str → Option Value) (x : Str) (C : Addr) : Prop where
  inn : PySem.W.excIn K C [.type "ValueError", .type "Exception", .type "BaseException", .type "object"] "ValueError.__new__" = true
  g : mg x = some (.ref C)
  kp : PySem.W.keepIn K (.ref C) = true
  sub : PySem.W.subIn K (.ref C) (.type "BaseException") = some true
  ty : PySem.W.typeIn K (.ref C) = some (.type "type")
theorem least_ex : ∀ {ps : List (Int × List Int)}, ps ≠ [] → ∃ p ∈ ps, ∀ q ∈ ps, ¬ ltP q p
  | [], h => absurd rfl h
  | [p], _ => ⟨p, List.mem_singleton.mpr rfl, fun q hq => by rw [List.mem_singleton.mp hq]; exact ltP_irr p⟩
  | p :: q :: ps, _ => by
    obtain ⟨m, hm, hl⟩ := least_ex (ps := q :: ps) (by simp)
    by_cases h : ltP p m
    · refine ⟨p, List.mem_cons_self, fun x hx => ?_⟩
      rcases List.mem_cons.mp hx with e | hx
      · rw [e]; exact ltP_irr p
      · exact fun z => hl x hx (ltP_trans z h)
    · refine ⟨m, List.mem_cons_of_mem _ hm, fun x hx => ?_⟩
      rcases List.mem_cons.mp hx with e | hx
      · rw [e]; exact h
      · exact hl x hx
def near (xs ys r : List Int) : Int × List Int := (((unl xs r).length : Int) + ((unl ys r).length : Int), r)
def spNear (K : PySem.W.Frag) (C : Addr) : Sp := fun vs H Q E => ∃ (n : Int) (hs xs ys : List Int), DpAll K H vs [St n hs, T xs, T ys] ∧ Good n hs ∧ IsState n hs xs ∧ IsState n hs ys ∧ (restsIn hs (List.zipWith min xs ys) = [] → ∀ H', Ex H H' → E (.ref C) none H') ∧
  ∀ r ∈ restsIn hs (List.zipWith min xs ys), (∀ s ∈ restsIn hs (List.zipWith min xs ys), ¬ ltP (near xs ys s) (near xs ys r)) → ∀ v H', Ex H H' → Dp K H' v (P2 (near xs ys r)) → Q v H'
theorem eqv_nil (rs : List (List Int)) : PyData.eqv (DV.LT rs) (.list []) = decide (rs = []) := by
  unfold DV.LT
  cases rs <;> simp [PyData.eqv, PyData.eqvAll]
theorem lay_ints : ∀ ns : List Int, PyData.canLayAll0 (ns.map .int) = true
  | [] => by rw [List.map_nil, PyData.canLayAll0]
  | n :: ns => by
    rw [List.map_cons, PyData.canLayAll0, lay_ints ns, PyData.canLay0]
    rfl
theorem lay_T (ns : List Int) : (T ns).canLay0 = true := by
  unfold T
  rw [PyData.canLay0]
  exact lay_ints ns
theorem lay_Ts : ∀ rs : List (List Int), PyData.canLayAll0 (rs.map T) = true
  | [] => by rw [List.map_nil, PyData.canLayAll0]
  | r :: rs => by
    rw [List.map_cons, PyData.canLayAll0, lay_Ts rs, lay_T]
    rfl
theorem depth_Ts : ∀ rs : List (List Int), PyData.depthAll (rs.map T) ≤ 1
  | [] => by rw [List.map_nil, PyData.depthAll]; exact Nat.zero_le _
  | r :: rs => by
    rw [List.map_cons, PyData.depthAll, depth_T]
    exact Nat.max_le.mpr ⟨Nat.le_refl _, depth_Ts rs⟩
theorem shaped_LT (rs : List (List Int)) : SeqAt.shaped (DV.LT rs) = true := by
  unfold SeqAt.shaped DV.LT
  rw [PyData.canLay0, lay_Ts, PyData.depth]
  have := depth_Ts rs
  exact decide_eq_true (by omega)
section
variable {P : Program} {w : World} {K : PySem.W.Frag} {mg : Str → Option Value} {base : Heap} {f : Addr} {fd : FuncData}
theorem ok_nearest (B : Blt mg) {C : Addr} (T1 : ExT K mg "NotMade" C) (F : Fun K "nearest_common" "nearest_common" (topS 38) f fd) (G1 : GF P w K mg base 4 "need_state" ["street", "state"] (spP K R_need_places)) (G2 : GF P w K mg base 3 "need_places" ["street", "state"] (spP K R_need_places)) (G3 : GF P w K mg base 2 "rests_in" ["street", "state"] (spP K R_rests_in)) (G4 : GF P w K mg base 1 "unlike" ["one", "other"] (spP K R_unlike)) :
    FnOk P w K mg base (L2.CX P w) 5 f fd ["street", "one", "other"] (spNear K C) := by
  refine F.okX sc_nearest (fun vs H Q E h => ?_) fun cdv A outer s H vs Q E hr h => ?_
  · obtain ⟨_, _, _, _, h1, _⟩ := h
    exact dpAll_len h1
  refine ⟨_, pss_cons (ps_expr (pe_gf G1 hr (by rfl) (pa_cons (pv 0) (pa_cons (pv 1) pa_nil)))) (pss_cons (ps_expr (pe_gf G2 (hr.mono (by decide)) (by rfl) (pa_cons (pv 0) (pa_cons (pv 2) pa_nil))))
    (pss_cons (ps_set (i := 3) sc_nearest.nd rfl (.inl rfl) (pe_gf G3 (hr.mono (by decide)) (by rfl) (pa_cons (pv 0) (pa_cons (pe_callTy cr_tup (by rfl) B.tuple (by decide +kernel) (pa_cons (pe_lc (own := [("a", 4), ("b", 5)]) (g := gTup K 2 (gCons (gName 4) (gCons (gName 5) gNil))) rfl sc_nearest.nd (RZ.pi_zipA (by rfl) B.zip (pa_cons (pv 1) (pa_cons (pv 2) pa_nil))) (blkOk_by (N := ["street", "one", "other", "some", "a", "b", "rest"]) (sc := defScope (topS 38)) (by decide +kernel))
      (fun _ _ _ _ _ => kg_tup K rfl (pgs_cons (pg_name (i := 4) sc_nearest.nd rfl (.inl rfl) (.inr rfl)) (pgs_cons (pg_name (i := 5) sc_nearest.nd rfl (.inl rfl) (.inr rfl)) pgs_nil))) (fun _ _ _ _ _ => pts_nil)
      (fun _ _ _ _ _ => pe_callB (cr_min2 rfl) (by rfl) B.min (by decide +kernel) (pa_cons (pv 4) (pa_cons (pv 5) pa_nil)))) pa_nil)) pa_nil))))
    (pss_cons (ps_if (pt_cmpR (op_eqD hr.units) (pv 3) (pe_lst pa_nil) (nomark _)) (pss_one (ps_raise rfl (takes_of rfl rfl rfl rfl) (pmk_own0 PySem.F.excBase_ValueError T1.inn T1.g T1.kp (raises_own T1.sub T1.ty) rfl))) pss_nil)
    (pss_one (ps_ret (pe_callB (cr_minD rfl) (by rfl) B.min (by decide +kernel) (pa_cons (pe_lc (own := [("rest", 6)]) (g := gName 6) rfl sc_nearest.nd (pi_list (pv 3)) (blkOk_by (N := ["street", "one", "other", "some", "a", "b", "rest"]) (sc := defScope (topS 38)) (by decide +kernel))
      (fun _ _ _ _ _ => pg_name (i := 6) sc_nearest.nd rfl (.inl rfl) (.inr rfl)) (fun _ _ _ _ _ => pts_nil)
      (fun _ _ _ _ _ => pe_tup (pa_cons (pe_op op_add (pe_callB (kc_len K) (by rfl) B.len PySem.boot_len (pa_cons (pe_gf G4 (hr.mono (by decide)) (by rfl) (pa_cons (pv 1) (pa_cons (pv 6) pa_nil))) pa_nil)) (pe_callB (kc_len K) (by rfl) B.len PySem.boot_len (pa_cons (pe_gf G4 (hr.mono (by decide)) (by rfl) (pa_cons (pv 2) (pa_cons (pv 6) pa_nil))) pa_nil))) (pa_cons (pv 6) pa_nil)))) pa_nil))))))), ?_⟩
  obtain ⟨n, hs, xs, ys, hd, g, st1, st2, qE, qV⟩ := h
  obtain ⟨x, y, z, rfl, hx, hy, hz⟩ := dpAll3 hd
  have hu := hr.units
  have hl := g.l2
  have hx1 := st1.2.len
  have hx2 := st2.2.len
  refine DV.q_drop (K := K) (d_call (ds_cons (d_var rfl hx) (ds_cons (d_var rfl hy) ds_nil)) ⟨n, hs, xs, rfl, g, st1, rfl⟩) fun v H1 e1 _ => ?_
  refine DV.q_drop (K := K) (d_call (ds_cons (d_var rfl (dp_ex e1 hx)) (ds_cons (d_var rfl (dp_ex e1 hz)) ds_nil)) ⟨n, hs, ys, rfl, g, st2, rfl⟩) fun v H2 e2 _ => ?_
  have e12 := e1.trans e2
  have src := ei_z (K := K) (σ := [some x, some y, some z, none, none, none, none]) (H := H2) (ds := xs.map .int) (es := ys.map .int) (by rw [List.length_map, List.length_map]; omega) (ds_cons (d_var (i := 1) rfl (dp_ex e12 hy)) (ds_cons (d_var (i := 2) rfl (dp_ex e12 hz)) ds_nil))
  rw [zipI] at src
  have hml : hs.length = (List.zipWith min xs ys).length := by rw [List.length_zipWith]; omega
  have hsm := restsIn_small (xs := List.zipWith min xs ys) hl
  generalize hR : restsIn hs (List.zipWith min xs ys) = rs at qE qV hsm
  refine DV.q_asg (K := K) (d := DV.LT rs) (d_call (ds_cons (d_var rfl (dp_ex e12 hx)) (ds_cons (d_cb (ds_cons (EvD.is (d_lc (fun _ => true) (fun p => .int (min p.1 p.2)) src (by rw [List.length_zip]; omega) (fun _ _ _ => rfl) fun p hp v H3 e3 dv Q2 k2 => g_pair dv fun u w d1 d2 => k2 _ _ (Ex.refl _) rfl t_yes fun _ => d_cb (ds_cons (d_var rfl d1) (ds_cons (d_var rfl d2) ds_nil)) rc_min2) (e := LI (List.zipWith min xs ys)) ?_) ds_nil) rc_tupL) ds_nil))
    ⟨n, hs, List.zipWith min xs ys, rfl, g, hml, by rw [hR]⟩) fun w H3 e3 dw => ?_
  · unfold got LI
    rw [List.filter_eq_self.mpr fun _ _ => rfl, List.map_zipWith, List.zip_eq_zipWith, List.map_zipWith]
  have e123 := e12.trans e3
  refine q_when (et_is (t_T (d_op (d_var rfl dw) (d_lst ds_nil (by decide)) (rd_eqD (shaped_LT rs) rfl))) (eqv_nil rs)) (fun hb H4 e4 => qE (of_decide_eq_true hb) H4 (e123.trans e4)) fun hb H4 e4 => ?_
  have hne : rs ≠ [] := of_decide_eq_false hb
  obtain ⟨p, hp, hpl⟩ := least_ex (ps := rs.map (near xs ys)) (by simpa using hne)
  obtain ⟨r, hr1, rfl⟩ := List.mem_map.mp hp
  have e1234 := e123.trans e4
  refine DV.s_ret (K := K) (d := P2 (near xs ys r)) (d_cb (ds_cons (EvD.is (d_lcA (xs := rs) (enc := T) (fun r => P2 (near xs ys r)) (ei_l (d_var rfl (dp_ex e4 dw))) (by omega) (fun r _ => ?_) (fun _ => rfl) fun r hrr v H5 e5 dv => ?_) (e := .list ((rs.map (near xs ys)).map P2)) ?_) ds_nil)
    (rc_minP (by rw [List.length_map]; exact List.length_pos_of_mem hr1) (Nat.lt_of_le_of_lt (Nat.add_le_add_left (by decide : 8 ≤ 64) _) hu) fun q hq hql => by rw [ltP_total (hql _ hp) (hpl q hq)])) fun v' H5 e5 d5 => qV r hr1 (fun s hs1 => hpl _ (List.mem_map_of_mem hs1)) v' H5 (e1234.trans e5) d5
  · unfold P2
    rw [nl, nlAll, nlAll, nlAll, nl_T]
    rfl
  · have hrl : r.length = hs.length := len_rest hml (by rw [hR]; exact hrr)
    have c1 : EvD K (tCall (spP K R_unlike) [] E0 (tCons (tVar 1) (tCons (tVar 6) tNil))) [some x, some y, some z, some w, none, none, some v] H5 (LI (unl xs r)) := d_call (ds_cons (d_var rfl (dp_ex (e1234.trans e5) hy)) (ds_cons (d_var rfl dv) ds_nil)) ⟨xs, r, rfl, by omega, by omega, rfl⟩
    have c2 : EvD K (tCall (spP K R_unlike) [] E0 (tCons (tVar 2) (tCons (tVar 6) tNil))) [some x, some y, some z, some w, none, none, some v] H5 (LI (unl ys r)) := d_call (ds_cons (d_var rfl (dp_ex (e1234.trans e5) hz)) (ds_cons (d_var rfl dv) ds_nil)) ⟨ys, r, rfl, by omega, by omega, rfl⟩
    have l1 := d_cb (ds_cons c1 ds_nil) rc_lenL
    have l2 := d_cb (ds_cons c2 ds_nil) rc_lenL
    rw [List.length_map] at l1 l2
    exact d_tup (ds := [.int (near xs ys r).1, T r]) (ds_cons (d_op l1 l2 rd_i) (ds_cons (d_var rfl dv) ds_nil)) (by show 2 ≤ 100000; decide)
  · rw [List.map_map]
    rfl
end
end DF

set_option Elab.async false
set_option linter.all false
namespace PM
theorem count_fall (p : Int) : ∀ (hs : List Int) (n : Int), (∀ (j : Nat) (h : Int), hs[j]? = some h → h ≤ n - 1 - (j : Int)) → hs.countP (fun h => decide (p ≤ h)) ≤ (n - p).toNat
  | [], n, _ => Nat.zero_le _
  | h :: hs, n, hb => by
    have ih := count_fall p hs (n - 1) fun j x hx => by
      have := hb (j + 1) x (by simpa using hx)
      omega
    have h0 := hb 0 h rfl
    rw [List.countP_cons]
    by_cases hp : p ≤ h
    · rw [decide_eq_true hp, if_pos rfl]
      omega
    · rw [decide_eq_false hp, if_neg Bool.false_ne_true]
      omega
/-- homes that fall in step leave room, in any order -/
theorem room_fall {n : Int} {hs ms : List Int} (hb : ∀ (j : Nat) (h : Int), hs[j]? = some h → h ≤ n - 1 - (j : Int)) (p : ms.Perm hs) : Room n ms := fun q q0 qn => by
  rw [p.countP_eq]
  have := count_fall q hs n hb
  omega
theorem perm_erase : ∀ {hs : List Int} {k : Nat} {h : Int}, hs[k]? = some h → (h :: hs.eraseIdx k).Perm hs
  | [], _, _, e => by simp at e
  | a :: hs, 0, h, e => by
    have e' : a = h := by simpa using e
    rw [e', List.eraseIdx_cons_zero]
  | a :: hs, k + 1, h, e => by
    have ih := perm_erase (hs := hs) (k := k) (h := h) (by simpa using e)
    rw [List.eraseIdx_cons_succ]
    exact (List.Perm.swap a h _).trans (ih.cons a)
theorem sub_len : ∀ (l F : List Int), l.Nodup → (∀ q ∈ l, q ∈ F) → l.length ≤ F.length
  | [], _, _, _ => Nat.zero_le _
  | a :: l, F, nd, h => by
    have hn := List.nodup_cons.mp nd
    have ha := h a List.mem_cons_self
    have ih := sub_len l (F.erase a) hn.2 fun q hq => (List.mem_erase_of_ne fun e => hn.1 (by rw [← e]; exact hq)).mpr (h q (List.mem_cons_of_mem _ hq))
    rw [List.length_erase_of_mem ha] at ih
    have := List.length_pos_of_mem ha
    rw [List.length_cons]
    omega
/-- a free place in a range -/
theorem free_in {a b : Int} {F : List Int} (h : (F.length : Int) < b - a) : ∃ q ∈ rangeL a b, q ∉ F := by
  refine Classical.byContradiction fun ne => ?_
  have h2 := sub_len (rangeL a b) F (rangeL_nodup a b) fun q hq => Classical.byContradiction fun z => ne ⟨q, hq, z⟩
  rw [rangeL_len] at h2
  omega
end PM

set_option Elab.async false
set_option linter.all false
set_option maxRecDepth 100000
set_option maxHeartbeats 1000000
/-! the row of draws; a street drawn -/
namespace DF
open PySem PySem.Spec PyProof.Rows L2 Evl R1 StX PM DV
theorem ev_of_i {K : PySem.W.Frag} {σ : L2.St} {H : Hp} {te : TE} {n : Int} (h : EvD K te σ H (.int n)) : Ev te σ H (.int n) := fun H1 e Q q => h H1 e _ fun v H2 e2 dv => by
  rw [dp_int dv]
  exact q H2 e2
/-- a list of the written part -/
def Kalt (K : PySem.W.Frag) (a : Addr) (xs : List V) : Prop := ∃ (o : Obj) (its : Array Value) (n : Nat), K.lookup a = some o ∧ o.cls = .type "list" ∧ o.dict = none ∧ o.data = .seq its n ∧ its.size ≤ sizeLine ∧ Vals xs its.toList
theorem sql_but {K : PySem.W.Frag} {H H' : Hp} {r sc : Addr} {xs : List V} (e : But r H H') (n : sc = r → Kalt K sc xs) (h : SqL K H sc xs) : SqL K H' sc xs := by
  by_cases z : sc = r
  · exact .inr (n z)
  rcases h with (h | ⟨o, h⟩) | h
  · exact .inl (.inl (e _ _ z h))
  · exact .inl (.inr ⟨o, e _ _ z h⟩)
  · exact .inr h
theorem But.mut {r l : Addr} {H H' : Hp} {o : HO} (e : But r H H') (n : H l = none) : But r H (upd H' l o) := fun b u nb h => by
  rw [upd_ne (ne_of_none h n)]
  exact e b u nb h
/-- the row at r: the script at sc, the numbers -/
def RowOk (K : PySem.W.Frag) (H : Hp) (r sc : Addr) (ns : List Int) : Prop := (sc = r → Kalt K sc (ns.map V.int)) ∧ SqL K H sc (ns.map V.int) ∧ ∃ (p : Nat) (c d : Int), H r = some (.lst [.ref sc, .int (p : Int), .int c, .int d]) ∧ 0 ≤ c ∧ c < 2147483647
section
variable {K : PySem.W.Frag} {H H' : Hp} {r sc : Addr} {ns : List Int}
theorem RowOk.ex (h : RowOk K H r sc ns) (e : Ex H H') : RowOk K H' r sc ns := by
  obtain ⟨h1, h2, p, c, d, h3, h4⟩ := h
  exact ⟨h1, ex_l e h2, p, c, d, e _ _ h3, h4⟩
theorem RowOk.l (h : RowOk K H r sc ns) : Lsty r H := by
  obtain ⟨_, _, p, c, d, h3, _⟩ := h
  exact ⟨_, h3⟩
/-- another list, new since B, is written -/
theorem RowOk.mut {B : Hp} {l : Addr} {o : HO} (b : RowOk K B r sc ns) (n : B l = none) (h : RowOk K H r sc ns) : RowOk K (upd H l o) r sc ns := by
  obtain ⟨h1, h2, p, c, d, h3, h4⟩ := h
  obtain ⟨_, b2, _, _, _, b3, _⟩ := b
  refine ⟨h1, ?_, p, c, d, by rw [upd_ne (ne_of_none b3 n)]; exact h3, h4⟩
  rcases b2 with (b2 | ⟨_, b2⟩) | b2
  · exact sql_but (But.upd (a := l)) (fun z => absurd z (ne_of_none b2 n)) h2
  · exact sql_but (But.upd (a := l)) (fun z => absurd z (ne_of_none b2 n)) h2
  · exact .inr b2
theorem row_dp {p : Nat} {c d : Int} (h2 : SqL K H sc (ns.map V.int)) (h3 : H r = some (.lst [.ref sc, .int (p : Int), .int c, .int d])) : Dp K H (.ref r) (.list [LI ns, .int (p : Int), .int c, .int d]) :=
  .lst (sq_of h3) (.cons (LI_dp h2) (.cons (.int _) (.cons (.int _) (.cons (.int _) .nil))))
end
def spTaken (K : PySem.W.Frag) : Sp := fun vs H Q _ => ∃ r sc ns m, vs = [.ref r, .int m] ∧ RowOk K H r sc ns ∧ 0 < m ∧ m < 1073741824 ∧ ∀ k H', 0 ≤ k → k < m → But r H H' → RowOk K H' r sc ns → Q (.int k) H'
def spPick (K : PySem.W.Frag) : Sp := fun vs H Q _ => ∃ r sc ns a ws, vs = [.ref r, .ref a] ∧ RowOk K H r sc ns ∧ SqL K H a ws ∧ a ≠ r ∧ 0 < ws.length ∧ ws.length < 100000 ∧ ∀ (k : Nat) v H', ws[k]? = some v → But r H H' → RowOk K H' r sc ns → Q v H'
theorem sc_taken : FnScope ["_law_row", "_law_many", "_law_found", "_law_cell"] ["_law_row", "_law_many"] (defScope (topS 42)) := ⟨rfl, rfl, rfl, by decide +kernel, rfl, by decide +kernel, by decide +kernel⟩
theorem sc_pick : FnScope ["_law_row", "_law_things"] ["_law_row", "_law_things"] (defScope (topS 43)) := ⟨rfl, rfl, rfl, by decide +kernel, rfl, by decide +kernel, by decide +kernel⟩
section
variable {P : Program} {w : World} {K : PySem.W.Frag} {mg : Str → Option Value} {base : Heap} {f : Addr} {fd : FuncData}
theorem ok_taken (B : Blt mg) (F : Fun K "_law_taken" "_law_taken" (topS 42) f fd) : FnOk P w K mg base CX0 1 f fd ["_law_row", "_law_many"] (spTaken K) := by
  refine F.ok sc_taken (fun vs H Q E h => by obtain ⟨_, _, _, _, rfl, _⟩ := h; rfl) fun cdv A outer s H vs Q E hr h => ?_
  refine ⟨_, pss_cons (ps_if (pt_cmpR op_gt (pe_ix ix_list (pv 0) pe_int (fun _ _ => rfl)) pe_int (nomark _))
      (pss_cons (ps_set (i := 2) sc_taken.nd rfl (.inl rfl) (pe_op op_mod (pe_callTy cr_int (by rfl) B.int (by decide +kernel) (pa_cons (pe_ix ix_list (pv 0) pe_int (fun _ _ => rfl)) pa_nil)) (pv 1)))
      (pss_cons (ps_asg (pe_op op_fdiv (pe_ix ix_list (pv 0) pe_int (fun _ _ => rfl)) (pv 1)) (pg_sub (pv 0) pe_int set_list (fun _ => rfl)))
      (pss_one (ps_ret (pv 2))))) pss_nil)
    (pss_cons (ps_asg (pe_op op_add (pe_ix ix_list (pv 0) pe_int (fun _ _ => rfl)) pe_int) (pg_sub (pv 0) pe_int set_list (fun _ => rfl)))
    (pss_cons (ps_if (pt_cmpR op_gt (pe_ix ix_list (pv 0) pe_int (fun _ _ => rfl)) (pe_callB cr_len (by rfl) B.len PySem.boot_len (pa_cons (pe_ix ix_list (pv 0) pe_int (fun _ _ => rfl)) pa_nil)) (nomark _))
      (pss_cons (ps_asg (pe_op op_mod (pe_callTy cr_int (by rfl) B.int (by decide +kernel) (pa_cons (pe_op op_add (pe_op op_mul (pe_ix ix_list (pv 0) pe_int (fun _ _ => rfl)) pe_int) pe_int) pa_nil)) pe_int) (pg_sub (pv 0) pe_int set_list (fun _ => rfl)))
      (pss_one (ps_ret (pe_op op_mod (pe_callTy cr_int (by rfl) B.int (by decide +kernel) (pa_cons (pe_op op_fdiv (pe_ix ix_list (pv 0) pe_int (fun _ _ => rfl)) pe_int) pa_nil)) (pv 1))))) pss_nil)
    (pss_cons (ps_set (i := 3) sc_taken.nd rfl (.inl rfl) (pe_ix ix_list (pe_ix ix_list (pv 0) pe_int (fun _ _ => rfl)) (pe_op op_sub (pe_ix ix_list (pv 0) pe_int (fun _ _ => rfl)) pe_int) (fun _ _ => rfl)))
    (pss_cons (ps_asg (pe_op op_mod (pe_callTy cr_int (by rfl) B.int (by decide +kernel) (pa_cons (pe_op op_add (pe_op op_add (pe_op op_mul (pe_ix ix_list (pv 0) pe_int (fun _ _ => rfl)) pe_int) (pv 3)) pe_int) pa_nil)) pe_int) (pg_sub (pv 0) pe_int set_list (fun _ => rfl)))
    (pss_cons (ps_if (pt_cmpR op_ge (pv 3) (pe_op op_pow pe_int pe_int) (nomark _)) (pss_one (ps_asg (pe_op op_fdiv (pv 3) (pv 1)) (pg_sub (pv 0) pe_int set_list (fun _ => rfl)))) pss_nil)
    (pss_one (ps_ret (pe_op op_mod (pe_callTy cr_int (by rfl) B.int (by decide +kernel) (pa_cons (pv 3) pa_nil)) (pv 1))))))))), ?_⟩
  obtain ⟨r, sc, ns, m, rfl, ⟨n1, h2, p, c, d, h3, c0, c1⟩, m0, m1, q⟩ := h
  have dr := row_dp h2 h3
  have dm : Dp K H (.int m) (.int m) := .int m
  refine q_when (t_T (d_op (d_op (d_var rfl dr) d_int (rd_ixL (j := 3) rfl rfl)) d_int rd_b)) (fun hb H1 e1 => ?_) fun hb H1 e1 => ?_
  · refine DV.q_asg (K := K) (d_op (d_cb (ds_cons (d_op (d_var rfl (dp_ex e1 dr)) d_int (rd_ixL (j := 3) rfl rfl)) ds_nil) rc_int) (d_var rfl (.int m)) (rd_C m0)) fun v H2 e2 dv => ?_
    have h3' := (e1.trans e2) _ _ h3
    refine q_setL (j := 3) h3' (ev_of_i (K := K) (d_op (d_op (d_var rfl (dp_ex (e1.trans e2) dr)) d_int (rd_ixL (j := 3) rfl rfl)) (d_var rfl (.int m)) (rd_C ⟨m0, m1⟩))) (ev_var rfl) ev_c (by simp) fun H3 e3 => ?_
    have e123 := (e1.trans e2).trans e3
    refine DV.s_ret (K := K) (d_var rfl (dp_but (But.upd (a := r)) ⟨_, e123 _ _ h3⟩ rfl (dp_ex e3 dv))) fun v' H4 e4 d4 => ?_
    rw [dp_int d4]
    refine q _ H4 (Int.emod_nonneg _ (by omega)) (Int.emod_lt_of_pos _ m0) (((But.of e123).trans But.upd).trans (But.of e4)) ⟨n1, ?_, p, c, _, e4 _ _ upd_same, c0, c1⟩
    exact ex_l e4 (sql_but (But.upd (a := r)) n1 (ex_l e123 h2))
  · refine q_setL (j := 1) (e1 _ _ h3) (ev_of_i (K := K) (d_op (d_op (d_var rfl (dp_ex e1 dr)) d_int (rd_ixL (j := 1) rfl rfl)) d_int rd_i)) (ev_var rfl) ev_c (by simp) fun H2 e2 => ?_
    generalize hG : upd H2 r _ = G
    have e12 := e1.trans e2
    have bG : But r H G := by rw [← hG]; exact (But.of e12).trans But.upd
    have g2 : SqL K G sc (ns.map V.int) := sql_but bG n1 h2
    have g3 : G r = some (.lst [.ref sc, .int ((p + 1 : Nat) : Int), .int c, .int d]) := by rw [← hG, upd_same]; rfl
    have dr2 := row_dp g2 g3
    clear hG
    refine q_when (t_T (d_op (d_op (d_var rfl dr2) d_int (rd_ixL (j := 1) rfl rfl)) (d_cb (ds_cons (d_op (d_var rfl dr2) d_int (rd_ixL (j := 0) rfl rfl)) ds_nil) rc_lenL) rd_b)) (fun hb2 H3 e3 => ?_) fun hb2 H3 e3 => ?_
    · refine q_setL (j := 2) (e3 _ _ g3) (ev_of_i (K := K) (d_op (d_cb (ds_cons (d_op (d_op (d_op (d_var rfl (dp_ex e3 dr2)) d_int (rd_ixL (j := 2) rfl rfl)) d_int (rd_C (.inl ⟨by omega, by omega⟩))) d_int rd_i) ds_nil) rc_int) d_int (rd_C (by decide)))) (ev_var rfl) ev_c (by simp) fun H4 e4 => ?_
      generalize hG2 : upd H4 r _ = G2
      have bG2 : But r H G2 := by rw [← hG2]; exact (bG.trans (But.of (e3.trans e4))).trans But.upd
      have k2 : SqL K G2 sc (ns.map V.int) := sql_but bG2 n1 h2
      have k3 : G2 r = some (.lst [.ref sc, .int ((p + 1 : Nat) : Int), .int ((c * 48271 + 11) % 2147483647), .int d]) := by rw [← hG2, upd_same]; rfl
      clear hG2
      refine DV.s_ret (K := K) (d_op (d_cb (ds_cons (d_op (d_op (d_var rfl (row_dp k2 k3)) d_int (rd_ixL (j := 2) rfl rfl)) d_int (rd_C ⟨by decide, by decide⟩)) ds_nil) rc_int) (d_var rfl (.int m)) (rd_C m0)) fun v' H5 e5 d5 => ?_
      rw [dp_int d5]
      exact q _ H5 (Int.emod_nonneg _ (by omega)) (Int.emod_lt_of_pos _ m0) (bG2.trans (But.of e5)) ⟨n1, ex_l e5 k2, _, _, _, e5 _ _ k3, Int.emod_nonneg _ (by decide), Int.emod_lt_of_pos _ (by decide)⟩
    · have hp : p < ns.length := by
        have := of_decide_eq_false hb2
        rw [List.length_map] at this
        omega
      have hcell := getD_of hp
      generalize ns.getD p 0 = cell at hcell
      refine DV.q_asg (K := K) (d_op (d_op (d_var rfl (dp_ex e3 dr2)) d_int (rd_ixL (j := 0) rfl rfl)) (d_op (d_op (d_var rfl (dp_ex e3 dr2)) d_int (rd_ixL (j := 1) rfl rfl)) d_int rd_i) (rd_ixL (j := p) (by omega) (get_map hcell))) fun v H4 e4 dv => ?_
      have e34 := e3.trans e4
      refine q_setL (j := 2) (e34 _ _ g3) (ev_of_i (K := K) (d_op (d_cb (ds_cons (d_op (d_op (d_op (d_op (d_var rfl (dp_ex e34 dr2)) d_int (rd_ixL (j := 2) rfl rfl)) d_int (rd_C (.inl ⟨by omega, by omega⟩))) (d_var rfl dv) rd_i) d_int rd_i) ds_nil) rc_int) d_int (rd_C (by decide)))) (ev_var rfl) ev_c (by simp) fun H5 e5 => ?_
      generalize hG2 : upd H5 r _ = G2
      have bG2 : But r H G2 := by rw [← hG2]; exact (bG.trans (But.of (e34.trans e5))).trans But.upd
      have k2 : SqL K G2 sc (ns.map V.int) := sql_but bG2 n1 h2
      have k3 : G2 r = some (.lst [.ref sc, .int ((p + 1 : Nat) : Int), .int ((c * 48271 + cell + 11) % 2147483647), .int d]) := by rw [← hG2, upd_same]; rfl
      clear hG2
      have ev : v = .int cell := dp_int dv
      subst ev
      have fin : ∀ (σ' : L2.St) (G3 : Hp) (d' : Int), σ'[3]? = some (some (.int cell)) → σ'[1]? = some (some (.int m)) → But r H G3 → SqL K G3 sc (ns.map V.int) → G3 r = some (.lst [.ref sc, .int ((p + 1 : Nat) : Int), .int ((c * 48271 + cell + 11) % 2147483647), .int d']) →
          tRet (tOp (rI (fun _ j => 0 < j) fun i j => .int (i % j)) (tCB rIntQ (tCons (tVar 3) tNil)) (tVar 1)) { nx := fun _ H' => Q .non H', rt := Q } σ' G3 := fun σ' G3 d' s3 s1 b3 q2 q3 => by
        refine DV.s_ret (K := K) (d_op (d_cb (ds_cons (d_var s3 (.int cell)) ds_nil) rc_int) (d_var s1 (.int m)) (rd_C m0)) fun v' H6 e6 d6 => ?_
        rw [dp_int d6]
        exact q _ H6 (Int.emod_nonneg _ (by omega)) (Int.emod_lt_of_pos _ m0) (b3.trans (But.of e6)) ⟨n1, ex_l e6 q2, _, _, _, e6 _ _ q3, Int.emod_nonneg _ (by decide), Int.emod_lt_of_pos _ (by decide)⟩
      refine q_when (t_T (K := K) (d_op (d_var rfl (.int cell)) (d_op d_int d_int (rd_C ⟨by decide, by decide, by decide⟩)) rd_b)) (fun hb3 H6 e6 => ?_) fun hb3 H6 e6 => ?_
      · refine s_setL (j := 3) (e6 _ _ k3) (ev_of_i (K := K) (d_op (d_var rfl (.int cell)) (d_var rfl (.int m)) (rd_C ⟨m0, m1⟩))) (ev_var rfl) ev_c (by simp) fun H7 e7 => ?_
        have b7 : But r H (upd H7 r (.lst ([.ref sc, .int ((p + 1 : Nat) : Int), .int ((c * 48271 + cell + 11) % 2147483647), .int d].set 3 (.int (cell / m))))) := (bG2.trans (But.of (e6.trans e7))).trans But.upd
        exact fin _ _ _ rfl rfl b7 (sql_but b7 n1 h2) upd_same
      · exact fin _ _ _ rfl rfl (bG2.trans (But.of e6)) (ex_l e6 k2) (e6 _ _ k3)
theorem ok_pick (B : Blt mg) (F : Fun K "_law_pick" "_law_pick" (topS 43) f fd) (G : GF P w K mg base 1 "_law_taken" ["_law_row", "_law_many"] (spTaken K)) : FnOk P w K mg base CX0 2 f fd ["_law_row", "_law_things"] (spPick K) := by
  refine F.ok sc_pick (fun vs H Q E h => by obtain ⟨_, _, _, _, _, rfl, _⟩ := h; rfl) fun cdv A outer s H vs Q E hr h => ?_
  refine ⟨_, pss_one (ps_ret (pe_ix ix_list (pv 1) (pe_gf G hr (by rfl) (pa_cons (pv 0) (pa_cons (pe_callB cr_len (by rfl) B.len PySem.boot_len (pa_cons (pv 1) pa_nil)) pa_nil))) (fun _ _ => rfl))), ?_⟩
  obtain ⟨r, sc, ns, a, ws, rfl, ro, ha, nar, l0, l1, q⟩ := h
  refine ⟨.ref a, rfl, .ref r, rfl, .ref a, rfl, a, ws, rfl, .inl ha, r, sc, ns, (ws.length : Int), rfl, ro, by omega, by omega, fun k H' k0 k1 bt ro' => ?_⟩
  obtain ⟨kn, rfl⟩ := Int.eq_ofNat_of_zero_le k0
  have hk : kn < ws.length := by omega
  exact ⟨a, ws, (kn : Int), ws[kn], rfl, rfl, sql_but bt (fun z => absurd z nar) ha, atI_nat (List.getElem?_eq_getElem hk), q kn _ H' (List.getElem?_eq_getElem hk) bt ro'⟩
end
end DF

set_option Elab.async false
set_option linter.all false
set_option maxRecDepth 100000
set_option maxHeartbeats 1000000
/-! a street drawn -/
namespace DF
open PySem PySem.Spec PyProof.Rows L2 Evl R1 StX PM DV
theorem fresh_but {r l : Addr} {H H' : Hp} (e : But r H H') (n : l ≠ r) (h : H' l = none) : H l = none := by
  cases h1 : H l with
  | none => rfl
  | some o =>
    rw [e l o n h1] at h
    cases h
theorem sqi {k n : Nat} (h : k < n) : seqIndex? (k : Int) n = some k := by
  unfold seqIndex?
  have n1 : ¬ ((k : Int) < 0) := by omega
  simp [n1, h]
theorem erase_map {α β : Type} (f : α → β) : ∀ (xs : List α) (k : Nat), (xs.map f).eraseIdx k = (xs.eraseIdx k).map f
  | [], _ => rfl
  | x :: xs, 0 => rfl
  | x :: xs, k + 1 => by rw [List.map_cons, List.eraseIdx_cons_succ, List.eraseIdx_cons_succ, List.map_cons, erase_map f xs k]
theorem sc_street : FnScope ["_law_row", "_law_cars", "_law_places", "_law_many", "_law_size", "_law_homes", "_law_left", "_law_turn", "_law_mixed"] ["_law_row", "_law_cars", "_law_places"] (defScope (topS 45)) := ⟨rfl, rfl, rfl, by decide +kernel, rfl, by decide +kernel, by decide +kernel⟩
def spStreet (K : PySem.W.Frag) : Sp := fun vs H Q _ => ∃ r sc ns, vs = [.ref r, .int 4, .int 7] ∧ RowOk K H r sc ns ∧ ∀ n hs v H', Good n hs → But r H H' → RowOk K H' r sc ns → Dp K H' v (St n hs) → Q v H'
section
variable {P : Program} {w : World} {K : PySem.W.Frag} {mg : Str → Option Value} {base : Heap} {f : Addr} {fd : FuncData}
theorem ok_street (B : Blt mg) (F : Fun K "_law_street" "_law_street" (topS 45) f fd) (G : GF P w K mg base 1 "_law_taken" ["_law_row", "_law_many"] (spTaken K)) : FnOk P w K mg base CX0 2 f fd ["_law_row", "_law_cars", "_law_places"] (spStreet K) := by
  refine F.ok sc_street (fun vs H Q E h => by obtain ⟨_, _, _, rfl, _⟩ := h; rfl) fun cdv A outer s H vs Q E hr h => ?_
  refine ⟨_, pss_cons (ps_set (i := 3) sc_street.nd rfl (.inl rfl) (pe_op op_add pe_int (pe_gf G hr (by rfl) (pa_cons (pv 0) (pa_cons (pv 1) pa_nil)))))
    (pss_cons (ps_set (i := 4) sc_street.nd rfl (.inl rfl) (pe_callB (cr_max2 rfl) (by rfl) B.max (by decide +kernel) (pa_cons (pv 3) (pa_cons (pe_op op_add pe_int (pe_gf G hr (by rfl) (pa_cons (pv 0) (pa_cons (pv 2) pa_nil)))) pa_nil))))
    (pss_cons (ps_par (i := 5) (j := 6) rfl sc_street.nd rfl rfl (by decide) rfl rfl (pa_cons (pe_lst pa_nil) (pa_cons (pv 4) pa_nil)) (by rfl))
    (pss_cons (ps_for PassesOwn.never rfl (pi_range1 (by rfl) B.range (pa_cons (pv 3) pa_nil)) (pg_name (i := 7) sc_street.nd rfl (.inl rfl))
      (pss_cons (ps_set (i := 6) sc_street.nd rfl (.inl rfl) (pe_op op_sub (pv 6) pe_int))
      (pss_one (ps_expr (pe_bm PySem.F.plainAttrs_list PySem.F.slot_list_append PySem.F.type_list_append mt_append (pv 5) (pa_cons (pe_gf G hr (by rfl) (pa_cons (pv 0) (pa_cons (pe_op op_add (pv 6) pe_int) pa_nil))) pa_nil))))))
    (pss_cons (ps_set (i := 8) sc_street.nd rfl (.inl rfl) (pe_lst pa_nil))
    (pss_cons (ps_for PassesOwn.never rfl (pi_range1 (by rfl) B.range (pa_cons (pv 3) pa_nil)) (pg_name (i := 7) sc_street.nd rfl (.inl rfl))
      (pss_one (ps_expr (pe_bm PySem.F.plainAttrs_list PySem.F.slot_list_append PySem.F.type_list_append mt_append (pv 8) (pa_cons (pe_bm PySem.F.plainAttrs_list PySem.F.slot_list_pop PySem.F.type_list_pop mt_popAt (pv 5) (pa_cons (pe_gf G hr (by rfl) (pa_cons (pv 0) (pa_cons (pe_callB cr_len (by rfl) B.len PySem.boot_len (pa_cons (pv 5) pa_nil)) pa_nil))) pa_nil)) pa_nil)))))
    (pss_one (ps_ret (pe_tup (pa_cons (pv 4) (pa_cons (pe_callTy cr_tup (by rfl) B.tuple (by decide +kernel) (pa_cons (pv 8) pa_nil)) pa_nil)))))))))), ?_⟩
  obtain ⟨r, sc, ns, rfl, ro, q⟩ := h
  refine ⟨.ref r, rfl, .int 4, rfl, r, sc, ns, 4, rfl, ro, by decide, by decide, fun k1 H1 a0 a1 b1 ro1 => ⟨1, k1, rfl, rfl, ?_⟩⟩
  refine ⟨_, rfl, .ref r, rfl, .int 7, rfl, r, sc, ns, 7, rfl, ro1, by decide, by decide, fun k2 H2 c0 c1 b2 ro2 => ⟨1, k2, rfl, rfl, _, _, rfl, ?_⟩⟩
  have b12 := b1.trans b2
  obtain ⟨many, hmany⟩ : ∃ m : Nat, 1 + k1 = (m : Int) := ⟨(1 + k1).toNat, by omega⟩
  obtain ⟨size, hsize⟩ : ∃ z : Int, (if 1 + k2 > 1 + k1 then 1 + k2 else 1 + k1) = z := ⟨_, rfl⟩
  dsimp only
  rw [hsize, hmany]
  have hm : 1 ≤ many ∧ many ≤ 4 := by omega
  have hz : (many : Int) ≤ size ∧ size ≤ 7 := by
    rw [← hsize]
    split <;> omega
  clear hsize hmany
  refine ⟨Nat.zero_le _, fun l nl => ⟨_, rfl, _, _, rfl, ?_⟩⟩
  have nlr : l ≠ r := fun e => by
    obtain ⟨ys, h⟩ := ro2.l
    rw [e, h] at nl
    cases nl
  have nl0 : H l = none := fresh_but b12 nlr nl
  have b3 : But r H (upd H2 l (.lst [])) := But.mut b12 nl0
  have ro3 : RowOk K (upd H2 l (.lst [])) r sc ns := RowOk.mut ro nl0 ro2
  have h3 : upd H2 l (.lst []) l = some (.lst (([] : List Int).map V.int)) := upd_same
  generalize upd H2 l (.lst []) = H3 at b3 ro3 h3
  refine q_forR1 (n := (many : Int)) (ea_cons (ev_var rfl) ea_nil) (by omega)
    (fun i σ' H' => ∃ t hs, σ' = [some (.ref r), some (.int 4), some (.int 7), some (.int (many : Int)), some (.int size), some (.ref l), some (.int (size - (i : Int))), t, none] ∧ But r H H' ∧ RowOk K H' r sc ns ∧ H' l = some (.lst (hs.map V.int)) ∧ hs.length = i ∧ ∀ (j : Nat) (h : Int), hs[j]? = some h → 0 ≤ h ∧ h ≤ size - 1 - (j : Int))
    (fun H4 e4 => ⟨none, [], by rw [show size - ((0 : Nat) : Int) = size by omega]; rfl, b3.trans (But.of e4), ro3.ex e4, e4 _ _ h3, rfl, fun j h hj => by simp at hj⟩) (fun i σ' H' hi pv => ?_) fun σ' H' pv => ?_
  · obtain ⟨t, hs, rfl, b4, ro4, h4, hl4, hb4⟩ := pv
    refine ⟨.int (size - (i : Int)), rfl, size - (i : Int), 1, rfl, rfl, ?_⟩
    refine ⟨.ref l, rfl, .inl ⟨rfl, _, sq_of h4⟩, .ref r, rfl, .int (size - (i : Int) - 1), rfl, size - (i : Int) - 1, 1, rfl, rfl, r, sc, ns, _, rfl, ro4, by omega, by omega, fun k H5 d0 d1 b5 ro5 => ?_⟩
    have h5 : H5 l = some (.lst (hs.map V.int)) := b5 _ _ nlr h4
    refine ⟨l, _, .int k, rfl, rfl, h5, sz_lt (by rw [List.length_map]; omega), some (.int (i : Int)), hs ++ [k], ?_, But.mut (b4.trans b5) nl0, RowOk.mut ro nl0 ro5, ?_, by rw [List.length_append, hl4]; rfl, fun j h hj => ?_⟩
    · rw [show size - ((i + 1 : Nat) : Int) = size - (i : Int) - 1 by omega]
      rfl
    · rw [upd_same, List.map_append]
      rfl
    · by_cases hj2 : j < hs.length
      · rw [List.getElem?_append_left hj2] at hj
        exact hb4 j h hj
      · have hj3 := get_lt hj
        rw [List.length_append, List.length_singleton] at hj3
        have hj4 : j = hs.length := by omega
        subst hj4
        rw [List.getElem?_concat_length] at hj
        have := Option.some.inj hj
        omega
  obtain ⟨t, hs0, rfl, b4, ro4, h4, hl4, hb4⟩ := pv
  rw [Int.toNat_natCast] at hl4
  clear h3 b3 ro3
  refine ⟨Nat.zero_le _, fun mx nm => ?_⟩
  have nmr : mx ≠ r := fun e => by
    obtain ⟨ys, h⟩ := ro4.l
    rw [e, h] at nm
    cases nm
  have nml : mx ≠ l := fun e => by rw [e, h4] at nm; cases nm
  have nm0 : H mx = none := fresh_but b4 nmr nm
  have b6 : But r H (upd H' mx (.lst [])) := But.mut b4 nm0
  have ro6 : RowOk K (upd H' mx (.lst [])) r sc ns := RowOk.mut ro nm0 ro4
  have h6 : upd H' mx (.lst []) mx = some (.lst (([] : List Int).map V.int)) := upd_same
  have h6l : upd H' mx (.lst []) l = some (.lst (hs0.map V.int)) := by rw [upd_ne nml.symm]; exact h4
  generalize upd H' mx (.lst []) = H6 at b6 ro6 h6 h6l
  refine q_forR1 (n := (many : Int)) (ea_cons (ev_var rfl) ea_nil) (by omega)
    (fun i σ' H' => ∃ t hs ms, σ' = [some (.ref r), some (.int 4), some (.int 7), some (.int (many : Int)), some (.int size), some (.ref l), some (.int (size - (((many : Int).toNat : Nat) : Int))), t, some (.ref mx)] ∧ But r H H' ∧ RowOk K H' r sc ns ∧ H' l = some (.lst (hs.map V.int)) ∧ H' mx = some (.lst (ms.map V.int)) ∧ ms.length = i ∧ (ms ++ hs).Perm hs0)
    (fun H7 e7 => ⟨t, hs0, [], rfl, b6.trans (But.of e7), ro6.ex e7, e7 _ _ h6l, e7 _ _ h6, rfl, List.Perm.refl _⟩) (fun i σ' H' hi pv => ?_) fun σ' H' pv => ?_
  · obtain ⟨t, hs, ms, rfl, b7, ro7, h7l, h7, hl7, p7⟩ := pv
    have hlen : hs.length + ms.length = many := by
      have := p7.length_eq
      rw [List.length_append] at this
      omega
    refine ⟨.ref mx, rfl, .inl ⟨rfl, _, sq_of h7⟩, .ref l, rfl, .inl ⟨rfl, _, sq_of h7l⟩, .ref r, rfl, .ref l, rfl, l, _, rfl, .inl (sq_of h7l), r, sc, ns, _, rfl, ro7, by rw [List.length_map]; omega, by rw [List.length_map]; omega, fun k H8 d0 d1 b8 ro8 => ?_⟩
    rw [List.length_map] at d1
    obtain ⟨kn, rfl⟩ := Int.eq_ofNat_of_zero_le d0
    have hkn : kn < hs.length := by omega
    have hy : hs[kn]? = some hs[kn] := List.getElem?_eq_getElem hkn
    generalize hs[kn] = y at hy
    refine ⟨l, _, (kn : Int), kn, .int y, rfl, rfl, b8 _ _ nlr h7l, by omega, by omega, by rw [List.length_map]; exact sqi hkn, get_map hy, ?_⟩
    have h8 : upd H8 l (.lst ((hs.map V.int).eraseIdx kn)) mx = some (.lst (ms.map V.int)) := by rw [upd_ne nml]; exact b8 _ _ nmr h7
    have b9 : But r H (upd H8 l (.lst ((hs.map V.int).eraseIdx kn))) := But.mut (b7.trans b8) nl0
    have ro9 : RowOk K (upd H8 l (.lst ((hs.map V.int).eraseIdx kn))) r sc ns := RowOk.mut ro nl0 ro8
    have h9 : upd H8 l (.lst ((hs.map V.int).eraseIdx kn)) l = some (.lst ((hs.eraseIdx kn).map V.int)) := by rw [upd_same, erase_map]
    generalize upd H8 l (.lst ((hs.map V.int).eraseIdx kn)) = H9 at h8 b9 ro9 h9
    refine ⟨mx, _, .int y, rfl, rfl, h8, sz_lt (by rw [List.length_map]; omega), some (.int (i : Int)), hs.eraseIdx kn, ms ++ [y], rfl, But.mut b9 nm0, RowOk.mut ro nm0 ro9, ?_, ?_, by rw [List.length_append, hl7]; rfl, ?_⟩
    · rw [upd_ne nml.symm]
      exact h9
    · rw [upd_same, List.map_append]
      rfl
    · rw [List.append_assoc]
      exact ((perm_erase hy).append_left ms).trans p7
  obtain ⟨t2, hs, ms, rfl, b7, ro7, h7l, h7, hl7, p7⟩ := pv
  have hlen : ms.length = many := by rw [hl7, Int.toNat_natCast]
  have hnil : hs = [] := by
    have := p7.length_eq
    rw [List.length_append] at this
    exact List.eq_nil_of_length_eq_zero (by omega)
  subst hnil
  rw [List.append_nil] at p7
  refine DV.s_ret (K := K) (d := St size ms) (d_tup (ds_cons (d_var rfl (.int _)) (ds_cons (d_cb (ds_cons (d_var rfl (LI_dp (sq_of h7))) ds_nil) rc_tupL) ds_nil)) (by show 2 ≤ 100000; decide)) fun v H8 e8 d8 => q size ms v H8 ⟨by omega, by omega, by omega, by omega, fun h hh => ?_, room_fall (fun j h hj => (hb4 j h hj).2) p7⟩ (b7.trans (But.of e8)) (ro7.ex e8) d8
  obtain ⟨j, hj⟩ := List.mem_iff_getElem?.mp (p7.mem_iff.mp hh)
  have := hb4 j h hj
  omega
end
end DF

set_option Elab.async false
set_option linter.all false
set_option maxRecDepth 100000
set_option maxHeartbeats 1000000
/-! new lists, with a word of their values -/
namespace DV
open PySem PySem.Spec PyProof.Rows L2 Evl R1 StX PM
/-- a word of a value that stays -/
structure Sta (W : Hp → V → Prop) : Prop where
  ex : ∀ {H H' v}, Ex H H' → W H v → W H' v
  but : ∀ {a H H' v}, But a H H' → Lsty a H → W H v → W H' v
theorem sta_nd : Sta Nd := ⟨fun e h => h.ex e, fun e l h => h.but e l⟩
theorem sta_any : Sta fun _ _ => True := ⟨fun _ _ => trivial, fun _ _ _ => trivial⟩
def EvW (K : PySem.W.Frag) (W : Hp → V → Prop) (te : TE) (σ : L2.St) (H : Hp) (d : Dt) : Prop := ∀ H1, Ex H H1 → ∀ Q : VK, (∀ v H2, Ex H1 H2 → Dp K H2 v d → W H2 v → Q v H2) → te σ H1 Q
/-- a new list of such values -/
def EvNL (K : PySem.W.Frag) (W : Hp → V → Prop) (te : TE) (σ : L2.St) (H : Hp) (ds : List Dt) : Prop := ∀ H1, Ex H H1 → ∀ Q : VK, (∀ a vs H2, H1 a = none → Ex H1 H2 → H2 a = some (.lst vs) → DpAll K H2 vs ds → (∀ v ∈ vs, W H2 v) → Q (.ref a) H2) → te σ H1 Q
theorem EvD.w {K : PySem.W.Frag} {te : TE} {σ : L2.St} {H : Hp} {d : Dt} (h : EvD K te σ H d) : EvW K (fun _ _ => True) te σ H d := fun H1 e Q q => h H1 e Q fun v H2 e2 dv => q v H2 e2 dv trivial
def CwW (K : PySem.W.Frag) (W : Hp → V → Prop) (H : Hp) (D : Addr) (acc : List Dt) (H' : Hp) : Prop := H D = none ∧ Ex H H' ∧ ∃ vs, H' D = some (.lst vs) ∧ DpAll K H' vs acc ∧ ∀ v ∈ vs, W H' v
section
variable {K : PySem.W.Frag} {W : Hp → V → Prop} {σ : L2.St} {H : Hp} {wi : TI} {g : TG} {t : TT} {te : TE} {vs : List Nat} {α : Type} {xs : List α} {enc : α → Dt}
theorem CwW.grow {H H1 H2 : Hp} {D : Addr} {acc : List Dt} (S : Sta W) (c : CwW K W H D acc H1) (e : Ex H1 H2) : CwW K W H D acc H2 := by
  obtain ⟨c1, c2, ws, c3, c4, c5⟩ := c
  exact ⟨c1, c2.trans e, ws, e _ _ c3, dpAll_ex e c4, fun v h => S.ex e (c5 v h)⟩
theorem cw_turnW {H H' : Hp} {D : Addr} {acc : List Dt} {σ2 : L2.St} {b : Bool} {d : Dt} {N : Hp → Prop} (S : Sta W) (c : CwW K W H D acc H') (ht : EvT t σ2 H' b) (he : b = true → EvW K W te σ2 H' d) (na : nlAll acc = true) (nd : b = true → nl d = true) (hz : acc.length < 50000)
    (h1 : b = true → ∀ H'', CwW K W H D (acc ++ [d]) H'' → N H'') (h2 : b = false → ∀ H'', CwW K W H D acc H'' → N H'') :
    t σ2 H' fun b H3 => if b = true then te σ2 H3 fun y H4 => ∃ acc, H4 D = some (.lst acc) ∧ acc.length < sizeLine ∧ N (upd H4 D (.lst (acc ++ [y]))) else N H3 := by
  refine ht H' (Ex.refl _) _ fun H3 e3 => ?_
  cases b with
  | false =>
    rw [if_neg Bool.false_ne_true]
    exact h2 rfl H3 (c.grow S e3)
  | true =>
    rw [if_pos rfl]
    refine he rfl H3 e3 _ fun y H4 e4 dy wy => ?_
    obtain ⟨c1, c2, ws, c3, c4, c5⟩ := c.grow S (e3.trans e4)
    have l : Lsty D H4 := ⟨ws, c3⟩
    refine ⟨ws, c3, sz_lt (by rw [dpAll_len c4]; omega), h1 rfl _ ⟨c1, Ex.mut c2 c1, _, upd_same, dpAll_app (dpAll_but But.upd l na c4) (.cons (dp_but But.upd l (nd rfl) dy) .nil), fun v hv => ?_⟩⟩
    rcases List.mem_append.mp hv with hv | hv
    · exact S.but But.upd l (c5 v hv)
    · rw [List.mem_singleton.mp hv]
      exact S.but But.upd l wy
theorem dl_lcW (S : Sta W) {j : Nat} (p : α → Bool) (f : α → Dt) (h : EvI K wi σ H (xs.map enc)) (hz : xs.length < 40000) (hn : ∀ x ∈ xs, p x = true → nl (f x) = true) (hw : ∀ v, wipe ((wipe σ vs).set j (some v)) vs = wipe σ vs)
    (ht : ∀ x ∈ xs, ∀ v H1, Ex H H1 → Dp K H1 v (enc x) → EvT t ((wipe σ vs).set j (some v)) H1 (p x))
    (he : ∀ x ∈ xs, p x = true → ∀ v H1, Ex H H1 → Dp K H1 v (enc x) → EvW K W te ((wipe σ vs).set j (some v)) H1 (f x)) : EvNL K W (tLc wi (gName j) t te vs) σ H (got p f xs) := fun H0 e0 Q q => h H0 e0 _ fun J H1 e1 it D hD => by
  refine ⟨fun i m H' => m = xs.length - i ∧ i ≤ xs.length ∧ CwW K W H1 D (got p f (xs.take i)) H', ⟨xs.length, by omega, by omega, hD, Ex.new hD, [], upd_same, .nil, fun v hv => nomatch hv⟩, ?_⟩
  rintro i m H' ⟨rfl, hi, c⟩
  by_cases hlt : i < xs.length
  · have hx : xs[i]? = some xs[i] := List.getElem?_eq_getElem hlt
    generalize hxx : xs[i] = x at hx
    have hm : x ∈ xs := List.mem_of_getElem? hx
    have hd : (xs.map enc)[i]? = some (enc x) := by rw [List.getElem?_map, hx]; rfl
    refine .inr ⟨it.go i H' c.2.1 (by simpa using hlt), CwW K W H1 D (got p f (xs.take (i + 1))), fun H'' c' => ⟨xs.length - (i + 1), by omega, rfl, hlt, c'⟩, fun v H'' y => ?_⟩
    obtain ⟨e2, dv⟩ := it.yld i H' v H'' _ c.2.1 hd y
    have c2 := c.grow S e2
    have e3 := (e0.trans e1).trans c2.2.1
    refine ⟨hw v, cw_turnW S c2 (ht x hm v H'' e3 dv) (fun hb => he x hm hb v H'' e3 dv) (got_nl hn i) (hn x hm) (by have := got_len (xs := xs) p f i; omega) (fun hb H3 c3 => ?_) fun hb H3 c3 => ?_⟩
    · rw [got_step hx, if_pos hb]
      exact c3
    · rw [got_step hx, if_neg (by rw [hb]; exact Bool.false_ne_true), List.append_nil]
      exact c3
  · have hi' : i = xs.length := by omega
    subst hi'
    rw [List.take_length] at c
    obtain ⟨c1, c2, ws, c3, c4, c5⟩ := c
    refine .inl ⟨?_, q _ ws H' (fresh_back e1 c1) (e1.trans c2) c3 c4 c5⟩
    have := it.stop H' c2
    simpa using this
end
theorem q_asgN {K : PySem.W.Frag} {W : Hp → V → Prop} {te : TE} {tz : TS} {Dn : Ends} {σ : L2.St} {H : Hp} {ds : List Dt} {i : Nat} (h : EvNL K W te σ H ds) (k : ∀ a vs H1, H a = none → Ex H H1 → H1 a = some (.lst vs) → DpAll K H1 vs ds → (∀ v ∈ vs, W H1 v) → tz Dn (σ.set i (some (.ref a))) H1) : tSeq (tAsg te (gName i)) tz Dn σ H := h H (Ex.refl H) _ k
/-- what sorting leaves -/
theorem zip_fst : ∀ {vs : List V} {ds : List Dt}, vs.length = ds.length → (vs.zip ds).map Prod.snd = ds := fun h => by rw [← List.unzip_snd, List.unzip_zip h]
theorem zip_fst1 : ∀ {vs : List V} {ds : List Dt}, vs.length = ds.length → (vs.zip ds).map Prod.fst = vs := fun h => by rw [← List.unzip_fst, List.unzip_zip h]
theorem dp_zip {K : PySem.W.Frag} {H : Hp} : ∀ {bs : List (V × Dt)}, (∀ b ∈ bs, Dp K H b.1 b.2) → DpAll K H (bs.map Prod.fst) (bs.map Prod.snd)
  | [], _ => .nil
  | b :: bs, h => .cons (h b List.mem_cons_self) (dp_zip fun c hc => h c (List.mem_cons_of_mem _ hc))
theorem zip_dp {K : PySem.W.Frag} {H : Hp} : ∀ {vs : List V} {ds : List Dt}, DpAll K H vs ds → ∀ b ∈ vs.zip ds, Dp K H b.1 b.2
  | [], [], .nil, _, h => nomatch h
  | v :: vs, d :: ds, .cons a t, b, h => by
    rw [List.zip_cons_cons] at h
    rcases List.mem_cons.mp h with e | h
    · rw [e]; exact a
    · exact zip_dp t b h
theorem sorted_dp {K : PySem.W.Frag} {H : Hp} {vs : List V} {ds : List Dt} (h : DpAll K H vs ds) (S : List (V × Dt)) (hS : (vs.zip ds).mergeSort (PySem.W.dataLe false Prod.snd) = S) :
    DpAll K H (S.map Prod.fst) (S.map Prod.snd) ∧ (S.map Prod.snd).Perm ds ∧ (S.map Prod.fst).Perm vs ∧ (S.map Prod.snd).Pairwise fun a b => PySem.W.dataLt b a = false := by
  have hl := dpAll_len h
  have p : S.Perm (vs.zip ds) := by rw [← hS]; exact List.mergeSort_perm _ _
  refine ⟨dp_zip fun b hb => zip_dp h b (p.mem_iff.mp hb), ?_, ?_, ?_⟩
  · have := p.map Prod.snd
    rwa [zip_fst hl] at this
  · have := p.map Prod.fst
    rwa [zip_fst1 hl] at this
  · have tot := PySem.W.sortLe_total (listOrd itemOrd) false fun b : V × Dt => PySem.W.keyToks b.2
    have := List.pairwise_mergeSort (le := PySem.W.dataLe false (Prod.snd (α := V))) (fun a b c => tot.trans a b c) (fun a b => by have := tot.total a b; rw [Bool.or_eq_true]; exact this) (vs.zip ds)
    rw [hS] at this
    rw [List.pairwise_map]
    refine this.imp fun {a b} hab => ?_
    have hab : (!PySem.W.dataLt b.2 a.2) = true := hab
    simpa using hab
end DV

set_option Elab.async false
set_option linter.all false
namespace PM
theorem perm_map_inv {β : Type} (f : Nat → β) : ∀ (l : List β) (xs : List Nat), l.Perm (xs.map f) → ∃ ys : List Nat, ys.Perm xs ∧ l = ys.map f
  | [], xs, h => by
    have : xs.map f = [] := h.nil_eq.symm ▸ rfl
    have e : xs = [] := by simpa using this
    exact ⟨[], by rw [e], rfl⟩
  | a :: l, xs, h => by
    have ha : a ∈ xs.map f := h.mem_iff.mp List.mem_cons_self
    obtain ⟨x, hx, rfl⟩ := List.mem_map.mp ha
    have p := List.perm_cons_erase hx
    have q : l.Perm ((xs.erase x).map f) := (List.perm_cons (f x)).mp (h.trans (p.map f))
    obtain ⟨ys, h1, rfl⟩ := perm_map_inv f l _ q
    exact ⟨x :: ys, (h1.cons x).trans p.symm, rfl⟩
def somes (fo : List (Option Int)) : List Int := fo.filterMap id
theorem mem_somes {fo : List (Option Int)} {q : Int} : q ∈ somes fo ↔ some q ∈ fo := by
  unfold somes
  rw [List.mem_filterMap]
  constructor
  · rintro ⟨o, h, e⟩
    have e' : o = some q := e
    rw [← e']
    exact h
  · intro h
    exact ⟨_, h, rfl⟩
theorem somes_set : ∀ (fo : List (Option Int)) (c : Nat) (x : Int), (somes (fo.set c (some x))).length ≤ (somes fo).length + 1
  | [], _, _ => by simp [somes]
  | o :: fo, 0, x => by
    unfold somes
    cases o <;> simp
  | o :: fo, c + 1, x => by
    have ih := somes_set fo c x
    unfold somes at ih ⊢
    cases o <;> simp at ih ⊢ <;> omega
theorem as_range (hs : List Int) : (List.range hs.length).map (fun i => hs.getD i 0) = hs := by
  refine List.ext_getElem? fun i => ?_
  rw [List.getElem?_map]
  by_cases h : i < hs.length
  · rw [List.getElem?_range h, List.getElem?_eq_getElem h]
    simp [List.getD_eq_getElem?_getD, h]
  · rw [List.getElem?_eq_none (Nat.not_lt.mp h), List.getElem?_eq_none (by rw [List.length_range]; exact Nat.not_lt.mp h)]
    rfl
theorem room_at {n : Int} {hs : List Int} {L : List Nat} {i c : Nat} (R : Room n hs) (hb : ∀ h ∈ hs, 0 ≤ h ∧ h ≤ n - 1) (p : L.Perm (List.range hs.length)) (s : L.Pairwise fun a b => hs.getD b 0 ≤ hs.getD a 0) (hi : L[i]? = some c) : (i : Int) + 1 ≤ n - hs.getD c 0 := by
  obtain ⟨hil, hic⟩ := List.getElem?_eq_some_iff.mp hi
  have hcl : c < hs.length := List.mem_range.mp (p.mem_iff.mp (List.mem_of_getElem? hi))
  have hm : hs.getD c 0 ∈ hs := by
    rw [List.getD_eq_getElem?_getD, List.getElem?_eq_getElem hcl]
    exact List.getElem_mem hcl
  have hbc := hb _ hm
  have r := R (hs.getD c 0) hbc.1 (by omega)
  have e1 : hs.countP (fun h => decide (hs.getD c 0 ≤ h)) = L.countP fun a => decide (hs.getD c 0 ≤ hs.getD a 0) := by
    rw [p.countP_eq]
    have : hs.countP (fun h => decide (hs.getD c 0 ≤ h)) = ((List.range hs.length).map fun i => hs.getD i 0).countP (fun h => decide (hs.getD c 0 ≤ h)) := by rw [as_range]
    rw [this, List.countP_map]
    rfl
  have e2 : (L.take (i + 1)).countP (fun a => decide (hs.getD c 0 ≤ hs.getD a 0)) = (L.take (i + 1)).length := by
    rw [List.countP_eq_length]
    intro a ha
    obtain ⟨j, hj⟩ := List.mem_iff_getElem?.mp ha
    have hj1 : j < i + 1 := by
      have := (List.getElem?_eq_some_iff.mp hj).1
      rw [List.length_take] at this
      omega
    rw [List.getElem?_take_of_lt hj1] at hj
    obtain ⟨hjl, hja⟩ := List.getElem?_eq_some_iff.mp hj
    refine decide_eq_true ?_
    by_cases e : j = i
    · subst e
      rw [← hja, hic]
      exact Int.le_refl _
    · have := List.pairwise_iff_getElem.mp s j i hjl hil (by omega)
      rw [hja, hic] at this
      exact this
  have e3 : (L.take (i + 1)).countP (fun a => decide (hs.getD c 0 ≤ hs.getD a 0)) ≤ L.countP fun a => decide (hs.getD c 0 ≤ hs.getD a 0) := (List.take_sublist _ _).countP_le
  rw [e2, List.length_take] at e3
  rw [e1] at r
  omega
structure Part (n : Int) (hs : List Int) (done : List Nat) (fo : List (Option Int)) : Prop where
  len : fo.length = hs.length
  ok : ∀ (c : Nat) (x : Int), fo[c]? = some (some x) → c ∈ done ∧ hs.getD c 0 ≤ x ∧ x < n
  all : ∀ c ∈ done, ∃ x : Int, fo[c]? = some (some x)
  inj : ∀ (c c' : Nat) (x : Int), fo[c]? = some (some x) → fo[c']? = some (some x) → c = c'
  few : (somes fo).length ≤ done.length
theorem Part.nil (n : Int) (hs : List Int) : Part n hs [] (List.replicate hs.length none) := by
  have no : ∀ (c : Nat) (x : Int), (List.replicate hs.length (none : Option Int))[c]? = some (some x) → False := fun c x h => by
    rw [List.getElem?_replicate] at h
    split at h
    · cases Option.some.inj h
    · cases h
  refine ⟨List.length_replicate, fun c x h => (no c x h).elim, fun c h => (nomatch h), fun c c' x h => (no c x h).elim, ?_⟩
  unfold somes
  rw [List.filterMap_replicate_of_none rfl]
  exact Nat.le_refl _
theorem Part.step {n : Int} {hs : List Int} {done : List Nat} {fo : List (Option Int)} {c : Nat} {x : Int} (P : Part n hs done fo) (hc : c < hs.length) (h1 : hs.getD c 0 ≤ x) (h2 : x < n) (nw : x ∉ somes fo) : Part n hs (done ++ [c]) (fo.set c (some x)) := by
  have hcf : c < fo.length := by rw [P.len]; exact hc
  have atc : (fo.set c (some x))[c]? = some (some x) := List.getElem?_set_self hcf
  have ne : ∀ (d : Nat), d ≠ c → (fo.set c (some x))[d]? = fo[d]? := fun d hd => List.getElem?_set_ne (Ne.symm hd)
  refine ⟨by rw [List.length_set, P.len], fun d y h => ?_, fun d hd => ?_, fun d d' y h h' => ?_, ?_⟩
  · by_cases e : d = c
    · subst e
      rw [atc] at h
      cases h
      exact ⟨List.mem_append_right _ (List.mem_singleton.mpr rfl), h1, h2⟩
    · rw [ne d e] at h
      obtain ⟨a1, a2⟩ := P.ok d y h
      exact ⟨List.mem_append_left _ a1, a2⟩
  · by_cases e : d = c
    · subst e
      exact ⟨x, atc⟩
    · rw [ne d e]
      rcases List.mem_append.mp hd with hd | hd
      · exact P.all d hd
      · exact absurd (List.mem_singleton.mp hd) e
  · by_cases e : d = c
    · by_cases e' : d' = c
      · rw [e, e']
      · rw [e, atc] at h
        cases h
        rw [ne d' e'] at h'
        exact absurd (mem_somes.mpr (List.mem_of_getElem? h')) nw
    · by_cases e' : d' = c
      · rw [e', atc] at h'
        cases h'
        rw [ne d e] at h
        exact absurd (mem_somes.mpr (List.mem_of_getElem? h)) nw
      · rw [ne d e] at h
        rw [ne d' e'] at h'
        exact P.inj d d' y h h'
  · have := somes_set fo c x
    have := P.few
    rw [List.length_append, List.length_singleton]
    omega
theorem Part.fin {n : Int} {hs : List Int} {L : List Nat} {fo : List (Option Int)} (P : Part n hs L fo) (p : L.Perm (List.range hs.length)) : ∃ xs, fo = xs.map some ∧ IsState n hs xs := by
  have at_ : ∀ c, c < fo.length → ∃ x : Int, fo[c]? = some (some x) := fun c hc => P.all c (p.mem_iff.mpr (List.mem_range.mpr (by rw [← P.len]; exact hc)))
  have e : fo = (fo.map fun o => o.getD 0).map some := by
    refine List.ext_getElem? fun i => ?_
    rw [List.map_map, List.getElem?_map]
    by_cases h : i < fo.length
    · obtain ⟨x, hx⟩ := at_ i h
      rw [hx]
      rfl
    · rw [List.getElem?_eq_none (Nat.not_lt.mp h)]
      rfl
  have g : ∀ (c : Nat) (x : Int), (fo.map fun o => o.getD 0)[c]? = some x → fo[c]? = some (some x) := fun c x h => by
    rw [e, List.getElem?_map, h]
    rfl
  refine ⟨_, e, ?_, ?_⟩
  · refine List.pairwise_iff_getElem.mpr fun i j hi hj hij he => ?_
    have h1 := g i _ (List.getElem?_eq_getElem hi)
    have h2 := g j _ (List.getElem?_eq_getElem hj)
    rw [he] at h1
    have := P.inj i j _ h1 h2
    omega
  · refine Al.of_get (by rw [List.length_map, P.len]) fun i a b ha hb => ?_
    obtain ⟨_, h1, h2⟩ := P.ok i b (g i b hb)
    have e2 : hs.getD i 0 = a := by rw [List.getD_eq_getElem?_getD, ha]; rfl
    rw [e2] at h1
    exact ⟨h1, h2⟩
end PM

set_option Elab.async false
set_option linter.all false
set_option maxRecDepth 100000
set_option maxHeartbeats 1000000
/-! a state drawn -/
namespace DF
open PySem PySem.Spec PyProof.Rows L2 Evl R1 StX PM DV
theorem q_forS {K : PySem.W.Frag} {A : Around} {σ : L2.St} {H : Hp} {te : TE} {g : TG} {tu tz : TS} {Dn : Ends} {ds : List Dt} (h : EvD K te σ H (.list ds)) (hal : PySem.W.AllAlike ds) (hso : PySem.W.Sortable ds) (hz : ds.length ≤ 10000) (hu : ∀ d ∈ ds, A.units + 2 + d.depth < cLine)
    (Pv : Addr → List V → List Dt → Nat → L2.St → Hp → Prop)
    (h0 : ∀ p ws es H1, Ex H H1 → H1 p = none → DpAll K (upd H1 p (.lst ws)) ws es → es.Perm ds → es.Pairwise (fun a b => PySem.W.dataLt b a = false) → Pv p ws es 0 σ (upd H1 p (.lst ws)))
    (hl : ∀ p ws es i σ' H', i ≤ ws.length → Pv p ws es i σ' H' → SqL K H' p ws)
    (hs : ∀ p ws es i x σ' H', ws[i]? = some x → Pv p ws es i σ' H' → g x σ' H' fun σ2 H2 => tu { Dn with nx := Pv p ws es (i + 1), ct := Pv p ws es (i + 1), bk := tz Dn } σ2 H2)
    (hd : ∀ p ws es σ' H', Pv p ws es ws.length σ' H' → tz Dn σ' H') : tSeq (tFor (iList K (tCB (rSortD K A) (tCons te tNil))) g tu) tz Dn σ H := h H (Ex.refl H) _ fun v H1 e1 dv => by
  obtain ⟨a, vs, rfl, h1, h2⟩ := dp_lst dv
  refine ⟨a, vs, ds, rfl, h1, h2, hal, hso, sz_of (by omega), hu, fun p hp => ?_⟩
  obtain ⟨s1, s2, s3, s4⟩ := sorted_dp h2 _ rfl
  exact ⟨p, rfl, ⟨_, sq_of upd_same⟩, for_list (Pv p _ _) (h0 p _ _ H1 e1 hp (dpAll_ex (Ex.new hp) s1) s2 s4) (fun i σ' H' hi pv => hl p _ _ i σ' H' hi pv) (fun i x σ' H' hx pv => hs p _ _ i x σ' H' hx pv) fun σ' H' pv => hd p _ _ σ' H' pv⟩
def oV : Option Int → V
  | .none => .non
  | some x => .int x
theorem oV_some (xs : List Int) : (xs.map some).map oV = xs.map V.int := by
  rw [List.map_map]
  rfl
theorem oV_flat (fo : List (Option Int)) : (fo.map oV).all flatV = true := by
  rw [List.all_map]
  exact List.all_eq_true.mpr fun o _ => by cases o <;> rfl
theorem oV_in (p : Int) (fo : List (Option Int)) : inV (.int p) (fo.map oV) = decide (p ∈ somes fo) := by
  rw [Bool.eq_iff_iff, decide_eq_true_eq, mem_somes]
  unfold inV
  rw [List.any_map, List.any_eq_true]
  constructor
  · rintro ⟨o, ho, e⟩
    cases o with
    | none => simp [oV, eqV] at e
    | some x =>
      have e' : x = p := by simpa [oV, eqV] using e
      rw [← e']
      exact ho
  · intro h
    exact ⟨_, h, by simp [oV, eqV]⟩
def carP (hs : List Int) (c : Nat) : Dt := .tuple [.int (0 - hs.getD c 0), .int (c : Int)]
theorem sc_state : FnScope ["_law_row", "_law_street_here", "_law_found", "_law_car", "_law_home", "_law_fit", "_law_place"] ["_law_row", "_law_street_here"] (defScope (topS 46)) := ⟨rfl, rfl, rfl, by decide +kernel, rfl, by decide +kernel, by decide +kernel⟩
def spState (K : PySem.W.Frag) : Sp := fun vs H Q _ => ∃ r sc ns n hs sv, vs = [.ref r, sv] ∧ RowOk K H r sc ns ∧ Dp K H sv (St n hs) ∧ Good n hs ∧ ∀ xs v H', IsState n hs xs → But r H H' → RowOk K H' r sc ns → Dp K H' v (T xs) → Q v H'
section
variable {P : Program} {w : World} {K : PySem.W.Frag} {mg : Str → Option Value} {base : Heap} {f : Addr} {fd : FuncData}
theorem ok_state (B : Blt mg) (F : Fun K "_law_state" "_law_state" (topS 46) f fd) (G : GF P w K mg base 2 "_law_pick" ["_law_row", "_law_things"] (spPick K)) : FnOk P w K mg base CX0 3 f fd ["_law_row", "_law_street_here"] (spState K) := by
  refine F.ok sc_state (fun vs H Q E h => by obtain ⟨_, _, _, _, _, _, rfl, _⟩ := h; rfl) fun cdv A outer s H vs Q E hr h => ?_
  refine ⟨_, pss_cons (ps_set (i := 2) sc_state.nd rfl (.inr rfl) (pe_op op_rep (pe_lst (pa_cons pe_non pa_nil)) (pe_callB cr_len (by rfl) B.len PySem.boot_len (pa_cons (pe_ix ix_tup (pv 1) pe_int (fun _ _ => rfl)) pa_nil))))
    (pss_cons (ps_for PassesOwn.never rfl (pi_list (pe_callB cr_sortD (by rfl) B.sorted (by decide +kernel) (pa_cons
        (pe_lc (own := [("_law_car", 3)]) (g := gName 3) rfl sc_state.nd (pi_range1 (by rfl) B.range (pa_cons (pe_callB cr_len (by rfl) B.len PySem.boot_len (pa_cons (pv 2) pa_nil)) pa_nil)) (blkOk_by (N := ["_law_row", "_law_street_here", "_law_found", "_law_car", "_law_home", "_law_fit", "_law_place"]) (sc := defScope (topS 46)) (by decide +kernel))
          (fun _ _ _ _ _ => pg_name (i := 3) sc_state.nd rfl (.inl rfl) (.inr rfl)) (fun _ _ _ _ _ => pts_nil) (fun _ _ _ _ _ => pe_tup (pa_cons (pe_op op_sub pe_int (pe_ix (kx_ixT K) (pe_ix (kx_ixT K) (pv 1) pe_int (fun _ _ => rfl)) (pv 3) (fun _ _ => rfl))) (pa_cons (pv 3) pa_nil)))) pa_nil)))
        (pg_tup rfl (pgs_cons (pg_name (i := 4) sc_state.nd rfl (.inl rfl)) (pgs_cons (pg_name (i := 3) sc_state.nd rfl (.inl rfl)) pgs_nil)))
      (pss_cons (ps_setLc (i := 5) (own := [("_law_place", 6)]) (g := gName 6) rfl sc_state.nd rfl rfl (sw_true rfl rfl rfl (by decide +kernel)) (pi_range2 (by rfl) B.range (pa_cons (pe_ix ix_tup (pe_ix ix_tup (pv 1) pe_int (fun _ _ => rfl)) (pv 3) (fun _ _ => rfl)) (pa_cons (pe_ix ix_tup (pv 1) pe_int (fun _ _ => rfl)) pa_nil)))
          (blkOk_by (N := ["_law_row", "_law_street_here", "_law_found", "_law_car", "_law_home", "_law_fit", "_law_place"]) (sc := defScope (topS 46)) (by decide +kernel)) (fun _ _ _ _ _ => pg_name (i := 6) sc_state.nd rfl (.inl rfl) (.inr rfl)) (fun _ _ _ _ _ => pts_one (pt_cmpR (ko_ni K) (pv 6) (pv 2) (by rfl))) (fun _ _ _ _ _ => pv 6))
      (pss_one (ps_asg (pe_gf G hr (by rfl) (pa_cons (pv 0) (pa_cons (pv 5) pa_nil))) (pg_sub (pv 2) (pv 3) set_list (fun _ => rfl))))))
    (pss_one (ps_ret (pe_callTy cr_tup (by rfl) B.tuple (by decide +kernel) (pa_cons (pv 2) pa_nil))))), ?_⟩
  obtain ⟨r, sc, ns, n, hs, sv, rfl, ro, dsv, g, q⟩ := h
  have hu := hr.units
  have hn := g.n
  have hl := g.l2
  have hL : (hs.map PyData.int).length = hs.length := List.length_map _
  -- found = [None] * len(..)
  refine ⟨by show 1 ≤ sizeLine; decide, fun l1 n1 => ?_⟩
  have x1 : Ex H (upd H l1 (.lst [.non])) := Ex.new n1
  refine (d_cb (ds_cons (d_st1 (d_var (K := K) (σ := [some (.ref r), some sv, none, none, none, none, none]) (i := 1) rfl (dp_ex x1 dsv))) ds_nil) rc_lenT) _ (Ex.refl _) _ fun v H2 e2 dv => ?_
  rw [dp_int dv, hL]
  refine ⟨l1, (hs.length : Int), [.non], rfl, rfl, e2 _ _ upd_same, by omega, by omega, sz_of (by simp; omega), fun fl nf => ?_⟩
  have x3 : Ex H (upd H2 fl (.lst (List.replicate (hs.length : Int).toNat [V.non]).flatten)) := (x1.trans e2).trans (Ex.new nf)
  have nf0 : H fl = none := fresh_back (x1.trans e2) nf
  have h3 : upd H2 fl (.lst (List.replicate (hs.length : Int).toNat [V.non]).flatten) fl = some (.lst ((List.replicate hs.length (none : Option Int)).map oV)) := by
    rw [upd_same, Int.toNat_natCast, List.flatten_replicate_singleton, List.map_replicate]
    rfl
  generalize upd H2 fl (.lst (List.replicate (hs.length : Int).toNat [V.non]).flatten) = H3 at x3 h3
  have nfr : fl ≠ r := fun e => by
    obtain ⟨ys, h⟩ := ro.l
    rw [e, h] at nf0
    cases nf0
  have src := ei_r1 (K := K) (σ := [some (.ref r), some sv, some (.ref fl), none, none, none, none]) (H := H3) (n := (hs.length : Int)) (ta := tCons (tCB (rLenQ K) (tCons (tVar 2) tNil)) tNil) (fun H1 e1 Q1 q1 => ⟨.ref fl, rfl, fl, _, rfl, .inl (sq_of (e1 _ _ h3)), q1 _ H1 (Ex.refl _) (by rw [List.length_map, List.length_replicate]; exact .cons (.int _) .nil)⟩) (by omega)
  rw [Int.toNat_natCast] at src
  refine q_forS (ds := (List.range hs.length).map (carP hs)) (d_lcA (carP hs) src (by rw [List.length_range]; omega) (fun _ _ => rfl) (fun _ => rfl) fun c hc v H4 e4 dv => ?_) ?_ ?_ (by simp; omega) (fun d hd => ?_)
    (fun p ws es i σ' H' => ∃ (y3 y4 y5 : Option V) (fo : List (Option Int)) (L : List Nat), σ' = [some (.ref r), some sv, some (.ref fl), y3, y4, y5, none] ∧ But r H H' ∧ RowOk K H' r sc ns ∧ p ≠ fl ∧ p ≠ r ∧ H' p = some (.lst ws) ∧ DpAll K H' ws es ∧ es = L.map (carP hs) ∧ L.Perm (List.range hs.length) ∧ L.Pairwise (fun a b => hs.getD b 0 ≤ hs.getD a 0) ∧ H' fl = some (.lst (fo.map oV)) ∧ Part n hs (L.take i) fo)
    (fun p ws es H1 e1 hp hd pp ps => ?_) (fun p ws es i σ' H' hi pv => ?_) (fun p ws es i x σ' H' hx pv => ?_) fun p ws es σ' H' pv => ?_
  · have hc' : c < hs.length := List.mem_range.mp hc
    exact d_tup (ds := [.int (0 - hs.getD c 0), .int (c : Int)]) (ds_cons (d_op d_int (d_ixI (d_st1 (d_var rfl (dp_ex (x3.trans e4) dsv))) (d_var rfl dv) rfl (getD_of hc')) rd_i) (ds_cons (d_var rfl dv) ds_nil)) (by show 2 ≤ 100000; decide)
  · intro d hd d' hd'
    obtain ⟨c, _, rfl⟩ := List.mem_map.mp hd
    obtain ⟨c', _, rfl⟩ := List.mem_map.mp hd'
    simp [carP, PySem.W.alike, PySem.W.alikeAll]
  · refine .inl fun d hd => ?_
    obtain ⟨c, _, rfl⟩ := List.mem_map.mp hd
    exact ⟨_, _, rfl⟩
  · obtain ⟨c, _, rfl⟩ := List.mem_map.mp hd
    have e : (carP hs c).depth = 1 := by simp [carP, PyData.depth, PyData.depthAll]
    rw [e]
    exact Nat.lt_of_le_of_lt (Nat.add_le_add_left (by decide : 2 + 1 ≤ 64) _) hu
  · obtain ⟨L, pL, eL⟩ := perm_map_inv _ _ _ pp
    have n3 : H3 p = none := fresh_back e1 hp
    have npf : p ≠ fl := fun e => by rw [e, h3] at n3; cases n3
    have n0 : H p = none := fresh_back x3 n3
    have npr : p ≠ r := fun e => by
      obtain ⟨ys, h⟩ := ro.l
      rw [e, h] at n0
      cases n0
    refine ⟨none, none, none, List.replicate hs.length none, L, rfl, But.mut (But.of (x3.trans e1)) n0, RowOk.mut ro n0 (ro.ex (x3.trans e1)), npf, npr, upd_same, hd, eL, pL, ?_, by rw [upd_ne npf.symm]; exact e1 _ _ h3, by rw [List.take_zero]; exact Part.nil n hs⟩
    rw [eL, List.pairwise_map] at ps
    refine ps.imp fun {a b} hab => ?_
    unfold carP at hab
    rw [PySem.W.dataLt_ii] at hab
    have := of_decide_eq_false hab
    omega
  · obtain ⟨_, _, _, _, _, _, _, _, _, _, h5, _⟩ := pv
    exact sq_of h5
  · obtain ⟨y3, y4, y5, fo, L, rfl, b4, ro4, npf, npr, h5, d5, eL, pL, sL, h6, P6⟩ := pv
    have hie : i < L.length := by
      have := get_lt hx
      rw [dpAll_len d5, eL, List.length_map] at this
      exact this
    have hLi : L[i]? = some L[i] := List.getElem?_eq_getElem hie
    generalize L[i] = c at hLi
    have hcl : c < hs.length := List.mem_range.mp (pL.mem_iff.mp (List.mem_of_getElem? hLi))
    have hch := getD_of (ns := hs) hcl
    have hbc := g.hb _ (List.mem_of_getElem? hch)
    have dx : Dp K H' x (carP hs c) := dp_at d5 hx (by rw [eL]; exact get_map hLi)
    have dsv4 : Dp K H' sv (St n hs) := dp_but b4 ro.l (nl_St n hs) dsv
    have roomy := room_at g.room g.hb pL sL hLi
    have few := P6.few
    rw [List.length_take, Nat.min_eq_left (by omega)] at few
    refine g_pair dx fun u4 u3 d4 d3 => ?_
    -- fit
    have fit := dl_lcW (K := K) (σ := [some (.ref r), some sv, some (.ref fl), some u3, some u4, y5, none]) (H := H') (wi := iRng2 (tCons (tOp (rIxT K) (tOp (rIxT K) (tVar 1) (tC (.int 1))) (tVar 3)) (tCons (tOp (rIxT K) (tVar 1) (tC (.int 0))) tNil))) (t := tTest (tOp (rIn K true) (tVar 6) (tVar 2))) (te := tVar 6) (vs := [6]) (j := 6) (xs := rangeL (hs.getD c 0) n) (enc := .int) sta_any (fun p => !decide (p ∈ somes fo)) .int
      (EvS.ei fun B => ei_r2 (ds_cons (d_ixI (d_st1 (d_var rfl dsv4)) (d_var rfl d3) rfl hch) (ds_cons (d_st0 (d_var rfl dsv4)) ds_nil)) ⟨by omega, by omega, by omega, by omega⟩) (by rw [rangeL_len]; omega) (fun _ _ _ => rfl) (fun _ => rfl)
      (fun p _ v H4 e4 dv => by
        have hv := dp_int dv
        subst hv
        have := et_test (ev_op (ev_var (σ := [some (.ref r), some sv, some (.ref fl), some u3, some u4, y5, some (.int p)]) (H := H4) (i := 6) rfl) (ev_var (i := 2) rfl) (rv_niL (K := K) (sq_of (e4 _ _ h6)) (show flatV (.int p) = true from rfl) (oV_flat fo)))
        rw [oV_in] at this
        exact this)
      (fun p _ _ v H4 e4 dv => (d_var rfl dv).w)
    refine q_asgN fit fun a ws2 H4 na e4 h4 d4' _ => ?_
    have nar : a ≠ r := fun e => by
      obtain ⟨ys, h⟩ := ro4.l
      rw [e, h] at na
      cases na
    have hws : ws2 = (((rangeL (hs.getD c 0) n).filter fun p => !decide (p ∈ somes fo))).map V.int := dpAll_ints d4'
    obtain ⟨q0, hq0, hq1⟩ := free_in (a := hs.getD c 0) (b := n) (F := somes fo) (by omega)
    have hpos : 0 < ws2.length := by
      rw [hws, List.length_map]
      exact List.length_pos_of_mem (List.mem_filter.mpr ⟨hq0, by rw [decide_eq_false hq1]; rfl⟩)
    have hsmall : ws2.length < 100000 := by
      rw [hws, List.length_map]
      have := List.length_filter_le (fun p => !decide (p ∈ somes fo)) (rangeL (hs.getD c 0) n)
      rw [rangeL_len] at this
      omega
    refine ⟨.ref r, rfl, .ref a, rfl, r, sc, ns, a, ws2, rfl, ro4.ex e4, sq_of h4, nar, hpos, hsmall, fun k v H5 hk b5 ro5 => ?_⟩
    rw [hws, List.getElem?_map, Option.map_eq_some_iff] at hk
    obtain ⟨xv, hk, rfl⟩ := hk
    obtain ⟨m1, m2⟩ := List.mem_filter.mp (List.mem_of_getElem? hk)
    have m1 := mem_rangeL.mp m1
    have nw : xv ∉ somes fo := by simpa using m2
    have h6' : H5 fl = some (.lst (fo.map oV)) := b5 _ _ nfr (e4 _ _ h6)
    have h5' : H5 p = some (.lst ws) := b5 _ _ npr (e4 _ _ h5)
    have e3c : u3 = .int (c : Int) := dp_int d3
    refine ⟨.ref fl, rfl, u3, rfl, fl, fo.map oV, (c : Int), c, rfl, e3c, h6', by rw [List.length_map, P6.len]; exact ixN_nat hcl, some u3, some u4, some (.ref a), fo.set c (some xv), L, rfl, But.mut ((b4.trans (But.of e4)).trans b5) nf0, RowOk.mut ro nf0 ro5, npf, npr, by rw [upd_ne npf]; exact h5', ?_, eL, pL, sL, ?_, ?_⟩
    · have nle : nlAll es = true := nlAll_iff.mpr fun d hd => by
        rw [eL] at hd
        obtain ⟨c', _, rfl⟩ := List.mem_map.mp hd
        rfl
      exact dpAll_but (But.upd (a := fl)) ⟨_, h6'⟩ nle (dpAll_but b5 (ro4.ex e4).l nle (dpAll_ex e4 d5))
    · rw [upd_same, List.map_set]
      rfl
    · rw [take_succ' hLi]
      exact P6.step hcl m1.1 m1.2 nw
  · obtain ⟨y3, y4, y5, fo, L, rfl, b4, ro4, npf, npr, h5, d5, eL, pL, sL, h6, P6⟩ := pv
    have hlen : ws.length = L.length := by rw [dpAll_len d5, eL, List.length_map]
    rw [hlen, List.take_length] at P6
    obtain ⟨xs, rfl, st⟩ := P6.fin pL
    rw [oV_some] at h6
    exact DV.s_ret (K := K) (d_cb (ds_cons (d_var rfl (LI_dp (sq_of h6))) ds_nil) rc_tupL) fun v H7 e7 d7 => q xs v H7 st (b4.trans (But.of e7)) (ro4.ex e7) d7
end
end DF

set_option Elab.async false
set_option linter.all false
namespace PM
theorem lt_pre {p p' : Int} (h : p < p') : ∀ (row s s' : List Int), row ++ (p :: s) < row ++ (p' :: s')
  | [], s, s' => List.cons_lt_cons_iff.mpr (.inl h)
  | a :: row, s, s' => List.cons_lt_cons_iff.mpr (.inr ⟨rfl, lt_pre h row s s'⟩)
theorem ext_asc : ∀ (Ls : List (List Int)) (row : List Int), (∀ L ∈ Ls, L.Pairwise (· < ·)) → (ext Ls row).Pairwise (· < ·)
  | [], row, _ => List.pairwise_singleton _ _
  | L :: Ls, row, h => by
    show ((L.filter (fun p => !decide (p ∈ row))).flatMap fun p => ext Ls (row ++ [p])).Pairwise (· < ·)
    rw [List.pairwise_flatMap]
    refine ⟨fun p _ => ext_asc Ls _ fun M m => h M (List.mem_cons_of_mem _ m), ?_⟩
    refine ((h L List.mem_cons_self).filter _).imp fun {p p'} hp x hx y hy => ?_
    obtain ⟨s, rfl, _⟩ := mem_ext.mp hx
    obtain ⟨s', rfl, _⟩ := mem_ext.mp hy
    rw [List.append_assoc, List.append_assoc]
    exact lt_pre hp row s s'
theorem whole_asc (hs : List Int) : (whole hs).Pairwise (· < ·) := ext_asc _ _ fun L m => by
  obtain ⟨h, _, rfl⟩ := List.mem_map.mp m
  exact (taken_lt hs).filter _
theorem perm_inv {α β : Type} [DecidableEq α] (f : α → β) : ∀ (l : List β) (xs : List α), l.Perm (xs.map f) → ∃ ys : List α, ys.Perm xs ∧ l = ys.map f
  | [], xs, h => by
    have e : xs = [] := by simpa using h.symm
    exact ⟨[], by rw [e], rfl⟩
  | a :: l, xs, h => by
    have ha : a ∈ xs.map f := h.mem_iff.mp List.mem_cons_self
    obtain ⟨x, hx, rfl⟩ := List.mem_map.mp ha
    have p := List.perm_cons_erase hx
    obtain ⟨ys, h1, rfl⟩ := perm_inv f l _ ((List.perm_cons (f x)).mp (h.trans (p.map f)))
    exact ⟨x :: ys, (h1.cons x).trans p.symm, rfl⟩
theorem rows_sorted {L M : List (List Int)} (p : L.Perm M) (h1 : L.Pairwise fun a b => ¬ b < a) (h2 : M.Pairwise (· < ·)) : L = M :=
  p.eq_of_pairwise (fun a b _ _ x y => List.le_antisymm x y) h1 (h2.imp fun {a b} h z => List.lt_irrefl _ (List.lt_trans h z))
theorem flat_len {α β : Type} (f : α → List β) (c : Nat) (h : ∀ a, (f a).length ≤ c) : ∀ l : List α, (l.flatMap f).length ≤ l.length * c
  | [] => by simp
  | a :: l => by
    rw [List.flatMap_cons, List.length_append, List.length_cons, Nat.succ_mul]
    have := flat_len f c h l
    have := h a
    omega
end PM

set_option Elab.async false
set_option linter.all false
set_option maxRecDepth 100000
set_option maxHeartbeats 1000000
/-! all rests, as the law makes them -/
namespace DF
open PySem PySem.Spec PyProof.Rows L2 Evl R1 StX PM DV
theorem sc_filled : FnScope ["_law_homes", "_law_found", "_law_home", "_law_place"] ["_law_homes"] (defScope (topS 47)) := ⟨rfl, rfl, rfl, by decide +kernel, rfl, by decide +kernel, by decide +kernel⟩
theorem sc_rests : FnScope ["_law_street_here", "_law_found", "_law_home", "_law_later", "_law_part", "_law_place"] ["_law_street_here"] (defScope (topS 48)) := ⟨rfl, rfl, rfl, by decide +kernel, rfl, by decide +kernel, by decide +kernel⟩
def R_filled (ds : List Dt) (d : Dt) : Prop := ∃ hs : List Int, ds = [T hs] ∧ hs.length ≤ 4 ∧ (∀ h ∈ hs, 0 ≤ h ∧ h ≤ 6) ∧ d = LI (taken hs)
def spRests (K : PySem.W.Frag) : Sp := fun vs H Q _ => ∃ n hs sv, vs = [sv] ∧ Dp K H sv (St n hs) ∧ Good n hs ∧ ∀ p ws H', H p = none → Ex H H' → H' p = some (.lst ws) → DpAll K H' ws ((whole hs).map T) → (∀ v ∈ ws, Nd H' v) → Q (.ref p) H'
/-- row + (n,), row not empty or the new tuple itself -/
theorem d_catF {K : PySem.W.Frag} {σ : L2.St} {H : Hp} {i j : Nat} {v w : V} {row : List Int} {p : Int} (hv : σ[i]? = some (some v)) (dv : Dp K H v (T row)) (hw : σ[j]? = some (some w)) (dw : Dp K H w (.int p)) (hz : row.length < 1000) :
    EvW K Nd (tOp (rCatF K) (tVar i) (tTupF (tCons (tVar j) tNil))) σ H (T (row ++ [p])) := fun H1 e Q q => by
  have hp := dp_int dw
  subst hp
  obtain ⟨a, rfl, ha⟩ := dp_T (dp_ex e dv)
  refine ⟨_, hv, _, hw, by show 1 ≤ sizeLine; decide, fun tp o np ho => ?_⟩
  have x1 : Ex H1 (upd H1 tp (.frz o (.tup [.int p]))) := Ex.new np
  have st : SqT K (upd H1 tp (.frz o (.tup [.int p]))) tp ([p].map V.int) := .inl (.inr ⟨o, upd_same⟩)
  refine ⟨a, tp, _, _, rfl, rfl, ex_t x1 ha, st, sz_of (by rw [List.length_map, List.length_map, List.length_singleton]; omega), fun hx => ?_, fun _ hy => (nomatch hy), fun hx hy q2 o2 nq ho2 => ?_⟩
  · have e0 : row = [] := by simpa using hx
    subst e0
    exact q _ _ x1 (T_dp st) ⟨tp, o, _, rfl, upd_same, ho⟩
  · refine q _ _ (x1.trans (Ex.new nq)) (T_dp (.inl (.inr ⟨o2, ?_⟩))) ⟨q2, o2, _, rfl, upd_same, ho2⟩
    rw [upd_same, List.map_append]
section
variable {P : Program} {w : World} {K : PySem.W.Frag} {mg : Str → Option Value} {base : Heap} {f : Addr} {fd : FuncData}
theorem ok_filled (B : Blt mg) (F : Fun K "_law_filled" "_law_filled" (topS 47) f fd) : FnOk P w K mg base CX0 1 f fd ["_law_homes"] (spP K R_filled) := by
  refine ok_spP F sc_filled (fun ds d h => by obtain ⟨_, rfl, _⟩ := h; rfl) fun cdv A outer s H E hr => ?_
  refine ⟨_, pss_cons (ps_set (i := 1) sc_filled.nd rfl (.inl rfl) (pe_lst pa_nil))
    (pss_cons (ps_for PassesOwn.never rfl (pi_tup (pv 0)) (pg_name (i := 2) sc_filled.nd rfl (.inl rfl))
      (pss_cons (ps_set (i := 3) sc_filled.nd rfl (.inl rfl) (pv 2))
      (pss_cons (ps_while PassesOwn.never (PW.pt (pw_and (pt_cmpR op_in_seq (pv 3) (pv 1) (by rfl)) (pw_and1 (pt_cmpR op_lt (pv 3) pe_int (nomark _))))) (pss_one (ps_set (i := 3) sc_filled.nd rfl (.inl rfl) (pe_op op_add (pv 3) pe_int))))
      (pss_one (ps_expr (pe_bm PySem.F.plainAttrs_list PySem.F.slot_list_append PySem.F.type_list_append mt_append (pv 1) (pa_cons (pv 3) pa_nil)))))))
    (pss_one (ps_ret (pe_callB cr_sorted (by rfl) B.sorted (by decide +kernel) (pa_cons (pv 1) pa_nil))))), ?_⟩
  rintro vs ds d hd ⟨hs, rfl, hl, hb, rfl⟩ Q q
  obtain ⟨x, rfl, hx⟩ := dpAll1 hd
  obtain ⟨a, rfl, ha⟩ := dp_T hx
  refine q_asgL (el_lst ea_nil (by decide)) fun l H1 hn e1 h1 => ?_
  refine q_forT (xs := hs.map V.int) (ev_var rfl) (ex_t e1 ha) (fun i σ' H' => ∃ b c, σ' = [some (.ref a), some (.ref l), b, c] ∧ Ex H H' ∧ H' l = some (.lst ((park [] (hs.take i)).map V.int)))
    (fun H2 e2 => ⟨none, none, rfl, e1.trans e2, e2 _ _ h1⟩) (fun i σ' H' _ pv => ?_) (fun i v σ' H' hv pv => ?_) fun σ' H' pv => ?_
  · obtain ⟨_, _, _, e2, _⟩ := pv
    exact ex_t e2 ha
  · obtain ⟨b, c, rfl, e2, h3⟩ := pv
    obtain ⟨h, hh, rfl⟩ : ∃ h, hs[i]? = some h ∧ v = .int h := by
      rw [List.getElem?_map, Option.map_eq_some_iff] at hv
      obtain ⟨h, a1, a2⟩ := hv
      exact ⟨h, a1, a2.symm⟩
    have hbh := hb h (List.mem_of_getElem? hh)
    have hpl : (park [] (hs.take i)).length ≤ 4 := by rw [park_len, List.length_take]; omega
    generalize hacc : park [] (hs.take i) = acc at h3 hpl
    obtain ⟨f1, f2, f3⟩ := ff_spec' acc h
    have f4 := ff_le acc.length acc h
    generalize hF : ff acc.length acc h = G at f1 f2 f3 f4
    refine Evl.q_asg (ev_var rfl) fun H3 e3 => ?_
    refine q_while (fun m σ2 H2 => ∃ q', σ2 = [some (.ref a), some (.ref l), some (.int h), some (.int q')] ∧ Ex H3 H2 ∧ h ≤ q' ∧ q' ≤ G ∧ m = (G - q').toNat) (G - h).toNat ⟨h, rfl, Ex.refl _, Int.le_refl _, f2, rfl⟩ fun m σ2 H2 hw => ?_
    obtain ⟨q', rfl, e4, q1, q2, rfl⟩ := hw
    refine ⟨_, et_and (t_T (d_op (d_var rfl (.int _)) (d_var rfl (LI_dp (K := K) (ns := acc) (sq_of ((e3.trans e4) _ _ h3)))) rd_inL)) fun _ => t_T (K := K) (d_op (d_var rfl (.int _)) d_int rd_b), fun hb5 H5 e5 => ?_, fun hb5 H5 e5 => ?_⟩
    · have hb6 := (Bool.and_eq_true_iff.mp hb5).1
      have hm : q' ∈ acc := of_decide_eq_true hb6
      have hne : q' ≠ G := fun e => f1 (by rw [← e]; exact hm)
      refine ⟨fun σ2 H6 => σ2 = [some (.ref a), some (.ref l), some (.int h), some (.int (q' + 1))] ∧ Ex H3 H6, fun σ2 H6 hN => ⟨(G - (q' + 1)).toNat, by omega, q' + 1, hN.1, hN.2, by omega, by omega, rfl⟩, DV.s_asg (K := K) (d_op (d_var rfl (.int _)) d_int rd_i) fun v6 H6 e6 d6 => ⟨?_, (e4.trans e5).trans e6⟩⟩
      rw [dp_int d6]
      rfl
    · have hG : q' = G := by
        refine Classical.byContradiction fun ne => ?_
        have hm := f3 q' q1 (by omega)
        rw [decide_eq_true hm, decide_eq_true (by omega : q' < 99)] at hb5
        cases hb5
      subst hG
      have e35 := (e3.trans e4).trans e5
      refine s_app (e35 _ _ h3) (ev_var rfl) (ev_var rfl) (by rw [List.length_map]; omega) fun H6 e6 => ⟨some (.int h), some (.int q'), rfl, Ex.mut ((e2.trans e35).trans e6) hn, ?_⟩
      rw [upd_same, take_succ' hh, park_snoc, hacc, hF, List.map_append]
      rfl
  · obtain ⟨b, c, rfl, e2, h3⟩ := pv
    rw [List.length_map, List.take_length] at h3
    exact DV.s_ret (K := K) (d_cb (ds_cons (d_var rfl (LI_dp (sq_of h3))) ds_nil) (rc_sortedL (by rw [park_len]; omega) fun ms pp ps => taken_eq (List.Perm.refl _) pp ps)) fun v' H4 e4 d4 => q _ _ (e2.trans e4) d4
theorem ok_rests (B : Blt mg) (F : Fun K "_law_rests" "_law_rests" (topS 48) f fd) (G : GF P w K mg base 1 "_law_filled" ["_law_homes"] (spP K R_filled)) : FnOk P w K mg base CX0 2 f fd ["_law_street_here"] (spRests K) := by
  refine F.ok sc_rests (fun vs H Q E h => by obtain ⟨_, _, _, rfl, _⟩ := h; rfl) fun cdv A outer s H vs Q E hr h => ?_
  refine ⟨_, pss_cons (ps_set (i := 1) sc_rests.nd rfl (.inl rfl) (pe_lst (pa_cons (pe_tupF pa_nil) pa_nil)))
    (pss_cons (ps_for PassesOwn.never rfl (pi_tup (pe_ix ix_tup (pv 0) pe_int (fun _ _ => rfl))) (pg_name (i := 2) sc_rests.nd rfl (.inr rfl))
      (pss_cons (ps_set (i := 3) sc_rests.nd rfl (.inl rfl) (pe_lst pa_nil))
      (pss_cons (ps_for PassesOwn.never rfl (pi_list (pv 1)) (pg_name (i := 4) sc_rests.nd rfl (.inr rfl))
        (pss_one (ps_set (i := 3) sc_rests.nd rfl (.inl rfl) (pe_op op_cat (pv 3) (pe_lc (own := [("_law_place", 5)]) (g := gName 5) rfl sc_rests.nd (pi_list (pe_gf G hr (by rfl) (pa_cons (pe_ix ix_tup (pv 0) pe_int (fun _ _ => rfl)) pa_nil))) (blkOk_by (N := ["_law_street_here", "_law_found", "_law_home", "_law_later", "_law_part", "_law_place"]) (sc := defScope (topS 48)) (by decide +kernel))
          (fun _ _ _ _ _ => pg_name (i := 5) sc_rests.nd rfl (.inl rfl) (.inr rfl)) (fun _ _ _ _ _ => pts_one (PW.pt (pw_and (pt_cmpR op_ge (pv 5) (pv 2) (nomark _)) (pw_and1 (pt_cmpR (ko_ni K) (pv 5) (pv 4) (by rfl)))))) (fun _ _ _ _ _ => pe_op (op_catF K) (pv 4) (pe_tupF (pa_cons (pv 5) pa_nil))))))))
      (pss_one (ps_set (i := 1) sc_rests.nd rfl (.inl rfl) (pv 3))))))
    (pss_one (ps_ret (pe_callB cr_sortD (by rfl) B.sorted (by decide +kernel) (pa_cons (pv 1) pa_nil))))), ?_⟩
  obtain ⟨n, hs, sv, rfl, dsv, g, q⟩ := h
  have hu := hr.units
  have hl := g.l2
  have hn := g.n
  refine ⟨by show 0 ≤ sizeLine; decide, fun tp o ntp ho => ⟨by show 1 ≤ sizeLine; decide, fun fa nfa => ?_⟩⟩
  have x1 : Ex H (upd H tp (.frz o (.tup []))) := Ex.new ntp
  have x2 := x1.trans (Ex.new (o := .lst [.ref tp]) nfa)
  have t0 : upd (upd H tp (.frz o (.tup []))) fa (.lst [.ref tp]) tp = some (.frz o (.tup [])) := by rw [upd_ne (ne_of_none (show upd H tp (.frz o (.tup [])) tp = some (.frz o (.tup [])) from upd_same) nfa), upd_same]
  have f0 : upd (upd H tp (.frz o (.tup []))) fa (.lst [.ref tp]) fa = some (.lst [.ref tp]) := upd_same
  generalize upd (upd H tp (.frz o (.tup []))) fa (.lst [.ref tp]) = H2 at x2 t0 f0
  refine q_forD (xs := hs) (enc := .int) (ei_t (d_st1 (d_var (K := K) rfl (dp_ex x2 dsv)))) (fun i σ' H' => ∃ (y2 y3 y4 : Option V) (fa : Addr) (ws : List V), σ' = [some sv, some (.ref fa), y2, y3, y4, none] ∧ H' fa = some (.lst ws) ∧ DpAll K H' ws ((build ((hs.map fun h => (taken hs).filter fun p => decide (h ≤ p)).take i) [[]]).map T) ∧ ∀ v ∈ ws, Nd H' v)
    (fun H3 e3 => ⟨none, none, none, fa, [.ref tp], rfl, e3 _ _ f0, .cons (T_dp (ns := []) (.inl (.inr ⟨o, e3 _ _ t0⟩))) .nil, fun v hv => ⟨tp, o, [], List.mem_singleton.mp hv, e3 _ _ t0, ho⟩⟩) (fun i h hh v2 σ' H' e3 dh pv N k => ?_) fun σ' H' e3 pv => ?_
  · obtain ⟨H0, e0, y2, y3, y4, fa, ws, rfl, hfa, dws, nws⟩ := pv
    have hfa := e0 _ _ hfa
    have dws := dpAll_ex e0 dws
    have nws : ∀ v ∈ ws, Nd H' v := fun v hv => (nws v hv).ex e0
    have hsm := build_small (Ls := hs.map fun h => (taken hs).filter fun p => decide (h ≤ p)) (by rw [List.length_map]; exact hl) (fun L m => by
      obtain ⟨h', _, rfl⟩ := List.mem_map.mp m
      have := List.length_filter_le (fun p => decide (h' ≤ p)) (taken hs)
      rw [taken_len] at this
      omega) i
    have hrows : ∀ row ∈ build ((hs.map fun h => (taken hs).filter fun p => decide (h ≤ p)).take i) [[]], row.length ≤ 4 := fun row hrow => by
      rw [build_nil, mem_ext0] at hrow
      have h1 := hrow.1
      rw [List.length_take, List.length_map] at h1
      omega
    have est : (stepL ((taken hs).filter fun p => decide (h ≤ p)) (build ((hs.map fun h => (taken hs).filter fun p => decide (h ≤ p)).take i) [[]])).map T = (build ((hs.map fun h => (taken hs).filter fun p => decide (h ≤ p)).take i) [[]]).flatMap fun row => got (fun p => decide (p ≥ h) && !decide (p ∈ row)) (fun p => T (row ++ [p])) (taken hs) :=
      (PyData.list.inj (LT_step2 (fun p => decide (h ≤ p)) (taken hs) _)).symm
    have ebs : build ((hs.map fun h => (taken hs).filter fun p => decide (h ≤ p)).take (i + 1)) [[]] = stepL ((taken hs).filter fun p => decide (h ≤ p)) (build ((hs.map fun h => (taken hs).filter fun p => decide (h ≤ p)).take i) [[]]) := by rw [take_succ' (get_map (f := fun h => (taken hs).filter fun p => decide (h ≤ p)) hh), build_snoc]
    rw [ebs, est] at k
    clear ebs est
    generalize build ((hs.map fun h => (taken hs).filter fun p => decide (h ≤ p)).take i) [[]] = rows at dws hsm hrows k
    have dsv' := dp_ex (x2.trans e3) dsv
    refine q_asgL (el_lst ea_nil (by decide)) fun la H4 nla e4 h4 => ?_
    refine q_forD (xs := rows) (enc := T) (ei_l (d_var rfl (dp_ex e4 (.lst (sq_of hfa) dws)))) (fun j σ2 H5 => ∃ (y4 : Option V) (la : Addr) (us : List V), σ2 = [some sv, some (.ref fa), some v2, some (.ref la), y4, none] ∧ H5 la = some (.lst us) ∧ DpAll K H5 us ((rows.take j).flatMap fun row => got (fun p => decide (p ≥ h) && !decide (p ∈ row)) (fun p => T (row ++ [p])) (taken hs)) ∧ ∀ v ∈ us, Nd H5 v)
      (fun H5 e5 => ⟨y4, la, [], rfl, e5 _ _ h4, .nil, fun v hv => nomatch hv⟩) (fun j row hrow v4 σ2 H5 e5 drow pv N2 k2 => ?_) fun σ2 H5 e5 pv => ?_
    · obtain ⟨H6, e6, y4, la, us, rfl, hla, dus, nus⟩ := pv
      have hla := e6 _ _ hla
      have dus := dpAll_ex e6 dus
      have nus : ∀ v ∈ us, Nd H5 v := fun v hv => (nus v hv).ex e6
      have ehd := dp_ex (e4.trans e5) dh
      have fit := dl_lcW (K := K) (σ := [some sv, some (.ref fa), some v2, some (.ref la), some v4, none]) (H := H5) (wi := iList K (tCall (spP K R_filled) [] E0 (tCons (tOp (rIxT K) (tVar 0) (tC (.int 1))) tNil))) (t := tAnd (tTest (tOp (rI0 fun i j => .bl (decide (j ≤ i))) (tVar 5) (tVar 2))) (tTest (tOp (rIn K true) (tVar 5) (tVar 4)))) (te := tOp (rCatF K) (tVar 4) (tTupF (tCons (tVar 5) tNil))) (vs := [5]) (j := 5) (xs := taken hs) (enc := .int) sta_nd
        (fun p => decide (p ≥ h) && !decide (p ∈ row)) (fun p => T (row ++ [p])) (ei_l (d_call (ds_cons (d_st1 (d_var rfl (dp_ex (e4.trans e5) dsv'))) ds_nil) ⟨hs, rfl, hl, fun h' m => by have := g.hb h' m; omega, rfl⟩)) (by rw [taken_len]; omega) (fun _ _ _ => nl_T _) (fun _ => rfl)
        (fun p _ v H7 e7 dv => et_and (t_T (d_op (d_var rfl dv) (d_var rfl (dp_ex e7 ehd)) rd_b)) fun _ => t_T (d_op (d_var rfl dv) (d_var rfl (dp_ex e7 drow)) rd_niT))
        (fun p _ _ v H7 e7 dv => d_catF rfl (dp_ex e7 drow) rfl dv (by have := hrows row (List.mem_of_getElem? hrow); omega))
      refine ⟨.ref la, rfl, fit H5 (Ex.refl _) _ fun a vs2 H7 na e7 h7 d7 w7 => ⟨la, a, us, vs2, rfl, rfl, e7 _ _ hla, h7, sz_of ?_, fun p np => k2 _ _ (e7.trans (Ex.new np)) ⟨some v4, p, us ++ vs2, rfl, upd_same, ?_, fun v hv => ?_⟩⟩⟩
      · rw [dpAll_len dus, dpAll_len d7]
        have hg : ∀ row : List Int, (got (fun p => decide (p ≥ h) && !decide (p ∈ row)) (fun p => T (row ++ [p])) (taken hs)).length ≤ 4 := fun row => by
          have := got_len (xs := taken hs) (fun p => decide (p ≥ h) && !decide (p ∈ row)) (fun p => T (row ++ [p])) (taken hs).length
          rw [List.take_length, taken_len] at this
          omega
        have h1 := flat_len _ 4 hg (rows.take j)
        have h2 := hg row
        have h3 : (rows.take j).length ≤ 2401 := by rw [List.length_take]; omega
        omega
      · rw [take_succ' hrow, List.flatMap_append, List.flatMap_cons, List.flatMap_nil, List.append_nil]
        exact dpAll_ex (Ex.new np) (dpAll_app (dpAll_ex e7 dus) d7)
      · rcases List.mem_append.mp hv with hv | hv
        · exact (nus v hv).ex (e7.trans (Ex.new np))
        · exact (w7 v hv).ex (Ex.new np)
    · obtain ⟨y4, la, us, rfl, hla, dus, nus⟩ := pv
      rw [List.take_length] at dus
      refine Evl.s_asg (ev_var rfl) fun H6 e6 => k _ _ ((e4.trans e5).trans e6) ⟨some v2, some (.ref la), y4, la, us, rfl, e6 _ _ hla, dpAll_ex e6 dus, fun v hv => (nus v hv).ex e6⟩
  · obtain ⟨y2, y3, y4, fa, ws, rfl, hfa, dws, nws⟩ := pv
    have ew : build ((hs.map fun h => (taken hs).filter fun p => decide (h ≤ p)).take hs.length) [[]] = whole hs := by
      have e : hs.length = (hs.map fun h => (taken hs).filter fun p => decide (h ≤ p)).length := (List.length_map _).symm
      rw [e, List.take_length, build_nil]
      rfl
    have hsm := build_small (Ls := hs.map fun h => (taken hs).filter fun p => decide (h ≤ p)) (by rw [List.length_map]; exact hl) (fun L m => by
      obtain ⟨h', _, rfl⟩ := List.mem_map.mp m
      have := List.length_filter_le (fun p => decide (h' ≤ p)) (taken hs)
      rw [taken_len] at this
      omega) hs.length
    rw [ew] at dws hsm
    refine ⟨.ref fa, rfl, fa, ws, (whole hs).map T, rfl, sq_of hfa, dws, fun d hd d' hd' => ?_, .inl fun d hd => ?_, sz_of (by rw [List.length_map]; omega), fun d hd => ?_, fun p hp => ?_⟩
    · obtain ⟨r1, _, rfl⟩ := List.mem_map.mp hd
      obtain ⟨r2, _, rfl⟩ := List.mem_map.mp hd'
      exact alike_T r1 r2
    · obtain ⟨r1, h1, rfl⟩ := List.mem_map.mp hd
      have h2 : r1.length = hs.length := (rest_stable h1).2.len.symm
      have h3 := g.l1
      cases r1 with
      | nil => simp at h2; omega
      | cons x r => exact ⟨.int x, r.map .int, rfl⟩
    · obtain ⟨r1, _, rfl⟩ := List.mem_map.mp hd
      rw [depth_T]
      exact Nat.lt_of_le_of_lt (Nat.add_le_add_left (by decide : 2 + 1 ≤ 64) _) hu
    · obtain ⟨s1, s2, s3, s4⟩ := sorted_dp dws _ rfl
      obtain ⟨L, pL, eL⟩ := perm_inv T _ _ s2
      have eW : L = whole hs := by
        refine rows_sorted pL ?_ (whole_asc hs)
        rw [eL, List.pairwise_map] at s4
        refine s4.imp fun {a b} hab => ?_
        rw [lt_T] at hab
        exact of_decide_eq_false hab
      rw [eL, eW] at s1
      exact q p _ _ (fresh_back (x2.trans e3) hp) ((x2.trans e3).trans (Ex.new hp)) upd_same (dpAll_ex (Ex.new hp) s1) fun v hv => (nws v (s3.mem_iff.mp hv)).ex (Ex.new hp)
end
end DF

set_option Elab.async false
set_option linter.all false
set_option maxRecDepth 100000
set_option maxHeartbeats 1000000
/-! alike -/
namespace DF
open PySem PySem.Spec PyProof.Rows L2 Evl R1 StX PM DV
theorem sc_alike : FnScope ["_law_found", "_law_due", "_law_k"] ["_law_found", "_law_due"] (defScope (topS 44)) := ⟨rfl, rfl, rfl, by decide +kernel, rfl, by decide +kernel, by decide +kernel⟩
theorem k_tl : kitB "tuple" "list" = some false := by decide +kernel
theorem k_lt : kitB "list" "tuple" = some false := by decide +kernel
theorem k_ll : kitB "list" "list" = some true := by decide +kernel
theorem k_it : kitB "int" "tuple" = some false := by decide +kernel
theorem k_il : kitB "int" "list" = some false := by decide +kernel
theorem k_is' : kitB "int" "str" = some false := by decide +kernel
theorem k_nt : kitB "NoneType" "tuple" = some false := by decide +kernel
theorem k_nl : kitB "NoneType" "list" = some false := by decide +kernel
theorem k_ns : kitB "NoneType" "str" = some false := by decide +kernel
/-- one step of alikeness: what the calls within answer is Rc -/
def RAs (Rc : List Dt → Dt → Prop) (ds : List Dt) (z : Dt) : Prop := ∃ d, ds = [d, d] ∧ z = .bool true ∧ (d = .none ∨ (∃ n, d = .int n) ∨ ∃ xs : List Dt, (d = .tuple xs ∨ d = .list xs) ∧ xs.length ≤ 10000 ∧ ∀ x ∈ xs, Rc [x, x] (.bool true))
def RA : Nat → List Dt → Dt → Prop
  | 0 => RAs fun _ _ => False
  | k + 1 => RAs (RA k)
section
variable {K : PySem.W.Frag} {d : Dt} {xs : List Dt}
theorem rc_lenS (h : d = .tuple xs ∨ d = .list xs) : DV.RC K (rLenQ K) [d] (.int (xs.length : Int)) := by
  rcases h with rfl | rfl
  · exact rc_lenT
  · exact rc_lenL
theorem rd_ixS {j : Nat} {x : Dt} (h : d = .tuple xs ∨ d = .list xs) (hx : xs[j]? = some x) : RD K (rIx K) d (.int (j : Int)) x := by
  rcases h with rfl | rfl
  · exact fun H u w hu hw Q q => .inr (.inl (rd_ixT rfl hx H u w hu hw Q q))
  · exact fun H u w hu hw Q q => .inl (rd_ixL rfl hx H u w hu hw Q q)
theorem kit_seq (h : d = .tuple xs ∨ d = .list xs) : ∃ b c, kitB (tyD d) "tuple" = some b ∧ kitB (tyD d) "list" = some c ∧ (b || c) = true := by
  rcases h with rfl | rfl
  · exact ⟨true, false, k_tt, k_tl, rfl⟩
  · exact ⟨false, true, k_lt, k_ll, rfl⟩
theorem rd_isN {b : Bool} (h : ∀ {H : Hp} {v : V}, Dp K H v d → decide (v = .non) = b) : RD K (fun x y H Q => y = .non ∧ Q (.bl (decide (x = .non))) H) d .none (.bool b) := fun H u w hu hw Q q => by
  refine ⟨dp_none hw, ?_⟩
  rw [h hu]
  exact q _ H (Ex.refl _) (.bl _)
theorem kx_ixS {X : Cx} (K : PySem.W.Frag) (h : X.K = K := by rfl) : IxR X (rIx K) := by subst h; exact ix_seq
theorem rd_eqN : RD K rEq .none .none (.bool true) := fun H u w hu hw Q q => by
  rw [dp_none hu, dp_none hw]
  exact ⟨rfl, q _ H (Ex.refl _) (.bl _)⟩
end
section
variable {P : Program} {w : World} {K : PySem.W.Frag} {mg : Str → Option Value} {base : Heap} {f : Addr} {fd : FuncData}
theorem ok_alikeS (B : Blt mg) {k : Nat} {Rc : List Dt → Dt → Prop} (F : Fun K "_law_alike" "_law_alike" (topS 44) f fd) (G : GF P w K mg base k "_law_alike" ["_law_found", "_law_due"] (spP K Rc)) : FnOk P w K mg base CX0 (k + 1) f fd ["_law_found", "_law_due"] (spP K (RAs Rc)) := by
  refine ok_spP F sc_alike (fun ds d h => by obtain ⟨_, rfl, _⟩ := h; rfl) fun cdv A outer s H E hr => ?_
  refine ⟨_, pss_cons (ps_if (pt_val (pe_callB call_isiT (by rfl) B.isi (by decide +kernel) (pa_cons (pv 1) (pa_cons (pe_tup (pa_cons (pe_bltn (v := .ty "tuple") (by rfl) B.tuple (by decide +kernel) rfl) (pa_cons (pe_bltn (v := .ty "list") (by rfl) B.list (by decide +kernel) rfl) pa_nil))) pa_nil))))
      (pss_cons (ps_if (PW.pt (pw_or (pt_not (pt_val (pe_callB call_isiT (by rfl) B.isi (by decide +kernel) (pa_cons (pv 0) (pa_cons (pe_tup (pa_cons (pe_bltn (v := .ty "tuple") (by rfl) B.tuple (by decide +kernel) rfl) (pa_cons (pe_bltn (v := .ty "list") (by rfl) B.list (by decide +kernel) rfl) pa_nil))) pa_nil)))))
        (pw_or1 (pt_cmpR op_ne (pe_callB call_isi (by rfl) B.isi (by decide +kernel) (pa_cons (pv 0) (pa_cons (pe_bltn (v := .ty "list") (by rfl) B.list (by decide +kernel) rfl) pa_nil))) (pe_callB call_isi (by rfl) B.isi (by decide +kernel) (pa_cons (pv 1) (pa_cons (pe_bltn (v := .ty "list") (by rfl) B.list (by decide +kernel) rfl) pa_nil))) (nomark _)))))
          (pss_one (ps_ret pe_bl)) pss_nil)
      (pss_cons (ps_if (pt_cmpR op_ne (pe_callB cr_len (by rfl) B.len PySem.boot_len (pa_cons (pv 0) pa_nil)) (pe_callB cr_len (by rfl) B.len PySem.boot_len (pa_cons (pv 1) pa_nil)) (nomark _)) (pss_one (ps_ret pe_bl)) pss_nil)
      (pss_one (ps_ret (pe_cmpR (op_eqD hr.units) (pe_lc (own := [("_law_k", 2)]) (g := gName 2) rfl sc_alike.nd (pi_range1 (by rfl) B.range (pa_cons (pe_callB cr_len (by rfl) B.len PySem.boot_len (pa_cons (pv 1) pa_nil)) pa_nil)) (blkOk_by (N := ["_law_found", "_law_due", "_law_k"]) (sc := defScope (topS 44)) (by decide +kernel))
        (fun _ _ _ _ _ => pg_name (i := 2) sc_alike.nd rfl (.inl rfl) (.inr rfl)) (fun _ _ _ _ _ => pts_one (pt_not (pt_val (pe_gf G hr (by rfl) (pa_cons (pe_ix (kx_ixS K) (pv 0) (pv 2) (fun _ _ => rfl)) (pa_cons (pe_ix (kx_ixS K) (pv 1) (pv 2) (fun _ _ => rfl)) pa_nil)))))) (fun _ _ _ _ _ => pv 2)) (pe_lst pa_nil) (nomark _)))))) pss_nil)
    (pss_cons (ps_if (PW.pt (pw_or (pt_cmpR op_isN (pv 1) pe_non (nomark _)) (pw_or1 (pt_val (pe_callB call_isi (by rfl) B.isi (by decide +kernel) (pa_cons (pv 1) (pa_cons (pe_bltn (v := .ty "str") (by rfl) B.str (by decide +kernel) rfl) pa_nil)))))))
      (pss_one (ps_ret (pe_and (pe_cmpR op_eq (pv 0) (pv 1) (nomark _)) (pe_one (pe_cmpR op_eq (pe_callB call_isi (by rfl) B.isi (by decide +kernel) (pa_cons (pv 0) (pa_cons (pe_bltn (v := .ty "str") (by rfl) B.str (by decide +kernel) rfl) pa_nil))) (pe_callB call_isi (by rfl) B.isi (by decide +kernel) (pa_cons (pv 1) (pa_cons (pe_bltn (v := .ty "str") (by rfl) B.str (by decide +kernel) rfl) pa_nil))) (nomark _)))))) pss_nil)
    (pss_one (ps_ret (pe_and (pe_callB call_isi (by rfl) B.isi (by decide +kernel) (pa_cons (pv 0) (pa_cons (pe_bltn (v := .ty "int") (by rfl) B.int (by decide +kernel) rfl) pa_nil)))
      (pe_and (pe_cmpR op_eq (pe_callB call_isi (by rfl) B.isi (by decide +kernel) (pa_cons (pv 0) (pa_cons (pe_bltn (v := .ty "bool") (by rfl) B.bool (by decide +kernel) rfl) pa_nil))) (pe_callB call_isi (by rfl) B.isi (by decide +kernel) (pa_cons (pv 1) (pa_cons (pe_bltn (v := .ty "bool") (by rfl) B.bool (by decide +kernel) rfl) pa_nil))) (nomark _)) (pe_one (pe_cmpR op_eq (pv 0) (pv 1) (nomark _)))))))), ?_⟩
  rintro vs ds z hd ⟨d, rfl, rfl, hdd⟩ Q q
  obtain ⟨x, y, rfl, hx, hy⟩ := dpAll2 hd
  rcases hdd with rfl | ⟨n, rfl⟩ | ⟨xs, hxs, hz, hR⟩
  · refine q_pass (et_is (t_B (d_isi2 (d_var rfl hy) k_nt k_nl)) rfl) fun H1 e1 => ?_
    have hx1 := dp_ex e1 hx
    have hy1 := dp_ex e1 hy
    refine q_when (et_or (a := true) (b := false) (t_T (d_op (d_var rfl hy1) d_non (rd_isN fun h => by rw [dp_none h]; rfl))) fun h => nomatch h) (fun _ H2 e2 => ?_) fun hb => nomatch hb
    exact DV.s_ret (K := K) (d_andV (d_op (d_var rfl (dp_ex e2 hx1)) (d_var rfl (dp_ex e2 hy1)) rd_eqN) fun _ => d_op (d_isi (d_var rfl (dp_ex e2 hx1)) k_ns) (d_isi (d_var rfl (dp_ex e2 hy1)) k_ns) rd_eqB) fun v H3 e3 dv => q v H3 ((e1.trans e2).trans e3) dv
  · refine q_pass (et_is (t_B (d_isi2 (d_var rfl hy) k_it k_il)) rfl) fun H1 e1 => ?_
    have hx1 := dp_ex e1 hx
    have hy1 := dp_ex e1 hy
    refine q_pass (et_or (a := false) (b := false) (t_T (d_op (d_var rfl hy1) d_non (rd_isN fun h => by rw [dp_int h]; rfl))) fun _ => t_B (d_isi (d_var rfl hy1) k_is')) fun H2 e2 => ?_
    have hx2 := dp_ex e2 hx1
    have hy2 := dp_ex e2 hy1
    refine DV.s_ret (K := K) (d_andV (d_isi (d_var rfl hx2) k_ii) fun _ => d_andV (d_op (d_isi (d_var rfl hx2) k_ib) (d_isi (d_var rfl hy2) k_ib) rd_eqB) fun _ => d_op (d_var rfl hx2) (d_var rfl hy2) rd_eqI) fun v H3 e3 dv => q v H3 ((e1.trans e2).trans e3) ?_
    rw [decide_eq_true (rfl : n = n)] at dv
    exact dv
  · obtain ⟨b, c, kt, kl, hbc⟩ := kit_seq hxs
    refine q_when (et_is (t_B (d_isi2 (d_var rfl hy) kt kl)) hbc) (fun _ H1 e1 => ?_) fun hb => nomatch hb
    have hx1 := dp_ex e1 hx
    have hy1 := dp_ex e1 hy
    refine q_pass (et_or (a := false) (b := false) (et_is (et_not (et_is (t_B (d_isi2 (d_var rfl hx1) kt kl)) hbc)) rfl) fun _ => et_is (t_T (d_op (d_isi (d_var rfl hx1) kl) (d_isi (d_var rfl hy1) kl) rd_neB)) (by simp)) fun H2 e2 => ?_
    have hx2 := dp_ex e2 hx1
    have hy2 := dp_ex e2 hy1
    refine q_pass (et_is (t_T (d_op (d_cb (ds_cons (d_var rfl hx2) ds_nil) (rc_lenS hxs)) (d_cb (ds_cons (d_var rfl hy2) ds_nil) (rc_lenS hxs)) rd_neI)) (by simp)) fun H3 e3 => ?_
    have hx3 := dp_ex e3 hx2
    have hy3 := dp_ex e3 hy2
    have src := ei_r1 (K := K) (σ := [some x, some y, none]) (H := H3) (ds_cons (d_cb (ds_cons (d_var (i := 1) rfl hy3) ds_nil) (rc_lenS hxs)) ds_nil) (by omega)
    rw [Int.toNat_natCast] at src
    refine DV.s_ret (K := K) (d_op (EvD.is (d_lcN (xs := List.range xs.length) (enc := fun (i : Nat) => .int (i : Int)) (fun _ => false) (fun (i : Nat) => .int (i : Int)) src (by rw [List.length_range]; omega) (fun _ _ _ => rfl) (fun _ => rfl) (fun i hi v H4 e4 dv => ?_) fun _ _ h => by cases h) (e := .list []) ?_) (d_lst ds_nil (by decide)) (rd_eqD rfl rfl)) fun v H4 e4 dv => q v H4 (((e1.trans e2).trans e3).trans e4) dv
    · have hi' : i < xs.length := List.mem_range.mp hi
      have hg : xs[i]? = some xs[i] := List.getElem?_eq_getElem hi'
      exact et_is (et_not (t_B (d_call (ds_cons (d_op (d_var rfl (dp_ex e4 hx3)) (d_var rfl dv) (rd_ixS hxs hg)) (ds_cons (d_op (d_var rfl (dp_ex e4 hy3)) (d_var rfl dv) (rd_ixS hxs hg)) ds_nil)) (hR _ (List.mem_of_getElem? hg))))) rfl
    · unfold got
      simp
theorem ok_alike (B : Blt mg) (F : Fun K "_law_alike" "_law_alike" (topS 44) f fd) (hm : mg "_law_alike" = some (.ref f)) (hk : PySem.W.keepIn K (.ref f) = true) (hb : Binds K fd ["_law_found", "_law_due"] []) : ∀ k, FnOk P w K mg base CX0 (k + 1) f fd ["_law_found", "_law_due"] (spP K (RA k))
  | 0 => ok_alikeS B F ⟨f, fd, ⟨fun vs H Q E h => by obtain ⟨_, _, _, h, _⟩ := h; exact h.elim, fun A outer s H args us vs Q E _ _ _ _ h => by obtain ⟨_, _, _, h, _⟩ := h; exact h.elim⟩, hm, hk, hb⟩
  | k + 1 => ok_alikeS B F ⟨f, fd, ok_alike B F hm hk hb k, hm, hk, hb⟩
theorem ra_int (n : Int) : RA 0 [.int n, .int n] (.bool true) := ⟨_, rfl, rfl, .inr (.inl ⟨n, rfl⟩)⟩
theorem ra_int1 (n : Int) : RA 1 [.int n, .int n] (.bool true) := ⟨_, rfl, rfl, .inr (.inl ⟨n, rfl⟩)⟩
theorem ra_int2 (n : Int) : RA 2 [.int n, .int n] (.bool true) := ⟨_, rfl, rfl, .inr (.inl ⟨n, rfl⟩)⟩
theorem ra_non2 : RA 2 [.none, .none] (.bool true) := ⟨_, rfl, rfl, .inl rfl⟩
theorem ra_T1 (ns : List Int) (h : ns.length ≤ 10000) : RA 1 [T ns, T ns] (.bool true) := ⟨_, rfl, rfl, .inr (.inr ⟨ns.map .int, .inl rfl, by rw [List.length_map]; exact h, fun x hx => by
  obtain ⟨n, _, rfl⟩ := List.mem_map.mp hx
  exact ra_int n⟩)⟩
theorem ra_T2 (ns : List Int) (h : ns.length ≤ 10000) : RA 2 [T ns, T ns] (.bool true) := ⟨_, rfl, rfl, .inr (.inr ⟨ns.map .int, .inl rfl, by rw [List.length_map]; exact h, fun x hx => by
  obtain ⟨n, _, rfl⟩ := List.mem_map.mp hx
  exact ra_int1 n⟩)⟩
theorem ra_P2 (p : Int × List Int) (h : p.2.length ≤ 10000) : RA 2 [P2 p, P2 p] (.bool true) := ⟨_, rfl, rfl, .inr (.inr ⟨_, .inl rfl, by show 2 ≤ 10000; decide, fun x hx => by
  rcases List.mem_cons.mp hx with e | hx
  · rw [e]; exact ra_int1 _
  · rw [List.mem_singleton.mp hx]; exact ra_T1 _ h⟩)⟩
theorem ra_LT2 (rs : List (List Int)) (h : rs.length ≤ 10000) (hr : ∀ r ∈ rs, r.length ≤ 10000) : RA 2 [DV.LT rs, DV.LT rs] (.bool true) := ⟨_, rfl, rfl, .inr (.inr ⟨rs.map T, .inr rfl, by rw [List.length_map]; exact h, fun x hx => by
  obtain ⟨r, m, rfl⟩ := List.mem_map.mp hx
  exact ra_T1 r (hr r m)⟩)⟩
end
end DF

set_option Elab.async false
set_option linter.all false
set_option maxRecDepth 100000
set_option maxHeartbeats 1000000
/-! told: what the lambda raises is caught -/
namespace DF
open PySem PySem.Spec PyProof.Rows L2 Evl R1 StX PM DV
theorem sc_told : FnScope ["_law_work", "e"] ["_law_work"] (defScope (topS 49)) := ⟨rfl, rfl, rfl, by decide +kernel, rfl, by decide +kernel, by decide +kernel⟩
theorem pss_len {X : Cx} {sts : List Stmt} {t : TS} (h : PSs X sts t) : PSs X sts (fun D σ H => σ.length = X.N.length → t D σ H) := ⟨fun pins s σ H D I q => h.run pins s σ H D I (q I.len)⟩
/-- isinstance(e, C) of the caught error, told of its class -/
def rIsX (K : PySem.W.Frag) (cls : Value) (d : Option Addr) (a : Addr) : List V → Hp → VK → Prop := fun xs H Q => ∃ D, cls = .ref D ∧ d = none ∧ ExcC K D ∧ rIsE K D a xs H Q
theorem call_isX {X : Cx} {a : Addr} {cls : Value} {d : Option Addr} {oe : Obj} {pn : List (Addr × Obj)} (hz : Zc cls d oe) (hf : ∃ vs, oe.data = .fields vs) : CallR (X.suite a ((a, oe) :: pn)) (.builtin "isinstance") (rIsX X.K cls d a) := by
  intro pins s σ H xs us Q I r h
  obtain ⟨D, rfl, rfl, C, h⟩ := h
  exact call_isE C hz hf pins s σ H xs us Q I r h
def TTE (CN : Addr) : (XK → Hp → VK → Prop) → Hp → VK → Prop := fun tl H Q => tl (fun cls d H' => cls = .ref CN ∧ d = none ∧ Q .non H') H Q
theorem told_givesE {X : Cx} {q : Str} {g CS CN : Addr} {cdg : Value} (B : Blt X.mg) (hme : X.mg "StreetError" = some (.ref CS)) (hmn : X.mg "NotMade" = some (.ref CN)) (hx : PySem.W.exmOne X.K (.ref CN) (.ref CS) = some true) (hk : PySem.W.kitOne X.K (.ref CN) (.ref CN) = some true) (C : ExcC X.K CN) :
    LamX.GivesTo X ["_law_work", "e"] "_law_told" (defScope (topS 49)) g cdg (defBody (topS 49)) "_law_work" q (TTE CN) := by
  intro f c' s H Q tl act hc h
  refine ⟨_, pss_one (ps_try_as (X := (cxOf C8.CX0 X.prog X.w X.K X.mg X.base ["_law_work", "e"] "_law_told" (defScope (topS 49)) g cdg X.A X.stack s H C8.E0).nox) (c := .ref CS) (i := 1) (Wout := fun _ _ _ _ => False)
      (tb := fun W D σ H => ∃ Ech : XK, (∀ cls d σ' H', Ech cls d H' → W cls d σ' H') ∧ σ[0]? = some (some (.ref f)) ∧ H c' = some (LamX.CodeO c' q) ∧ tl Ech H D.rt)
      (ts := fun a cls d D σ H => σ.length = 2 → tRet (tIf (tB (tCB (rIsX X.K cls d a) (tCons (tVar 1) (tCons (tC (.ref CN)) tNil)))) (tC .non) (tC (.str "other"))) D σ H)
      rfl rfl sc_told.nd rfl rfl ⟨by rfl, by decide, .inl hme⟩ LamX.takes0 (fun W pn xe tk _ => ?_)
      (fun a oe cls d pn hz hf => pss_len (pss_one (ps_ret (pe_ifExp (pt_val (pe_callB (call_isX hz hf) (by rfl) B.isi (by decide +kernel) (pa_cons (pv 1) (pa_cons (pe_glob (by rfl) hmn (v := .ref CN) rfl) pa_nil)))) pe_non pe_str))))), ?_⟩
  · refine ⟨fun pins s' σ H' D I h' => ?_⟩
    obtain ⟨Ech, hW, h1, h2, h3⟩ := h'
    exact (pss_one (ps_ret (act W pn xe Ech _ _ tk hW))).run pins s' σ H' D I ⟨h1, h2, h3⟩
  · refine ⟨fun cls d H' => cls = .ref CN ∧ d = none ∧ Q .non H', fun cls d σ' H' ⟨e1, e2, e3⟩ => ?_, rfl, hc, h⟩
    subst e1 e2
    refine ⟨true, hx, fun _ a ha hlen => ?_, fun z => nomatch z⟩
    have hl : 1 < σ'.length := by
      rw [List.length_set] at hlen
      omega
    refine ⟨.ref a, List.getElem?_set_self hl, CN, rfl, rfl, C, .ref CN, .ref CN, true, rfl, fun u hu => hu, hk, true, rfl, ?_⟩
    exact e3
end DF

set_option Elab.async false
set_option linter.all false
namespace PM
theorem alB_range {R : Int → Int → Bool} : ∀ {as bs : List Int}, as.length = bs.length → alB R as bs = (List.range as.length).all fun i => R (as.getD i 0) (bs.getD i 0)
  | [], [], _ => rfl
  | [], _ :: _, h => by simp at h
  | _ :: _, [], h => by simp at h
  | a :: as, b :: bs, h => by
    have ih := alB_range (R := R) (as := as) (bs := bs) (by simpa using h)
    rw [List.length_cons, List.range_succ_eq_map, List.all_cons, List.all_map]
    show (R a b && alB R as bs) = _
    rw [ih]
    rfl
/-- what lies below a state, by differences -/
theorem below_diffs {xs r : List Int} (h : xs.length = r.length) : ((List.range xs.length).map fun i => xs.getD i 0 - r.getD i 0).all (fun y => decide (0 ≤ y)) = below xs r := by
  unfold below
  rw [alB_range h, List.all_map]
  refine congrArg (fun f => List.all (List.range xs.length) f) (funext fun i => ?_)
  show decide (0 ≤ xs.getD i 0 - r.getD i 0) = decide (r.getD i 0 ≤ xs.getD i 0)
  exact decide_eq_decide.mpr ⟨fun h => by omega, fun h => by omega⟩
theorem above_diffs {r xs : List Int} (h : r.length = xs.length) : ((List.range r.length).map fun i => xs.getD i 0 - r.getD i 0).all (fun y => decide (0 ≤ y)) = above r xs := by
  unfold above
  rw [alB_range h, List.all_map]
  refine congrArg (fun f => List.all (List.range r.length) f) (funext fun i => ?_)
  show decide (0 ≤ xs.getD i 0 - r.getD i 0) = decide (r.getD i 0 ≤ xs.getD i 0)
  exact decide_eq_decide.mpr ⟨fun h => by omega, fun h => by omega⟩
theorem below_min : ∀ {xs ys r : List Int}, xs.length = r.length → ys.length = r.length → below (List.zipWith min xs ys) r = (below ys r && below xs r)
  | [], [], [], _, _ => rfl
  | [], _, _ :: _, h, _ => by simp at h
  | _ :: _, _, [], h, _ => by simp at h
  | _, [], _ :: _, _, h => by simp at h
  | _, _ :: _, [], _, h => by simp at h
  | x :: xs, y :: ys, p :: r, h1, h2 => by
    have ih := below_min (xs := xs) (ys := ys) (r := r) (by simpa using h1) (by simpa using h2)
    unfold below at ih ⊢
    rw [List.zipWith_cons_cons]
    show (decide (p ≤ min x y) && alB _ (List.zipWith min xs ys) r) = ((decide (p ≤ y) && alB _ ys r) && (decide (p ≤ x) && alB _ xs r))
    rw [ih]
    have e : decide (p ≤ min x y) = (decide (p ≤ y) && decide (p ≤ x)) := by
      rw [Bool.eq_iff_iff]
      simp
      omega
    rw [e]
    cases decide (p ≤ y) <;> cases decide (p ≤ x) <;> cases alB (fun x p => decide (p ≤ x)) ys r <;> simp
theorem both_eq {hs xs ys : List Int} (h1 : hs.length = xs.length) (h2 : hs.length = ys.length) : ((whole hs).filter (below xs)).filter (below ys) = restsIn hs (List.zipWith min xs ys) := by
  rw [restsIn_eq (by rw [List.length_zipWith]; omega), List.filter_filter]
  refine List.filter_congr fun r hr => ?_
  have hl := (rest_stable hr).2.len
  rw [below_min (by omega) (by omega)]
theorem least_int : ∀ {ns : List Int}, ns ≠ [] → ∃ m ∈ ns, ∀ y ∈ ns, m ≤ y
  | [], h => absurd rfl h
  | [a], _ => ⟨a, List.mem_singleton.mpr rfl, fun y hy => by rw [List.mem_singleton.mp hy]; exact Int.le_refl _⟩
  | a :: b :: ns, _ => by
    obtain ⟨m, hm, hl⟩ := least_int (ns := b :: ns) (by simp)
    by_cases h : a ≤ m
    · refine ⟨a, List.mem_cons_self, fun y hy => ?_⟩
      rcases List.mem_cons.mp hy with e | hy
      · rw [e]; exact Int.le_refl _
      · exact Int.le_trans h (hl y hy)
    · refine ⟨m, List.mem_cons_of_mem _ hm, fun y hy => ?_⟩
      rcases List.mem_cons.mp hy with e | hy
      · omega
      · exact hl y hy
end PM

set_option Elab.async false
set_option linter.all false
set_option maxRecDepth 100000
set_option maxHeartbeats 1000000
/-! pieces of the law -/
namespace DF
open PySem PySem.Spec PyProof.Rows L2 Evl R1 StX PM DV
/-! ### data behind a lambda's making -/
theorem extn_l {K : PySem.W.Frag} {H H' : Hp} {a : Addr} {xs : List V} (e : LamX.ExtN H H') (h : SqL K H a xs) : SqL K H' a xs := by
  rcases h with (h | ⟨o, h⟩) | h
  · exact .inl (.inl (e _ _ h fun _ z => nomatch z))
  · exact .inl (.inr ⟨o, e _ _ h fun _ z => nomatch z⟩)
  · exact .inr h
theorem extn_t {K : PySem.W.Frag} {H H' : Hp} {a : Addr} {xs : List V} (e : LamX.ExtN H H') (h : SqT K H a xs) : SqT K H' a xs := by
  rcases h with (h | ⟨o, h⟩) | h
  · exact .inl (.inl (e _ _ h fun _ z => nomatch z))
  · exact .inl (.inr ⟨o, e _ _ h fun _ z => nomatch z⟩)
  · exact .inr h
mutual
theorem dp_extn {K : PySem.W.Frag} {H H' : Hp} (e : LamX.ExtN H H') : ∀ {d : PyData} {v : V}, Dp K H v d → Dp K H' v d
  | .none, _, .non => .non
  | .bool b, _, .bl _ => .bl b
  | .int i, _, .int _ => .int i
  | .str x, _, .str _ => .str x
  | .list ds, _, .lst h a => .lst (extn_l e h) (dpAll_extn e a)
  | .tuple ds, _, .tup h a => .tup (extn_t e h) (dpAll_extn e a)
theorem dpAll_extn {K : PySem.W.Frag} {H H' : Hp} (e : LamX.ExtN H H') : ∀ {ds : List PyData} {vs : List V}, DpAll K H vs ds → DpAll K H' vs ds
  | [], _, .nil => .nil
  | _ :: _, _, .cons h a => .cons (dp_extn e h) (dpAll_extn e a)
end
theorem Nd.extn {H H' : Hp} {v : V} (e : LamX.ExtN H H') (h : Nd H v) : Nd H' v := by
  obtain ⟨a, o, xs, rfl, h1, h2⟩ := h
  exact ⟨a, o, xs, rfl, e _ _ h1 (fun _ z => nomatch z), h2⟩
theorem RowOk.extn {K : PySem.W.Frag} {H H' : Hp} {r sc : Addr} {ns : List Int} (e : LamX.ExtN H H') (h : RowOk K H r sc ns) : RowOk K H' r sc ns := by
  obtain ⟨h1, h2, p, c, d, h3, h4⟩ := h
  exact ⟨h1, extn_l e h2, p, c, d, e _ _ h3 (fun _ z => nomatch z), h4⟩
/-! ### the law's comprehensions -/
section
variable {K : PySem.W.Frag} {σ : L2.St} {H : Hp} {te : TE} {j ia ib ic : Nat} {va vb : V} {as bs : List Int} {m : Int}
theorem d_minge {ns : List Int} (hne : ns ≠ []) (h : EvD K te σ H (LI ns)) : EvT (tTest (tOp (rI0 fun i j => .bl (decide (j ≤ i))) (tCB (rMin K) (tCons te tNil)) (tC (.int 0)))) σ H (ns.all fun y => decide (0 ≤ y)) := by
  obtain ⟨k, hk, hl⟩ := least_int hne
  refine et_is (t_T (d_op (d_cb (ds_cons h ds_nil) (rc_min hk hl)) d_int rd_b)) ?_
  rw [Bool.eq_iff_iff, decide_eq_true_eq, List.all_eq_true]
  exact ⟨fun h0 y hy => decide_eq_true (Int.le_trans h0 (hl y hy)), fun h0 => of_decide_eq_true (h0 k hk)⟩
theorem src_m {n : Nat} (hc : σ[ic]? = some (some (.int m))) (hm : m = (n : Int)) (hn : n ≤ 4) : EvI K (iRng1 (tCons (tVar ic) tNil)) σ H ((List.range n).map fun (i : Nat) => .int (i : Int)) := by
  subst hm
  have := ei_r1 (K := K) (σ := σ) (H := H) (ds_cons (d_var hc (.int (n : Int))) ds_nil) (by omega)
  rwa [Int.toNat_natCast] at this
/-- [a[j] - b[j] for j in range(m)] -/
theorem d_diffs (hc : σ[ic]? = some (some (.int m))) (hm : m = (as.length : Int)) (hl : as.length = bs.length) (h4 : as.length ≤ 4) (da : Dp K H va (T as)) (db : Dp K H vb (T bs)) (hw : ∀ v, wipe ((wipe σ [j]).set j (some v)) [j] = wipe σ [j])
    (ha : ∀ v, ((wipe σ [j]).set j (some v))[ia]? = some (some va)) (hb : ∀ v, ((wipe σ [j]).set j (some v))[ib]? = some (some vb)) (hj : ∀ v, ((wipe σ [j]).set j (some v))[j]? = some (some v)) :
    EvD K (tLc (iRng1 (tCons (tVar ic) tNil)) (gName j) tYes (tOp (rI0 fun i j => .int (i - j)) (tOp (rIxT K) (tVar ia) (tVar j)) (tOp (rIxT K) (tVar ib) (tVar j))) [j]) σ H (LI ((List.range as.length).map fun i => as.getD i 0 - bs.getD i 0)) := by
  refine EvD.is (d_lcA (xs := List.range as.length) (enc := fun (i : Nat) => .int (i : Int)) (fun i => .int (as.getD i 0 - bs.getD i 0)) (src_m hc hm h4) (by rw [List.length_range]; omega) (fun _ _ => rfl) hw fun i hi v H1 e1 dv => ?_) ?_
  · have hi' := List.mem_range.mp hi
    exact d_op (d_ixI (d_var (ha v) (dp_ex e1 da)) (d_var (hj v) dv) rfl (getD_of hi')) (d_ixI (d_var (hb v) (dp_ex e1 db)) (d_var (hj v) dv) rfl (getD_of (by omega))) rd_i
  · unfold LI
    rw [List.map_map]
    rfl
/-- [j for j in range(m) if a[j] != b[j]] -/
theorem d_unl (hc : σ[ic]? = some (some (.int m))) (hm : m = (as.length : Int)) (hl : as.length = bs.length) (h4 : as.length ≤ 4) (da : Dp K H va (T as)) (db : Dp K H vb (T bs)) (hw : ∀ v, wipe ((wipe σ [j]).set j (some v)) [j] = wipe σ [j])
    (ha : ∀ v, ((wipe σ [j]).set j (some v))[ia]? = some (some va)) (hb : ∀ v, ((wipe σ [j]).set j (some v))[ib]? = some (some vb)) (hj : ∀ v, ((wipe σ [j]).set j (some v))[j]? = some (some v)) :
    EvD K (tLc (iRng1 (tCons (tVar ic) tNil)) (gName j) (tTest (tOp rNe (tOp (rIxT K) (tVar ia) (tVar j)) (tOp (rIxT K) (tVar ib) (tVar j)))) (tVar j) [j]) σ H (LI (unl as bs)) := by
  refine EvD.is (d_lcN (xs := List.range as.length) (enc := fun (i : Nat) => .int (i : Int)) (fun i => !decide (as.getD i 0 = bs.getD i 0)) (fun i => .int (i : Int)) (src_m hc hm h4) (by rw [List.length_range]; omega) (fun _ _ _ => rfl) hw (fun i hi v H1 e1 dv => ?_) fun i hi _ v H1 e1 dv => d_var (hj v) dv) ?_
  · have hi' := List.mem_range.mp hi
    exact t_T (d_op (d_ixI (d_var (ha v) (dp_ex e1 da)) (d_var (hj v) dv) rfl (getD_of hi')) (d_ixI (d_var (hb v) (dp_ex e1 db)) (d_var (hj v) dv) rfl (getD_of (by omega))) rd_neI)
  · unfold got unl LI
    rw [List.map_map]
    rfl
/-- the rows of a list that lie below a state -/
theorem d_some {il ir : Nat} {lv : V} {rows : List (List Int)} {xs : List Int} (hls : rows.length < 40000) (hlv : σ[il]? = some (some lv)) (dl : Dp K H lv (DV.LT rows)) (hr : ∀ r ∈ rows, xs.length = r.length) (hx0 : 1 ≤ xs.length) (hx4 : xs.length ≤ 4) (hm : m = (xs.length : Int)) (dx : Dp K H va (T xs))
    (hw : ∀ v, wipe ((wipe σ [ir]).set ir (some v)) [ir] = wipe σ [ir]) (hir : ∀ v, ((wipe σ [ir]).set ir (some v))[ir]? = some (some v)) (hic : ∀ v, ((wipe σ [ir]).set ir (some v))[ic]? = some (some (.int m)))
    (hw2 : ∀ v u, wipe ((wipe ((wipe σ [ir]).set ir (some v)) [j]).set j (some u)) [j] = wipe ((wipe σ [ir]).set ir (some v)) [j]) (h1 : ∀ v u, ((wipe ((wipe σ [ir]).set ir (some v)) [j]).set j (some u))[ia]? = some (some va)) (h2 : ∀ v u, ((wipe ((wipe σ [ir]).set ir (some v)) [j]).set j (some u))[ir]? = some (some v))
    (h3 : ∀ v u, ((wipe ((wipe σ [ir]).set ir (some v)) [j]).set j (some u))[j]? = some (some u)) :
    EvD K (tLc (iList K (tVar il)) (gName ir) (tTest (tOp (rI0 fun i j => .bl (decide (j ≤ i))) (tCB (rMin K) (tCons (tLc (iRng1 (tCons (tVar ic) tNil)) (gName j) tYes (tOp (rI0 fun i j => .int (i - j)) (tOp (rIxT K) (tVar ia) (tVar j)) (tOp (rIxT K) (tVar ir) (tVar j))) [j]) tNil)) (tC (.int 0)))) (tVar ir) [ir]) σ H (DV.LT (rows.filter (below xs))) := by
  refine EvD.is (d_lcN (xs := rows) (enc := T) (below xs) T (ei_l (d_var hlv dl)) hls (fun _ _ _ => nl_T _) hw (fun r hrm v H1 e1 dv => ?_) fun r _ _ v H1 e1 dv => d_var (hir v) dv) rfl
  have hrl := hr r hrm
  refine et_is (d_minge ?_ (d_diffs (hic v) hm hrl hx4 (dp_ex e1 dx) dv (hw2 v) (h1 v) (h2 v) (h3 v))) (below_diffs hrl)
  intro z
  have := congrArg List.length z
  rw [List.length_map, List.length_range] at this
  have z0 : xs.length = 0 := this
  omega
end
theorem unl_comm {a b : List Int} (h : a.length = b.length) : unl a b = unl b a := by
  unfold unl
  rw [h]
  refine congrArg (List.map _) (congrArg (fun f => List.filter f (List.range b.length)) (funext fun i => ?_))
  rw [Bool.not_eq_eq_eq_not, Bool.not_not]
  exact decide_eq_decide.mpr ⟨Eq.symm, Eq.symm⟩
end DF

set_option Elab.async false
set_option linter.all false
set_option maxRecDepth 100000
set_option maxHeartbeats 4000000
/-! the law -/
namespace DF
open PySem PySem.Spec PyProof.Rows L2 Evl R1 StX PM DV
abbrev NL : List Str := ["_law_script", "_law_row", "_law_street_here", "_law_cars", "_law_state_here", "_law_other", "_law_whole", "_law_car", "_law_some", "_law_near", "_law_far", "_law_both", "_law_told_here", "_law_rest", "_law_goal", "_law_one", "_law_at"]
theorem sc_law : FnScope NL ["_law_script"] (defScope (topS 50)) := ⟨rfl, rfl, rfl, by decide +kernel, rfl, by decide +kernel, by decide +kernel⟩
def spLaw (K : PySem.W.Frag) (PT : Addr) : Sp := fun vs H Q _ => ∃ (a : Addr) (ns : List Int), vs = [.ref a] ∧ SqL K H a (ns.map V.int) ∧ H PT = some (.tbl #[]) ∧ ∀ H', Q (.bl true) H'
/-- the lambda's call, its one table named by the def that runs -/
theorem lamcall1 {X : Cx} {TT : (XK → Hp → VK → Prop) → Hp → VK → Prop} {x a : Str} {g c P : Addr} {k : Nat} {pg : Arguments} {bg : List Stmt} {sg : Scope} {dV kV doc pm cdv ct oc : Value} {an od : Option Addr} {osl : Array (Option Value)} {Ng : List Str}
    {params : Arguments} {body : Expr} {scope : Scope} {t : XK → TE} {p lpos pos : Pos} (hg : Gl X x) (hm : X.mg x = some (.ref g)) (hk : PySem.W.keepIn X.K (.ref g) = true)
    (lk : X.K.lookup g = some ⟨oc, od, .func (PySem.W.fnOf x x pg bg sg dV kV doc pm an cdv ct), osl⟩) (hcg : PySem.W.codeIn X.K cdv x = true) (hb : L2.Binds X.K (PySem.W.fnOf x x pg bg sg dV kV doc pm an cdv ct) [a] []) (Sg : FnScope Ng [a] sg) (hNg : Ng[0]? = some a) (hva : Vis sg a)
    (hG : ∀ q, LamX.GivesTo X Ng x sg g cdv bg a q TT) (TB : LamX.TabB X.base X.mg c P) (hcode : X.env.code = .ref c) (hr : L2.Room (k + 2) X.A) (L : LamX.LamS X.env.scope scope) (hdef : defaultsOf params X.env = ([], []))
    (hbind : ∀ (q : Str) (cl : List (Str × Addr)) (pm cv ctv : Value), bindArgs (PySem.W.kla_fn "<lambda>" q params body scope cl pm cv ctv) ⟨[], []⟩ = pure [])
    (hbody : ∀ (A : Around) (outer : List Env) (s : Shared) (H : Hp) (E : XK) (f c' : Addr), L2.Room k (A.deeper (LamX.lamEnv X scope s.heap.objs.size f c')) → PE (LamX.lamCx X A outer s H E scope f c') body (t E))
    (hdb : (x == ("__debug__" : Str)) = false := by decide) (hd : (a == ("__debug__" : Str)) = false := by decide) (hcd : (a == ("__classdict__" : Str)) = false := by decide) :
    PE X (.Call (.Name x p) [.Lambda params body scope lpos] [] pos) (LamX.tLam [(P, X.env.qual ++ "<lambda>")] TT t) :=
  LamX.pe_lamcall hg hm hk lk hcg hb Sg hNg hva (hG _) TB hcode (List.mem_singleton.mpr rfl) (fun p hp _ => by rw [List.mem_singleton.mp hp]) hr L hdef hbind hbody hdb hd hcd
/-- the defs that the law calls -/
structure Gs (P : Program) (w : World) (K : PySem.W.Frag) (mg : Str → Option Value) (base : Heap) : Prop where
  taken : GF P w K mg base 1 "_law_taken" ["_law_row", "_law_many"] (spTaken K)
  pick : GF P w K mg base 2 "_law_pick" ["_law_row", "_law_things"] (spPick K)
  alike : GF P w K mg base 3 "_law_alike" ["_law_found", "_law_due"] (spP K (RA 2))
  street : GF P w K mg base 2 "_law_street" ["_law_row", "_law_cars", "_law_places"] (spStreet K)
  state : GF P w K mg base 3 "_law_state" ["_law_row", "_law_street_here"] (spState K)
  rests : GF P w K mg base 2 "_law_rests" ["_law_street_here"] (spRests K)
  best : GF P w K mg base 5 "best_for" ["street", "state", "car"] (spP K R_best)
  worst : GF P w K mg base 5 "worst_for" ["street", "state", "car"] (spP K R_worst)
  common : GF P w K mg base 5 "common_rests" ["street", "one", "other"] (spP K R_common)
  changed : GF P w K mg base 5 "changed_cars" ["street", "one", "other"] (spX K CN2 R_changed)
  count : GF P w K mg base 5 "count_sources" ["street", "rest"] (spX K CN R_count)
  states : GF P w K mg base 4 "states" ["street"] (spP K R_all_states)
theorem alike_end {K : PySem.W.Frag} {σ : L2.St} {H : Hp} {tY : TE} {v : V} {d : Dt} {Q : VK} {E : XK} (dv : Dp K H v d) (hY : EvD K tY σ H d) (ra : RA 2 [d, d] (.bool true)) (hQ : ∀ H3, Ex H H3 → Q (.bl true) H3) : tY σ H fun w H3 => spP K (RA 2) [v, w] H3 Q E :=
  hY H (Ex.refl H) _ fun w H3 e3 dw => ⟨[d, d], .bool true, .cons (dp_ex e3 dv) (.cons dw .nil), ra, fun u H4 e4 du => by rw [dp_bool du]; exact hQ H4 (e3.trans e4)⟩
theorem lay_P2s : ∀ ps : List (Int × List Int), PyData.canLayAll0 (ps.map P2) = true
  | [] => by rw [List.map_nil, PyData.canLayAll0]
  | p :: ps => by
    have e : (P2 p).canLay0 = true := by
      unfold P2
      rw [PyData.canLay0, PyData.canLayAll0, PyData.canLayAll0, PyData.canLayAll0, lay_T, PyData.canLay0]
      rfl
    rw [List.map_cons, PyData.canLayAll0, lay_P2s ps, e]
    rfl
theorem depth_P2s : ∀ ps : List (Int × List Int), PyData.depthAll (ps.map P2) ≤ 2
  | [] => by rw [List.map_nil, PyData.depthAll]; exact Nat.zero_le _
  | p :: ps => by
    rw [List.map_cons, PyData.depthAll, depth_P2]
    exact Nat.max_le.mpr ⟨Nat.le_refl _, depth_P2s ps⟩
theorem shaped_LP (ps : List (Int × List Int)) : SeqAt.shaped (.list (ps.map P2)) = true := by
  unfold SeqAt.shaped
  rw [PyData.canLay0, lay_P2s, PyData.depth]
  have := depth_P2s ps
  exact decide_eq_true (by omega)
theorem eqv_nilP (ps : List (Int × List Int)) : PyData.eqv (.list (ps.map P2)) (.list []) = decide (ps = []) := by cases ps <;> simp [PyData.eqv, PyData.eqvAll]
theorem st_bound {n : Int} {hs xs : List Int} (h : IsState n hs xs) : hs.length = xs.length := h.2.len
section
variable {P : Program} {w : World} {K : PySem.W.Frag} {mg : Str → Option Value} {base : Heap}
/-- the body's term -/
theorem law_term (B : Blt mg) (G : Gs P w K mg base) {CS CN PT cL fa g fN : Addr} {fdN : FuncData} {A : Around} {outer : List Env} {s : Shared} {H : Hp} {E : XK} (hr : L2.Room 7 (A.deeper (envOfC "law" (defScope (topS 50)) s.heap.objs.size fa (.ref cL))))
    {kV doc pm cdv ct oc : Value} {an od : Option Addr} {osl : Array (Option Value)}
    (gT : mg "_law_told" = some (.ref g)) (kT : PySem.W.keepIn K (.ref g) = true) (lkT : K.lookup g = some ⟨oc, od, .func (PySem.W.fnOf "_law_told" "_law_told" (defArgs (topS 49)) (defBody (topS 49)) (defScope (topS 49)) .none kV doc pm an cdv ct), osl⟩) (hcT : PySem.W.codeIn K cdv "_law_told" = true)
    (bT : L2.Binds K (PySem.W.fnOf "_law_told" "_law_told" (defArgs (topS 49)) (defBody (topS 49)) (defScope (topS 49)) .none kV doc pm an cdv ct) ["_law_work"] [])
    (hme : mg "StreetError" = some (.ref CS)) (hmn : mg "NotMade" = some (.ref CN)) (hx : PySem.W.exmOne K (.ref CN) (.ref CS) = some true) (hk : PySem.W.kitOne K (.ref CN) (.ref CN) = some true) (C : ExcC K CN) (TB : LamX.TabB base mg cL PT)
    (GN : FnOk P w K mg base (L2.CX P w) 5 fN fdN ["street", "one", "other"] (spNear K CN)) (gN : mg "nearest_common" = some (.ref fN)) (kN : PySem.W.keepIn K (.ref fN) = true) (bN : L2.Binds K fdN ["street", "one", "other"] [])
    (Q : VK) (a : Addr) (ns : List Int) (hS : SqL K H a (ns.map V.int)) (hPT : H PT = some (.tbl #[])) (q : ∀ H', Q (.bl true) H') :
    ∃ t, PSs (cxOf CX0 P w K mg base NL "law" (defScope (topS 50)) fa (.ref cL) A outer s H E).nox (defBody (topS 50)) t ∧ t { nx := fun _ H' => Q .non H', rt := Q } (L2.start NL [.ref a]) H := by
  refine ⟨_, pss_cons (ps_set (i := 1) sc_law.nd rfl (.inl rfl) (pe_lst (pa_cons (pv 0) (pa_cons pe_int (pa_cons pe_int (pa_cons pe_int pa_nil))))))
    (pss_cons (ps_set (i := 2) sc_law.nd rfl (.inr rfl) (pe_gf G.street (hr.mono (by decide)) (by rfl) (pa_cons (pv 1) (pa_cons pe_int (pa_cons pe_int pa_nil)))))
    (pss_cons (ps_asg (pe_tup (pa_cons (pe_callB cr_len (by rfl) B.len PySem.boot_len (pa_cons (pe_ix ix_tup (pv 2) pe_int (fun _ _ => rfl)) pa_nil)) (pa_cons (pe_gf G.state (hr.mono (by decide)) (by rfl) (pa_cons (pv 1) (pa_cons (pv 2) pa_nil))) (pa_cons (pe_gf G.state (hr.mono (by decide)) (by rfl) (pa_cons (pv 1) (pa_cons (pv 2) pa_nil))) pa_nil))))
      (pg_tup rfl (pgs_cons (pg_name (i := 3) sc_law.nd rfl (.inr rfl)) (pgs_cons (pg_name (i := 4) sc_law.nd rfl (.inr rfl)) (pgs_cons (pg_name (i := 5) sc_law.nd rfl (.inr rfl)) pgs_nil)))))
    (pss_cons (ps_asg (pe_tup (pa_cons (pe_gf G.rests (hr.mono (by decide)) (by rfl) (pa_cons (pv 2) pa_nil)) (pa_cons (pe_gf G.taken (hr.mono (by decide)) (by rfl) (pa_cons (pv 1) (pa_cons (pe_callB cr_len (by rfl) B.len PySem.boot_len (pa_cons (pe_ix ix_tup (pv 2) pe_int (fun _ _ => rfl)) pa_nil)) pa_nil))) pa_nil)))
      (pg_tup rfl (pgs_cons (pg_name (i := 6) sc_law.nd rfl (.inl rfl)) (pgs_cons (pg_name (i := 7) sc_law.nd rfl (.inr rfl)) pgs_nil))))
    (pss_cons (ps_setLc (i := 8) (own := [("_law_rest", 13)]) (g := gName 13) rfl sc_law.nd rfl rfl (sw_true rfl rfl rfl (by decide +kernel)) (pi_list (pv 6)) (blkOk_by (N := NL) (sc := defScope (topS 50)) (by decide +kernel)) (fun _ _ _ _ _ => pg_name (i := 13) sc_law.nd rfl (.inr rfl) (.inl rfl))
      (fun _ _ _ _ _ => pts_one (pt_cmpR op_ge (pe_callB (kc_min K rfl) (by rfl) B.min (by decide +kernel) (pa_cons (pe_lc (own := [("_law_one", 15)]) (g := gName 15) rfl sc_law.nd (pi_range1 (by rfl) B.range (pa_cons (pv 3) pa_nil)) (blkOk_by (N := NL) (sc := relS _ (defScope (topS 50))) (by decide +kernel))
        (fun _ _ _ _ _ => pg_name (i := 15) sc_law.nd rfl (.inl rfl) (.inr rfl)) (fun _ _ _ _ _ => pts_nil) (fun _ _ _ _ _ => pe_op op_sub (pe_ix (kx_ixT K) (pv 4) (pv 15) (fun _ _ => rfl)) (pe_ix (kx_ixT K) (pv 13) (pv 15) (fun _ _ => rfl)))) pa_nil)) pe_int (nomark _))) (fun _ _ _ _ _ => pv 13))
    (pss_cons (ps_asg (pe_tup (pa_cons (pe_callB (cr_min rfl) (by rfl) B.min (by decide +kernel) (pa_cons (pe_lc (own := [("_law_rest", 13)]) (g := gName 13) rfl sc_law.nd (pi_list (pv 8)) (blkOk_by (N := NL) (sc := defScope (topS 50)) (by decide +kernel)) (fun _ _ _ _ _ => pg_name (i := 13) sc_law.nd rfl (.inl rfl) (.inr rfl)) (fun _ _ _ _ _ => pts_nil) (fun _ _ _ _ _ => pe_ix (kx_ixT K) (pv 13) (pv 7) (fun _ _ => rfl))) pa_nil))
        (pa_cons (pe_callB (cr_max rfl) (by rfl) B.max (by decide +kernel) (pa_cons (pe_lc (own := [("_law_rest", 13)]) (g := gName 13) rfl sc_law.nd (pi_list (pv 8)) (blkOk_by (N := NL) (sc := defScope (topS 50)) (by decide +kernel)) (fun _ _ _ _ _ => pg_name (i := 13) sc_law.nd rfl (.inl rfl) (.inr rfl)) (fun _ _ _ _ _ => pts_nil) (fun _ _ _ _ _ => pe_ix (kx_ixT K) (pv 13) (pv 7) (fun _ _ => rfl))) pa_nil)) pa_nil)))
      (pg_tup rfl (pgs_cons (pg_name (i := 9) sc_law.nd rfl (.inr rfl)) (pgs_cons (pg_name (i := 10) sc_law.nd rfl (.inr rfl)) pgs_nil))))
    (pss_cons (ps_if (pt_not (pt_val (pe_gf G.alike (hr.mono (by decide)) (by rfl) (pa_cons (pe_gf G.best (hr.mono (by decide)) (by rfl) (pa_cons (pv 2) (pa_cons (pv 4) (pa_cons (pv 7) pa_nil)))) (pa_cons (pe_tup (pa_cons (pv 9) (pa_cons (pe_callB (cr_minD rfl) (by rfl) B.min (by decide +kernel) (pa_cons
        (pe_lc (own := [("_law_rest", 13)]) (g := gName 13) rfl sc_law.nd (pi_list (pv 8)) (blkOk_by (N := NL) (sc := defScope (topS 50)) (by decide +kernel)) (fun _ _ _ _ _ => pg_name (i := 13) sc_law.nd rfl (.inl rfl) (.inr rfl)) (fun _ _ _ _ _ => pts_one (pt_cmpR op_eq (pe_ix (kx_ixT K) (pv 13) (pv 7) (fun _ _ => rfl)) (pv 9) (nomark _))) (fun _ _ _ _ _ => pv 13)) pa_nil)) pa_nil))) pa_nil))))) (pss_one (ps_ret pe_bl)) pss_nil)
    (pss_cons (ps_if (pt_not (pt_val (pe_gf G.alike (hr.mono (by decide)) (by rfl) (pa_cons (pe_gf G.worst (hr.mono (by decide)) (by rfl) (pa_cons (pv 2) (pa_cons (pv 4) (pa_cons (pv 7) pa_nil)))) (pa_cons (pe_tup (pa_cons (pv 10) (pa_cons (pe_callB (cr_minD rfl) (by rfl) B.min (by decide +kernel) (pa_cons
        (pe_lc (own := [("_law_rest", 13)]) (g := gName 13) rfl sc_law.nd (pi_list (pv 8)) (blkOk_by (N := NL) (sc := defScope (topS 50)) (by decide +kernel)) (fun _ _ _ _ _ => pg_name (i := 13) sc_law.nd rfl (.inl rfl) (.inr rfl)) (fun _ _ _ _ _ => pts_one (pt_cmpR op_eq (pe_ix (kx_ixT K) (pv 13) (pv 7) (fun _ _ => rfl)) (pv 10) (nomark _))) (fun _ _ _ _ _ => pv 13)) pa_nil)) pa_nil))) pa_nil))))) (pss_one (ps_ret pe_bl)) pss_nil)
    (pss_cons (ps_setLc (i := 11) (own := [("_law_rest", 13)]) (g := gName 13) rfl sc_law.nd rfl rfl (sw_true rfl rfl rfl (by decide +kernel)) (pi_list (pv 8)) (blkOk_by (N := NL) (sc := defScope (topS 50)) (by decide +kernel)) (fun _ _ _ _ _ => pg_name (i := 13) sc_law.nd rfl (.inr rfl) (.inl rfl))
      (fun _ _ _ _ _ => pts_one (pt_cmpR op_ge (pe_callB (kc_min K rfl) (by rfl) B.min (by decide +kernel) (pa_cons (pe_lc (own := [("_law_one", 15)]) (g := gName 15) rfl sc_law.nd (pi_range1 (by rfl) B.range (pa_cons (pv 3) pa_nil)) (blkOk_by (N := NL) (sc := relS _ (defScope (topS 50))) (by decide +kernel))
        (fun _ _ _ _ _ => pg_name (i := 15) sc_law.nd rfl (.inl rfl) (.inr rfl)) (fun _ _ _ _ _ => pts_nil) (fun _ _ _ _ _ => pe_op op_sub (pe_ix (kx_ixT K) (pv 5) (pv 15) (fun _ _ => rfl)) (pe_ix (kx_ixT K) (pv 13) (pv 15) (fun _ _ => rfl)))) pa_nil)) pe_int (nomark _))) (fun _ _ _ _ _ => pv 13))
    (pss_cons (ps_if (pt_not (pt_val (pe_gf G.alike (hr.mono (by decide)) (by rfl) (pa_cons (pe_gf G.common (hr.mono (by decide)) (by rfl) (pa_cons (pv 2) (pa_cons (pv 4) (pa_cons (pv 5) pa_nil)))) (pa_cons (pv 11) pa_nil))))) (pss_one (ps_ret pe_bl)) pss_nil)
    (pss_cons (ps_set (i := 12) sc_law.nd rfl (.inl rfl) (pe_lst pa_nil))
    (pss_cons (ps_for PassesOwn.never rfl (pi_list (pv 11)) (pg_name (i := 13) sc_law.nd rfl (.inr rfl)) (pss_one (ps_expr (pe_bm PySem.F.plainAttrs_list PySem.F.slot_list_append PySem.F.type_list_append mt_append (pv 12) (pa_cons (pe_tup (pa_cons (pe_op op_add
        (pe_callB cr_len (by rfl) B.len PySem.boot_len (pa_cons (pe_lc (own := [("_law_one", 15)]) (g := gName 15) rfl sc_law.nd (pi_range1 (by rfl) B.range (pa_cons (pv 3) pa_nil)) (blkOk_by (N := NL) (sc := defScope (topS 50)) (by decide +kernel)) (fun _ _ _ _ _ => pg_name (i := 15) sc_law.nd rfl (.inl rfl) (.inr rfl)) (fun _ _ _ _ _ => pts_one (pt_cmpR op_ne (pe_ix (kx_ixT K) (pv 13) (pv 15) (fun _ _ => rfl)) (pe_ix (kx_ixT K) (pv 4) (pv 15) (fun _ _ => rfl)) (nomark _))) (fun _ _ _ _ _ => pv 15)) pa_nil))
        (pe_callB cr_len (by rfl) B.len PySem.boot_len (pa_cons (pe_lc (own := [("_law_one", 15)]) (g := gName 15) rfl sc_law.nd (pi_range1 (by rfl) B.range (pa_cons (pv 3) pa_nil)) (blkOk_by (N := NL) (sc := defScope (topS 50)) (by decide +kernel)) (fun _ _ _ _ _ => pg_name (i := 15) sc_law.nd rfl (.inl rfl) (.inr rfl)) (fun _ _ _ _ _ => pts_one (pt_cmpR op_ne (pe_ix (kx_ixT K) (pv 13) (pv 15) (fun _ _ => rfl)) (pe_ix (kx_ixT K) (pv 5) (pv 15) (fun _ _ => rfl)) (nomark _))) (fun _ _ _ _ _ => pv 15)) pa_nil)))
        (pa_cons (pv 13) pa_nil))) pa_nil)))))
    (pss_cut (ps_if (pt_not (pt_val (pe_gf G.alike (hr.mono (by decide)) (by rfl) (pa_cons
        (lamcall1 (k := 5) (TT := TTE CN) (Ng := ["_law_work", "e"]) (a := "_law_work") (t := fun E => tCall (spNear K CN) [] E (tCons (tVar 2) (tCons (tVar 4) (tCons (tVar 5) tNil)))) (by rfl) gT kT lkT hcT bT sc_told rfl (.inl rfl) (fun q => told_givesE B hme hmn hx hk C) TB rfl hr
          (LamX.lamS_by (sc := defScope (topS 50)) (by decide +kernel)) rfl (fun _ _ _ _ _ => rfl) (fun A outer s H E f c' hr2 => pe_call GN hr2 (by rfl) gN kN bN .nil (passes_call (takes_of rfl rfl rfl rfl) fun _ _ _ _ h => h) (pa_cons (pv 2) (pa_cons (pv 4) (pa_cons (pv 5) pa_nil)))))
        (pa_cons (pe_ifExp (pt_cmpR (op_neD hr.units) (pv 12) (pe_lst pa_nil) (nomark _)) (pe_callB (cr_minD rfl) (by rfl) B.min (by decide +kernel) (pa_cons (pv 12) pa_nil)) pe_non) pa_nil))))) (pss_one (ps_ret pe_bl)) pss_nil)
    (pss_cons (ps_asg (pe_tup (pa_cons (pe_gf G.pick (hr.mono (by decide)) (by rfl) (pa_cons (pv 1) (pa_cons (pv 6) pa_nil))) (pa_cons (pe_gf G.pick (hr.mono (by decide)) (by rfl) (pa_cons (pv 1) (pa_cons (pv 6) pa_nil))) pa_nil))) (pg_tup rfl (pgs_cons (pg_name (i := 13) sc_law.nd rfl (.inr rfl)) (pgs_cons (pg_name (i := 14) sc_law.nd rfl (.inr rfl)) pgs_nil))))
    (pss_cons (ps_if (pt_not (pt_val (pe_gf G.alike (hr.mono (by decide)) (by rfl) (pa_cons (pe_gf G.changed (hr.mono (by decide)) (by rfl) (pa_cons (pv 2) (pa_cons (pv 13) (pa_cons (pv 14) pa_nil)))) (pa_cons (pe_callTy cr_tup (by rfl) B.tuple (by decide +kernel) (pa_cons
        (pe_lc (own := [("_law_one", 15)]) (g := gName 15) rfl sc_law.nd (pi_range1 (by rfl) B.range (pa_cons (pv 3) pa_nil)) (blkOk_by (N := NL) (sc := defScope (topS 50)) (by decide +kernel)) (fun _ _ _ _ _ => pg_name (i := 15) sc_law.nd rfl (.inl rfl) (.inr rfl)) (fun _ _ _ _ _ => pts_one (pt_cmpR op_ne (pe_ix (kx_ixT K) (pv 13) (pv 15) (fun _ _ => rfl)) (pe_ix (kx_ixT K) (pv 14) (pv 15) (fun _ _ => rfl)) (nomark _))) (fun _ _ _ _ _ => pv 15)) pa_nil)) pa_nil))))) (pss_one (ps_ret pe_bl)) pss_nil)
    (pss_one (ps_ret (pe_gf G.alike (hr.mono (by decide)) (by rfl) (pa_cons (pe_gf G.count (hr.mono (by decide)) (by rfl) (pa_cons (pv 2) (pa_cons (pv 13) pa_nil))) (pa_cons (pe_callB cr_len (by rfl) B.len PySem.boot_len (pa_cons
        (pe_lc (own := [("_law_one", 15)]) (g := gName 15) rfl sc_law.nd (pi_list (pe_gf G.states (hr.mono (by decide)) (by rfl) (pa_cons (pv 2) pa_nil))) (blkOk_by (N := NL) (sc := defScope (topS 50)) (by decide +kernel)) (fun _ _ _ _ _ => pg_name (i := 15) sc_law.nd rfl (.inr rfl) (.inl rfl))
          (fun _ _ _ _ _ => pts_one (pt_cmpR op_ge (pe_callB (kc_min K rfl) (by rfl) B.min (by decide +kernel) (pa_cons (pe_lc (own := [("_law_at", 16)]) (g := gName 16) rfl sc_law.nd (pi_range1 (by rfl) B.range (pa_cons (pv 3) pa_nil)) (blkOk_by (N := NL) (sc := relS _ (defScope (topS 50))) (by decide +kernel))
            (fun _ _ _ _ _ => pg_name (i := 16) sc_law.nd rfl (.inl rfl) (.inr rfl)) (fun _ _ _ _ _ => pts_nil) (fun _ _ _ _ _ => pe_op op_sub (pe_ix (kx_ixT K) (pv 15) (pv 16) (fun _ _ => rfl)) (pe_ix (kx_ixT K) (pv 13) (pv 16) (fun _ _ => rfl)))) pa_nil)) pe_int (nomark _))) (fun _ _ _ _ _ => pv 15)) pa_nil)) pa_nil))))))))))))))))))), ?_⟩
  -- the row
  refine ⟨.ref a, rfl, by show 4 ≤ sizeLine; decide, fun r nr => ?_⟩
  have x1 : Ex H (upd H r (.lst [.ref a, .int 0, .int 9038, .int 0])) := Ex.new nr
  have ro1 : RowOk K (upd H r (.lst [.ref a, .int 0, .int 9038, .int 0])) r a ns := ⟨fun z => by
    subst z
    rcases hS with (h | ⟨o, h⟩) | h
    · rw [nr] at h; cases h
    · rw [nr] at h; cases h
    · exact h, ex_l x1 hS, 0, 9038, 0, upd_same, by decide, by decide⟩
  have nPr : PT ≠ r := ne_of_none hPT nr
  have p1 := x1 _ _ hPT
  generalize upd H r (.lst [.ref a, .int 0, .int 9038, .int 0]) = H1 at x1 ro1 p1
  -- the street, two states
  refine ⟨.ref r, rfl, r, a, ns, rfl, ro1, fun n hs sv H2 g b2 ro2 dsv => ?_⟩
  have p2 := b2 _ _ nPr p1
  refine (d_cb (ds_cons (d_st1 (d_var (K := K) (σ := [some (.ref a), some (.ref r), some sv, none, none, none, none, none, none, none, none, none, none, none, none, none, none]) (i := 2) rfl dsv)) ds_nil) rc_lenT) _ (Ex.refl _) _ fun v3 H3 e3 d3 => ?_
  obtain rfl := dp_int d3
  have dsv3 := dp_ex e3 dsv
  have ro3 := ro2.ex e3
  refine ⟨.ref r, rfl, sv, rfl, r, a, ns, n, hs, sv, rfl, ro3, dsv3, g, fun xs xv H4 st1 b4 ro4 dx4 => ?_⟩
  have dsv4 := dp_but b4 ro3.l (nl_St n hs) dsv3
  refine ⟨.ref r, rfl, sv, rfl, r, a, ns, n, hs, sv, rfl, ro4, dsv4, g, fun ys yv H5 st2 b5 ro5 dy5 => ?_⟩
  have dsv5 := dp_but b5 ro4.l (nl_St n hs) dsv4
  have dx5 := dp_but b5 ro4.l (nl_T xs) dx4
  have p5 := b5 _ _ nPr (b4 _ _ nPr (e3 _ _ p2))
  refine ⟨by show 3 ≤ sizeLine; decide, fun tp ntp => ⟨tp, _, rfl, st_of upd_same, rfl, _, _, rfl, _, _, rfl, _, _, rfl, rfl, ?_⟩⟩
  have x6 : Ex H5 (upd H5 tp (.tup [.int ((hs.map PyData.int).length : Int), xv, yv])) := Ex.new ntp
  generalize upd H5 tp (.tup [.int ((hs.map PyData.int).length : Int), xv, yv]) = H6 at x6
  have hx := st_bound st1
  have hy := st_bound st2
  have hl1 := g.l1
  have hl4 := g.l2
  have hm : ((hs.map PyData.int).length : Int) = (xs.length : Int) := by rw [List.length_map]; omega
  generalize ((hs.map PyData.int).length : Int) = m at hm
  have dsv6 := dp_ex x6 dsv5
  -- all rests, a car
  refine ⟨sv, rfl, n, hs, sv, rfl, dsv6, g, fun wv ws H7 nw e7 hw dws nws => ?_⟩
  refine ⟨.ref r, rfl, ?_⟩
  refine (d_cb (ds_cons (d_st1 (d_var (K := K) (σ := [some (.ref a), some (.ref r), some sv, some (.int m), some xv, some yv, none, none, none, none, none, none, none, none, none, none, none]) (i := 2) rfl (dp_ex e7 dsv6))) ds_nil) rc_lenT) _ (Ex.refl _) _ fun v8 H8 e8 d8 => ?_
  obtain rfl := dp_int d8
  have e68 := (x6.trans e7).trans e8
  have ro8 := ro5.ex e68
  refine ⟨r, a, ns, _, rfl, ro8, by rw [List.length_map]; omega, by rw [List.length_map]; omega, fun c0 H9 c1 c2 b9 ro9 => ?_⟩
  rw [List.length_map] at c2
  obtain ⟨c, rfl⟩ := Int.eq_ofNat_of_zero_le c1
  refine ⟨by show 2 ≤ sizeLine; decide, fun tp2 ntp2 => ⟨tp2, _, rfl, st_of upd_same, rfl, _, _, rfl, _, _, rfl, rfl, ?_⟩⟩
  have xA : Ex H9 (upd H9 tp2 (.tup [.ref wv, .int (c : Int)])) := Ex.new ntp2
  generalize upd H9 tp2 (.tup [.ref wv, .int (c : Int)]) = HA at xA
  have nlW : nlAll ((whole hs).map T) = true := nlAll_iff.mpr fun d hd => by
    obtain ⟨_, _, rfl⟩ := List.mem_map.mp hd
    exact nl_T _
  have nwr : wv ≠ r := fun e => by
    obtain ⟨zs, h⟩ := (ro5.ex x6).l
    rw [e, h] at nw
    cases nw
  have roA := ro9.ex xA
  have dsvA := dp_ex xA (dp_but b9 ro8.l (nl_St n hs) (dp_ex e68 dsv5))
  have dxA := dp_ex xA (dp_but b9 ro8.l (nl_T xs) (dp_ex e68 dx5))
  have dyA := dp_ex xA (dp_but b9 ro8.l (nl_T ys) (dp_ex e68 dy5))
  have hwA := xA _ _ (b9 _ _ nwr (e8 _ _ hw))
  have dwsA := dpAll_ex xA (dpAll_but b9 ro8.l nlW (dpAll_ex e8 dws))
  have nwsA : ∀ v ∈ ws, Nd HA v := fun v hv => (((nws v hv).ex e8).but b9 ro8.l).ex xA
  have pA := xA _ _ (b9 _ _ nPr (e68 _ _ p5))
  clear nws dws hw ro8 ro9 ro5 ro4 ro3 ro2 ro1 dsv6 dsv5 dsv4 dsv3 dsv dx4 dx5 dy5 e68 e8 e7 x6 xA b9 b5 b4 b2 e3 d3 d8 p5 p2 p1 x1 nw ntp ntp2
  have hcx : c < hs.length := by omega
  -- some
  have hrlW : ∀ q ∈ whole hs, hs.length = q.length := fun q hq => (rest_stable hq).2.len
  have hsmW : (whole hs).length ≤ 2401 := by
    have := dpAll_len dwsA
    have h2 := build_small (Ls := hs.map fun h => (taken hs).filter fun p => decide (h ≤ p)) (by rw [List.length_map]; exact hl4) (fun L m => by
      obtain ⟨h', _, rfl⟩ := List.mem_map.mp m
      have := List.length_filter_le (fun p => decide (h' ≤ p)) (taken hs)
      rw [taken_len] at this
      omega) (hs.map fun h => (taken hs).filter fun p => decide (h ≤ p)).length
    rw [List.take_length, build_nil] at h2
    exact h2
  have hrs := restsIn_eq hx
  have hRl : ∀ q ∈ restsIn hs xs, hs.length = q.length := fun q hq => by
    rw [hrs] at hq
    exact hrlW q (List.mem_filter.mp hq).1
  have hsmR := restsIn_small (xs := xs) hl4
  have hneR := restsIn_ne st1
  refine DV.q_asg (K := K) (d_some (K := K) (m := m) (ic := 3) (ia := 4) (j := 15) (ir := 13) (il := 6) (rows := whole hs) (xs := xs) (by omega) rfl (.lst (sq_of hwA) dwsA) (fun q hq => by have := hrlW q hq; omega) (by omega) (by omega) hm dxA (fun _ => rfl) (fun _ => rfl) (fun _ => rfl) (fun _ _ => rfl) (fun _ _ => rfl) (fun _ _ => rfl) (fun _ _ => rfl)) fun sm H1 e1 dsm => ?_
  rw [← hrs] at dsm
  -- the nearest and the farthest
  obtain ⟨p0, hp0, hpl0⟩ := least_ex (ps := (restsIn hs xs).map (byCar c 1)) (by simpa using hneR)
  obtain ⟨r0, hr0, rfl⟩ := List.mem_map.mp hp0
  have hl0 : ∀ s ∈ restsIn hs xs, ¬ ltP (byCar c 1 s) (byCar c 1 r0) := fun s hs => hpl0 _ (List.mem_map_of_mem hs)
  obtain ⟨p1, hp1, hpl1⟩ := least_ex (ps := (restsIn hs xs).map (byCar c (-1))) (by simpa using hneR)
  obtain ⟨r1, hr1, rfl⟩ := List.mem_map.mp hp1
  have hl1' : ∀ s ∈ restsIn hs xs, ¬ ltP (byCar c (-1) s) (byCar c (-1) r1) := fun s hs => hpl1 _ (List.mem_map_of_mem hs)
  clear hp0 hpl0 hp1 hpl1
  have near_le : ∀ s ∈ restsIn hs xs, r0.getD c 0 ≤ s.getD c 0 := fun s hs => by
    have := hl0 s hs
    unfold DV.ltP byCar at this
    dsimp only at this
    omega
  have far_le : ∀ s ∈ restsIn hs xs, s.getD c 0 ≤ r1.getD c 0 := fun s hs => by
    have := hl1' s hs
    unfold DV.ltP byCar at this
    dsimp only at this
    omega
  have lcCar : EvD K (tLc (iList K (tVar 8)) (gName 13) tYes (tOp (rIxT K) (tVar 13) (tVar 7)) [13]) [some (.ref a), some (.ref r), some sv, some (.int m), some xv, some yv, some (.ref wv), some (.int (c : Int)), some sm, none, none, none, none, none, none, none, none] H1 (LI ((restsIn hs xs).map fun q => q.getD c 0)) := by
    refine EvD.is (d_lcA (xs := restsIn hs xs) (enc := T) (fun q => .int (q.getD c 0)) (ei_l (d_var rfl dsm)) (by omega) (fun _ _ => rfl) (fun _ => rfl) fun q hq v H2 e2 dv => d_ixI (d_var rfl dv) (d_var rfl (.int (c : Int))) rfl (getD_of (by have := hRl q hq; omega))) ?_
    unfold LI
    rw [List.map_map]
    rfl
  refine q_asgP (K := K) (x := .int (r0.getD c 0)) (y := .int (r1.getD c 0)) (d_tup (ds_cons (d_cb (ds_cons lcCar ds_nil) (rc_min (List.mem_map_of_mem (f := fun q : List Int => q.getD c 0) hr0) fun y hy => by
      obtain ⟨q, hq, rfl⟩ := List.mem_map.mp hy
      exact near_le q hq)) (ds_cons (d_cb (ds_cons lcCar ds_nil) (rc_max (List.mem_map_of_mem (f := fun q : List Int => q.getD c 0) hr1) fun y hy => by
      obtain ⟨q, hq, rfl⟩ := List.mem_map.mp hy
      exact far_le q hq)) ds_nil)) (by show 2 ≤ 100000; decide)) fun u9 u10 H2 e2 d9 d10 => ?_
  have eA2 := e1.trans e2
  have dsm2 := dp_ex e2 dsm
  -- best_for
  have due : ∀ (A' : Around) (_ : A'.units + 8 < cLine) (sl : Nat) (uv : V) (r' : List Int) (H3 : Hp), Ex H2 H3 → Dp K H3 uv (.int (r'.getD c 0)) → r' ∈ restsIn hs xs → (∀ q ∈ restsIn hs xs, q.getD c 0 = r'.getD c 0 → ¬ q < r') → sl = 9 ∧ uv = u9 ∨ sl = 10 ∧ uv = u10 →
      EvD K (tTup (tCons (tVar sl) (tCons (tCB (rMinD K A') (tCons (tLc (iList K (tVar 8)) (gName 13) (tTest (tOp rEq (tOp (rIxT K) (tVar 13) (tVar 7)) (tVar sl))) (tVar 13) [13]) tNil)) tNil)))
        [some (.ref a), some (.ref r), some sv, some (.int m), some xv, some yv, some (.ref wv), some (.int (c : Int)), some sm, some u9, some u10, none, none, none, none, none, none] H3 (P2 (r'.getD c 0, r')) := fun A' hu sl uv r' H3 e3 duv hr' hlr hsl => by
    have hsv : ∀ x13 : Option V, ([some (.ref a), some (.ref r), some sv, some (.int m), some xv, some yv, some (.ref wv), some (.int (c : Int)), some sm, some u9, some u10, none, none, x13, none, none, none] : L2.St)[sl]? = some (some uv) := fun x13 => by
      rcases hsl with ⟨rfl, rfl⟩ | ⟨rfl, rfl⟩ <;> rfl
    refine d_tup (ds := [.int (r'.getD c 0), T r']) (ds_cons (d_var (hsv _) duv) (ds_cons (d_cb (ds_cons (EvD.is (d_lcN (xs := restsIn hs xs) (enc := T) (fun q => decide (q.getD c 0 = r'.getD c 0)) T (ei_l (d_var rfl (dp_ex e3 dsm2))) (by omega) (fun _ _ _ => nl_T _) (fun _ => rfl)
      (fun q hq v H4 e4 dv => t_T (d_op (d_ixI (d_var rfl dv) (d_var rfl (.int (c : Int))) rfl (getD_of (by have := hRl q hq; omega))) (d_var (hsv _) (dp_ex e4 duv)) rd_eqI)) fun q _ _ v H4 e4 dv => d_var rfl dv) (e := .list (((restsIn hs xs).filter fun q => decide (q.getD c 0 = r'.getD c 0)).map T)) rfl) ds_nil)
      (rc_minR (d := T r') ?_ hu fun p hp hpl => ?_)) ds_nil)) (by show 2 ≤ 100000; decide)
    · exact List.length_pos_of_mem (List.mem_filter.mpr ⟨hr', decide_eq_true rfl⟩)
    · obtain ⟨h1, h2⟩ := List.mem_filter.mp hp
      have h2 := of_decide_eq_true h2
      rw [rows_total (hlr p h1 h2) (hpl r' (List.mem_filter.mpr ⟨hr', decide_eq_true rfl⟩))]
  refine q_pass (et_is (et_not (t_B (b := true) (d_call (ds_cons (d_call (ds_cons (d_var rfl (dp_ex eA2 dsvA)) (ds_cons (d_var rfl (dp_ex eA2 dxA)) (ds_cons (d_var rfl (.int (c : Int))) ds_nil))) ⟨n, hs, xs, c, r0, rfl, g, st1, hcx, hr0, hl0, rfl⟩) (ds_cons (due _ (Nat.lt_of_le_of_lt (Nat.add_le_add_left (by decide : 8 ≤ 64) _) hr.units) 9 u9 r0 H2 (Ex.refl _) d9 hr0 (fun q hq he hlt => hl0 q hq (.inr ⟨by unfold byCar; dsimp only; omega, hlt⟩)) (.inl ⟨rfl, rfl⟩)) ds_nil)) (ra_P2 (r0.getD c 0, r0) (by have := hRl r0 hr0; show r0.length ≤ 10000; omega))))) rfl) fun H3 e3 => ?_
  have eA3 := eA2.trans e3
  refine q_pass (et_is (et_not (t_B (b := true) (d_call (ds_cons (d_call (ds_cons (d_var rfl (dp_ex eA3 dsvA)) (ds_cons (d_var rfl (dp_ex eA3 dxA)) (ds_cons (d_var rfl (.int (c : Int))) ds_nil))) ⟨n, hs, xs, c, r1, rfl, g, st1, hcx, hr1, hl1', rfl⟩) (ds_cons (due _ (Nat.lt_of_le_of_lt (Nat.add_le_add_left (by decide : 8 ≤ 64) _) hr.units) 10 u10 r1 H3 e3 (dp_ex e3 d10) hr1 (fun q hq he hlt => hl1' q hq (.inr ⟨by unfold byCar; dsimp only; omega, hlt⟩)) (.inr ⟨rfl, rfl⟩)) ds_nil)) (ra_P2 (r1.getD c 0, r1) (by have := hRl r1 hr1; show r1.length ≤ 10000; omega))))) rfl) fun H4 e4 => ?_
  have eA4 := eA3.trans e4
  have dsm4 := dp_ex (e3.trans e4) dsm2
  clear due lcCar
  -- both
  have hB : (restsIn hs xs).filter (below ys) = restsIn hs (List.zipWith min xs ys) := by
    rw [hrs]
    exact both_eq hx hy
  refine DV.q_asg (K := K) (d_some (K := K) (σ := [some (.ref a), some (.ref r), some sv, some (.int m), some xv, some yv, some (.ref wv), some (.int (c : Int)), some sm, some u9, some u10, none, none, none, none, none, none]) (m := m) (ic := 3) (ia := 5) (j := 15) (ir := 13) (il := 8) (rows := restsIn hs xs) (xs := ys) (by omega) rfl dsm4 (fun q hq => by have := hRl q hq; omega) (by omega) (by omega) (by omega) (dp_ex eA4 dyA) (fun _ => rfl) (fun _ => rfl) (fun _ => rfl) (fun _ _ => rfl) (fun _ _ => rfl) (fun _ _ => rfl) (fun _ _ => rfl)) fun bv H5 e5 dbv => ?_
  rw [hB] at dbv
  have hml : hs.length = (List.zipWith min xs ys).length := by rw [List.length_zipWith]; omega
  have hsmB := restsIn_small (xs := List.zipWith min xs ys) hl4
  have hBl : ∀ q ∈ restsIn hs (List.zipWith min xs ys), q.length = hs.length := fun q hq => len_rest hml hq
  have eA5 := eA4.trans e5
  refine q_pass (et_is (et_not (t_B (b := true) (d_call (ds_cons (d_call (ds_cons (d_var rfl (dp_ex eA5 dsvA)) (ds_cons (d_var rfl (dp_ex eA5 dxA)) (ds_cons (d_var rfl (dp_ex eA5 dyA)) ds_nil))) ⟨n, hs, xs, ys, rfl, g, st1, st2, rfl⟩) (ds_cons (d_var rfl dbv) ds_nil)) (ra_LT2 _ (by omega) fun q hq => by have := hBl q hq; omega)))) rfl) fun H6 e6 => ?_
  have eA6 := eA5.trans e6
  have dbv6 := dp_ex e6 dbv
  obtain ⟨ba, bws, rfl, hba, dbws⟩ := dp_lst (ds := (restsIn hs (List.zipWith min xs ys)).map T) dbv6
  obtain ⟨bs, hbs⟩ : ∃ bs, restsIn hs (List.zipWith min xs ys) = bs := ⟨_, rfl⟩
  rw [hbs] at dbws hsmB hBl
  have hbl : bws.length = bs.length := by rw [dpAll_len dbws, List.length_map]
  clear dbv dbv6 hB
  -- what is told
  refine q_asgL (el_lst ea_nil (by decide)) fun tl H7 ntl e7 h7 => ?_
  have nlP : ∀ ps : List (Int × List Int), nlAll (ps.map P2) = true := fun ps => nlAll_iff.mpr fun d hd => by
    obtain ⟨p, _, rfl⟩ := List.mem_map.mp hd
    unfold P2
    rw [nl, nlAll, nlAll, nlAll, nl_T]
    rfl
  refine q_forL (xs := bws) (ev_var rfl) (ex_l e7 hba) (fun i σ' H' => ∃ (y13 : Option V) (us : List V), σ' = [some (.ref a), some (.ref r), some sv, some (.int m), some xv, some yv, some (.ref wv), some (.int (c : Int)), some sm, some u9, some u10, some (.ref ba), some (.ref tl), y13, none, none, none] ∧ Ex H6 H' ∧ H' tl = some (.lst us) ∧ DpAll K H' us (((bs.take i).map (near xs ys)).map P2))
    (fun H8 e8 => ⟨none, [], rfl, e7.trans e8, e8 _ _ h7, .nil⟩) (fun i σ' H' _ pv => ?_) (fun i v σ' H' hv pv => ?_) fun σ' H' pv => ?_
  · obtain ⟨_, _, _, e8, _⟩ := pv
    exact ex_l e8 hba
  · obtain ⟨y13, us, rfl, e8, htl, dus⟩ := pv
    have hbi : i < bs.length := by have := get_lt hv; omega
    have hq : bs[i]? = some bs[i] := List.getElem?_eq_getElem hbi
    generalize bs[i] = q1 at hq
    have hq1 := hBl q1 (List.mem_of_getElem? hq)
    have dv : Dp K H' v (T q1) := dp_ex e8 (dp_at dbws hv (get_map hq))
    have eA8 := eA6.trans e8
    have l1 := d_cb (ds_cons (d_unl (K := K) (σ := [some (.ref a), some (.ref r), some sv, some (.int m), some xv, some yv, some (.ref wv), some (.int (c : Int)), some sm, some u9, some u10, some (.ref ba), some (.ref tl), some v, none, none, none]) (H := H') (m := m) (ic := 3) (ia := 13) (ib := 4) (j := 15) (as := q1) (bs := xs) rfl (by omega) (by omega) (by omega) dv (dp_ex eA8 dxA) (fun _ => rfl) (fun _ => rfl) (fun _ => rfl) (fun _ => rfl)) ds_nil) rc_lenL
    have l2 := d_cb (ds_cons (d_unl (K := K) (σ := [some (.ref a), some (.ref r), some sv, some (.int m), some xv, some yv, some (.ref wv), some (.int (c : Int)), some sm, some u9, some u10, some (.ref ba), some (.ref tl), some v, none, none, none]) (H := H') (m := m) (ic := 3) (ia := 13) (ib := 5) (j := 15) (as := q1) (bs := ys) rfl (by omega) (by omega) (by omega) dv (dp_ex eA8 dyA) (fun _ => rfl) (fun _ => rfl) (fun _ => rfl) (fun _ => rfl)) ds_nil) rc_lenL
    rw [List.length_map] at l1 l2
    rw [unl_comm (by omega : q1.length = xs.length)] at l1
    rw [unl_comm (by omega : q1.length = ys.length)] at l2
    refine ⟨.ref tl, rfl, .inl ⟨rfl, _, sq_of htl⟩, ?_⟩
    refine (d_tup (ds := [.int (near xs ys q1).1, T q1]) (ds_cons (d_op l1 l2 rd_i) (ds_cons (d_var rfl dv) ds_nil)) (by show 2 ≤ 100000; decide)) H' (Ex.refl _) _ fun pv2 H9 e9 dp9 => ?_
    have htl9 := e9 _ _ htl
    refine ⟨tl, us, pv2, rfl, rfl, htl9, sz_lt ?_, some v, us ++ [pv2], rfl, Ex.mut (e8.trans e9) ntl, upd_same, ?_⟩
    · rw [dpAll_len dus, List.length_map, List.length_map, List.length_take]
      omega
    · rw [take_succ' hq, List.map_append, List.map_append]
      exact dpAll_app (dpAll_but (But.upd (a := tl)) ⟨us, htl9⟩ (nlP _) (dpAll_ex e9 dus)) (.cons (dp_but (But.upd (a := tl)) ⟨us, htl9⟩ (nlAll_iff.mp (nlP [near xs ys q1]) _ (List.mem_singleton.mpr rfl)) dp9) .nil)
  obtain ⟨y13, us, rfl, e8, htl, dus⟩ := pv
  rw [hbl, List.take_length] at dus
  have eT := eA6.trans e8
  clear e8 e7 h7 ntl e6 e5 e4 e3 e2 e1 eA6 eA5 eA4 eA3 eA2
  -- told
  refine q_cut (M := fun σ' H'' => σ' = [some (.ref a), some (.ref r), some sv, some (.int m), some xv, some yv, some (.ref wv), some (.int (c : Int)), some sm, some u9, some u10, some (.ref ba), some (.ref tl), y13, none, none, none] ∧ LamX.ExtN H' H'') ?_ fun σ' H'' hM => ?_
  · have tst : ∀ H2, LamX.ExtN H' H2 → EvT (tTest (tOp (rNeD K) (tVar 12) (tLst tNil))) [some (.ref a), some (.ref r), some sv, some (.int m), some xv, some yv, some (.ref wv), some (.int (c : Int)), some sm, some u9, some u10, some (.ref ba), some (.ref tl), y13, none, none, none] H2 (!decide (bs.map (near xs ys) = [])) := fun H2 eN2 => by
      refine et_is (t_T (d_op (d_var rfl (dp_extn eN2 (.lst (sq_of htl) dus))) (d_lst ds_nil (by decide)) (rd_neD (shaped_LP _) rfl))) ?_
      rw [eqv_nilP]
    refine ⟨fun p hp => by rw [List.mem_singleton.mp hp]; exact LamX.TabS.nil (eT _ _ pA), fun H1 eN T1 => ⟨sv, rfl, xv, rfl, yv, rfl, n, hs, xs, ys, .cons (dp_extn eN (dp_ex eT dsvA)) (.cons (dp_extn eN (dp_ex eT dxA)) (.cons (dp_extn eN (dp_ex eT dyA)) .nil)), g, st1, st2, fun hnil H2 e2 => ⟨rfl, rfl, ?_⟩, fun q1 hq hql v H2 e2 dv => ?_⟩⟩
    · have eN2 := eN.trans (LamX.ExtN.of e2)
      rw [hbs] at hnil
      refine alike_end (E := E0) (d := .none) .non (d_if (b := false) (et_is (tst H2 eN2) (by rw [hnil]; rfl)) (fun h => nomatch h) fun _ => d_non) ra_non2 fun H3 e3 => ⟨true, rfl, rfl, eN2.trans (LamX.ExtN.of e3)⟩
    · have eN2 := eN.trans (LamX.ExtN.of e2)
      rw [hbs] at hq hql
      have hmem : near xs ys q1 ∈ bs.map (near xs ys) := List.mem_map_of_mem hq
      refine alike_end (E := E0) (d := P2 (near xs ys q1)) dv (d_if (b := true) (et_is (tst H2 eN2) (by rw [decide_eq_false (List.ne_nil_of_mem hmem)]; rfl)) (fun _ => d_cb (ds_cons (d_var rfl (dp_extn eN2 (.lst (sq_of htl) dus))) ds_nil)
        (rc_minP (List.length_pos_of_mem hmem) (Nat.lt_of_le_of_lt (Nat.add_le_add_left (by decide : 8 ≤ 64) _) hr.units) fun p hp hpl => ?_)) fun h => nomatch h) (ra_P2 (near xs ys q1) (by have := hBl q1 hq; show q1.length ≤ 10000; omega)) fun H3 e3 => ⟨true, rfl, rfl, eN2.trans (LamX.ExtN.of e3)⟩
      obtain ⟨s', hs', rfl⟩ := List.mem_map.mp hp
      rw [ltP_total (hpl _ hmem) (hql s' hs')]
  obtain ⟨rfl, eN⟩ := hM
  clear htl dus
  -- two rests
  have roD := (roA.ex eT).extn eN
  have hwD : H'' wv = some (.lst ws) := eN _ _ (eT _ _ hwA) (fun _ z => nomatch z)
  have dwsD := dpAll_extn eN (dpAll_ex eT dwsA)
  have nwsD : ∀ v ∈ ws, Nd H'' v := fun v hv => Nd.extn eN ((nwsA v hv).ex eT)
  have dsvD := dp_extn eN (dp_ex eT dsvA)
  have hwl : ws.length = (whole hs).length := by rw [dpAll_len dwsD, List.length_map]
  have wpos : 0 < ws.length := by
    rw [hwl]
    have h := hr0
    rw [hrs] at h
    exact List.length_pos_of_mem (List.mem_filter.mp h).1
  refine ⟨.ref r, rfl, .ref wv, rfl, r, a, ns, wv, ws, rfl, roD, sq_of hwD, nwr, wpos, by omega, fun k1 v1 H2' hk1 b2 ro2 => ⟨.ref r, rfl, .ref wv, rfl, r, a, ns, wv, ws, rfl, ro2, sq_of (b2 _ _ nwr hwD), nwr, wpos, by omega, fun k2 v2 H3' hk2 b3 ro3 => ⟨by show 2 ≤ sizeLine; decide, fun tp ntp => ⟨tp, _, rfl, st_of upd_same, rfl, _, _, rfl, _, _, rfl, rfl, ?_⟩⟩⟩⟩
  have xE : Ex H3' (upd H3' tp (.tup [v1, v2])) := Ex.new ntp
  generalize upd H3' tp (.tup [v1, v2]) = HE at xE
  have hk1' : k1 < (whole hs).length := by have := get_lt hk1; omega
  have hk2' : k2 < (whole hs).length := by have := get_lt hk2; omega
  have hq1 : (whole hs)[k1]? = some (whole hs)[k1] := List.getElem?_eq_getElem hk1'
  have hq2 : (whole hs)[k2]? = some (whole hs)[k2] := List.getElem?_eq_getElem hk2'
  generalize (whole hs)[k1] = q1 at hq1
  generalize (whole hs)[k2] = q2 at hq2
  have m1 := List.mem_of_getElem? hq1
  have m2 := List.mem_of_getElem? hq2
  have w1 := hrlW q1 m1
  have w2 := hrlW q2 m2
  have s1 := rest_state st1 m1
  have s2 := rest_state st1 m2
  have dv1 := dp_ex xE (dp_but b3 ro2.l (nl_T q1) (dp_but b2 roD.l (nl_T q1) (dp_at dwsD hk1 (get_map hq1))))
  have dv2 := dp_ex xE (dp_but b3 ro2.l (nl_T q2) (dp_but b2 roD.l (nl_T q2) (dp_at dwsD hk2 (get_map hq2))))
  have dsvE := dp_ex xE (dp_but b3 ro2.l (nl_St n hs) (dp_but b2 roD.l (nl_St n hs) dsvD))
  have nd1 : Nd HE v1 := (((nwsD v1 (List.mem_of_getElem? hk1)).but b2 roD.l).but b3 ro2.l).ex xE
  have nd2 : Nd HE v2 := (((nwsD v2 (List.mem_of_getElem? hk2)).but b2 roD.l).but b3 ro2.l).ex xE
  have hul : (unl q1 q2).length ≤ 4 := by
    unfold unl
    rw [List.length_map]
    have := List.length_filter_le (fun i => !decide (q1.getD i 0 = q2.getD i 0)) (List.range q1.length)
    rw [List.length_range] at this
    omega
  refine q_pass (et_is (et_not (t_B (b := true) (d_call (ds_cons (d_callX (ea_cons (ev_var rfl) (ea_cons (ev_var rfl) (ea_cons (ev_var rfl) ea_nil))) (.cons dsvE (.cons dv1 (.cons dv2 .nil))) (fun H9 e9 => ⟨v1, v2, rfl, rfl, nd1.ex e9, nd2.ex e9⟩) ⟨n, hs, q1, q2, rfl, g, s1, m1, s2, m2, rfl⟩)
    (ds_cons (d_cb (ds_cons (d_unl (K := K) (σ := [some (.ref a), some (.ref r), some sv, some (.int m), some xv, some yv, some (.ref wv), some (.int (c : Int)), some sm, some u9, some u10, some (.ref ba), some (.ref tl), some v1, some v2, none, none]) (H := HE) (m := m) (ic := 3) (ia := 13) (ib := 14) (j := 15) (as := q1) (bs := q2) rfl (by omega) (by omega) (by omega) dv1 dv2 (fun _ => rfl) (fun _ => rfl) (fun _ => rfl) (fun _ => rfl)) ds_nil) rc_tupL) ds_nil)) (ra_T2 (unl q1 q2) (by omega))))) rfl) fun H9 e9 => ?_
  have dv1' := dp_ex e9 dv1
  have dsv9 := dp_ex e9 dsvE
  have hst : (PM.states n hs).length ≤ 2401 := by
    have h2 := build_small (Ls := hs.map fun h => rangeL h n) (by rw [List.length_map]; exact hl4) (fun L mm => by
      obtain ⟨h', mh, rfl⟩ := List.mem_map.mp mm
      have := g.hb h' mh
      have := g.n2
      rw [rangeL_len]
      omega) (hs.map fun h => rangeL h n).length
    rw [List.take_length, build_nil] at h2
    exact h2
  have lcS : EvD K (tLc (iList K (tCall (spP K R_all_states) [] E0 (tCons (tVar 2) tNil))) (gName 15) (tTest (tOp (rI0 fun i j => .bl (decide (j ≤ i))) (tCB (rMin K) (tCons (tLc (iRng1 (tCons (tVar 3) tNil)) (gName 16) tYes (tOp (rI0 fun i j => .int (i - j)) (tOp (rIxT K) (tVar 15) (tVar 16)) (tOp (rIxT K) (tVar 13) (tVar 16))) [16]) tNil)) (tC (.int 0)))) (tVar 15) [15]) [some (.ref a), some (.ref r), some sv, some (.int m), some xv, some yv, some (.ref wv), some (.int (c : Int)), some sm, some u9, some u10, some (.ref ba), some (.ref tl), some v1, some v2, none, none] H9 (.list (((PM.states n hs).filter (above q1)).map T)) := by
    refine EvD.is (d_lcN (xs := PM.states n hs) (enc := T) (above q1) T (ei_l (d_call (ds_cons (d_var rfl dsv9) ds_nil) ⟨n, hs, rfl, g, rfl⟩)) (by omega) (fun _ _ _ => nl_T _) (fun _ => rfl) (fun o ho v H10 e10 dv => ?_) fun o _ _ v H10 e10 dv => d_var rfl dv) rfl
    have hol : hs.length = o.length := by
      have h1 := (mem_ext0.mp ho).1
      rw [List.length_map] at h1
      exact h1
    refine et_is (d_minge ?_ (d_diffs (K := K) (m := m) (ic := 3) (ia := 15) (ib := 13) (j := 16) (as := o) (bs := q1) rfl (by omega) (by omega) (by omega) dv (dp_ex e10 dv1') (fun _ => rfl) (fun _ => rfl) (fun _ => rfl) (fun _ => rfl))) ?_
    · intro z
      have := congrArg List.length z
      rw [List.length_map, List.length_range] at this
      have z0 : o.length = 0 := this
      omega
    · rw [← above_diffs (by omega : q1.length = o.length), show o.length = q1.length by omega]
  have ln := d_cb (ds_cons lcS ds_nil) rc_lenL
  rw [List.length_map, above_count s1 (desc_perm q1) (desc_ge q1)] at ln
  refine DV.s_ret (K := K) (d_call (ds_cons (d_callX (ea_cons (ev_var rfl) (ea_cons (ev_var rfl) ea_nil)) (.cons dsv9 (.cons dv1' .nil)) (fun H10 e10 => ⟨v1, rfl, (nd1.ex e9).ex e10⟩) ⟨n, hs, q1, rfl, g, s1, m1, rfl⟩) (ds_cons ln ds_nil)) (ra_int2 _)) fun v H10 e10 dv => ?_
  rw [dp_bool dv]
  exact q H10
end
end DF

set_option Elab.async false
set_option linter.all false
set_option maxRecDepth 100000
set_option maxHeartbeats 4000000
/-! the law's promise; what the top has left -/
namespace DF
open PySem PySem.Spec PyProof.Rows L2 Evl R1 StX PM DV
/-- a def as the top has left it -/
def DefT (K : PySem.W.Frag) (x : Str) (st : Stmt) : Prop := ∃ (f : Addr) (oc : Value) (od : Option Addr) (kV dc pm cd ct : Value) (an : Option Addr) (sl : Array (Option Value)),
  PySem.W.nsIn K mainGlobals x = some (some (.ref f)) ∧ K.lookup f = some ⟨oc, od, .func (PySem.W.fnOf x x (defArgs st) (defBody st) (defScope st) .none kV dc pm an cd ct), sl⟩ ∧ PySem.W.codeIn K cd x = true ∧ PySem.W.keepIn K (.ref f) = true
theorem dft {K : PySem.W.Frag} {x : Str} {st : Stmt} {f : Addr} {oc : Value} {od : Option Addr} {kV dc pm cd ct : Value} {an : Option Addr} {sl : Array (Option Value)} (a : PySem.W.nsIn K mainGlobals x = some (some (.ref f)))
    (l : K.lookup f = some ⟨oc, od, .func (PySem.W.fnOf x x (defArgs st) (defBody st) (defScope st) .none kV dc pm an cd ct), sl⟩) (c : PySem.W.codeIn K cd x = true) (k : PySem.W.keepIn K (.ref f) = true) : DefT K x st := ⟨f, oc, od, kV, dc, pm, cd, ct, an, sl, a, l, c, k⟩
/-- a promise kept under its name -/
theorem gf_of {P : Program} {w : World} {K : PySem.W.Frag} {mg : Str → Option Value} {base h : Heap} {x : Str} {st : Stmt} {k : Nat} {ps : List Str} {sp : Sp} (X : K.In h) (G : h.Ns mainGlobals mg) (D : DefT K x st)
    (hb : ∀ (kV doc pm : Value) (an : Option Addr) (cdv ct : Value) (us : List Value), us.length = ps.length → bindArgs (PySem.W.fnOf x x (defArgs st) (defBody st) (defScope st) .none kV doc pm an cdv ct) ⟨us, []⟩ = pure (ps.zip us))
    (ok : ∀ f fd, mg x = some (.ref f) → PySem.W.keepIn K (.ref f) = true → L2.Binds K fd ps [] → Fun K x x st f fd → FnOk P w K mg base CX0 k f fd ps sp) : GF P w K mg base k x ps sp := by
  obtain ⟨f, oc, od, kV, dc, pm, cd, ct, an, sl, a, l, c, kp⟩ := D
  have F := fun_mk (st := st) l c kp
  have hm := PySem.W.mg_of X G a
  exact ⟨f, _, ok f _ hm kp (F.binds hb) F, hm, kp, F.binds hb⟩
theorem ok_law {P : Program} {w : World} {K : PySem.W.Frag} {mg : Str → Option Value} {base : Heap} (B : Blt mg) (G : Gs P w K mg base) {CS CN PT cL fa g fN : Addr} {fdN : FuncData} {kV doc pm cdv ct oc kVL docL pmL ctL ocL : Value} {an od anL odL : Option Addr} {osl oslL : Array (Option Value)}
    (lkL : K.lookup fa = some ⟨ocL, odL, .func (PySem.W.fnOf "law" "law" (defArgs (topS 50)) (defBody (topS 50)) (defScope (topS 50)) .none kVL docL pmL anL (.ref cL) ctL), oslL⟩) (hcL : PySem.W.codeIn K (.ref cL) "law" = true)
    (gT : mg "_law_told" = some (.ref g)) (kT : PySem.W.keepIn K (.ref g) = true) (lkT : K.lookup g = some ⟨oc, od, .func (PySem.W.fnOf "_law_told" "_law_told" (defArgs (topS 49)) (defBody (topS 49)) (defScope (topS 49)) .none kV doc pm an cdv ct), osl⟩) (hcT : PySem.W.codeIn K cdv "_law_told" = true)
    (bT : L2.Binds K (PySem.W.fnOf "_law_told" "_law_told" (defArgs (topS 49)) (defBody (topS 49)) (defScope (topS 49)) .none kV doc pm an cdv ct) ["_law_work"] [])
    (hme : mg "StreetError" = some (.ref CS)) (hmn : mg "NotMade" = some (.ref CN)) (hx : PySem.W.exmOne K (.ref CN) (.ref CS) = some true) (hk : PySem.W.kitOne K (.ref CN) (.ref CN) = some true) (C : ExcC K CN) (TB : LamX.TabB base mg cL PT)
    (GN : FnOk P w K mg base (L2.CX P w) 5 fN fdN ["street", "one", "other"] (spNear K CN)) (gN : mg "nearest_common" = some (.ref fN)) (kN : PySem.W.keepIn K (.ref fN) = true) (bN : L2.Binds K fdN ["street", "one", "other"] []) :
    FnOk P w K mg base CX0 8 fa (PySem.W.fnOf "law" "law" (defArgs (topS 50)) (defBody (topS 50)) (defScope (topS 50)) .none kVL docL pmL anL (.ref cL) ctL) ["_law_script"] (spLaw K PT) := by
  refine fn_of lkL hcL sc_law (fun vs H Q E h => by obtain ⟨_, _, rfl, _⟩ := h; rfl) fun A outer s H vs Q E hr hsp => ?_
  obtain ⟨a, ns, rfl, hS, hPT, q⟩ := hsp
  obtain ⟨t, ht, hq⟩ := law_term (A := A) (outer := outer) (s := s) (E := E) B G hr gT kT lkT hcT bT hme hmn hx hk C TB GN gN kN bN Q a ns hS hPT q
  exact ⟨t, ht.nox, hq⟩
theorem gs_mk {P : Program} {w : World} {K : PySem.W.Frag} {mg : Str → Option Value} {base h : Heap} (X : K.In h) (G : h.Ns mainGlobals mg) (B : Blt mg) {t1 t2 t3 : Tok} (m1 : mg "MOST_PLACES" = some (.int 12 t1)) (m2 : mg "MOST_CARS" = some (.int 7 t2)) (m3 : mg "MOST_STATES" = some (.int 20000 t3))
    (D1 : DefT K "is_integer" (topS 1)) (D2 : DefT K "is_in" (topS 2)) (D3 : DefT K "is_list" (topS 3)) (D16 : DefT K "has_room" (topS 16)) (D17 : DefT K "need_street" (topS 17)) (D18 : DefT K "need_places" (topS 18)) (D19 : DefT K "need_state" (topS 19)) (D20 : DefT K "need_car" (topS 20)) (D21 : DefT K "all_states" (topS 21)) (D22 : DefT K "number_of_states" (topS 22)) (D23 : DefT K "states" (topS 23)) (D25 : DefT K "place_in" (topS 25)) (D26 : DefT K "movers_in" (topS 26)) (D28 : DefT K "rest_in" (topS 28)) (D29 : DefT K "need_rest" (topS 29)) (D30 : DefT K "taken_in" (topS 30)) (D32 : DefT K "rests_in" (topS 32)) (D33 : DefT K "unlike" (topS 33)) (D35 : DefT K "best_for" (topS 35)) (D36 : DefT K "worst_for" (topS 36)) (D37 : DefT K "common_rests" (topS 37)) (D39 : DefT K "count_sources" (topS 39)) (D40 : DefT K "changed_cars" (topS 40)) (D42 : DefT K "_law_taken" (topS 42)) (D43 : DefT K "_law_pick" (topS 43)) (D44 : DefT K "_law_alike" (topS 44)) (D45 : DefT K "_law_street" (topS 45)) (D46 : DefT K "_law_state" (topS 46)) (D47 : DefT K "_law_filled" (topS 47)) (D48 : DefT K "_law_rests" (topS 48)) :
    Gs P w K mg base ∧ GF P w K mg base 4 "need_state" ["street", "state"] (spP K R_need_places) ∧ GF P w K mg base 3 "need_places" ["street", "state"] (spP K R_need_places) ∧ GF P w K mg base 2 "rests_in" ["street", "state"] (spP K R_rests_in) ∧ GF P w K mg base 1 "unlike" ["one", "other"] (spP K R_unlike) := by
  have g1 : GF P w K mg base 1 "is_integer" ["value"] (spP K R_is_integer) := gf_of X G D1 (fun _ _ _ _ _ _ us hl => match us, hl with | [_], _ => rfl) fun f fd hm hk hb F => ok_is_integer B F
  have g2 : GF P w K mg base 2 "is_in" ["value", "least", "most"] (spP K R_is_in) := gf_of X G D2 (fun _ _ _ _ _ _ us hl => match us, hl with | [_, _, _], _ => rfl) fun f fd hm hk hb F => ok_is_in F g1
  have g3 : GF P w K mg base 1 "is_list" ["value", "least", "most"] (spP K R_is_list) := gf_of X G D3 (fun _ _ _ _ _ _ us hl => match us, hl with | [_, _, _], _ => rfl) fun f fd hm hk hb F => ok_is_list B F
  have g16 : GF P w K mg base 1 "has_room" ["places", "homes"] (spP K R_has_room) := gf_of X G D16 (fun _ _ _ _ _ _ us hl => match us, hl with | [_, _], _ => rfl) fun f fd hm hk hb F => ok_has_room B F
  have g17 : GF P w K mg base 3 "need_street" ["street"] (spP K R_need_street) := gf_of X G D17 (fun _ _ _ _ _ _ us hl => match us, hl with | [_], _ => rfl) fun f fd hm hk hb F => ok_need_street B F g3 g2 g16 m1 m2
  have g18 : GF P w K mg base 3 "need_places" ["street", "state"] (spP K R_need_places) := gf_of X G D18 (fun _ _ _ _ _ _ us hl => match us, hl with | [_, _], _ => rfl) fun f fd hm hk hb F => ok_need_places B F g3 g2
  have g19 : GF P w K mg base 4 "need_state" ["street", "state"] (spP K R_need_places) := gf_of X G D19 (fun _ _ _ _ _ _ us hl => match us, hl with | [_, _], _ => rfl) fun f fd hm hk hb F => ok_need_state F g17 g18
  have g20 : GF P w K mg base 3 "need_car" ["street", "car"] (spP K R_need_car) := gf_of X G D20 (fun _ _ _ _ _ _ us hl => match us, hl with | [_, _], _ => rfl) fun f fd hm hk hb F => ok_need_car B F g2
  have g21 : GF P w K mg base 1 "all_states" ["street"] (spP K R_all_states) := gf_of X G D21 (fun _ _ _ _ _ _ us hl => match us, hl with | [_], _ => rfl) fun f fd hm hk hb F => ok_all_states B F
  have g22 : GF P w K mg base 1 "number_of_states" ["street"] (spP K R_number) := gf_of X G D22 (fun _ _ _ _ _ _ us hl => match us, hl with | [_], _ => rfl) fun f fd hm hk hb F => ok_number B F
  have g23 : GF P w K mg base 4 "states" ["street"] (spP K R_all_states) := gf_of X G D23 (fun _ _ _ _ _ _ us hl => match us, hl with | [_], _ => rfl) fun f fd hm hk hb F => ok_states F g17 g22 g21 m3
  have g25 : GF P w K mg base 1 "place_in" ["street", "state", "car"] (spX K CN R_place_in) := gf_of X G D25 (fun _ _ _ _ _ _ us hl => match us, hl with | [_, _, _], _ => rfl) fun f fd hm hk hb F => ok_place_in F
  have g26 : GF P w K mg base 2 "movers_in" ["street", "state"] (spX K CN R_movers_in) := gf_of X G D26 (fun _ _ _ _ _ _ us hl => match us, hl with | [_, _], _ => rfl) fun f fd hm hk hb F => ok_movers_in B F g25
  have g28 : GF P w K mg base 3 "rest_in" ["street", "state"] (spX K CN R_rest_in) := gf_of X G D28 (fun _ _ _ _ _ _ us hl => match us, hl with | [_, _], _ => rfl) fun f fd hm hk hb F => ok_rest_in F g26
  have g29 : GF P w K mg base 4 "need_rest" ["street", "state"] (spX K CN R_need_rest) := gf_of X G D29 (fun _ _ _ _ _ _ us hl => match us, hl with | [_, _], _ => rfl) fun f fd hm hk hb F => ok_need_rest F g18 g28
  have g30 : GF P w K mg base 1 "taken_in" ["homes"] (spP K R_taken_in) := gf_of X G D30 (fun _ _ _ _ _ _ us hl => match us, hl with | [_], _ => rfl) fun f fd hm hk hb F => ok_taken_in B F
  have g32 : GF P w K mg base 2 "rests_in" ["street", "state"] (spP K R_rests_in) := gf_of X G D32 (fun _ _ _ _ _ _ us hl => match us, hl with | [_, _], _ => rfl) fun f fd hm hk hb F => ok_rests_in B F g30
  have g33 : GF P w K mg base 1 "unlike" ["one", "other"] (spP K R_unlike) := gf_of X G D33 (fun _ _ _ _ _ _ us hl => match us, hl with | [_, _], _ => rfl) fun f fd hm hk hb F => ok_unlike B F
  have g35 : GF P w K mg base 5 "best_for" ["street", "state", "car"] (spP K R_best) := gf_of X G D35 (fun _ _ _ _ _ _ us hl => match us, hl with | [_, _, _], _ => rfl) fun f fd hm hk hb F => ok_best_for B F g19 g20 g32
  have g36 : GF P w K mg base 5 "worst_for" ["street", "state", "car"] (spP K R_worst) := gf_of X G D36 (fun _ _ _ _ _ _ us hl => match us, hl with | [_, _, _], _ => rfl) fun f fd hm hk hb F => ok_worst_for B F g19 g20 g32
  have g37 : GF P w K mg base 5 "common_rests" ["street", "one", "other"] (spP K R_common) := gf_of X G D37 (fun _ _ _ _ _ _ us hl => match us, hl with | [_, _, _], _ => rfl) fun f fd hm hk hb F => ok_common B F g19 g18 g32
  have g39 : GF P w K mg base 5 "count_sources" ["street", "rest"] (spX K CN R_count) := gf_of X G D39 (fun _ _ _ _ _ _ us hl => match us, hl with | [_, _], _ => rfl) fun f fd hm hk hb F => ok_count B F g19 g29
  have g40 : GF P w K mg base 5 "changed_cars" ["street", "one", "other"] (spX K CN2 R_changed) := gf_of X G D40 (fun _ _ _ _ _ _ us hl => match us, hl with | [_, _, _], _ => rfl) fun f fd hm hk hb F => ok_changed B F g19 g29 g33
  have g42 : GF P w K mg base 1 "_law_taken" ["_law_row", "_law_many"] (spTaken K) := gf_of X G D42 (fun _ _ _ _ _ _ us hl => match us, hl with | [_, _], _ => rfl) fun f fd hm hk hb F => ok_taken B F
  have g43 : GF P w K mg base 2 "_law_pick" ["_law_row", "_law_things"] (spPick K) := gf_of X G D43 (fun _ _ _ _ _ _ us hl => match us, hl with | [_, _], _ => rfl) fun f fd hm hk hb F => ok_pick B F g42
  have g44 : GF P w K mg base 3 "_law_alike" ["_law_found", "_law_due"] (spP K (RA 2)) := gf_of X G D44 (fun _ _ _ _ _ _ us hl => match us, hl with | [_, _], _ => rfl) fun f fd hm hk hb F => ok_alike B F hm hk hb 2
  have g45 : GF P w K mg base 2 "_law_street" ["_law_row", "_law_cars", "_law_places"] (spStreet K) := gf_of X G D45 (fun _ _ _ _ _ _ us hl => match us, hl with | [_, _, _], _ => rfl) fun f fd hm hk hb F => ok_street B F g42
  have g46 : GF P w K mg base 3 "_law_state" ["_law_row", "_law_street_here"] (spState K) := gf_of X G D46 (fun _ _ _ _ _ _ us hl => match us, hl with | [_, _], _ => rfl) fun f fd hm hk hb F => ok_state B F g43
  have g47 : GF P w K mg base 1 "_law_filled" ["_law_homes"] (spP K R_filled) := gf_of X G D47 (fun _ _ _ _ _ _ us hl => match us, hl with | [_], _ => rfl) fun f fd hm hk hb F => ok_filled B F
  have g48 : GF P w K mg base 2 "_law_rests" ["_law_street_here"] (spRests K) := gf_of X G D48 (fun _ _ _ _ _ _ us hl => match us, hl with | [_], _ => rfl) fun f fd hm hk hb F => ok_rests B F g47
  exact ⟨⟨g42, g43, g44, g45, g46, g48, g35, g36, g37, g40, g39, g23⟩, g19, g18, g32, g33⟩
theorem all_mk {l : PySem.W.OpenLaw} {w : World} {K : PySem.W.Frag} {h : Heap} {mg : Str → Option Value} {fa : Addr} (X : K.In h) (G : h.Ns mainGlobals mg) (hfa : mg "law" = some (.ref fa)) {n : Nat} {CS CN PT cL fL gT fN : Addr} {t1 t2 t3 : Tok}
    {kV doc pm cdv ct oc kVL docL pmL ctL ocL kVN docN pmN cdN ctN ocN : Value} {an od anL odL anN odN : Option Addr} {osl oslL oslN : Array (Option Value)}
    (tabs : h.get? PT = some { cls := .none, data := .fields #[] }) (nT : K.lookup PT = none) (hcd : PySem.W.codeHdIn K cL PT = true)
    (D1 : DefT K "is_integer" (topS 1)) (D2 : DefT K "is_in" (topS 2)) (D3 : DefT K "is_list" (topS 3)) (D16 : DefT K "has_room" (topS 16)) (D17 : DefT K "need_street" (topS 17)) (D18 : DefT K "need_places" (topS 18)) (D19 : DefT K "need_state" (topS 19)) (D20 : DefT K "need_car" (topS 20)) (D21 : DefT K "all_states" (topS 21)) (D22 : DefT K "number_of_states" (topS 22)) (D23 : DefT K "states" (topS 23)) (D25 : DefT K "place_in" (topS 25)) (D26 : DefT K "movers_in" (topS 26)) (D28 : DefT K "rest_in" (topS 28)) (D29 : DefT K "need_rest" (topS 29)) (D30 : DefT K "taken_in" (topS 30)) (D32 : DefT K "rests_in" (topS 32)) (D33 : DefT K "unlike" (topS 33)) (D35 : DefT K "best_for" (topS 35)) (D36 : DefT K "worst_for" (topS 36)) (D37 : DefT K "common_rests" (topS 37)) (D39 : DefT K "count_sources" (topS 39)) (D40 : DefT K "changed_cars" (topS 40)) (D42 : DefT K "_law_taken" (topS 42)) (D43 : DefT K "_law_pick" (topS 43)) (D44 : DefT K "_law_alike" (topS 44)) (D45 : DefT K "_law_street" (topS 45)) (D46 : DefT K "_law_state" (topS 46)) (D47 : DefT K "_law_filled" (topS 47)) (D48 : DefT K "_law_rests" (topS 48))
    (aN : PySem.W.nsIn K mainGlobals "nearest_common" = some (some (.ref fN))) (lN : K.lookup fN = some ⟨ocN, odN, .func (PySem.W.fnOf "nearest_common" "nearest_common" (defArgs (topS 38)) (defBody (topS 38)) (defScope (topS 38)) .none kVN docN pmN anN cdN ctN), oslN⟩) (cN : PySem.W.codeIn K cdN "nearest_common" = true) (kN : PySem.W.keepIn K (.ref fN) = true)
    (aT : PySem.W.nsIn K mainGlobals "_law_told" = some (some (.ref gT))) (lT : K.lookup gT = some ⟨oc, od, .func (PySem.W.fnOf "_law_told" "_law_told" (defArgs (topS 49)) (defBody (topS 49)) (defScope (topS 49)) .none kV doc pm an cdv ct), osl⟩) (cT : PySem.W.codeIn K cdv "_law_told" = true) (kT : PySem.W.keepIn K (.ref gT) = true)
    (aL : PySem.W.nsIn K mainGlobals "law" = some (some (.ref fL))) (lL : K.lookup fL = some ⟨ocL, odL, .func (PySem.W.fnOf "law" "law" (defArgs (topS 50)) (defBody (topS 50)) (defScope (topS 50)) .none kVL docL pmL anL (.ref cL) ctL), oslL⟩) (cLc : PySem.W.codeIn K (.ref cL) "law" = true)
    (e1 : PySem.W.nsIn K mainGlobals "MOST_PLACES" = some (some (.int 12 t1))) (e2 : PySem.W.nsIn K mainGlobals "MOST_CARS" = some (some (.int 7 t2))) (e3 : PySem.W.nsIn K mainGlobals "MOST_STATES" = some (some (.int 20000 t3)))
    (s1 : PySem.W.nsIn K mainGlobals "StreetError" = some (some (.ref CS))) (s2 : PySem.W.nsIn K mainGlobals "NotMade" = some (some (.ref CN))) (x1 : PySem.W.excIn K CN [.type "ValueError", .type "Exception", .type "BaseException", .type "object"] "ValueError.__new__" = true) (x2 : PySem.W.keepIn K (.ref CN) = true) (x3 : PySem.W.subIn K (.ref CN) (.type "BaseException") = some true) (x4 : PySem.W.typeIn K (.ref CN) = some (.type "type"))
    (x5 : PySem.W.exmOne K (.ref CN) (.ref CS) = some true) (x6 : PySem.W.kitOne K (.ref CN) (.ref CN) = some true)
    (c1 : PySem.W.findIn K (.ref CN) "__getattribute__" = some (some (.builtin "BaseException.__getattribute__"))) (c2 : PySem.W.findIn K (.ref CN) "__getattr__" = some none) (c4 : PySem.W.hasDictIn K CN = true) (c5 : PySem.W.findIn K (.ref CN) "__class__" = some (some (.builtin "object.__class__"))) (c6 : PySem.W.specialIn K (.builtin "object.__class__") "__get__" = some (some (.builtin "getset_descriptor.__get__"))) (c7 : PySem.W.takesIn K (.builtin "object.__class__") = some true) (c8 : PySem.W.mroIn K CN (.type "object") = some true)
    (z0 : PySem.W.nsIn K mainGlobals "isinstance" = some none) (z1 : PySem.W.nsIn K mainGlobals "int" = some none) (z2 : PySem.W.nsIn K mainGlobals "bool" = some none) (z3 : PySem.W.nsIn K mainGlobals "str" = some none) (z4 : PySem.W.nsIn K mainGlobals "tuple" = some none) (z5 : PySem.W.nsIn K mainGlobals "list" = some none) (z6 : PySem.W.nsIn K mainGlobals "len" = some none) (z7 : PySem.W.nsIn K mainGlobals "all" = some none) (z8 : PySem.W.nsIn K mainGlobals "range" = some none) (z9 : PySem.W.nsIn K mainGlobals "enumerate" = some none) (z10 : PySem.W.nsIn K mainGlobals "sorted" = some none) (z11 : PySem.W.nsIn K mainGlobals "zip" = some none) (z12 : PySem.W.nsIn K mainGlobals "min" = some none) (z13 : PySem.W.nsIn K mainGlobals "max" = some none) : LamX.LawAtS l w K CX0 8 n "_law_script" mg fa h := by
  have e := hfa.symm.trans (PySem.W.mg_of X G aL)
  cases e
  have B : Blt mg := ⟨PySem.W.mg_none_of X G z0, PySem.W.mg_none_of X G z1, PySem.W.mg_none_of X G z2, PySem.W.mg_none_of X G z3, PySem.W.mg_none_of X G z4, PySem.W.mg_none_of X G z5, PySem.W.mg_none_of X G z6, PySem.W.mg_none_of X G z7, PySem.W.mg_none_of X G z8, PySem.W.mg_none_of X G z9, PySem.W.mg_none_of X G z10, PySem.W.mg_none_of X G z11, PySem.W.mg_none_of X G z12, PySem.W.mg_none_of X G z13⟩
  have FN := fun_mk (st := topS 38) lN cN kN
  have bN := FN.binds (ps := ["street", "one", "other"]) (fun _ _ _ _ _ _ us hl => match us, hl with | [_, _, _], _ => rfl)
  have FT := fun_mk (st := topS 49) lT cT kT
  have bT := FT.binds (ps := ["_law_work"]) (fun _ _ _ _ _ _ us hl => match us, hl with | [_], _ => rfl)
  have hmn := PySem.W.mg_of X G s2
  refine ⟨PySem.W.fnOf "law" "law" (defArgs (topS 50)) (defBody (topS 50)) (defScope (topS 50)) .none kVL docL pmL anL (.ref cL) ctL, [(cL, PT)], spLaw K PT, fun p hp => by rw [List.mem_singleton.mp hp]; exact tabs, fun p hp => by rw [List.mem_singleton.mp hp]; exact nT, fun p hp => by rw [List.mem_singleton.mp hp]; exact PySem.W.codeHd_of_K X hcd,
    fun s u => .of_eq rfl, fun H a ns _ _ hT hS => ⟨a, ns, rfl, hS, hT (cL, PT) (List.mem_singleton.mpr rfl), fun _ => rfl⟩, fun base _ _ TB => ?_⟩
  obtain ⟨G0, h1, h2, h3, h4⟩ := gs_mk (P := l.prog) (w := w) (base := base) X G B (PySem.W.mg_of X G e1) (PySem.W.mg_of X G e2) (PySem.W.mg_of X G e3) D1 D2 D3 D16 D17 D18 D19 D20 D21 D22 D23 D25 D26 D28 D29 D30 D32 D33 D35 D36 D37 D39 D40 D42 D43 D44 D45 D46 D47 D48
  exact ok_law B G0 lL cLc (PySem.W.mg_of X G aT) kT lT cT bT (PySem.W.mg_of X G s1) hmn x5 x6 ⟨c1, c2, x3, c4, c5, c6, c7, c8⟩ (TB (cL, PT) (List.mem_singleton.mpr rfl)) (ok_nearest B ⟨x1, hmn, x2, x3, x4⟩ FN h1 h2 h3 h4) (PySem.W.mg_of X G aN) kN bN
end DF

set_option Elab.async false
set_option linter.all false
set_option maxRecDepth 100000
open PySem PySem.W PyProof.Rows
set_option maxHeartbeats 0 in
theorem PySem.Challenge.cw_parkback_k38_whole_best_and_worst_holds : PySem.Challenge.rw_parkback_k38_whole_best_and_worst.Holds := by
  w_on; o_law; k_head; (case hw => w_witness2)
  k_fill
  refine LamX.walk_ofTs (l := PySem.Challenge.rw_parkback_k38_whole_best_and_worst) (n := 63) (k := 8) (x := "_law_script") (CX := fun _ => L2.CX0) rfl (by decide) rfl ⟨rfl, by decide, by decide⟩ (fun w h Y => PySem.W.km_in_of Y) ?F (fun _ _ _ _ _ h => h)
  case F =>
    intro w mg fa h Y KX G hmg
    have tabs := PySem.W.km_tabs_of Y 317 (List.mem_singleton.mpr rfl)
    refine' DF.all_mk KX G hmg tabs ?nT ?hcd (DF.dft ?a1 ?l1 ?c1 ?k1) (DF.dft ?a2 ?l2 ?c2 ?k2) (DF.dft ?a3 ?l3 ?c3 ?k3) (DF.dft ?a16 ?l16 ?c16 ?k16) (DF.dft ?a17 ?l17 ?c17 ?k17) (DF.dft ?a18 ?l18 ?c18 ?k18) (DF.dft ?a19 ?l19 ?c19 ?k19) (DF.dft ?a20 ?l20 ?c20 ?k20) (DF.dft ?a21 ?l21 ?c21 ?k21) (DF.dft ?a22 ?l22 ?c22 ?k22) (DF.dft ?a23 ?l23 ?c23 ?k23) (DF.dft ?a25 ?l25 ?c25 ?k25) (DF.dft ?a26 ?l26 ?c26 ?k26) (DF.dft ?a28 ?l28 ?c28 ?k28) (DF.dft ?a29 ?l29 ?c29 ?k29) (DF.dft ?a30 ?l30 ?c30 ?k30) (DF.dft ?a32 ?l32 ?c32 ?k32) (DF.dft ?a33 ?l33 ?c33 ?k33) (DF.dft ?a35 ?l35 ?c35 ?k35) (DF.dft ?a36 ?l36 ?c36 ?k36) (DF.dft ?a37 ?l37 ?c37 ?k37) (DF.dft ?a39 ?l39 ?c39 ?k39) (DF.dft ?a40 ?l40 ?c40 ?k40) (DF.dft ?a42 ?l42 ?c42 ?k42) (DF.dft ?a43 ?l43 ?c43 ?k43) (DF.dft ?a44 ?l44 ?c44 ?k44) (DF.dft ?a45 ?l45 ?c45 ?k45) (DF.dft ?a46 ?l46 ?c46 ?k46) (DF.dft ?a47 ?l47 ?c47 ?k47) (DF.dft ?a48 ?l48 ?c48 ?k48) ?aN ?lN ?cN ?kN ?aT ?lT ?cT ?kT ?aL ?lL ?cLc ?e1 ?e2 ?e3 ?s1 ?s2 ?x1 ?x2 ?x3 ?x4 ?x5 ?x6 ?yc1 ?yc2 ?yc4 ?yc5 ?yc6 ?yc7 ?yc8 ?z0 ?z1 ?z2 ?z3 ?z4 ?z5 ?z6 ?z7 ?z8 ?z9 ?z10 ?z11 ?z12 ?z13
    (case a1 => k_is); (case l1 => k_is); (case c1 => k_is); (case k1 => k_is); (case a2 => k_is); (case l2 => k_is); (case c2 => k_is); (case k2 => k_is); (case a3 => k_is); (case l3 => k_is); (case c3 => k_is); (case k3 => k_is); (case a16 => k_is); (case l16 => k_is); (case c16 => k_is); (case k16 => k_is); (case a17 => k_is); (case l17 => k_is); (case c17 => k_is); (case k17 => k_is); (case a18 => k_is); (case l18 => k_is); (case c18 => k_is); (case k18 => k_is); (case a19 => k_is); (case l19 => k_is); (case c19 => k_is); (case k19 => k_is); (case a20 => k_is); (case l20 => k_is); (case c20 => k_is); (case k20 => k_is); (case a21 => k_is); (case l21 => k_is); (case c21 => k_is); (case k21 => k_is); (case a22 => k_is); (case l22 => k_is); (case c22 => k_is); (case k22 => k_is); (case a23 => k_is); (case l23 => k_is); (case c23 => k_is); (case k23 => k_is); (case a25 => k_is); (case l25 => k_is); (case c25 => k_is); (case k25 => k_is); (case a26 => k_is); (case l26 => k_is); (case c26 => k_is); (case k26 => k_is); (case a28 => k_is); (case l28 => k_is); (case c28 => k_is); (case k28 => k_is); (case a29 => k_is); (case l29 => k_is); (case c29 => k_is); (case k29 => k_is); (case a30 => k_is); (case l30 => k_is); (case c30 => k_is); (case k30 => k_is); (case a32 => k_is); (case l32 => k_is); (case c32 => k_is); (case k32 => k_is); (case a33 => k_is); (case l33 => k_is); (case c33 => k_is); (case k33 => k_is); (case a35 => k_is); (case l35 => k_is); (case c35 => k_is); (case k35 => k_is); (case a36 => k_is); (case l36 => k_is); (case c36 => k_is); (case k36 => k_is); (case a37 => k_is); (case l37 => k_is); (case c37 => k_is); (case k37 => k_is); (case a39 => k_is); (case l39 => k_is); (case c39 => k_is); (case k39 => k_is); (case a40 => k_is); (case l40 => k_is); (case c40 => k_is); (case k40 => k_is); (case a42 => k_is); (case l42 => k_is); (case c42 => k_is); (case k42 => k_is); (case a43 => k_is); (case l43 => k_is); (case c43 => k_is); (case k43 => k_is); (case a44 => k_is); (case l44 => k_is); (case c44 => k_is); (case k44 => k_is); (case a45 => k_is); (case l45 => k_is); (case c45 => k_is); (case k45 => k_is); (case a46 => k_is); (case l46 => k_is); (case c46 => k_is); (case k46 => k_is); (case a47 => k_is); (case l47 => k_is); (case c47 => k_is); (case k47 => k_is); (case a48 => k_is); (case l48 => k_is); (case c48 => k_is); (case k48 => k_is); (case aN => k_is); (case lN => k_is); (case cN => k_is); (case kN => k_is); (case aT => k_is); (case lT => k_is); (case cT => k_is); (case kT => k_is); (case aL => k_is); (case lL => k_is); (case cLc => k_is); (case e1 => k_is); (case e2 => k_is); (case e3 => k_is); (case s1 => k_is); (case s2 => k_is); (case x1 => k_exc); (case x2 => k_is); (case x3 => k_is); (case x4 => k_is); (case x5 => kernel_rfl); (case x6 => kernel_rfl); (case yc1 => k_is); (case yc2 => k_is); (case yc4 => k_is); (case yc5 => k_is); (case yc6 => k_is); (case yc7 => k_is); (case yc8 => k_is); (case z0 => k_is); (case z1 => k_is); (case z2 => k_is); (case z3 => k_is); (case z4 => k_is); (case z5 => k_is); (case z6 => k_is); (case z7 => k_is); (case z8 => k_is); (case z9 => k_is); (case z10 => k_is); (case z11 => k_is); (case z12 => k_is); (case z13 => k_is)
    (case hcd => kernel_rfl)
    (case nT => kernel_rfl)
