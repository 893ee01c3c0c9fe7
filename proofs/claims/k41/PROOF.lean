import PyProof.Rows.All
import Wide.All
import OpenK.AllK
import Wide.FinOn
import PySem.Challenge.RW_wetfolds_k41_whole_shortest_rows_by_plac
import HandS.EndTab
import HandS.ExcField
import HandS.Flow
import HandS.ForExc
import HandS.ForMost
import HandS.IsInst
import HandS.Lambda
import HandS.Set
import HandS.SetFor
import HandS.SortInts
import HandS.Strs
import HandS.Style
import HandS.TryMany
import HandS.TupAny
import HandS.TupLe
import HandS.TupMul
import HandS.WordsExc
import HandS.Zip
import KE.GoesEnum
import KE.GoesMore
import KE.KExcSuper
import KE.KSuper
set_option Elab.async false
set_option linter.all false
set_option maxRecDepth 100000
set_option maxHeartbeats 8000000
/-! Part sums, signed sums, strictly ascending lists: plain Lean. -/
namespace Km
/-! ### strictly ascending lists -/
def ins (x : Int) : List Int → List Int
  | [] => [x]
  | y :: r => if x < y then x :: y :: r else if x = y then y :: r else y :: ins x r
def norm : List Int → List Int
  | [] => []
  | x :: r => ins x (norm r)
theorem mem_ins {x z : Int} : ∀ {l : List Int}, z ∈ ins x l ↔ z = x ∨ z ∈ l
  | [] => by simp [ins]
  | y :: r => by
    unfold ins
    split
    · simp
    · split
      · rename_i h1 h2
        subst h2
        simp
      · simp only [List.mem_cons, mem_ins (l := r)]
        constructor
        · rintro (h | h | h)
          · exact .inr (.inl h)
          · exact .inl h
          · exact .inr (.inr h)
        · rintro (h | h | h)
          · exact .inr (.inl h)
          · exact .inl h
          · exact .inr (.inr h)
theorem mem_norm {z : Int} : ∀ {l : List Int}, z ∈ norm l ↔ z ∈ l
  | [] => by simp [norm]
  | x :: r => by simp only [norm, mem_ins, mem_norm (l := r), List.mem_cons]
theorem ins_up {x : Int} : ∀ {l : List Int}, l.Pairwise (· < ·) → (ins x l).Pairwise (· < ·)
  | [], _ => by simp [ins]
  | y :: r, h => by
    obtain ⟨h1, h2⟩ := List.pairwise_cons.mp h
    unfold ins
    split
    · rename_i hx
      refine List.pairwise_cons.mpr ⟨fun z hz => ?_, h⟩
      rcases List.mem_cons.mp hz with e | e
      · rw [e]; exact hx
      · exact Int.lt_trans hx (h1 z e)
    · split
      · exact h
      · rename_i hx hy
        refine List.pairwise_cons.mpr ⟨fun z hz => ?_, ins_up h2⟩
        rcases mem_ins.mp hz with e | e
        · rw [e]; omega
        · exact h1 z e
theorem norm_up : ∀ {l : List Int}, (norm l).Pairwise (· < ·)
  | [] => by simp [norm]
  | x :: r => ins_up norm_up
theorem ins_len {x : Int} : ∀ {l : List Int}, (ins x l).length ≤ l.length + 1
  | [] => by simp [ins]
  | y :: r => by
    unfold ins
    split
    · simp
    · split
      · simp
      · simp only [List.length_cons]
        have := ins_len (x := x) (l := r)
        omega
theorem norm_len : ∀ {l : List Int}, (norm l).length ≤ l.length
  | [] => by simp [norm]
  | x :: r => by
    have h1 := ins_len (x := x) (l := norm r)
    have h2 := norm_len (l := r)
    simp only [norm, List.length_cons]
    omega
/-- two strictly ascending lists of the same items are one -/
theorem up_ext : ∀ {l m : List Int}, l.Pairwise (· < ·) → m.Pairwise (· < ·) → (∀ x, x ∈ l ↔ x ∈ m) → l = m
  | [], [], _, _, _ => rfl
  | [], y :: s, _, _, h => absurd ((h y).mpr (by simp)) (by simp)
  | x :: r, [], _, _, h => absurd ((h x).mp (by simp)) (by simp)
  | x :: r, y :: s, hl, hm, h => by
    obtain ⟨l1, l2⟩ := List.pairwise_cons.mp hl
    obtain ⟨m1, m2⟩ := List.pairwise_cons.mp hm
    have e : x = y := by
      rcases List.mem_cons.mp ((h x).mp (by simp)) with e | e
      · exact e
      · rcases List.mem_cons.mp ((h y).mpr (by simp)) with e' | e'
        · exact e'.symm
        · have := m1 x e
          have := l1 y e'
          omega
    subst e
    have : r = s := up_ext l2 m2 fun z => by
      constructor
      · intro hz
        rcases List.mem_cons.mp ((h z).mp (by simp [hz])) with e | e
        · have := l1 z hz
          omega
        · exact e
      · intro hz
        rcases List.mem_cons.mp ((h z).mpr (by simp [hz])) with e | e
        · have := m1 z hz
          omega
        · exact e
    rw [this]
theorem norm_eq {l m : List Int} (hl : l.Pairwise (· < ·)) (h : ∀ x, x ∈ l ↔ x ∈ m) : l = norm m :=
  up_ext hl norm_up fun x => (h x).trans mem_norm.symm
theorem norm_cong {l m : List Int} (h : ∀ x, x ∈ l ↔ x ∈ m) : norm l = norm m :=
  norm_eq norm_up fun x => mem_norm.trans (h x)
/-- the last of an ascending list is its greatest -/
theorem up_last : ∀ {l : List Int} {z : Int}, l.Pairwise (· < ·) → z ∈ l → (∀ x ∈ l, x ≤ z) → ∀ d, l.getLastD d = z
  | [], z, _, h, _, _ => absurd h (by simp)
  | [x], z, _, h, _, _ => by
    simp at h
    simp [h]
  | x :: y :: r, z, hp, h, hz, d => by
    obtain ⟨h1, h2⟩ := List.pairwise_cons.mp hp
    have : z ∈ y :: r := by
      rcases List.mem_cons.mp h with e | e
      · have a := h1 y (by simp)
        have b := hz y (by simp)
        omega
      · exact e
    have ih := up_last h2 this (fun x hx => hz x (by simp [hx])) x
    rw [List.getLastD_cons]
    exact ih
/-! ### part sums -/
def PS : List Int → Int → Prop
  | [], p => p = 0
  | s :: r, p => PS r p ∨ PS r (p - s)
theorem PS.zero : ∀ l : List Int, PS l 0
  | [] => rfl
  | _ :: r => .inl (PS.zero r)
theorem PS.sum : ∀ l : List Int, PS l l.sum
  | [] => rfl
  | s :: r => .inr (by
      have := PS.sum r
      rw [List.sum_cons]
      rw [show s + r.sum - s = r.sum by omega]
      exact this)
theorem PS.perm {l m : List Int} (h : l.Perm m) : ∀ p, PS l p ↔ PS m p := by
  induction h with
  | nil => intro p; exact Iff.rfl
  | cons x _ ih => intro p; exact or_congr (ih p) (ih (p - x))
  | swap x y l =>
    intro p
    show (PS l p ∨ PS l (p - x)) ∨ (PS l (p - y) ∨ PS l (p - y - x)) ↔ (PS l p ∨ PS l (p - y)) ∨ (PS l (p - x) ∨ PS l (p - x - y))
    rw [show p - y - x = p - x - y by omega]
    constructor
    · rintro ((h | h) | (h | h))
      · exact .inl (.inl h)
      · exact .inr (.inl h)
      · exact .inl (.inr h)
      · exact .inr (.inr h)
    · rintro ((h | h) | (h | h))
      · exact .inl (.inl h)
      · exact .inr (.inl h)
      · exact .inl (.inr h)
      · exact .inr (.inr h)
  | trans _ _ h1 h2 => intro p; exact (h1 p).trans (h2 p)
theorem PS.nz : ∀ (l : List Int) (p : Int), PS (l.filter (fun x => decide (x ≠ 0))) p ↔ PS l p
  | [], p => Iff.rfl
  | s :: r, p => by
    by_cases h : s = 0
    · subst h
      rw [List.filter_cons_of_neg (by simp)]
      show _ ↔ PS r p ∨ PS r (p - 0)
      rw [PS.nz r p, show p - 0 = p by omega, or_self]
    · rw [List.filter_cons_of_pos (by simpa using h)]
      exact or_congr (PS.nz r p) (PS.nz r (p - s))
theorem PS.append : ∀ (l m : List Int) (p : Int), PS (l ++ m) p ↔ ∃ q, PS l q ∧ PS m (p - q)
  | [], m, p => by
    constructor
    · intro h
      exact ⟨0, rfl, by rwa [show p - 0 = p by omega]⟩
    · rintro ⟨q, h, k⟩
      have h : q = 0 := h
      rw [h, show p - 0 = p by omega] at k
      exact k
  | s :: r, m, p => by
    show PS (r ++ m) p ∨ PS (r ++ m) (p - s) ↔ _
    rw [PS.append r m p, PS.append r m (p - s)]
    constructor
    · rintro (⟨q, a, b⟩ | ⟨q, a, b⟩)
      · exact ⟨q, .inl a, b⟩
      · exact ⟨q + s, .inr (by rwa [show q + s - s = q by omega]), by rwa [show p - (q + s) = p - s - q by omega]⟩
    · rintro ⟨q, a | a, b⟩
      · exact .inl ⟨q, a, b⟩
      · exact .inr ⟨q - s, a, by rwa [show p - s - (q - s) = p - q by omega]⟩
theorem PS.ge : ∀ {l : List Int}, (∀ x ∈ l, 0 ≤ x) → ∀ {p : Int}, PS l p → 0 ≤ p
  | [], _, p, h => by
    have h : p = 0 := h
    omega
  | s :: r, hl, p, h => by
    have hs := hl s (by simp)
    rcases h with h | h
    · exact PS.ge (fun x hx => hl x (by simp [hx])) h
    · have := PS.ge (fun x hx => hl x (by simp [hx])) h
      omega
theorem PS.le : ∀ {l : List Int}, (∀ x ∈ l, 0 ≤ x) → ∀ {p : Int}, PS l p → p ≤ l.sum
  | [], _, p, h => by
    have h : p = 0 := h
    rw [h]
    exact Int.le_refl _
  | s :: r, hl, p, h => by
    have hs := hl s (by simp)
    rw [List.sum_cons]
    rcases h with h | h
    · have := PS.le (fun x hx => hl x (by simp [hx])) h
      omega
    · have := PS.le (fun x hx => hl x (by simp [hx])) h
      omega
/-- a part sum of p ++ r that is none of p uses some of r -/
theorem PS.uses : ∀ {r : List Int} {x : Int}, (∀ y ∈ r, x ≤ y) → 0 ≤ x → ∀ {q : Int}, PS r q → q = 0 ∨ x ≤ q
  | [], x, _, _, q, h => .inl h
  | s :: r, x, hr, hx, q, h => by
    have hs := hr s (by simp)
    rcases h with h | h
    · exact PS.uses (fun y hy => hr y (by simp [hy])) hx h
    · have h1 := PS.ge (fun y hy => Int.le_trans hx (hr y (by simp [hy]))) h
      exact .inr (by omega)
theorem PS.mem : ∀ {l : List Int} {x : Int}, x ∈ l → PS l x
  | [], x, h => absurd h (by simp)
  | s :: r, x, h => by
    rcases List.mem_cons.mp h with e | e
    · refine .inr ?_
      rw [e, show s - s = 0 by omega]
      exact PS.zero r
    · exact .inl (PS.mem e)
/-! ### what steps reach -/
def grown (reached : List Int) (step : Int) : List Int := norm (reached ++ reached.map (· + step))
def subs (l : List Int) : List Int := l.foldl grown [0]
theorem mem_grown {f : List Int} {s x : Int} : x ∈ grown f s ↔ x ∈ f ∨ x - s ∈ f := by
  unfold grown
  rw [mem_norm, List.mem_append, List.mem_map]
  refine or_congr Iff.rfl ⟨?_, fun h => ⟨x - s, h, by omega⟩⟩
  rintro ⟨y, h, e⟩
  rw [← e, show y + s - s = y by omega]
  exact h
theorem grown_up {f : List Int} {s : Int} : (grown f s).Pairwise (· < ·) := norm_up
theorem mem_fold : ∀ {l f : List Int} {x : Int}, x ∈ l.foldl grown f ↔ ∃ y, y ∈ f ∧ PS l (x - y)
  | [], f, x => by
    constructor
    · intro h
      exact ⟨x, h, by show x - x = 0; omega⟩
    · rintro ⟨y, h, e⟩
      have e : x - y = 0 := e
      rw [show x = y by omega]
      exact h
  | s :: r, f, x => by
    rw [List.foldl_cons, mem_fold (l := r)]
    constructor
    · rintro ⟨y, h, k⟩
      rcases mem_grown.mp h with h | h
      · exact ⟨y, h, .inl k⟩
      · exact ⟨y - s, h, .inr (by rwa [show x - (y - s) - s = x - y by omega])⟩
    · rintro ⟨y, h, k | k⟩
      · exact ⟨y, mem_grown.mpr (.inl h), k⟩
      · exact ⟨y + s, mem_grown.mpr (.inr (by rwa [show y + s - s = y by omega])), by rwa [show x - (y + s) = x - y - s by omega]⟩
theorem mem_subs {l : List Int} {x : Int} : x ∈ subs l ↔ PS l x := by
  unfold subs
  rw [mem_fold]
  constructor
  · rintro ⟨y, h, k⟩
    simp at h
    rwa [h, show x - 0 = x by omega] at k
  · intro h
    exact ⟨0, by simp, by rwa [show x - 0 = x by omega]⟩
theorem fold_up : ∀ {l f : List Int}, f.Pairwise (· < ·) → (l.foldl grown f).Pairwise (· < ·)
  | [], _, h => h
  | s :: r, f, _ => by
    rw [List.foldl_cons]
    exact fold_up grown_up
theorem subs_up {l : List Int} : (subs l).Pairwise (· < ·) := fold_up (by simp)
theorem subs_snoc {l : List Int} {s : Int} : subs (l ++ [s]) = grown (subs l) s := by
  unfold subs
  rw [List.foldl_append]
  rfl
theorem grown_len {f : List Int} {s : Int} : (grown f s).length ≤ f.length * 2 := by
  have := norm_len (l := f ++ f.map (· + s))
  rw [List.length_append, List.length_map] at this
  unfold grown
  omega
theorem fold_len : ∀ {l f : List Int}, (l.foldl grown f).length ≤ f.length * 2 ^ l.length
  | [], f => by simp
  | s :: r, f => by
    rw [List.foldl_cons, List.length_cons]
    refine Nat.le_trans (fold_len (l := r)) ?_
    have := grown_len (f := f) (s := s)
    rw [Nat.pow_succ, Nat.mul_comm (2 ^ r.length) 2, ← Nat.mul_assoc]
    exact Nat.mul_le_mul_right _ this
theorem subs_len {l : List Int} : (subs l).length ≤ 2 ^ l.length := by
  have := fold_len (l := l) (f := [0])
  simpa [subs] using this
theorem subs_last {l : List Int} (h : ∀ x ∈ l, 0 ≤ x) (d : Int) : (subs l).getLastD d = l.sum :=
  up_last subs_up (mem_subs.mpr (PS.sum l)) (fun _ hx => PS.le h (mem_subs.mp hx)) d
theorem subs_cong {l m : List Int} (h : ∀ p, PS l p ↔ PS m p) : subs l = subs m :=
  up_ext subs_up subs_up fun x => mem_subs.trans ((h x).trans mem_subs.symm)
/-! ### signed sums -/
def turn (f : List Int) (s : Int) : List Int := norm (f.map (· + s) ++ f.map (· - s))
def allSums (l : List Int) : List Int := l.foldl turn [0]
theorem mem_turn {f : List Int} {s x : Int} : x ∈ turn f s ↔ x - s ∈ f ∨ x + s ∈ f := by
  unfold turn
  rw [mem_norm, List.mem_append, List.mem_map, List.mem_map]
  refine or_congr ⟨?_, fun h => ⟨x - s, h, by omega⟩⟩ ⟨?_, fun h => ⟨x + s, h, by omega⟩⟩
  · rintro ⟨y, h, e⟩
    rwa [← e, show y + s - s = y by omega]
  · rintro ⟨y, h, e⟩
    rwa [← e, show y - s + s = y by omega]
theorem mem_foldT : ∀ {l f : List Int} {x : Int}, x ∈ l.foldl turn f ↔ ∃ y p, y ∈ f ∧ PS l p ∧ x = y + 2 * p - l.sum
  | [], f, x => by
    constructor
    · intro h
      exact ⟨x, 0, h, rfl, by simp⟩
    · rintro ⟨y, p, h, e, k⟩
      have e : p = 0 := e
      simp [e] at k
      rwa [k]
  | s :: r, f, x => by
    rw [List.foldl_cons, mem_foldT (l := r)]
    simp only [List.sum_cons]
    constructor
    · rintro ⟨y, p, h, hp, k⟩
      rcases mem_turn.mp h with h | h
      · exact ⟨y - s, p + s, h, .inr (by rwa [show p + s - s = p by omega]), by omega⟩
      · exact ⟨y + s, p, h, .inl hp, by omega⟩
    · rintro ⟨y, p, h, hp | hp, k⟩
      · exact ⟨y - s, p, mem_turn.mpr (.inr (by rwa [show y - s + s = y by omega])), hp, by omega⟩
      · exact ⟨y + s, p - s, mem_turn.mpr (.inl (by rwa [show y + s - s = y by omega])), hp, by omega⟩
theorem mem_allSums {l : List Int} {x : Int} : x ∈ allSums l ↔ ∃ p, PS l p ∧ x = 2 * p - l.sum := by
  unfold allSums
  rw [mem_foldT]
  constructor
  · rintro ⟨y, p, h, hp, k⟩
    simp at h
    exact ⟨p, hp, by omega⟩
  · rintro ⟨p, hp, k⟩
    exact ⟨0, p, by simp, hp, by omega⟩
theorem turn_up {f : List Int} {s : Int} : (turn f s).Pairwise (· < ·) := norm_up
theorem foldT_up : ∀ {l f : List Int}, f.Pairwise (· < ·) → (l.foldl turn f).Pairwise (· < ·)
  | [], _, h => h
  | s :: r, f, _ => by
    rw [List.foldl_cons]
    exact foldT_up turn_up
theorem allSums_up {l : List Int} : (allSums l).Pairwise (· < ·) := foldT_up (by simp)
theorem turn_len {f : List Int} {s : Int} : (turn f s).length ≤ f.length * 2 := by
  have := norm_len (l := f.map (· + s) ++ f.map (· - s))
  rw [List.length_append, List.length_map, List.length_map] at this
  unfold turn
  omega
theorem foldT_len : ∀ {l f : List Int}, (l.foldl turn f).length ≤ f.length * 2 ^ l.length
  | [], f => by simp
  | s :: r, f => by
    rw [List.foldl_cons, List.length_cons]
    refine Nat.le_trans (foldT_len (l := r)) ?_
    have := turn_len (f := f) (s := s)
    rw [Nat.pow_succ, Nat.mul_comm (2 ^ r.length) 2, ← Nat.mul_assoc]
    exact Nat.mul_le_mul_right _ this
theorem allSums_len {l : List Int} : (allSums l).length ≤ 2 ^ l.length := by
  have := foldT_len (l := l) (f := [0])
  simpa [allSums] using this
theorem sum_perm {l m : List Int} (h : l.Perm m) : l.sum = m.sum := by
  induction h with
  | nil => rfl
  | cons x _ ih => rw [List.sum_cons, List.sum_cons, ih]
  | swap x y l =>
    simp only [List.sum_cons]
    omega
  | trans _ _ h1 h2 => exact h1.trans h2
theorem allSums_perm {l m : List Int} (h : l.Perm m) : allSums l = allSums m :=
  up_ext allSums_up allSums_up fun x => by
    rw [mem_allSums, mem_allSums, sum_perm h]
    exact exists_congr fun p => and_congr (PS.perm h p) Iff.rfl
theorem sum_nn : ∀ {l : List Int}, (∀ x ∈ l, 0 ≤ x) → 0 ≤ l.sum
  | [], _ => Int.le_refl _
  | s :: r, h => by
    have h1 := h s (by simp)
    have h2 := sum_nn (l := r) fun x hx => h x (by simp [hx])
    rw [List.sum_cons]
    omega
theorem allSums_last {l : List Int} (h : ∀ x ∈ l, 0 ≤ x) (d : Int) : (allSums l).getLastD d = l.sum :=
  up_last allSums_up (mem_allSums.mpr ⟨l.sum, PS.sum l, by omega⟩) (fun x hx => by
    obtain ⟨p, hp, e⟩ := mem_allSums.mp hx
    have := PS.le h hp
    omega) d
theorem allSums_ne {l : List Int} : allSums l ≠ [] := fun e => by
  have : (2 * l.sum - l.sum) ∈ allSums l := mem_allSums.mpr ⟨_, PS.sum l, rfl⟩
  rw [e] at this
  simp at this
/-- the goal of a row's steps -/
def goalOf (sums : List Int) : List Int := sums.map fun t => (t + sums.getLastD 0) / 2
theorem goalOf_eq {l : List Int} (h : ∀ x ∈ l, 0 ≤ x) : goalOf (allSums l) = subs l := by
  unfold goalOf
  rw [allSums_last h]
  refine up_ext ?_ subs_up fun x => ?_
  · refine List.Pairwise.map _ (R := fun a b => a < b ∧ a % 2 = b % 2 ∧ (a + l.sum) % 2 = 0) (fun a b h => ?_) ?_
    · omega
    · refine List.Pairwise.imp_of_mem (R := (· < ·)) (fun {a b} ha hb h => ?_) allSums_up
      obtain ⟨p, _, e1⟩ := mem_allSums.mp ha
      obtain ⟨q, _, e2⟩ := mem_allSums.mp hb
      refine ⟨h, ?_, ?_⟩ <;> omega
  · rw [List.mem_map, mem_subs]
    constructor
    · rintro ⟨t, ht, e⟩
      obtain ⟨p, hp, e1⟩ := mem_allSums.mp ht
      rw [show x = p by omega]
      exact hp
    · intro hx
      exact ⟨2 * x - l.sum, mem_allSums.mpr ⟨x, hx, rfl⟩, by omega⟩
/-- equal signed sums: equal part sums -/
theorem sums_iff {l m : List Int} (hl : ∀ x ∈ l, 0 ≤ x) (hm : ∀ x ∈ m, 0 ≤ x) : allSums l = allSums m ↔ subs l = subs m := by
  constructor
  · intro h
    rw [← goalOf_eq hl, ← goalOf_eq hm, h]
  · intro h
    have e : l.sum = m.sum := by rw [← subs_last hl 0, ← subs_last hm 0, h]
    refine up_ext allSums_up allSums_up fun x => ?_
    rw [mem_allSums, mem_allSums, e]
    refine exists_congr fun p => and_congr ?_ Iff.rfl
    rw [← mem_subs, ← mem_subs, h]
end Km

/-! The search for the tuples of just so many steps: plain Lean. -/
namespace Km
def missingOf (goal reached : List Int) : List Int := goal.filter fun x => !decide (x ∈ reached)
def canReach (goal reached : List Int) (many : Nat) : Bool := decide (goal.length ≤ reached.length * 2 ^ many)
def okStep (goal reached : List Int) (last m : Int) (many : Nat) (st : Int) : Bool :=
  decide (last ≤ st) && decide (st ≤ m) && (if many = 1 then decide (st = goal.getLastD 0 - reached.getLastD 0) else decide (st ≤ goal.getLastD 0 - reached.getLastD 0))
def fitsAll (goal reached : List Int) (st : Int) : Bool := reached.all fun o => decide (o + st ∈ goal)
def stepsBehind (goal reached : List Int) (last : Int) (many : Nat) : List Int :=
  match missingOf goal reached with
  | [] => []
  | m :: _ => if many = 0 then [] else if canReach goal reached many = true then (goal.filter (okStep goal reached last m many)).filter (fitsAll goal reached) else []
def longerOn (goal steps reached : List Int) (many : Nat) : List (List Int × List Int) :=
  (stepsBehind goal reached (steps.getLastD 1) many).map fun st => (steps ++ [st], grown reached st)
def lineAt (goal : List Int) (many : Nat) : Nat → List (List Int × List Int)
  | 0 => [([], [0])]
  | k + 1 => (lineAt goal many k).flatMap fun p => longerOn goal p.1 p.2 (many - k)
def tuplesOf (goal : List Int) (many : Nat) : List (List Int) := ((lineAt goal many many).filter fun p => decide (p.2 = goal)).map (·.1)
/-- ascending steps, 1 or more, just so many, that reach the goal -/
structure Good (goal : List Int) (n : Nat) (s : List Int) : Prop where
  len : s.length = n
  up : s.Pairwise (· ≤ ·)
  pos : ∀ x ∈ s, 1 ≤ x
  to : subs s = goal
theorem behind_mem {goal reached : List Int} {last : Int} {many : Nat} {st : Int} (h : st ∈ stepsBehind goal reached last many) : st ∈ goal ∧ last ≤ st := by
  unfold stepsBehind at h
  split at h
  · simp at h
  · split at h
    · simp at h
    · split at h
      · simp only [List.mem_filter, okStep, Bool.and_eq_true, decide_eq_true_eq] at h
        exact ⟨h.1.1, h.1.2.1.1⟩
      · simp at h
theorem last_snoc (l : List Int) (x d : Int) : (l ++ [x]).getLastD d = x := by simp [List.getLastD_eq_getLast?]
theorem up_snoc {l : List Int} {x : Int} (h : l.Pairwise (· ≤ ·)) (hp : ∀ y ∈ l, 1 ≤ y) (hx : l.getLastD 1 ≤ x) : (l ++ [x]).Pairwise (· ≤ ·) ∧ ∀ y ∈ l ++ [x], 1 ≤ y := by
  have hl : ∀ y ∈ l, y ≤ x := by
    rcases List.eq_nil_or_concat l with e | ⟨r, z, e⟩
    · rw [e]; simp
    · rw [List.concat_eq_append] at e
      subst e
      rw [last_snoc] at hx
      intro y hy
      rcases List.mem_append.mp hy with k | k
      · have := (List.pairwise_append.mp h).2.2 y k z (by simp)
        omega
      · simp at k
        omega
  have h1 : 1 ≤ x := by
    rcases List.eq_nil_or_concat l with e | ⟨r, z, e⟩
    · rw [e] at hx
      exact hx
    · rw [List.concat_eq_append] at e
      subst e
      rw [last_snoc] at hx
      have := hp z (by simp)
      omega
  refine ⟨List.pairwise_append.mpr ⟨h, by simp, fun a ha b hb => ?_⟩, fun y hy => ?_⟩
  · simp at hb
    rw [hb]
    exact hl a ha
  · rcases List.mem_append.mp hy with k | k
    · exact hp y k
    · simp at k
      omega
/-- what stands in a line -/
theorem line_sound {goal : List Int} {many : Nat} : ∀ {k : Nat} {p : List Int × List Int}, p ∈ lineAt goal many k → p.1.length = k ∧ p.1.Pairwise (· ≤ ·) ∧ (∀ x ∈ p.1, 1 ≤ x) ∧ p.2 = subs p.1
  | 0, p, h => by
    simp [lineAt] at h
    subst h
    exact ⟨rfl, by simp, by simp, rfl⟩
  | k + 1, p, h => by
    simp only [lineAt, List.mem_flatMap, longerOn, List.mem_map] at h
    obtain ⟨q, hq, st, hst, e⟩ := h
    obtain ⟨l1, l2, l3, l4⟩ := line_sound hq
    obtain ⟨_, hlast⟩ := behind_mem hst
    obtain ⟨u1, u2⟩ := up_snoc l2 l3 hlast
    subst e
    refine ⟨by simp [l1], u1, u2, ?_⟩
    show grown q.2 st = subs (q.1 ++ [st])
    rw [subs_snoc, l4]
theorem nn_of_pos {l : List Int} (h : ∀ x ∈ l, 1 ≤ x) : ∀ x ∈ l, 0 ≤ x := fun x hx => by
  have := h x hx
  omega
/-- the next step of good ones can follow -/
theorem behind_has {goal p r : List Int} {x : Int} (g : Good goal (p ++ x :: r).length (p ++ x :: r)) : x ∈ stepsBehind goal (subs p) (p.getLastD 1) (r.length + 1) := by
  have hall : (p ++ x :: r) = (p ++ [x]) ++ r := by simp
  have pos := g.pos
  have hx1 : 1 ≤ x := pos x (by simp)
  have hp1 : ∀ y ∈ p, 1 ≤ y := fun y hy => pos y (by simp [hy])
  have hr1 : ∀ y ∈ r, 1 ≤ y := fun y hy => pos y (by simp [hy])
  have hxr : ∀ y ∈ r, x ≤ y := by
    have := (List.pairwise_append.mp g.up).2.1
    exact (List.pairwise_cons.mp this).1
  have hpx : ∀ y ∈ p, y ≤ x := fun y hy => (List.pairwise_append.mp g.up).2.2 y hy x (by simp)
  have hsum : (p ++ x :: r).sum = p.sum + (x + r.sum) := by rw [List.sum_append, List.sum_cons]
  have hg : ∀ z, z ∈ goal ↔ PS (p ++ x :: r) z := fun z => by rw [← g.to, mem_subs]
  have hlg : goal.getLastD 0 = p.sum + (x + r.sum) := by rw [← g.to, subs_last (nn_of_pos pos), hsum]
  have hlr : (subs p).getLastD 0 = p.sum := subs_last (nn_of_pos hp1) 0
  have hr0 : 0 ≤ r.sum := sum_nn (nn_of_pos hr1)
  have miss : ∀ m, m ∈ missingOf goal (subs p) → x ≤ m := fun m hm => by
    simp only [missingOf, List.mem_filter, Bool.not_eq_true', decide_eq_false_iff_not, mem_subs, hg] at hm
    obtain ⟨q, h1, h2⟩ := (PS.append p (x :: r) m).mp hm.1
    have hq := PS.ge (nn_of_pos hp1) h1
    rcases PS.uses (x := x) (fun y hy => by
      rcases List.mem_cons.mp hy with e | e
      · omega
      · exact hxr y e) (by omega) h2 with e | e
    · exact absurd (by rwa [show m = q by omega]) hm.2
    · omega
  have some : (p ++ x :: r).sum ∈ missingOf goal (subs p) := by
    simp only [missingOf, List.mem_filter, Bool.not_eq_true', decide_eq_false_iff_not, mem_subs, hg]
    refine ⟨PS.sum _, fun h => ?_⟩
    have := PS.le (nn_of_pos hp1) h
    omega
  have reach : canReach goal (subs p) (r.length + 1) = true := by
    unfold canReach
    rw [decide_eq_true_eq, ← g.to, show subs (p ++ x :: r) = (x :: r).foldl grown (subs p) by
      unfold subs
      rw [List.foldl_append]]
    exact fold_len
  unfold stepsBehind
  split
  · rename_i e
    rw [e] at some
    simp at some
  · rename_i m rest e
    rw [if_neg (by omega), if_pos reach]
    have hm := miss m (by rw [e]; simp)
    refine List.mem_filter.mpr ⟨List.mem_filter.mpr ⟨(hg x).mpr (PS.mem (by simp)), ?_⟩, ?_⟩
    · simp only [okStep, Bool.and_eq_true, decide_eq_true_eq]
      refine ⟨⟨?_, hm⟩, ?_⟩
      · rcases List.eq_nil_or_concat p with e | ⟨q, z, e⟩
        · rw [e]
          exact hx1
        · rw [List.concat_eq_append] at e
          rw [e, last_snoc]
          exact hpx z (by rw [e]; simp)
      · split
        · rename_i h1
          have : r = [] := List.eq_nil_of_length_eq_zero (by omega)
          subst this
          simp only [decide_eq_true_eq, hlg, hlr]
          simp
          omega
        · simp only [decide_eq_true_eq, hlg, hlr]
          omega
    · simp only [fitsAll, List.all_eq_true, decide_eq_true_eq]
      intro o ho
      rw [hg, hall, PS.append]
      refine ⟨o + x, ?_, by rw [show o + x - (o + x) = 0 by omega]; exact PS.zero r⟩
      rw [PS.append]
      exact ⟨o, mem_subs.mp ho, .inr (by show o + x - o - x = 0; omega)⟩
theorem line_has {goal s : List Int} {many : Nat} (g : Good goal many s) : ∀ {k : Nat}, k ≤ many → (s.take k, subs (s.take k)) ∈ lineAt goal many k
  | 0, _ => by
    simp [lineAt]
    rfl
  | k + 1, hk => by
    have hl : k < s.length := by
      have := g.len
      omega
    have ih := line_has g (k := k) (by omega)
    have e : s = s.take k ++ s[k] :: s.drop (k + 1) := by
      rw [← List.drop_eq_getElem_cons hl, List.take_append_drop]
    have g' : Good goal (s.take k ++ s[k] :: s.drop (k + 1)).length (s.take k ++ s[k] :: s.drop (k + 1)) := by
      rw [← e, g.len]
      exact g
    have hb := behind_has g'
    have hlen : (s.drop (k + 1)).length + 1 = many - k := by
      rw [List.length_drop, g.len]
      omega
    rw [hlen] at hb
    simp only [lineAt, List.mem_flatMap, longerOn, List.mem_map]
    refine ⟨_, ih, s[k], hb, ?_⟩
    rw [List.take_succ_eq_append_getElem hl, subs_snoc]
theorem tuples_iff {goal s : List Int} {n : Nat} : s ∈ tuplesOf goal n ↔ Good goal n s := by
  simp only [tuplesOf, List.mem_map, List.mem_filter, decide_eq_true_eq]
  constructor
  · rintro ⟨p, ⟨hp, e⟩, rfl⟩
    obtain ⟨l1, l2, l3, l4⟩ := line_sound hp
    exact ⟨l1, l2, l3, by rw [← l4, e]⟩
  · intro g
    refine ⟨(s, subs s), ⟨?_, g.to⟩, rfl⟩
    have := line_has g (k := n) (Nat.le_refl _)
    rwa [List.take_of_length_le (by rw [g.len]; exact Nat.le_refl _)] at this
/-! ### how long the lines are -/
theorem behind_len {goal reached : List Int} {last : Int} {many : Nat} : (stepsBehind goal reached last many).length ≤ goal.length := by
  unfold stepsBehind
  split
  · simp
  · split
    · simp
    · split
      · exact Nat.le_trans (List.length_filter_le _ _) (List.length_filter_le _ _)
      · simp
theorem flat_len {α β : Type} {f : α → List β} {b : Nat} : ∀ {l : List α}, (∀ x ∈ l, (f x).length ≤ b) → (l.flatMap f).length ≤ l.length * b
  | [], _ => by simp
  | x :: r, h => by
    rw [List.flatMap_cons, List.length_append, List.length_cons, Nat.succ_mul]
    have h1 := h x (by simp)
    have h2 := flat_len (l := r) (f := f) (b := b) fun y hy => h y (by simp [hy])
    omega
theorem line_len {goal : List Int} {many : Nat} : ∀ {k : Nat}, (lineAt goal many k).length ≤ goal.length ^ k
  | 0 => by simp [lineAt]
  | k + 1 => by
    simp only [lineAt]
    refine Nat.le_trans (flat_len (b := goal.length) fun p _ => ?_) ?_
    · unfold longerOn
      rw [List.length_map]
      exact behind_len
    · rw [Nat.pow_succ]
      exact Nat.mul_le_mul_right _ line_len
/-! ### all ascending tuples that make a total -/
def partsOf : Nat → Int → Int → List (List Int)
  | most, total, least => if total = 0 then [[]] else
    match most with
    | 0 => []
    | most + 1 => (List.range (total + 1 - least).toNat).flatMap fun (i : Nat) => (partsOf most (total - (least + (i : Int))) (least + (i : Int))).map fun r => (least + (i : Int)) :: r
theorem partsOf_zero (most : Nat) (least : Int) : partsOf most 0 least = [[]] := by
  cases most <;> simp [partsOf]
theorem partsOf_none {total least : Int} (h : total ≠ 0) : partsOf 0 total least = [] := by
  simp [partsOf, h]
theorem partsOf_succ {most : Nat} {total least : Int} (h : total ≠ 0) :
    partsOf (most + 1) total least = (List.range (total + 1 - least).toNat).flatMap fun (i : Nat) => (partsOf most (total - (least + (i : Int))) (least + (i : Int))).map fun r => (least + (i : Int)) :: r := by
  rw [partsOf, if_neg h]
theorem parts_iff : ∀ {most : Nat} {total least : Int} {s : List Int}, 1 ≤ least → (s ∈ partsOf most total least ↔ s.length ≤ most ∧ s.Pairwise (· ≤ ·) ∧ (∀ x ∈ s, least ≤ x) ∧ s.sum = total) := by
  intro most
  induction most with
  | zero =>
    intro total least s hl
    by_cases h : total = 0
    · subst h
      rw [partsOf_zero]
      constructor
      · intro e
        simp at e
        subst e
        simp
      · rintro ⟨e, _⟩
        have : s = [] := List.eq_nil_of_length_eq_zero (by omega)
        simp [this]
    · rw [partsOf_none h]
      constructor
      · intro e
        simp at e
      · rintro ⟨e, _, _, k⟩
        have : s = [] := List.eq_nil_of_length_eq_zero (by omega)
        rw [this] at k
        exact absurd k.symm h
  | succ most ih =>
    intro total least s hl
    by_cases h : total = 0
    · subst h
      rw [partsOf_zero]
      constructor
      · intro e
        simp at e
        subst e
        simp
      · rintro ⟨_, _, e, k⟩
        cases s with
        | nil => simp
        | cons x r =>
          have h1 := e x (by simp)
          have h2 := sum_nn (l := r) fun y hy => by
            have := e y (by simp [hy])
            omega
          rw [List.sum_cons] at k
          omega
    · rw [partsOf_succ h]
      simp only [List.mem_flatMap, List.mem_range, List.mem_map]
      constructor
      · rintro ⟨i, hi, r, hr, rfl⟩
        obtain ⟨a, b, c, d⟩ := (ih (by omega)).mp hr
        refine ⟨by simp; omega, List.pairwise_cons.mpr ⟨c, b⟩, fun x hx => ?_, by rw [List.sum_cons, d]; omega⟩
        rcases List.mem_cons.mp hx with e | e
        · omega
        · have := c x e
          omega
      · rintro ⟨a, b, c, d⟩
        cases s with
        | nil => exact absurd d.symm h
        | cons x r =>
          have hx := c x (by simp)
          obtain ⟨b1, b2⟩ := List.pairwise_cons.mp b
          have hr0 := sum_nn (l := r) fun y hy => by
            have := c y (by simp [hy])
            omega
          rw [List.sum_cons] at d
          have ex : least + ((x - least).toNat : Int) = x := by omega
          refine ⟨(x - least).toNat, by omega, r, ?_, by rw [ex]⟩
          rw [ex]
          exact (ih (by omega)).mpr ⟨by simp at a; omega, b2, b1, by omega⟩
theorem parts_len : ∀ {most : Nat} {total least : Int}, 1 ≤ least → 0 ≤ total → (partsOf most total least).length ≤ 2 ^ total.toNat := by
  intro most
  induction most with
  | zero =>
    intro total least _ _
    by_cases h : total = 0
    · subst h
      simp [partsOf_zero]
    · simp [partsOf_none h]
  | succ most ih =>
    intro total least hl ht
    by_cases h : total = 0
    · subst h
      simp [partsOf_zero]
    · rw [partsOf_succ h]
      have key : ∀ n : Nat, (n : Int) ≤ total + 1 - least → ((List.range n).flatMap fun (i : Nat) => (partsOf most (total - (least + (i : Int))) (least + (i : Int))).map fun r => (least + (i : Int)) :: r).length + 2 ^ (total.toNat - n) ≤ 2 ^ total.toNat := by
        intro n
        induction n with
        | zero => intro _; simp
        | succ n ihn =>
          intro hn
          have h1 := ihn (by omega)
          have h2 := ih (total := total - (least + (n : Int))) (least := least + (n : Int)) (by omega) (by omega)
          rw [List.range_succ, List.flatMap_append, List.length_append]
          simp only [List.flatMap_cons, List.flatMap_nil, List.append_nil, List.length_map]
          have h3 : 2 ^ (total - (least + (n : Int))).toNat ≤ 2 ^ (total.toNat - (n + 1)) := Nat.pow_le_pow_right (by omega) (by omega)
          have h4 : 2 ^ (total.toNat - n) = 2 ^ (total.toNat - (n + 1)) * 2 := by
            rw [← Nat.pow_succ]
            congr 1
            omega
          omega
      by_cases hle : 0 ≤ total + 1 - least
      · exact Nat.le_trans (Nat.le_add_right _ _) (key (total + 1 - least).toNat (by omega))
      · rw [show (total + 1 - least).toNat = 0 by omega]
        simp
end Km

/-! The least rows: plain Lean. -/
namespace Km
/-! ### the order of tuples -/
def lt : List Int → List Int → Bool
  | [], [] => false
  | [], _ :: _ => true
  | _ :: _, [] => false
  | x :: xs, y :: ys => if x = y then lt xs ys else decide (x < y)
theorem lt_irr : ∀ l, lt l l = false
  | [] => rfl
  | x :: r => by simp [lt, lt_irr r]
theorem lt_conn : ∀ {l m : List Int}, lt l m = false → lt m l = false → l = m
  | [], [], _, _ => rfl
  | [], _ :: _, h, _ => by simp [lt] at h
  | _ :: _, [], _, h => by simp [lt] at h
  | x :: r, y :: s, h, k => by
    by_cases e : x = y
    · subst e
      simp only [lt, if_true] at h k
      rw [lt_conn h k]
    · have e' : ¬ y = x := fun z => e z.symm
      simp only [lt, if_neg e, decide_eq_false_iff_not] at h
      simp only [lt, if_neg e', decide_eq_false_iff_not] at k
      omega
theorem lt_trans : ∀ {l m n : List Int}, lt l m = true → lt m n = true → lt l n = true
  | [], [], _, h, _ => by simp [lt] at h
  | [], _ :: _, [], _, h => by simp [lt] at h
  | [], _ :: _, _ :: _, _, _ => rfl
  | _ :: _, [], _, h, _ => by simp [lt] at h
  | _ :: _, _ :: _, [], _, h => by simp [lt] at h
  | x :: r, y :: s, z :: t, h, k => by
    by_cases e : x = y
    · subst e
      simp only [lt, if_true] at h
      by_cases e2 : x = z
      · subst e2
        simp only [lt, if_true] at k ⊢
        exact lt_trans h k
      · simp only [lt, if_neg e2] at k ⊢
        exact k
    · simp only [lt, if_neg e, decide_eq_true_eq] at h
      by_cases e2 : y = z
      · subst e2
        simp only [lt, if_neg e, decide_eq_true_eq]
        exact h
      · simp only [lt, if_neg e2, decide_eq_true_eq] at k
        have : ¬ x = z := by omega
        simp only [lt, if_neg this, decide_eq_true_eq]
        omega
/-- none is less -/
structure IsMin (m : List Int) (l : List (List Int)) : Prop where
  mem : m ∈ l
  le : ∀ y ∈ l, lt y m = false
theorem IsMin.one {m m' : List Int} {l : List (List Int)} (h : IsMin m l) (h' : IsMin m' l) : m = m' :=
  lt_conn (h'.le m h.mem) (h.le m' h'.mem)
theorem IsMin.cong {m : List Int} {l l' : List (List Int)} (h : IsMin m l) (e : ∀ x, x ∈ l ↔ x ∈ l') : IsMin m l' :=
  ⟨(e m).mp h.mem, fun y hy => h.le y ((e y).mpr hy)⟩
/-- the least of some -/
def least (d : List Int) : List (List Int) → List Int
  | [] => d
  | x :: r => least (if lt x d = true then x else d) r
theorem least_min : ∀ {r : List (List Int)} {d : List Int}, IsMin (least d r) (d :: r)
  | [], d => ⟨by simp [least], by simp [least, lt_irr]⟩
  | x :: r, d => by
    have ih := least_min (r := r) (d := if lt x d = true then x else d)
    show IsMin (least (if lt x d = true then x else d) r) (d :: x :: r)
    refine ⟨?_, fun y hy => ?_⟩
    · rcases List.mem_cons.mp ih.mem with e | e
      · rw [e]
        split <;> simp
      · exact List.mem_cons_of_mem _ (List.mem_cons_of_mem _ e)
    · have h0 := ih.le (if lt x d = true then x else d) (by simp)
      rcases List.mem_cons.mp hy with e | hy
      · subst e
        by_cases q : lt x y = true
        · rw [if_pos q] at h0 ⊢
          cases h : lt y (least x r)
          · rfl
          · have := lt_trans q h
            rw [this] at h0
            cases h0
        · rw [if_neg q] at h0 ⊢
          exact h0
      · rcases List.mem_cons.mp hy with e | hy
        · subst e
          by_cases q : lt y d = true
          · rw [if_pos q] at h0 ⊢
            exact h0
          · rw [if_neg q] at h0 ⊢
            cases h : lt y (least d r)
            · rfl
            · exfalso
              by_cases e2 : lt d y = true
              · have := lt_trans e2 h
                rw [this] at h0
                cases h0
              · have : y = d := lt_conn (by simpa using q) (by simpa using e2)
                rw [this] at h
                rw [h] at h0
                cases h0
        · exact ih.le y (List.mem_cons_of_mem _ hy)
def leastOf : List (List Int) → List Int
  | [] => []
  | x :: r => least x r
theorem leastOf_min {l : List (List Int)} (h : l ≠ []) : IsMin (leastOf l) l := by
  cases l with
  | nil => exact absurd rfl h
  | cons x r => exact least_min
/-! ### all rows -/
def rowsOf : Nat → Int → Int → List Int → List (List Int)
  | 0, first, last, steps => if steps = [] then (if first = last then [[first]] else []) else []
  | n + 1, first, last, steps =>
    if steps = [] then (if first = last then [[first]] else []) else
    (List.range steps.length).flatMap fun k => if steps.getD k 0 ∈ steps.take k then [] else
      (rowsOf n (first - steps.getD k 0) last (steps.take k ++ steps.drop (k + 1))).map (first :: ·) ++ (rowsOf n (first + steps.getD k 0) last (steps.take k ++ steps.drop (k + 1))).map (first :: ·)
theorem rowsOf_nil (n : Nat) (first last : Int) : rowsOf n first last [] = if first = last then [[first]] else [] := by
  cases n <;> simp [rowsOf]
theorem rowsOf_cons {n : Nat} {first last : Int} {steps : List Int} (h : steps ≠ []) : rowsOf (n + 1) first last steps =
    (List.range steps.length).flatMap fun k => if steps.getD k 0 ∈ steps.take k then [] else
      (rowsOf n (first - steps.getD k 0) last (steps.take k ++ steps.drop (k + 1))).map (first :: ·) ++ (rowsOf n (first + steps.getD k 0) last (steps.take k ++ steps.drop (k + 1))).map (first :: ·) := by
  rw [rowsOf, if_neg h]
/-- what can come next, and by which step -/
def cands (cur last : Int) (left : List Int) : List (List Int) :=
  (List.range left.length).flatMap fun k => ([cur - left.getD k 0, cur + left.getD k 0].filter fun there => decide (last - there ∈ allSums (left.take k ++ left.drop (k + 1)))).map fun there => [there, (k : Int)]
theorem mem_cands {cur last : Int} {left : List Int} {c : List Int} : c ∈ cands cur last left ↔ ∃ (k : Nat) (there : Int), k < left.length ∧ (there = cur - left.getD k 0 ∨ there = cur + left.getD k 0) ∧ last - there ∈ allSums (left.take k ++ left.drop (k + 1)) ∧ c = [there, (k : Int)] := by
  simp only [cands, List.mem_flatMap, List.mem_range, List.mem_map, List.mem_filter, decide_eq_true_eq, List.mem_cons, List.not_mem_nil, or_false]
  constructor
  · rintro ⟨k, h1, there, ⟨h2, h3⟩, e⟩
    exact ⟨k, there, h1, h2, h3, e.symm⟩
  · rintro ⟨k, there, h1, h2, h3, e⟩
    exact ⟨k, h1, there, ⟨h2, h3⟩, e.symm⟩
def leastFrom : Nat → Int → Int → List Int → List Int
  | 0, cur, _, _ => [cur]
  | n + 1, cur, last, left => if left = [] then [cur] else
    cur :: leastFrom n ((leastOf (cands cur last left)).getD 0 0) last (left.take ((leastOf (cands cur last left)).getD 1 0).toNat ++ left.drop (((leastOf (cands cur last left)).getD 1 0).toNat + 1))
theorem cut_perm {l : List Int} {k : Nat} (h : k < l.length) : (l.getD k 0 :: (l.take k ++ l.drop (k + 1))).Perm l := by
  have e : l = l.take k ++ l.getD k 0 :: l.drop (k + 1) := by
    rw [List.getD_eq_getElem?_getD, List.getElem?_eq_getElem h]
    show l = l.take k ++ l[k] :: l.drop (k + 1)
    rw [← List.drop_eq_getElem_cons h, List.take_append_drop]
  conv => rhs; rw [e]
  exact List.perm_middle.symm
theorem cut_len {l : List Int} {k : Nat} (h : k < l.length) : (l.take k ++ l.drop (k + 1)).length + 1 = l.length := by
  have := (cut_perm h).length_eq
  simpa using this
theorem cut_up {l : List Int} {k : Nat} (h : l.Pairwise (· ≤ ·)) : (l.take k ++ l.drop (k + 1)).Pairwise (· ≤ ·) := by
  rw [← List.eraseIdx_eq_take_drop_succ]
  exact List.Pairwise.sublist (List.eraseIdx_sublist l k) h
theorem cut_mem {l : List Int} {k : Nat} {x : Int} (h : x ∈ l.take k ++ l.drop (k + 1)) : x ∈ l := by
  rcases List.mem_append.mp h with h | h
  · exact List.mem_of_mem_take h
  · exact List.mem_of_mem_drop h
theorem getD_mem {l : List Int} {k : Nat} (h : k < l.length) : l.getD k 0 ∈ l := by
  rw [List.getD_eq_getElem?_getD, List.getElem?_eq_getElem h]
  exact List.getElem_mem h
/-- the sums of steps, one of them taken first -/
theorem sums_cons {s x : Int} {r : List Int} : x ∈ allSums (s :: r) ↔ x - s ∈ allSums r ∨ x + s ∈ allSums r := by
  simp only [mem_allSums, List.sum_cons]
  constructor
  · rintro ⟨p, h | h, e⟩
    · exact .inr ⟨p, h, by omega⟩
    · exact .inl ⟨p - s, h, by omega⟩
  · rintro (⟨p, h, e⟩ | ⟨p, h, e⟩)
    · exact ⟨p + s, .inr (by rwa [show p + s - s = p by omega]), by omega⟩
    · exact ⟨p, .inl h, by omega⟩
theorem sums_cut {l : List Int} {k : Nat} {x : Int} (h : k < l.length) : x ∈ allSums l ↔ x - l.getD k 0 ∈ allSums (l.take k ++ l.drop (k + 1)) ∨ x + l.getD k 0 ∈ allSums (l.take k ++ l.drop (k + 1)) := by
  rw [← allSums_perm (cut_perm h)]
  exact sums_cons
/-- of equal steps of an ascending tuple it is one which is left out -/
theorem cut_same {l : List Int} {i j : Nat} (hp : l.Pairwise (· ≤ ·)) (hij : i ≤ j) (hj : j < l.length) (e : l.getD i 0 = l.getD j 0) : l.take i ++ l.drop (i + 1) = l.take j ++ l.drop (j + 1) := by
  have mono : ∀ (a b : Nat) (hb : b < l.length), a ≤ b → l.getD a 0 ≤ l.getD b 0 := fun a b hb hab => by
    rcases Nat.lt_or_eq_of_le hab with h | h
    · have := List.pairwise_iff_getElem.mp hp a b (by omega) hb h
      rw [List.getD_eq_getElem?_getD, List.getD_eq_getElem?_getD, List.getElem?_eq_getElem hb, List.getElem?_eq_getElem (show a < l.length by omega)]
      exact this
    · rw [h]
      exact Int.le_refl _
  rw [← List.eraseIdx_eq_take_drop_succ, ← List.eraseIdx_eq_take_drop_succ]
  refine List.ext_getElem? fun k => ?_
  rw [List.getElem?_eraseIdx, List.getElem?_eraseIdx]
  by_cases h1 : k < i
  · rw [if_pos h1, if_pos (by omega)]
  · rw [if_neg h1]
    by_cases h2 : k < j
    · rw [if_pos h2]
      have a1 := mono i k (by omega) (by omega)
      have a2 := mono k (k + 1) (by omega) (by omega)
      have a3 := mono (k + 1) j hj (by omega)
      have : l.getD k 0 = l.getD (k + 1) 0 := by omega
      rw [List.getD_eq_getElem?_getD, List.getD_eq_getElem?_getD, List.getElem?_eq_getElem (show k < l.length by omega), List.getElem?_eq_getElem (show k + 1 < l.length by omega)] at this
      rw [List.getElem?_eq_getElem (show k < l.length by omega), List.getElem?_eq_getElem (show k + 1 < l.length by omega)]
      exact congrArg some this.symm
    · rw [if_neg h2]
theorem row_head : ∀ {n : Nat} {first last : Int} {steps r : List Int}, r ∈ rowsOf n first last steps → ∃ t, r = first :: t := by
  intro n first last steps r h
  by_cases e : steps = []
  · subst e
    rw [rowsOf_nil] at h
    split at h
    · simp at h
      exact ⟨[], h⟩
    · simp at h
  · cases n with
    | zero => simp [rowsOf, e] at h
    | succ n =>
      rw [rowsOf_cons e] at h
      obtain ⟨k, _, h⟩ := List.mem_flatMap.mp h
      split at h
      · simp at h
      · simp only [List.mem_append, List.mem_map] at h
        rcases h with ⟨t, _, e⟩ | ⟨t, _, e⟩ <;> exact ⟨t, e.symm⟩
theorem row_sums : ∀ {n : Nat} {first last : Int} {steps r : List Int}, r ∈ rowsOf n first last steps → last - first ∈ allSums steps := by
  intro n
  induction n with
  | zero =>
    intro first last steps r h
    by_cases e : steps = []
    · subst e
      rw [rowsOf_nil] at h
      split at h
      · rename_i q
        rw [q, show last - last = 0 by omega]
        simp [allSums]
      · simp at h
    · simp [rowsOf, e] at h
  | succ n ih =>
    intro first last steps r h
    by_cases e : steps = []
    · subst e
      rw [rowsOf_nil] at h
      split at h
      · rename_i q
        rw [q, show last - last = 0 by omega]
        simp [allSums]
      · simp at h
    · rw [rowsOf_cons e] at h
      obtain ⟨k, hk, h⟩ := List.mem_flatMap.mp h
      have hk := List.mem_range.mp hk
      split at h
      · simp at h
      · simp only [List.mem_append, List.mem_map] at h
        rw [sums_cut hk]
        rcases h with ⟨t, ht, _⟩ | ⟨t, ht, _⟩
        · have := ih ht
          exact .inr (by rwa [show last - first + steps.getD k 0 = last - (first - steps.getD k 0) by omega])
        · have := ih ht
          exact .inl (by rwa [show last - first - steps.getD k 0 = last - (first + steps.getD k 0) by omega])
theorem lt_cons {x : Int} {l m : List Int} : lt (x :: l) (x :: m) = lt l m := by simp [lt]
theorem least_row : ∀ {n : Nat} {cur last : Int} {left : List Int}, left.length = n → left.Pairwise (· ≤ ·) → (∀ x ∈ left, 1 ≤ x) → last - cur ∈ allSums left →
    IsMin (leastFrom n cur last left) (rowsOf n cur last left) := by
  intro n
  induction n with
  | zero =>
    intro cur last left hl _ _ hs
    have : left = [] := List.eq_nil_of_length_eq_zero hl
    subst this
    simp [allSums] at hs
    rw [rowsOf_nil, if_pos (by omega)]
    exact ⟨by simp [leastFrom], by simp [leastFrom, lt_irr]⟩
  | succ n ih =>
    intro cur last left hl hu hp hs
    have hne : left ≠ [] := fun e => by
      rw [e] at hl
      cases hl
    have h0 : 0 < left.length := by omega
    have hc : cands cur last left ≠ [] := fun e => by
      rcases (sums_cut h0).mp hs with h | h
      · have : [cur + left.getD 0 0, ((0 : Nat) : Int)] ∈ cands cur last left := mem_cands.mpr ⟨0, _, h0, .inr rfl, by rwa [show last - (cur + left.getD 0 0) = last - cur - left.getD 0 0 by omega], rfl⟩
        rw [e] at this
        simp at this
      · have : [cur - left.getD 0 0, ((0 : Nat) : Int)] ∈ cands cur last left := mem_cands.mpr ⟨0, _, h0, .inl rfl, by rwa [show last - (cur - left.getD 0 0) = last - cur + left.getD 0 0 by omega], rfl⟩
        rw [e] at this
        simp at this
    have hm := leastOf_min hc
    obtain ⟨k, there, hk, hth, hfe, em⟩ := mem_cands.mp hm.mem
    have e0 : (leastOf (cands cur last left)).getD 0 0 = there := by rw [em]; rfl
    have e1 : ((leastOf (cands cur last left)).getD 1 0).toNat = k := by rw [em]; simp
    rw [leastFrom, if_neg hne, e0, e1]
    have hlen : (left.take k ++ left.drop (k + 1)).length = n := by
      have := cut_len hk
      omega
    have ihm := ih (cur := there) (last := last) hlen (cut_up hu) (fun x hx => hp x (cut_mem hx)) hfe
    have pk := hp _ (getD_mem hk)
    have mono : ∀ (a b : Nat) (hb : b < left.length), a ≤ b → left.getD a 0 ≤ left.getD b 0 := fun a b hb hab => by
      rcases Nat.lt_or_eq_of_le hab with h | h
      · have := List.pairwise_iff_getElem.mp hu a b (by omega) hb h
        rw [List.getD_eq_getElem?_getD, List.getD_eq_getElem?_getD, List.getElem?_eq_getElem hb, List.getElem?_eq_getElem (show a < left.length by omega)]
        exact this
      · rw [h]
        exact Int.le_refl _
    rw [rowsOf_cons hne]
    refine ⟨?_, fun y hy => ?_⟩
    · refine List.mem_flatMap.mpr ⟨k, List.mem_range.mpr hk, ?_⟩
      have fresh : ¬ left.getD k 0 ∈ left.take k := fun h => by
        obtain ⟨j, hj, ej⟩ := List.getElem_of_mem h
        have hj1 : j < k := by
          rw [List.length_take] at hj
          omega
        have ej2 : left.getD j 0 = left.getD k 0 := by
          rw [← ej, List.getD_eq_getElem?_getD, List.getElem_take, List.getElem?_eq_getElem (show j < left.length by omega)]
          rfl
        have : [there, (j : Int)] ∈ cands cur last left := mem_cands.mpr ⟨j, there, by omega, by rw [ej2]; exact hth, by rw [cut_same hu (by omega) hk ej2]; exact hfe, rfl⟩
        have := hm.le _ this
        rw [em] at this
        simp only [lt, if_true] at this
        rw [if_neg (by omega)] at this
        simp at this
        omega
      rw [if_neg fresh, List.mem_append, List.mem_map, List.mem_map]
      rcases hth with e | e
      · rw [← e]
        exact .inl ⟨_, ihm.mem, rfl⟩
      · rw [← e]
        exact .inr ⟨_, ihm.mem, rfl⟩
    · obtain ⟨j, hj, hy⟩ := List.mem_flatMap.mp hy
      have hj := List.mem_range.mp hj
      split at hy
      · simp at hy
      · rename_i fresh
        simp only [List.mem_append, List.mem_map] at hy
        have go : ∀ (t' : Int) (r : List Int), (t' = cur - left.getD j 0 ∨ t' = cur + left.getD j 0) → r ∈ rowsOf n t' last (left.take j ++ left.drop (j + 1)) → lt (cur :: r) (cur :: leastFrom n there last (left.take k ++ left.drop (k + 1))) = false := by
          intro t' r ht' hr
          rw [lt_cons]
          have hmem : [t', (j : Int)] ∈ cands cur last left := mem_cands.mpr ⟨j, t', hj, ht', row_sums hr, rfl⟩
          have hle := hm.le _ hmem
          rw [em] at hle
          have pj := hp _ (getD_mem hj)
          by_cases et : t' = there
          · have es : left.getD j 0 = left.getD k 0 := by
              rcases ht' with a | a <;> rcases hth with b | b <;> omega
            have ec : left.take j ++ left.drop (j + 1) = left.take k ++ left.drop (k + 1) := by
              rcases Nat.le_total j k with q | q
              · exact cut_same hu q hk es
              · exact (cut_same hu q hj es.symm).symm
            rw [ec, et] at hr
            exact ihm.le _ hr
          · simp only [lt, if_neg et, decide_eq_false_iff_not] at hle
            obtain ⟨r1, e1⟩ := row_head hr
            obtain ⟨r2, e2⟩ := row_head ihm.mem
            rw [e1, e2]
            simp only [lt, if_neg et, decide_eq_false_iff_not]
            exact hle
        rcases hy with ⟨r, hr, rfl⟩ | ⟨r, hr, rfl⟩
        · exact go _ r (.inl rfl) hr
        · exact go _ r (.inr rfl) hr
/-! ### how many rows -/
def fact2 : Nat → Nat
  | 0 => 1
  | n + 1 => (n + 1) * (2 * fact2 n)
theorem rows_len : ∀ {n : Nat} {first last : Int} {steps : List Int}, steps.length = n → (rowsOf n first last steps).length ≤ fact2 n := by
  intro n
  induction n with
  | zero =>
    intro first last steps h
    have : steps = [] := List.eq_nil_of_length_eq_zero h
    subst this
    rw [rowsOf_nil]
    split <;> simp [fact2]
  | succ n ih =>
    intro first last steps h
    have hne : steps ≠ [] := fun e => by
      rw [e] at h
      cases h
    rw [rowsOf_cons hne]
    refine Nat.le_trans (flat_len (b := 2 * fact2 n) fun k hk => ?_) ?_
    · have hk := List.mem_range.mp hk
      split
      · simp
      · have hl : (steps.take k ++ steps.drop (k + 1)).length = n := by
          have := cut_len hk
          omega
        rw [List.length_append, List.length_map, List.length_map]
        have h1 := ih (first := first - steps.getD k 0) (last := last) hl
        have h2 := ih (first := first + steps.getD k 0) (last := last) hl
        omega
    · rw [List.length_range, h]
      exact Nat.le_refl _
end Km

/-! The law's answer and the program's: plain Lean. -/
namespace Km
def iabs (i : Int) : Int := if i < 0 then -i else i
/-- the steps of a row -/
def stepsOf : List Int → List Int
  | x :: y :: r => iabs (x - y) :: stepsOf (y :: r)
  | _ => []
theorem stepsOf_len : ∀ r : List Int, (stepsOf r).length = r.length - 1
  | [] => rfl
  | [_] => rfl
  | x :: y :: r => by
    have := stepsOf_len (y :: r)
    simp only [stepsOf, List.length_cons] at this ⊢
    omega
theorem stepsOf_nn : ∀ r : List Int, ∀ x ∈ stepsOf r, 0 ≤ x
  | [], x, h => by simp [stepsOf] at h
  | [_], x, h => by simp [stepsOf] at h
  | a :: b :: r, x, h => by
    rcases List.mem_cons.mp h with e | e
    · rw [e]
      unfold iabs
      split <;> omega
    · exact stepsOf_nn (b :: r) x e
theorem stepsOf_get : ∀ (r : List Int) (i : Nat) (x y : Int), r[i]? = some x → r[i + 1]? = some y → (stepsOf r)[i]? = some (iabs (x - y))
  | [], _, _, _, h, _ => by simp at h
  | [_], 0, _, _, _, h => by simp at h
  | [_], i + 1, _, _, h, _ => by simp at h
  | a :: b :: r, 0, x, y, h, h2 => by
    have e1 : a = x := Option.some.inj h
    have e2 : b = y := Option.some.inj h2
    rw [← e1, ← e2]
    rfl
  | a :: b :: r, i + 1, x, y, h, h2 => stepsOf_get (b :: r) i x y h h2
/-- what a row of rowsOf is -/
theorem row_is : ∀ {n : Nat} {first last : Int} {s r : List Int}, s.length = n → (∀ x ∈ s, 0 ≤ x) → r ∈ rowsOf n first last s →
    (stepsOf r).Perm s ∧ r.length = n + 1 ∧ r.head? = some first ∧ r.getLast? = some last ∧ ∀ x ∈ r, first - s.sum ≤ x ∧ x ≤ first + s.sum := by
  intro n
  induction n with
  | zero =>
    intro first last s r hl hp h
    have : s = [] := List.eq_nil_of_length_eq_zero hl
    subst this
    rw [rowsOf_nil] at h
    split at h
    · rename_i e
      simp at h
      subst h
      subst e
      exact ⟨List.Perm.refl _, rfl, rfl, rfl, fun x hx => by simp at hx; simp [hx]⟩
    · simp at h
  | succ n ih =>
    intro first last s r hl hp h
    have hne : s ≠ [] := fun e => by
      rw [e] at hl
      cases hl
    rw [rowsOf_cons hne] at h
    obtain ⟨k, hk, h⟩ := List.mem_flatMap.mp h
    have hk := List.mem_range.mp hk
    split at h
    · simp at h
    · have hlen : (s.take k ++ s.drop (k + 1)).length = n := by
        have := cut_len hk
        omega
      have hs := sum_perm (cut_perm hk)
      rw [List.sum_cons] at hs
      have pk := hp _ (getD_mem hk)
      have hcp : ∀ x ∈ s.take k ++ s.drop (k + 1), 0 ≤ x := fun x hx => hp x (cut_mem hx)
      have hcs := sum_nn hcp
      simp only [List.mem_append, List.mem_map] at h
      have go : ∀ (t' : Int) (q : List Int), (t' = first - s.getD k 0 ∨ t' = first + s.getD k 0) → q ∈ rowsOf n t' last (s.take k ++ s.drop (k + 1)) → first :: q = r →
          (stepsOf r).Perm s ∧ r.length = n + 1 + 1 ∧ r.head? = some first ∧ r.getLast? = some last ∧ ∀ x ∈ r, first - s.sum ≤ x ∧ x ≤ first + s.sum := by
        intro t' q ht hq e
        subst e
        obtain ⟨i1, i2, i3, i4, i5⟩ := ih hlen hcp hq
        obtain ⟨q', e2⟩ := row_head hq
        subst e2
        refine ⟨?_, by simp at i2 ⊢; exact i2, rfl, by rw [List.getLast?_cons_cons]; exact i4, fun x hx => ?_⟩
        · have : iabs (first - t') = s.getD k 0 := by
            unfold iabs
            split <;> omega
          show (iabs (first - t') :: stepsOf (t' :: q')).Perm s
          rw [this]
          exact (List.Perm.cons _ i1).trans (cut_perm hk)
        · rcases List.mem_cons.mp hx with e | e
          · omega
          · have := i5 x e
            omega
      rcases h with ⟨q, hq, e⟩ | ⟨q, hq, e⟩
      · exact go _ q (.inl rfl) hq e
      · exact go _ q (.inr rfl) hq e
/-- the law's lots -/
def lotsOf (l : List Int) : List (List Int) := (partsOf 7 l.sum 1).filter fun s => decide (allSums s = allSums l)
theorem lots_iff {l s : List Int} (hl : ∀ x ∈ l, 0 ≤ x) : s ∈ lotsOf l ↔ s.length ≤ 7 ∧ Good (subs l) s.length s := by
  unfold lotsOf
  rw [List.mem_filter, parts_iff (by omega), decide_eq_true_eq]
  constructor
  · rintro ⟨⟨a, b, c, d⟩, e⟩
    exact ⟨a, rfl, b, c, (sums_iff (nn_of_pos c) hl).mp e⟩
  · rintro ⟨a, _, b, c, e⟩
    refine ⟨⟨a, b, c, ?_⟩, (sums_iff (nn_of_pos c) hl).mpr e⟩
    rw [← subs_last (nn_of_pos c) 0, e, subs_last hl]
/-- so many steps are the fewest -/
structure Fewest (l : List Int) (n : Nat) : Prop where
  has : tuplesOf (subs l) n ≠ []
  no : ∀ j, j < n → tuplesOf (subs l) j = []
theorem fewest_some {l : List Int} {n : Nat} (h : ∃ s, Good (subs l) n s) : ∃ m, m ≤ n ∧ Fewest l m := by
  have : ∀ k : Nat, (∀ j, j < k → tuplesOf (subs l) j = []) → k ≤ n → ∃ m, m ≤ n ∧ Fewest l m := by
    intro k
    generalize hd : n - k = d
    induction d generalizing k with
    | zero =>
      intro hno hk
      have : k = n := by omega
      subst this
      obtain ⟨s, hs⟩ := h
      exact ⟨k, Nat.le_refl _, fun e => by
        have := tuples_iff.mpr hs
        rw [e] at this
        simp at this, hno⟩
    | succ d ih =>
      intro hno hk
      by_cases e : tuplesOf (subs l) k = []
      · refine ih (k + 1) (by omega) (fun j hj => ?_) (by omega)
        by_cases q : j = k
        · rw [q]; exact e
        · exact hno j (by omega)
      · exact ⟨k, hk, e, hno⟩
  exact this 0 (fun j hj => absurd hj (by omega)) (by omega)
theorem insert_sorted (l : List Int) : ∃ s : List Int, s.Perm l ∧ s.Pairwise (· ≤ ·) :=
  ⟨l.mergeSort (fun a b => decide (a ≤ b)), List.mergeSort_perm l _, by
    have := List.pairwise_mergeSort (le := fun a b : Int => decide (a ≤ b)) (fun a b c h k => by simp at *; omega) (fun a b => by simp; omega) l
    exact this.imp fun h => by simpa using h⟩
/-- the row's own steps, but for 0, make its sums -/
theorem own_good {l : List Int} (hl : ∀ x ∈ l, 0 ≤ x) : ∃ s, s.length ≤ l.length ∧ s.sum = l.sum ∧ Good (subs l) s.length s := by
  obtain ⟨s, hp, hu⟩ := insert_sorted (l.filter fun x => decide (x ≠ 0))
  have e : ∀ p, PS s p ↔ PS l p := fun p => (PS.perm hp p).trans (PS.nz l p)
  have hlen : s.length ≤ l.length := by
    rw [hp.length_eq]
    exact List.length_filter_le _ _
  have hpos : ∀ x ∈ s, 1 ≤ x := fun x hx => by
    have := List.mem_filter.mp (hp.mem_iff.mp hx)
    have h1 := hl x this.1
    have h2 : x ≠ 0 := by simpa using this.2
    omega
  have hsub := subs_cong e
  refine ⟨s, hlen, ?_, rfl, hu, hpos, hsub⟩
  rw [← subs_last (nn_of_pos hpos) 0, hsub, subs_last hl]
theorem fewest_one {l : List Int} {n m : Nat} (h : Fewest l n) (k : Fewest l m) : n = m := by
  rcases Nat.lt_trichotomy n m with q | q | q
  · exact absurd (k.no n q) h.has
  · exact q
  · exact absurd (h.no m q) k.has
/-- the least of the lots' lengths -/
theorem lots_many {l : List Int} (hl : ∀ x ∈ l, 0 ≤ x) {n : Nat} (hn : n ≤ 7) (f : Fewest l n) : (n : Int) ∈ (lotsOf l).map (fun s => (s.length : Int)) ∧ ∀ y ∈ (lotsOf l).map (fun s => (s.length : Int)), (n : Int) ≤ y := by
  constructor
  · cases h : tuplesOf (subs l) n with
    | nil => exact absurd h f.has
    | cons s r =>
      have g : Good (subs l) n s := tuples_iff.mp (by rw [h]; simp)
      have e := g.len
      refine List.mem_map.mpr ⟨s, (lots_iff hl).mpr ⟨by omega, by rw [e]; exact g⟩, by rw [e]⟩
  · intro y hy
    obtain ⟨s, hs, e⟩ := List.mem_map.mp hy
    obtain ⟨h1, g⟩ := (lots_iff hl).mp hs
    rw [← e]
    rcases Nat.lt_or_ge s.length n with q | q
    · have := tuples_iff.mpr g
      rw [f.no _ q] at this
      simp at this
    · omega
/-- all rows of the shortest lots -/
def rowsAll (n : Nat) (first last : Int) (lots : List (List Int)) : List (List Int) := lots.flatMap fun s => if s.length = n then rowsOf s.length first last s else []
/-- the program's least and the law's are one -/
theorem told_due {l : List Int} (hl : ∀ x ∈ l, 0 ≤ x) {n : Nat} (hn : n ≤ 7) (f : Fewest l n) {first last : Int} (hs : last - first ∈ allSums l) {told due : List Int}
    (ht : IsMin told ((tuplesOf (subs l) n).map fun s => leastFrom s.length first last s)) (hd : IsMin due (rowsAll n first last (lotsOf l))) :
    told = due ∧ due.length = n + 1 ∧ due.head? = some first ∧ due.getLast? = some last ∧ allSums (stepsOf due) = allSums l ∧ ∀ x ∈ due, first - l.sum ≤ x ∧ x ≤ first + l.sum := by
  have sumof : ∀ {s : List Int}, Good (subs l) n s → allSums s = allSums l := fun {s} g => (sums_iff (nn_of_pos g.pos) hl).mpr g.to
  have lst : ∀ {s : List Int}, Good (subs l) n s → IsMin (leastFrom s.length first last s) (rowsOf s.length first last s) := fun {s} g => least_row rfl g.up g.pos (by rw [sumof g]; exact hs)
  have inAll : ∀ {s r : List Int}, Good (subs l) n s → r ∈ rowsOf s.length first last s → r ∈ rowsAll n first last (lotsOf l) := fun {s r} g hr =>
    List.mem_flatMap.mpr ⟨s, (lots_iff hl).mpr ⟨by rw [g.len]; exact hn, by rw [g.len]; exact g⟩, by rw [if_pos g.len]; exact hr⟩
  have ofAll : ∀ {r : List Int}, r ∈ rowsAll n first last (lotsOf l) → ∃ s, Good (subs l) n s ∧ r ∈ rowsOf s.length first last s := fun {r} hr => by
    obtain ⟨s, h1, h2⟩ := List.mem_flatMap.mp hr
    obtain ⟨_, g⟩ := (lots_iff hl).mp h1
    split at h2
    · rename_i e
      rw [e] at g
      exact ⟨s, g, h2⟩
    · simp at h2
  have e : told = due := by
    refine IsMin.one ⟨?_, fun y hy => ?_⟩ hd
    · obtain ⟨s, h1, h2⟩ := List.mem_map.mp ht.mem
      have g := tuples_iff.mp h1
      rw [← h2]
      exact inAll g (lst g).mem
    · obtain ⟨s, g, hr⟩ := ofAll hy
      have h1 := (lst g).le y hr
      have h2 := ht.le _ (List.mem_map.mpr ⟨s, tuples_iff.mpr g, rfl⟩)
      cases h : lt y told
      · rfl
      · exfalso
        cases h3 : lt told (leastFrom s.length first last s)
        · have e := lt_conn h2 h3
          rw [e] at h1
          rw [h] at h1
          cases h1
        · have := lt_trans h h3
          rw [this] at h1
          cases h1
  obtain ⟨s, g, hr⟩ := ofAll hd.mem
  obtain ⟨r1, r2, r3, r4, r5⟩ := row_is rfl (nn_of_pos g.pos) hr
  refine ⟨e, by rw [r2, g.len], r3, r4, by rw [allSums_perm r1, sumof g], fun x hx => ?_⟩
  have := r5 x hx
  have q : s.sum = l.sum := by rw [← subs_last (nn_of_pos g.pos) 0, g.to, subs_last hl]
  rw [q] at this
  exact this
/-- there are rows -/
theorem rows_some {l : List Int} (hl : ∀ x ∈ l, 0 ≤ x) {n : Nat} (hn : n ≤ 7) (f : Fewest l n) {first last : Int} (hs : last - first ∈ allSums l) : rowsAll n first last (lotsOf l) ≠ [] := fun e => by
  cases h : tuplesOf (subs l) n with
  | nil => exact f.has h
  | cons s r =>
    have g : Good (subs l) n s := tuples_iff.mp (by rw [h]; simp)
    have := (least_row (n := s.length) (cur := first) (last := last) rfl g.up g.pos (by rw [(sums_iff (nn_of_pos g.pos) hl).mpr g.to]; exact hs)).mem
    have : leastFrom s.length first last s ∈ rowsAll n first last (lotsOf l) := List.mem_flatMap.mpr ⟨s, (lots_iff hl).mpr ⟨by rw [g.len]; exact hn, by rw [g.len]; exact g⟩, by rw [if_pos g.len]; exact this⟩
    rw [e] at this
    simp at this
theorem fact2_mono {a b : Nat} (h : a ≤ b) : fact2 a ≤ fact2 b := by
  induction h with
  | refl => exact Nat.le_refl _
  | step h ih =>
    rename_i m
    refine Nat.le_trans ih ?_
    simp only [fact2]
    rw [Nat.add_mul, Nat.one_mul]
    omega
theorem rowsAll_len {n : Nat} {first last : Int} {lots : List (List Int)} : (rowsAll n first last lots).length ≤ lots.length * fact2 n := by
  unfold rowsAll
  refine flat_len fun s _ => ?_
  split
  · rename_i e
    rw [e]
    exact rows_len e
  · simp
theorem lots_len {l : List Int} (hl : ∀ x ∈ l, 0 ≤ x) : (lotsOf l).length ≤ 2 ^ l.sum.toNat :=
  Nat.le_trans (List.length_filter_le _ _) (parts_len (by omega) (sum_nn hl))
/-- a row's ends differ by one of its sums -/
theorem ends_sum : ∀ {r : List Int} {a b : Int}, r.head? = some a → r.getLast? = some b → b - a ∈ allSums (stepsOf r)
  | [], _, _, h, _ => by simp at h
  | [x], a, b, h, k => by
    simp at h k
    subst h
    subst k
    simp [stepsOf, allSums]
  | x :: y :: r, a, b, h, k => by
    simp at h
    subst h
    rw [List.getLast?_cons_cons] at k
    have ih := ends_sum (r := y :: r) rfl k
    show b - x ∈ allSums (iabs (x - y) :: stepsOf (y :: r))
    rw [sums_cons]
    unfold iabs
    split
    · exact .inl (by rwa [show b - x - -(x - y) = b - y by omega])
    · exact .inr (by rwa [show b - x + (x - y) = b - y by omega])
end Km

/-! set(a list or a tuple of ints), sorted of a set of ints, however many. -/
namespace Kr
open PySem PySem.Spec PyProof.Rows L2
section
variable {P : Program} {w : World} {A : Around} {E : Value → Shared → Prop} {s : Shared}
/-- the new set's object -/
abbrev bareSet (w : World) : Obj := { cls := .type "set", dict := none, data := .set #[] 0 (.fresh 0 0 (!w.params.followText "set-order")) }
set_option maxHeartbeats 3200000 in
theorem set_of_list {l : Addr} {items : Array Value} (ns : List Int) {Q : Value → Shared → Prop} (hh : A.handled = none) (hl : s.heap.IsList l items) (hit : IntsAre items.toList ns) (hb : ns.length + 1 < scanBound)
    (h : ∀ (h' : Heap) (tk c : Nat), SetR w h' s.heap.objs.size (fun j => decide (j ∈ ns)) c → c ≤ ns.length → (∀ b o, s.heap.get? b = some o → h'.get? b = some o) → Q (.ref s.heap.objs.size) { s with heap := h', toks := tk }) :
    wpAny (model P w) A (call (.type "set") [.ref l]) Q E s := by
  have sz : items.size = ns.length := by
    rw [← Array.length_toList]
    exact IntsAre.length hit
  obtain ⟨c, tl, hmro⟩ := F.called_set.mro
  have hmade := F.called_set.made
  have hsub := F.called_set.sub
  refine wpAny_call (codeAny_of_tree ?_)
  show wpAny _ _ (callAny (.type "set") _) _ _ _
  refine wpAny_pure ⟨Code.quiet_builtin _ (by decide +kernel), codeAny_builtin F.entry_type_call ?_⟩
  rw [Around.under_plain (weight_type_call_type "set" [.ref l] []) rfl]
  have h1 := F.called_set.notType
  have h2 := F.called_set.canCreate
  have hct := F.typeCall_set_1 (.ref l)
  repeat (any_goals (first | assumption | wp_step))
  refine codeAny_mono (code_set_led1 (.ref l) (E := E) (Q₁ := fun obj s₁ => obj = .ref s.heap.objs.size ∧ s₁ = { s with heap := s.heap.push (bareSet w) }) ⟨rfl, rfl⟩) fun r s₁ hr => ?_
  rcases r with e | fl
  case error => exact hr
  rcases fl with _ | _ | _ | obj
  case ret =>
    obtain ⟨rfl, rfl⟩ := hr
    have hS : (s.heap.push (bareSet w)).get? s.heap.objs.size = some (bareSet w) := Heap.get?_push_size _ rfl
    have hT : Shared.TypeIs { s with heap := s.heap.push (bareSet w) } (.ref s.heap.objs.size) "set" := ⟨_, hS, rfl⟩
    have hli := F.called_set.init.lookup
    have hbi := F.called_set.init.bind (.ref s.heap.objs.size)
    repeat (any_goals (first | assumption | wp_step))
    refine codeAny_mono (codeAny_call_builtin (R := wants (fun r s₂ => r = .none ∧ ∃ h' tk c, s₂ = { s with heap := h', toks := tk } ∧ SetR w h' s.heap.objs.size (fun j => decide (j ∈ ns)) c ∧ c ≤ ns.length ∧
        (∀ b o, s.heap.get? b = some o → h'.get? b = some o)) E) F.called_set.init.plain F.entry_set_init (check_set_init_1 hT ?_)) fun r₂ s₂ hr₂ => ?_
    · obtain ⟨ol, hol, hcl, nl, hdl⟩ := hl
      obtain ⟨ocls, odict, odata, oslots⟩ := ol
      simp only at hcl hdl
      subst hcl; subst hdl
      have hol' : (s.heap.push (bareSet w)).get? l = some { cls := .type "list", dict := odict, data := .seq items nl, slots := oslots } := Heap.get?_push_of_some _ hol
      have hsls := F.sub_list_set
      have hslf := F.sub_list_frozenset
      have hne : (Value.type "list" == Value.type "dict") = false := by decide
      have hl1 : (s.heap.push (bareSet w)).IsList l items := ⟨_, hol', rfl, nl, rfl⟩
      have e1 : (s.heap.push (bareSet w)).objs.size = s.heap.objs.size + 1 := Heap.size_push ..
      unfold Builtin.«set.__init__» noKeywords Builtin.Frozenset.updateFrom
      generalize hPI : pyIter = PI
      wp_walk
      subst hPI
      refine wpAny_pyIter_list hl1 ?_
      refine wpAny_bind (wpAny_runValue ?_)
      have lS : l < s.heap.objs.size := Heap.lt_size hol
      have hh3 : A.in1.in1.in1.handled = none := by simp [hh]
      have lI : l ≠ (s.heap.push (bareSet w)).objs.size := by
        rw [e1]
        exact Nat.ne_of_lt (Nat.lt_succ_of_lt lS)
      have sF : s.heap.objs.size ∉ [(s.heap.push (bareSet w)).objs.size, l] := by
        rw [e1]
        simp only [List.mem_cons, List.not_mem_nil, or_false, not_or]
        exact ⟨Nat.ne_of_lt (Nat.lt_succ_self _), Nat.ne_of_gt lS⟩
      have hval : ∀ (i : Nat) (v : Value), items[i]? = some v → ∃ k t, ns[i]? = some k ∧ v = .int k t := fun i v hv => by
        have hi : i < ns.length := by rw [← sz]; exact (Array.getElem?_eq_some_iff.mp hv).1
        obtain ⟨t, e⟩ := PyProof.Rows.IntsAre.int_at hit i v (by rw [Array.getElem?_toList]; exact hv)
        refine ⟨ns[i], t, List.getElem?_eq_getElem hi, ?_⟩
        rw [e, List.getD_eq_getElem?_getD, List.getElem?_eq_getElem hi] <;> rfl
      refine set_update_ints ((Walks.list hh3 _ l lI items).toS) s.heap.objs.size sF ns sz hb hval (items.size - 0) 0 _ (by omega) (Nat.zero_le _) ⟨⟨_, Heap.get?_push_size _ rfl, rfl, rfl⟩, (hl1.push _)⟩
        ⟨0, Nat.le_refl 0, setR_new_at (Heap.get?_push_of_some _ hS)⟩ ?_
      rintro ⟨h', g2, d', tk', os'⟩ c' hm hc' hS'
      obtain rfl : g2 = s.gens := hm.gens
      obtain rfl : d' = s.drawn := hm.drawn
      obtain rfl : os' = s.os := hm.os
      show wpAny _ _ _ _ _ _
      refine wpAny_pure ?_
      show wpAny _ _ (ret Value.none) _ _ _
      refine wpAny_pure ⟨rfl, h', tk', c', rfl, hS', by rw [← sz]; exact hc', fun b o e => ?_⟩
      have hb0 : b < s.heap.objs.size := Heap.lt_size e
      refine hm.heap b o ?_ (Heap.get?_push_of_some _ (Heap.get?_push_of_some _ e))
      rw [e1]
      simp only [List.mem_cons, List.not_mem_nil, or_false, not_or]
      exact ⟨Nat.ne_of_lt hb0, Nat.ne_of_lt (Nat.lt_succ_of_lt hb0)⟩
    · rcases r₂ with e | fl₂
      case error => exact hr₂
      rcases fl₂ with _ | _ | _ | r
      case ret =>
        obtain ⟨rfl, h', tk, c', rfl, hS', hc', hk'⟩ := hr₂
        repeat (any_goals (first | assumption | wp_step))
        exact h _ _ _ hS' hc' hk'
      all_goals exact hr₂.elim
  all_goals exact hr.elim
/-- sorted(a set of ints) -/
theorem sorted_setA {a : Addr} {S : Int → Bool} {n : Nat} {Q : Value → Shared → Prop} (R : SetR w s.heap a S n) (hh : A.handled = none)
    (hQ : ∀ s' p (out : List Value) (c : Nat) (ns : List Int), (∀ b o, s.heap.get? b = some o → s'.heap.get? b = some o) → s'.gens = s.gens → s'.os = s.os → s.heap.objs.size ≤ p →
      s'.heap.get? p = some (seqObj "list" out.toArray c) → IntsAre out ns → ns.Pairwise (· < ·) → (∀ k, k ∈ ns ↔ S k = true) → ns.length ≤ sizeLine → Q (.ref p) s') :
    wpAny (model P w) A (call (.builtin "sorted") [.ref a]) Q E s := by
  obtain ⟨o, es, ep, t, ho, hex, hd, g, nd, hm, hb, hf, hn, hr, hl⟩ := R
  refine Calls.call_function_entry kind_sorted plain_sorted entry_sorted (args_sorted1 _) ?_
  unfold Builtin.«sorted»
  refine wpAny_bind (m := checkCount "sorted" 1 1 _) (wpAny_pure ?_)
  refine wpAny_bind (collect_set (A := A.in1) hh ⟨o, ho, hex.1, hd⟩ hf hb hr hl fun s1 vs k1 hz g1 o1 pm => ?_)
  have hvl : vs.length ≤ sizeLine := by
    rw [pm.length_eq, List.length_map, Array.length_toList, sizeLine_eq]
    have : scanBound ≤ 16777216 := by decide
    omega
  have hI : IntsAre vs (vs.map Builtin.Re.reRawOf) := ints_of vs fun v hv => by
    obtain ⟨e, he, q⟩ := List.mem_map.mp (pm.mem_iff.mp hv)
    obtain ⟨k, tk, h1, _⟩ := g e he
    exact ⟨k, tk, by rw [← q]; exact h1⟩
  have pk : (vs.map Builtin.Re.reRawOf).Perm (es.toList.map keyOf) := by
    have q := pm.map Builtin.Re.reRawOf
    rw [List.map_map] at q
    exact q
  refine wpAny_bind (wpAny_newList ?_ hvl)
  have hoL : (s1.heap.push (seqObj "list" vs.toArray 0)).get? s1.heap.objs.size = some (seqObj "list" vs.toArray 0) := Heap.get?_push_size _ rfl
  refine wpAny_bind (wpAny_holding (wpAny_call_entry slot_list_sort ⟨_, hoL, rfl⟩ entry_list_sort
    (SrtO.list_sort_ord SrtO.swo_int hoL hvl (fun h2 => SrtO.ints_sortable hI h2) fun out a1 a2 => ⟨_, rfl, ?_⟩) (args_list_sort _)))
  obtain ⟨c, hc⟩ := sortedHeap_at (vs := vs) (out := out.toArray) hoL
  obtain ⟨k1', k2, k3⟩ := SrtO.ints_out hI a1 a2
  have pn : (out.map SrtO.iv).Perm (es.toList.map keyOf) := k2.trans pk
  refine wpAny_pure ⟨_, rfl, hQ _ s1.heap.objs.size out c _ (fun b u e => ?_) g1 o1 hz hc k1' (lt_of_le_nodup _ k3 (pn.nodup_iff.mpr nd)) (fun k => by rw [pn.mem_iff, ← hm k]) ?_⟩
  · have q := k1 b u e
    have lt := Heap.lt_size q
    show (sortedHeap (s1.heap.push (seqObj "list" vs.toArray 0)) s1.heap.objs.size vs out.toArray).get? b = some u
    rw [sortedHeap_old (Nat.ne_of_lt lt) (by rw [size_push']; exact Nat.lt_succ_of_lt lt)]
    exact Heap.get?_push_of_some _ q
  · rw [k2.length_eq, List.length_map]
    exact hvl
end
section
variable {X : Cx}
/-- set(xs), xs a list or a tuple of ints -/
def rSetI (K : PySem.W.Frag) (w : World) : List V → Hp → VK → Prop := fun xs H Q => ∃ (l : Addr) (ns : List Int), xs = [V.ref l] ∧ (SqL K H l (ns.map V.int) ∨ SqT K H l (ns.map V.int)) ∧ ns.length + 1 < scanBound ∧
  ∀ p c, H p = none → Q (.ref p) (upd H p (SetO w p (fun j => decide (j ∈ ns)) c))
theorem cr_setI (hc : X.calm = true) : CallR X (.type "set") (rSetI X.K X.w) := by
  intro pins s σ H xs us Q I r h
  obtain ⟨l, ns, rfl, hq, hb, q⟩ := h
  rw [Vals.ref1 r]
  have fin : ∀ (h' : Heap) (tk c : Nat), SetR X.w h' s.heap.objs.size (fun j => decide (j ∈ ns)) c → c ≤ ns.length → (∀ b o, s.heap.get? b = some o → h'.get? b = some o) →
      EP X pins σ Q (.ref s.heap.objs.size) { s with heap := h', toks := tk } := fun h' tk c R _ k =>
    ⟨.ref _, upd H s.heap.objs.size (SetO X.w s.heap.objs.size (fun j => decide (j ∈ ns)) c), I.laid (t' := tk) k (Nat.le_refl _) (setO_new R), rfl, q _ c (I.hok.fresh (Nat.le_refl _))⟩
  rcases hq with hq | hq
  · obtain ⟨its, rv, pl, hz⟩ := I.list hq
    exact set_of_list ns (I.ok.hd hc) pl.isList (by simpa using rv.ints) hb fin
  · obtain ⟨its, rv, pl, hz⟩ := I.tuple hq
    exact call_set_tupI ns (I.ok.hd hc) pl (by simpa using rv.ints) hb fin
/-- sorted(found), whatever its size -/
def rSortedA (w : World) : List V → Hp → VK → Prop := fun vs H Q => ∃ (a : Addr) (S : Int → Bool) (n : Nat), vs = [V.ref a] ∧ H a = some (SetO w a S n) ∧
  ∀ (ns : List Int) (p : Addr), ns.Pairwise (· < ·) → (∀ k : Int, k ∈ ns ↔ S k = true) → H p = none → Q (.ref p) (upd H p (.lst (ns.map V.int)))
theorem cr_sortedA (hc : X.calm = true) : CallR X (.builtin "sorted") (rSortedA X.w) := by
  intro pins s σ H vs us Q I r h
  obtain ⟨a, S, n, rfl, ha, q⟩ := h
  have R := setO_get I ha
  rw [Vals.ref1 r]
  refine sorted_setA R (I.ok.hd hc) fun s' p out c ns k g o hp hg hi hs hm hl => ?_
  have hlen : (ns.map V.int).length ≤ sizeLine := by rw [List.length_map]; exact hl
  have hn : H p = none := I.hok.fresh hp
  have J : Inv X pins σ (upd H p (.lst (ns.map V.int))) { s with heap := s'.heap, gens := s'.gens, drawn := s'.drawn, toks := s'.toks } :=
    I.call (ch := []) (Un.laid k hp hn) (I.hok.laid k hp ⟨hlen, out, c, vals_of_ints hi, hg⟩) (by rw [g]; exact I.bare) (fun _ z => nomatch z)
  have e : s' = { s with heap := s'.heap, gens := s'.gens, drawn := s'.drawn, toks := s'.toks } := by
    cases s'
    cases s
    cases o
    rfl
  rw [e]
  exact ⟨.ref p, _, J, rfl, q ns p hs hm hn⟩
end
end Kr

/-! min of a list of tuples of ints; enumerate over a tuple. -/
namespace Kr
open PySem PySem.Spec PyProof.Rows L2
theorem lt_is : ∀ l m : List Int, HT.lexLt l m = Km.lt l m
  | [], [] => rfl
  | [], _ :: _ => rfl
  | _ :: _, [] => rfl
  | x :: l, y :: m => by
    show (if x = y then HT.lexLt l m else decide (x < y)) = (if x = y then Km.lt l m else decide (x < y))
    rw [lt_is l m]
/-- the first place of the least one so far -/
def bestAt (f : Nat → List Int) : Nat → Nat := argBest fun i j => Km.lt (f i) (f j)
theorem bestAt_le (f : Nat → List Int) : ∀ k, bestAt f k ≤ k
  | 0 => Nat.le_refl _
  | k + 1 => by
    have ih := bestAt_le f k
    show (if Km.lt (f (k + 1)) (f (bestAt f k)) = true then k + 1 else bestAt f k) ≤ k + 1
    split <;> omega
theorem bestAt_min (f : Nat → List Int) : ∀ k j, j ≤ k → Km.lt (f j) (f (bestAt f k)) = false
  | 0, j, h => by
    rw [show j = 0 by omega]
    exact Km.lt_irr _
  | k + 1, j, h => by
    show Km.lt (f j) (f (if Km.lt (f (k + 1)) (f (bestAt f k)) = true then k + 1 else bestAt f k)) = false
    by_cases q : Km.lt (f (k + 1)) (f (bestAt f k)) = true
    · rw [if_pos q]
      by_cases e : j = k + 1
      · rw [e]; exact Km.lt_irr _
      · cases z : Km.lt (f j) (f (k + 1))
        · rfl
        · have h1 := bestAt_min f k j (by omega)
          rw [Km.lt_trans z q] at h1
          cases h1
    · rw [if_neg q]
      by_cases e : j = k + 1
      · rw [e]; simpa using q
      · exact bestAt_min f k j (by omega)
/-! ### the least of what a walk yields, its comparison told of the heap as it stands -/
/-- the comparison's answer where the heap is good -/
def CmpAt (prog : Program) (w : World) (A : Around) (G : Heap → Prop) (P : Nat → Value → Prop) (bt : Nat → Nat → Bool) : Prop :=
  ∀ i j vi vj (s : Shared) (Q : Value → Shared → Prop) (E : Value → Shared → Prop), G s.heap → P i vi → P j vj → Q (.bool (bt i j)) s → wpAny (model prog w) A (richCompare .Lt vi vj) Q E s
section
variable {prog : Program} {w : World} {A : Around} {R : Result → Shared → Prop} {I : Addr} {fp wr : List Addr} {n : Nat} {P : Nat → Value → Prop} {St : Nat → Heap → Prop} {G : Heap → Prop}
/-- the list in which the loop keeps what is least so far -/
abbrev keeper (vs : Array Value) (c : Nat) : Obj := { cls := .type "list", dict := none, data := .seq vs c, slots := #[] }
theorem minLoop (W : Walks prog w A.in1 I fp wr n P St) (bt : Nat → Nat → Bool) (S : Addr) (hcmp : CmpAt prog w A.in1 G P bt) (hG : ∀ h h' : Heap, G h → (∀ b o, b ∉ wr → b ≠ S → h.get? b = some o → h'.get? b = some o) → G h') (sF : S ∉ fp) :
    ∀ (k j : Nat) (s : Shared) (vb : Value) (c : Nat), n - (j + 1) = k → j + 1 ≤ n → G s.heap → St (j + 1) s.heap → P (argBest bt j) vb → s.heap.get? S = some (keeper #[vb, vb] c) →
    (∀ v h' tk, P (argBest bt (n - 1)) v → (∀ b o, b ∉ wr → b ≠ S → s.heap.get? b = some o → h'.get? b = some o) → R (.ok (.ret v)) { s with heap := h', toks := tk }) →
    codeAny (model prog w) A (.builtin "min.loop" ⟨[.ref I, .none, .ref S], []⟩) R s := by
  have sW : S ∉ wr := fun h => sF (W.sub _ h)
  have nm : (toString "min" ++ toString ".loop" : String) = "min.loop" := by decide
  intro k
  induction k with
  | zero =>
    intro j s vb c hk hj hg hst hPb hS hR
    have jn : j + 1 = n := by omega
    refine codeAny_builtin F.entry_min_loop ?_
    rw [Around.under_plainId F.plain_min_loop _]
    show wpAny _ A.in1 (seqItems? (.ref S) >>= _) _ _ s
    refine wpAny_bind (wpAny_seqItems hS rfl ?_)
    show wpAny _ A.in1 (tryCatch (pyNext (.ref I)) _ >>= _) _ _ s
    refine wpAny_bind (wpAny_tryCatch (W.done s _ _ (jn ▸ hst) fun h' tk kp => ?_))
    have hS' := kp S _ sW hS
    show wpAny _ A.in1 (updateSeq S (fun _ => #[]) >>= _) _ _ _
    refine wpAny_bind (wpAny_updateSeq hS' rfl (wpAny_bind (wpAny_letGo (wpAny_pure ?_))))
    refine hR vb _ tk (by rw [← jn]; exact hPb) fun b o bW bS e => (Heap.get?_update_other _ _ (Ne.symm bS)).trans (kp b o bW e)
  | succ k ih =>
    intro j s vb c hk hj hg hst hPb hS hR
    have lt : j + 1 < n := by omega
    refine codeAny_builtin F.entry_min_loop ?_
    rw [Around.under_plainId F.plain_min_loop _]
    show wpAny _ A.in1 (seqItems? (.ref S) >>= _) _ _ s
    refine wpAny_bind (wpAny_seqItems hS rfl ?_)
    show wpAny _ A.in1 (tryCatch (pyNext (.ref I)) _ >>= _) _ _ s
    refine wpAny_bind (wpAny_tryCatch (W.item (j + 1) s _ _ lt hst fun v h' tk hP hst' kp => ?_))
    have hS' := kp S _ sW hS
    have hg' : G h' := hG _ _ hg fun b o bW _ e => kp b o bW e
    show wpAny _ A.in1 (tryCatch (holding [v, v] (richCompare .Lt v vb >>= _)) _ >>= _) _ _ _
    refine wpAny_bind (wpAny_tryCatch (wpAny_holding (wpAny_bind (hcmp (j + 1) (argBest bt j) v vb _ _ _ hg' hP hPb ?_))))
    refine wpAny_bind (wpAny_holding (wpAny_truthy_bool ?_))
    refine wpAny_bind (wpAny_letGo (wpAny_pure ?_))
    cases hb : bt (j + 1) (argBest bt j) with
    | true =>
      simp only [if_true]
      refine wpAny_bind ?_
      refine wpAny_updateSeq hS' rfl (wpAny_bind (wpAny_letGo ?_))
      rw [nm]
      refine wpAny_pure ⟨plainId_quiet F.plain_min_loop _, ih (j + 1) _ v _ (by omega) lt (hG _ _ hg' fun b o _ bS e => (Heap.get?_update_other _ _ (Ne.symm bS)).trans e)
        (W.frame _ _ _ hst' fun b bF o e => (Heap.get?_update_other _ _ (fun h : S = b => sF (by rw [h]; exact bF))).trans e)
        (by simp only [argBest, hb, if_true]; exact hP) (Heap.get?_update_self _ hS' rfl) fun v' h'' tk'' hP' kp'' => ?_⟩
      exact hR v' h'' tk'' hP' fun b o bW bS e => kp'' b o bW bS ((Heap.get?_update_other _ _ (Ne.symm bS)).trans (kp b o bW e))
    | false =>
      simp only [Bool.false_eq_true, if_false]
      refine wpAny_bind (wpAny_letGo ?_)
      rw [nm]
      refine wpAny_pure ⟨plainId_quiet F.plain_min_loop _, ih (j + 1) _ vb c (by omega) lt hg' hst' (by simp only [argBest, hb, Bool.false_eq_true, if_false]; exact hPb) hS' fun v' h'' tk'' hP' kp'' => ?_⟩
      exact hR v' h'' tk'' hP' fun b o bW bS e => kp'' b o bW bS (kp b o bW e)
end
section
variable {prog : Program} {w : World} {A : Around} {E : Value → Shared → Prop} {s : Shared}
/-- min(a list), its items compared as the heap stands -/
theorem min_listAt {l : Addr} {items : Array Value} {Q : Value → Shared → Prop} (hh : A.handled = none) (hl : s.heap.IsList l items) (hn : 0 < items.size) (bt : Nat → Nat → Bool)
    (hcmp : ∀ i j vi vj (s' : Shared) (Q : Value → Shared → Prop) (E : Value → Shared → Prop), (∀ b o, s.heap.get? b = some o → s'.heap.get? b = some o) → items[i]? = some vi → items[j]? = some vj → Q (.bool (bt i j)) s' → wpAny (model prog w) A.in1 (richCompare .Lt vi vj) Q E s')
    (hQ : ∀ v h' tk, items[argBest bt (items.size - 1)]? = some v → (∀ b o, s.heap.get? b = some o → h'.get? b = some o) → Q v { s with heap := h', toks := tk }) :
    wpAny (model prog w) A (call (.builtin "min") [.ref l]) Q E s := by
  have nm : (toString "min" ++ toString ".loop" : String) = "min.loop" := by decide
  refine call_function_tree F.kind_min F.plain_min F.entry_min (F.args_min1 _) ?_
  show wpAny _ A.in1 (Builtin.Builtins.bindParams "min" ["key", "default"] 0 ⟨[], []⟩ >>= _) _ _ s
  refine wpAny_bind (wpAny_of_eq (show Builtin.Builtins.bindParams "min" ["key", "default"] 0 ⟨[], []⟩ = pure [none, none] from rfl) ?_)
  refine wpAny_bind (wpAny_pure ?_)
  refine wpAny_bind (wpAny_pyIter_list hl ?_)
  have lS : l < s.heap.objs.size := by
    obtain ⟨o, ho, _⟩ := id hl
    exact Heap.lt_size ho
  have e1 : ∀ o : Obj, (s.heap.push o).objs.size = s.heap.objs.size + 1 := fun o => Heap.size_push ..
  refine wpAny_bind (wpAny_newObj_type ?_)
  rw [nm]
  have W : Walks prog w A.in1 s.heap.objs.size [s.heap.objs.size, l] [s.heap.objs.size] items.size (fun i v => items[i]? = some v) (fun i h => h.IsListIter s.heap.objs.size l i ∧ h.IsList l items) :=
    Walks.list (by simp [hh]) _ _ (Nat.ne_of_lt lS) items
  let G : Heap → Prop := fun h => ∀ b o, s.heap.get? b = some o → h.get? b = some o
  have gk : ∀ (S : Addr) (hS : s.heap.objs.size + 1 ≤ S) (h h' : Heap), G h → (∀ b o, b ∉ [s.heap.objs.size] → b ≠ S → h.get? b = some o → h'.get? b = some o) → G h' := fun S hS h h' g k b o e => by
    have lb := Heap.lt_size e
    exact k b o (by simp only [List.mem_singleton]; exact Nat.ne_of_lt lb) (fun z => by
      rw [z] at lb
      exact absurd (Nat.lt_of_lt_of_le lb (Nat.le_of_succ_le hS)) (Nat.lt_irrefl _)) (g b o e)
  have sF : (s.heap.push { cls := .type "list_iterator", data := .fields #[.ref l, .int 0 0] }).objs.size ∉ [s.heap.objs.size, l] := by
    rw [e1]
    simp only [List.mem_cons, List.not_mem_nil, or_false, not_or]
    exact ⟨Nat.ne_of_gt (Nat.lt_succ_self _), Nat.ne_of_gt (Nat.lt_succ_of_lt lS)⟩
  have sW : (s.heap.push { cls := .type "list_iterator", data := .fields #[.ref l, .int 0 0] }).objs.size ∉ [s.heap.objs.size] := fun h => sF (W.sub _ h)
  refine wpAny_pure ⟨plainId_quiet F.plain_min_loop _, ?_⟩
  -- the first turn
  refine codeAny_builtin F.entry_min_loop ?_
  rw [Around.under_plainId F.plain_min_loop _]
  have hS := Heap.get?_push_size (s.heap.push { cls := .type "list_iterator", data := .fields #[.ref l, .int 0 0] }) (o := keeper #[] 0) rfl
  show wpAny _ A.in1 (seqItems? (.ref (s.heap.push { cls := .type "list_iterator", data := .fields #[.ref l, .int 0 0] }).objs.size) >>= _) _ _ _
  refine wpAny_bind (wpAny_seqItems hS rfl ?_)
  show wpAny _ A.in1 (tryCatch (pyNext (.ref s.heap.objs.size)) _ >>= _) _ _ _
  refine wpAny_bind (wpAny_tryCatch (W.item 0 _ _ _ hn ⟨⟨_, Heap.get?_push_of_some _ (Heap.get?_push_size _ rfl), rfl, rfl⟩, (hl.push _).push _⟩ fun v h' tk hP hst' kp => ?_))
  have hS' := kp _ _ sW hS
  show wpAny _ A.in1 (updateSeq (s.heap.push { cls := .type "list_iterator", data := .fields #[.ref l, .int 0 0] }).objs.size (fun _ => #[v, v]) >>= _) _ _ _
  refine wpAny_bind (wpAny_updateSeq hS' rfl ?_)
  rw [nm]
  have g0 : G h' := fun b o e => kp b o (by simp only [List.mem_singleton]; exact Nat.ne_of_lt (Heap.lt_size e)) (Heap.get?_push_of_some _ (Heap.get?_push_of_some _ e))
  have hz := Nat.le_of_eq (e1 { cls := .type "list_iterator", data := .fields #[.ref l, .int 0 0] }).symm
  refine wpAny_pure ⟨plainId_quiet F.plain_min_loop _, minLoop (A := A) (G := G) W bt _ (fun i j vi vj s' Q E g p1 p2 q => hcmp i j vi vj s' Q E g p1 p2 q) (gk _ hz) sF _ 0 _ v _ rfl hn
    (gk _ hz _ _ g0 fun b o _ bS e => (Heap.get?_update_other _ _ (Ne.symm bS)).trans e) (W.frame _ _ _ hst' fun b bF o e => (Heap.get?_update_other _ _ (fun h => sF (by rw [h]; exact bF))).trans e) hP (Heap.get?_update_self _ hS' rfl) fun v' h'' tk'' hP' kp'' => ?_⟩
  refine hQ v' h'' tk'' hP' ?_
  exact gk _ hz _ _ (gk _ hz _ _ g0 fun b o _ bS e => (Heap.get?_update_other _ _ (Ne.symm bS)).trans e) kp''
end
section
variable {X : Cx}
/-- min of a list of tuples of ints -/
def rMinT (K : PySem.W.Frag) : List V → Hp → VK → Prop := fun vs H Q => ∃ (a : Addr) (ks : List (Addr × List Int)), vs = [V.ref a] ∧ SqL K H a (ks.map fun p => V.ref p.1) ∧ (∀ p ∈ ks, SqT K H p.1 (p.2.map V.int)) ∧ ks ≠ [] ∧
  ∀ p ∈ ks, Km.IsMin p.2 (ks.map (·.2)) → Q (.ref p.1) H
theorem cr_minT (hc : X.calm = true) (hu : X.A.units + 64 < cLine) : CallR X (.builtin "min") (rMinT X.K) := by
  intro pins s σ H vs us Q I r h
  obtain ⟨a, ks, rfl, hs, ht, hne, q⟩ := h
  obtain ⟨its, rv, hl, hz⟩ := I.list hs
  rw [Vals.ref1 r]
  have hlen : its.toArray.size = ks.length := by
    rw [List.size_toArray, ← rv.length, List.length_map]
  have h0 : 0 < ks.length := List.length_pos_iff.mpr hne
  have item : ∀ i v, its.toArray[i]? = some v → ∃ p : Addr × List Int, ks[i]? = some p ∧ v = Value.ref p.1 := fun i v hv => by
    have hi : i < ks.length := by rw [← hlen]; exact (Array.getElem?_eq_some_iff.mp hv).1
    obtain ⟨u, hu', ru⟩ := rv.get (i := i) (x := .ref (ks[i]).1) (by simp [hi])
    refine ⟨ks[i], List.getElem?_eq_getElem hi, ?_⟩
    have : some v = some u := by rw [← hv, ← hu']; simp
    cases this
    exact ru
  refine min_listAt (I.ok.hd hc) hl.isList (by rw [hlen]; exact h0) (fun i j => Km.lt ((ks[i]?.map (·.2)).getD []) ((ks[j]?.map (·.2)).getD [])) (fun i j vi vj s' Q' E' kp h1 h2 q' => ?_) fun v h' tk hv kp => ?_
  · obtain ⟨p1, e1, rfl⟩ := item i vi h1
    obtain ⟨p2, e2, rfl⟩ := item j vj h2
    rw [e1, e2] at q'
    obtain ⟨its1, r1, pl1, _⟩ := I.tuple (ht p1 (List.mem_of_getElem? e1))
    obtain ⟨its2, r2, pl2, _⟩ := I.tuple (ht p2 (List.mem_of_getElem? e2))
    have st : ∀ {b : Addr} {xs : Array Value}, IsTup s.heap b xs → IsTup s'.heap b xs := fun {b xs} ⟨o, ho, r⟩ => ⟨o, kp _ _ ho, r⟩
    refine HT.lt_tupInts (A := X.A.in1) (st pl1) (st pl2) (intsAre_of r1) (intsAre_of r2) (by show X.A.units + 1 < cLine; omega) ?_
    rw [lt_is]
    exact q'
  · obtain ⟨p, e, rfl⟩ := item _ v hv
    refine ⟨.ref p.1, H, I.kept kp, rfl, q p (List.mem_of_getElem? e) ⟨List.mem_map.mpr ⟨p, List.mem_of_getElem? e, rfl⟩, fun y hy => ?_⟩⟩
    obtain ⟨p', hp', rfl⟩ := List.mem_map.mp hy
    obtain ⟨j, hj, ej⟩ := List.getElem_of_mem hp'
    have := bestAt_min (fun i => (ks[i]?.map (·.2)).getD []) (its.toArray.size - 1) j (by omega)
    have e' : ks[bestAt (fun i => (ks[i]?.map (·.2)).getD []) (its.toArray.size - 1)]? = some p := e
    rw [e', List.getElem?_eq_getElem hj, ej] at this
    exact this
end
/-! ### enumerate over a tuple -/
theorem enumNewT (l : Addr) (items : Array Value) (n : Nat) (dct : Option Addr) (sl : Array (Option Value)) :
    Meets (Builtin.«enumerate.__new__» ⟨[.type "enumerate", .ref l], []⟩) (fun _ R s => s.heap.get? l = some { cls := .type "tuple", dict := dct, data := .seq items n, slots := sl } ∧
      R (.ok (.ret (.ref (s.heap.push { cls := .type "tuple_iterator", data := .fields #[.ref l, .int 0 0] }).objs.size)))
        { s with heap := (s.heap.push { cls := .type "tuple_iterator", data := .fields #[.ref l, .int 0 0] }).push { cls := .type "enumerate", data := .fields #[.none, .bool false, .ref s.heap.objs.size, rawInt 0, .none, .none] } }) :=
  .of_wp fun prog w A R s h => by
    obtain ⟨hp, g, d, tk, os⟩ := s
    obtain ⟨hl, h⟩ := h
    have hsub := sub_enumerate
    have hL : Heap.IsTuple (Shared.heap ⟨hp, g, d, tk, os⟩) l items := ⟨_, hl, rfl, n, rfl⟩
    wp_walk using AutoSeq1.wpAny_loadPart' hl
    refine wpAny_stack_any fun st => wpAny_pure ?_
    split
    · rename_i c _ _ _ _ _
      cases (c == Value.type "enumerate")
      all_goals
        wp_walk using AutoSeq1.wpAny_loadPart' hl, wpAny_pyIter_tuple hL
        exact ⟨_, rfl, h⟩
    · wp_walk using AutoSeq1.wpAny_loadPart' hl, wpAny_pyIter_tuple hL
      exact ⟨_, rfl, h⟩
section
variable {prog : Program} {w : World} {A : Around} {E : Value → Shared → Prop} {s : Shared}
theorem enum_tuple {l : Addr} {items : Array Value} {Q : Value → Shared → Prop} (hL : s.heap.IsTuple l items)
    (h : ∀ h', IsEnum h' (s.heap.objs.size + 1) s.heap.objs.size 0 .none → h'.IsTupleIter s.heap.objs.size l 0 → (∀ b o, s.heap.get? b = some o → h'.get? b = some o) → Q (.ref (s.heap.objs.size + 1)) { s with heap := h' }) :
    wpAny (model prog w) A (call (.type "enumerate") [.ref l]) Q E s := by
  obtain ⟨⟨c, dct, dt, sl⟩, hl, hc, n, hd⟩ := hL
  obtain rfl : c = .type "tuple" := hc
  obtain rfl : dt = .seq items n := hd
  refine callType_new F.called_enumerate (by decide) (F.typeCall_enumerate_1 _) (F.newCall_enumerate_1 _) (fun obj => F.args_object_init_2 obj _) F.entry_enumerate_new (enumNewT l items n dct sl) ⟨hl, ?_⟩
  have hz : (s.heap.push { cls := .type "tuple_iterator", data := .fields #[.ref l, .int 0 0] }).objs.size = s.heap.objs.size + 1 := Heap.size_push ..
  show _ ∧ _
  rw [hz]
  have he : IsEnum ((s.heap.push { cls := .type "tuple_iterator", data := .fields #[.ref l, .int 0 0] }).push { cls := .type "enumerate", data := .fields #[.none, .bool false, .ref s.heap.objs.size, rawInt 0, .none, .none] }) (s.heap.objs.size + 1) s.heap.objs.size 0 .none := by
    have q := Heap.get?_push_size (s.heap.push { cls := .type "tuple_iterator", data := .fields #[.ref l, .int 0 0] }) (o := { cls := .type "enumerate", data := .fields #[.none, .bool false, .ref s.heap.objs.size, rawInt 0, .none, .none] }) rfl
    rw [hz] at q
    exact q
  exact ⟨⟨_, he, rfl⟩, h _ he ⟨_, Heap.get?_push_of_some _ (Heap.get?_push_size _ rfl), rfl, rfl⟩ fun b o x => Heap.get?_push_of_some _ (Heap.get?_push_of_some _ x)⟩
end
section
variable {prog : Program} {w : World} {A : Around} {E : Value → Shared → Prop} {s : Shared}
/-- enumerate at the end of a tuple, whatever the place told -/
theorem wpAny_pyNext_enum_endT {e it a : Addr} {i : Nat} {c : Int} {items : Array Value} {old : Value} {Q : Option Value → Shared → Prop} (hh : A.handled = none) (he : IsEnum s.heap e it c old) (hit : s.heap.IsTupleIter it a i) (ht : s.heap.IsTuple a items)
    (hn : items[i]? = none) (hai : a ≠ it) (hQ : ∀ h', Heap.ExtBut it s.heap h' → Q none { s with heap := h' }) : wpAny (model prog w) A (pyNext (.ref e)) Q E s := by
  have hT : s.TypeIs (.ref e) "enumerate" := ⟨_, he, rfl⟩
  unfold pyNext
  refine wpAny_bind (wpAny_attempt (wpAny_callSpecial?_slot (name := Str.ofString "__next__") hT F.slot_enumerate_next
    (wpAny_call_entry F.slot_enumerate_next hT F.entry_enumerate_next ?_ (F.args_enumerate_next_1 _))))
  show wpAny _ _ (field (.ref e) 2 >>= _) _ _ _
  refine wpAny_bind (wpAny_field he rfl (x := .ref it) rfl ?_)
  refine wpAny_bind (wpAny_nextOf_tuple_end (by show A.in1.handled = none; rw [show A.in1.handled = A.handled from rfl]; exact hh) hit ht hn fun h' x he' hx' => ?_)
  obtain ⟨o, ho, hc⟩ := hx'
  refine wpAny_bind (wpAny_isInstance (T := "StopIteration") (b := true) ⟨o, ho, hc⟩ isSubtype_stop ?_)
  exact wpAny_pure (hQ _ he')
end
/-- the tuple at a, each item in a new pair with its place -/
def IteT (K : PySem.W.Frag) (a : Addr) : It :=
  ⟨fun i H => ∃ (xs : List V) (x : V), SqT K H a xs ∧ xs[i]? = some x, fun i H v H' => ∃ T x, v = .ref T ∧ H T = none ∧ H' = upd H T (.tup [.int (i : Nat), x]) ∧ ∀ xs, SqT K H a xs → xs[i]? = some x, fun i H => ∃ xs : List V, SqT K H a xs ∧ xs.length ≤ i⟩
theorem turn_enumT {P : Program} {w : World} {K : PySem.W.Frag} {elts : List Expr} {kk : Nat} {tpos : Pos} (a e it : Addr) :
    Turn P w K (.Tuple elts kk tpos) (IteT K a) [e, it] e (fun i h => (∃ old, IsEnum h e it ((i : Nat) : Int) old) ∧ h.IsTupleIter it a i ∧ e ≠ it ∧ a ≠ it ∧ e ≠ a) where
  mem := by simp
  obj := fun i h st b hb => by
    obtain ⟨⟨old, he⟩, ⟨o, ho, hc, hd⟩, _⟩ := st
    rcases (by simpa using hb : b = e ∨ b = it) with z | z
    · rw [z]; exact ⟨_, he, fun v q => nomatch q⟩
    · rw [z]; exact ⟨o, ho, fun v q => by rw [hd] at q; cases q⟩
  keep := fun i h h' st k => let ⟨⟨old, he⟩, hi, hne⟩ := st; ⟨⟨old, k e (by simp) _ he⟩, hi.at fun o q => k it (by simp) o q, hne⟩
  item := by
    intro X hP hw hK hc i pins s σ H E I hf st hg
    subst hP hw hK
    obtain ⟨⟨old, he⟩, hit, hne, hai, hea⟩ := st
    obtain ⟨xs, x, hq, hx⟩ := hg
    obtain ⟨its, rv, p, hz⟩ := I.tuple hq
    obtain ⟨u, hu, ru⟩ := rv.get hx
    have lE : e < s.heap.objs.size := Heap.lt_size he
    have lI : it < s.heap.objs.size := by obtain ⟨_, q, _⟩ := hit; exact Heap.lt_size q
    have hi : i < its.toArray.size := by
      rw [List.size_toArray]
      exact (List.getElem?_eq_some_iff.mp hu).1
    refine wpAny_pyNext_enum_itemD (Draws.tuple (by show X.A.in1.handled = none; rw [show X.A.in1.handled = X.A.handled from rfl]; exact I.ok.hd hc) it a hai its.toArray) he ⟨hit, p⟩ hi hne (by simp [hne, hea]) fun v h' tk hv ho st' hT hsz kp => ?_
    obtain rfl : v = u := by
      have q : its.toArray[i]? = some u := by simpa using hu
      rw [hv] at q
      exact Option.some.inj q
    refine ⟨_, rfl, wpAny_letOwnedTupleGo_enum (s := { s with heap := h', toks := tk + 1 }) ho fun h'' he' sb => ?_⟩
    have hT2 : h''.get? s.heap.objs.size = some { cls := .type "tuple", data := .seq #[.int i tk, v] } := (sb.2 _ (Nat.ne_of_gt lE)).trans hT
    have new : ObjOk X.prog X.w (upd H s.heap.objs.size (.tup [.int (i : Nat), x])) h'' s.heap.objs.size (.tup [.int (i : Nat), x]) :=
      ⟨by show 2 ≤ sizeLine; decide, [.int i tk, v], .cons ⟨_, rfl⟩ (.cons ru .nil), ⟨_, hT2, rfl, _, rfl⟩⟩
    have I1 : Inv X pins σ (upd H s.heap.objs.size (.tup [.int (i : Nat), x])) { s with heap := h'', toks := tk + 1 } :=
      I.turnedNew (ch := [e, it]) (fun b ob hb q => (sb.2 b (fun z => hb (by simp [z]))).trans (kp b ob (fun z => hb (by simp [z])) (fun z => hb (by simp [z])) q)) hf (Nat.le_refl _) new
    refine ⟨.ref s.heap.objs.size, _, I1, rfl, ⟨_, x, rfl, I.hok.fresh (Nat.le_refl _), rfl, fun ys hy => by rw [I.tuple_inj hy hq]; exact hx⟩, ⟨⟨v, ?_⟩, st'.1.at fun o q => (sb.2 it (Ne.symm hne)).trans q, hne, hai, hea⟩, fun b hb => ?_⟩
    · rw [show ((i + 1 : Nat) : Int) = (i : Int) + 1 by omega]
      exact he'
    · have lb : b < s.heap.objs.size := by
        rcases (by simpa using hb : b = e ∨ b = it) with z | z <;> rw [z] <;> assumption
      rw [upd_ne (Nat.ne_of_lt lb)]
      exact (hf b hb).1
  done := by
    intro X hP hw hK hc i pins s σ H E I hf st hg
    subst hP hw hK
    obtain ⟨⟨old, he⟩, hit, hne, hai, hea⟩ := st
    obtain ⟨xs, hq, hx⟩ := hg
    obtain ⟨its, rv, p, hz⟩ := I.tuple hq
    obtain ⟨f0, f1, f2, f3, f4, f5⟩ := hf it (by simp)
    have hl := rv.length
    refine wpAny_pyNext_enum_endT (I.ok.hd hc) he hit p (by simp; omega) hai fun h' eb => ⟨rfl, I.turned (t' := s.toks) (fun b o hb q => eb b o hb q) f0 f1 f3 f4 f5⟩
  self := fun A i s Q E st h => let ⟨⟨_, he⟩, _⟩ := st; wpAny_pyIter_enum he h
def iEnumT (K : PySem.W.Frag) (ta : TA) : TI := fun σ H R => ta σ H fun vs H1 => ∃ a xs, vs = [.ref a] ∧ SqT K H1 a xs ∧ R (IteT K a) H1
theorem pi_enumT {X : Cx} {e : Expr} {ta : TA} {p pos tpos : Pos} {elts : List Expr} {kk : Nat} (hg : Gl X "enumerate") (hm : X.mg "enumerate" = none) (ha : PA X [e] ta) (hs : starEach [e] X.env = [(false, eval e X.env)] := by rfl) :
    PI X (.Tuple elts kk tpos) (.Call (.Name "enumerate" p) [e] [] pos) (iEnumT X.K ta) := by
  refine ⟨fun pins s σ H R I h => ?_⟩
  refine Call_ (ld_blt I hg hm boot_enumerate (PyProof.Rows.callWith_type1 (thn (ha.run pos pins s σ H _ I h) fun us s1 ⟨vs, H1, I1, r1, q1⟩ => ?_) hs rfl))
  obtain ⟨a, xs, rfl, hq, q⟩ := q1
  rw [Vals.ref1 r1]
  obtain ⟨its, rv, pl, hz⟩ := I1.tuple hq
  have la : a < s1.heap.objs.size := pl.lt
  refine enum_tuple pl fun h' he hit kp => wpAny_pyIter_enum he ?_
  have I2 : Inv X pins σ H1 { s1 with heap := h' } := I1.kept (t' := s1.toks) kp
  refine ⟨s1.heap.objs.size + 1, [s1.heap.objs.size + 1, s1.heap.objs.size], _, _, H1, rfl, I2, turn_enumT a (s1.heap.objs.size + 1) s1.heap.objs.size, ⟨⟨.none, he⟩, hit, Nat.succ_ne_self _, Nat.ne_of_lt la, Nat.ne_of_gt (Nat.lt_succ_of_lt la)⟩, fun b hb => ?_, q⟩
  have hle : s1.heap.objs.size ≤ b := by
    rcases (by simpa using hb : b = s1.heap.objs.size + 1 ∨ b = s1.heap.objs.size) with z | z
    · rw [z]; exact Nat.le_add_right _ _
    · rw [z]; exact Nat.le_refl _
  exact I1.fpOk hle (I1.hok.fresh hle)
end Kr

/-! An own error whose __init__ says super().__init__('..') and stores its one argument: made, raised; a try with several clauses, some of them with a name. -/
namespace Kx
open PySem PySem.W PySem.Calls PyProof.Rows PySem.HandSPX
/-! ### the text of __init__ -/
/-- the first def of the class that is the text's fourth statement -/
abbrev iSt : Stmt := L2.inClass (PySem.Challenge.pw_wetfolds_k41_whole_shortest_rows_by_plac.main.body.getD 3 (.Pass ⟨0, 0, 0, 0⟩)) 0
abbrev iA : Arguments := L2.defArgs iSt
abbrev iB : List Stmt := L2.defBody iSt
abbrev iS : Scope := L2.defScope iSt
/-- what the written part says of the class at C, and of its __init__, at fI -/
structure Txt (P : Program) (K : Frag) (mg : Str → Option Value) (C fI : Addr) : Prop where
  cls : ∃ nm q N bs bm sn sub ab col dd k0 k1 k2 k3 k5, K.lookup C = some (excClassObj nm q C N bs bm true sn sub ab col dd k0 k1 k2 k3 k5 "ValueError.__new__") ∧ refsVE bm = true
  sa : findIn K (.ref C) "__setattr__" = some (some (.builtin "object.__setattr__"))
  noN : findIn K (.ref C) "limit" = some none
  iC : findIn K (.ref C) "__init__" = some (some (.ref fI))
  tC : typeIn K (.ref fI) = some (.type "function")
  kC : keepIn K (.ref C) = true
  exC : subIn K (.ref C) (.type "BaseException") = some true
  veC : subIn K (.ref C) (.type "ValueError") = some true
  tyC : typeIn K (.ref C) = some (.type "type")
  mro : mroIn K C (.ref C) = some true
  sup : ks_superIn K C C "__init__" = some (some (.builtin "ValueError.__init__"))
  opq : nsIn K cStatics "thirdparty.any" = some none
  nsp : mg "super" = none
  top : (P.main.scope.names.lookup ("super" : Str)).isSome = false
  fn : ∃ (oc : Value) (od : Option Addr) (doc pm : Value) (an : Option Addr) (cda cc : Addr) (ct : Value) (osl : Array (Option Value)),
    K.lookup fI = some ⟨oc, od, .func (ksFn "__init__" "TooMany.__init__" iA iB iS .none .none doc pm an (.ref cda) ct cc), osl⟩ ∧ codeIn K (.ref cda) "TooMany.__init__" = true ∧
    (∃ ccl cdd vs ccs file tf, K.lookup cda = some ⟨ccl, cdd, .fields vs, ccs⟩ ∧ vs[2]? = some (.str file tf) ∧ ((P.main.file : Str) == file) = true) ∧ ∃ cl cld csl, K.lookup cc = some ⟨cl, cld, .cell (some (.ref C)), csl⟩
theorem one_size (v : Value) : [v].length ≤ sizeLine := by
  rw [sizeLine_eq]
  exact (by decide : 1 ≤ 16777216)
/-- what __init__ leaves of a fresh error at x -/
structure InitEnd (h h' : Heap) (x C dx t1 : Addr) (v : Value) : Prop where
  keep : ∀ b o, b ≠ x → h.get? b = some o → h'.get? b = some o
  obj : h'.get? x = some { cls := .ref C, dict := some dx, data := .fields #[.ref t1, .none, .none, .none, .bool false, .none] }
  dbig : h.objs.size ≤ dx
  dne : dx ≠ x
  ns : h'.Ns1 dx (fun y => if y = "limit" then some v else none)
/-- a made error -/
structure OwnMade (h h' : Heap) (e C d : Addr) (v : Value) : Prop where
  keep : ∀ b o, h.get? b = some o → h'.get? b = some o
  new : h.objs.size ≤ e
  obj : ∃ oe vs, h'.get? e = some oe ∧ oe.cls = .ref C ∧ oe.dict = some d ∧ oe.data = .fields vs ∧ vs[1]? = some .none
  dbig : h.objs.size ≤ d
  dne : d ≠ e
  ns : h'.Ns1 d (fun y => if y = "limit" then some v else none)
section
variable {P : Program} {w : World} {A : Around} {E : Value → Shared → Prop} {R : Result → Shared → Prop} {s : Shared} {K : Frag} {mg mb : Str → Option Value} {C fI : Addr}
/-- super().__init__(..) called: u the bound __init__ -/
theorem call_bound {nm q : Str} {N x t0 u : Addr} {bs bm : List Value} {hd : Bool} {sn : List Str} {sub : List Value} {ab : Bool} {col : Option Bool} {dd : Option Addr} {k0 k1 k2 k3 k5 : Option Value} {rest : List Value} {Q : Value → Shared → Prop}
    (hC : s.heap.get? C = some (excClassObj nm q C N bs bm hd sn sub ab col dd k0 k1 k2 k3 k5 "ValueError.__new__")) (hx : s.heap.get? x = some (excO C t0)) (hu : s.heap.get? u = some (kxs_mw "ValueError.__init__" x)) (hz : rest.length ≤ sizeLine)
    (h : ∀ h' t1, (∀ b o, b ≠ x → s.heap.get? b = some o → h'.get? b = some o) → h'.get? x = some (excO C t1) → Q .none { s with heap := h' }) :
    wpAny (model P w) A (call (.ref u) rest) Q E s := by
  obtain ⟨hh, g, d, tk, os⟩ := s
  refine wpAny_call (codeAny_of_tree ?_)
  show wpAny _ A.in1 (callAny (.ref u) ⟨rest, []⟩) _ _ _
  simp only [callAny]
  refine wpAny_bind (wpAny_load hu ?_)
  simp only [kxs_mw, show (Value.type "method-wrapper" == Value.type "method" || Value.type "method-wrapper" == Value.type "builtin_function_or_method" || Value.type "method-wrapper" == Value.type "method-wrapper") = true by decide, if_true]
  refine KFB.if_so (by decide) ?_
  refine wpAny_bind (check_bound_init F.excBase_ValueError.toExcCallFacts hC hx rfl ?_)
  refine wpAny_bind (wpAny_pure (wpAny_pure ?_))
  refine ⟨plainId_quiet F.excBase_ValueError.init.plain _, codeAny_builtin F.excBase_ValueError.initEntry ?_⟩
  exact exc_init_tree (cls := .ref C) (t0 := t0) (dv := none) (c2 := .none) (c3 := .none) (b4 := .bool false) hx hz fun h' k e _ => h h' _ k e
theorem own_init (T : Txt P K mg C fI) {x t0 : Addr} {v : Value} (X : K.In s.heap) (hg : s.heap.Ns mainGlobals mg) (hbl : s.heap.Ns builtinsNs mb) (hbb : ∀ x : Str, x ≠ "__name__" → mb x = bootBuiltins x) (hlim : s.heap.NoLimit) (hx : s.heap.get? x = some (excO C t0)) (hnx : K.lookup x = none) (hroom : A.depth < recursionLimit)
    (hq : ∀ h' tk dx t1, InitEnd s.heap h' x C dx t1 v → R (.ok (.ret .none)) { s with heap := h', toks := tk }) :
    codeAny (model P w) A (.call (.ref fI) ⟨[.ref x, v], []⟩) R s := by
  obtain ⟨oc, od, doc, pm, an, cda, cc, ct, osl, ho, hcd, ⟨ccl, cdd, vs, ccs, file, tf, hcda, hvs, hfile⟩, cl, cld, csl, hcell⟩ := T.fn
  obtain ⟨nm, q, N, bs, bm, sn, sub, ab, col, dd, k0, k1, k2, k3, k5, hC, hbm⟩ := T.cls
  have hcl : clsIn K C = some { name := nm, bases := bs, mro := .ref C :: bm, ns := N, qualname := q, hasDict := true, slotNames := sn, subclasses := sub, abstract := ab, collection := col, hasDel := false } := by unfold clsIn; rw [hC] <;> rfl
  have xC : x ≠ C := fun z => by rw [z, hC] at hnx; cases hnx
  have loc : ∀ y ∈ [(("self" : Str), Value.ref x), (("limit" : Str), v)], iS.names.lookup y.1 = some .local := fun y hy => by
    simp only [List.mem_cons, List.not_mem_nil, or_false] at hy
    rcases hy with e | e <;> rw [e] <;> rfl
  refine ks_codeAny_call_defAt (fd := ksFn "__init__" "TooMany.__init__" iA iB iS .none .none doc pm an (.ref cda) ct cc) (body := iB) (binds := [("self", .ref x), ("limit", v)])
    hroom (X _ _ ho) rfl hlim (codeRec_of X hcd) rfl (BindsTo.of_eq (by first | rfl | with_unfolding_all rfl)) (show ∀ y ∈ iS.names, y.2 ≠ .cell by decide) loc (fun h₁ hns k => ?_)
  have hxL : s.heap.objs.size ≠ x := Nat.ne_of_gt (Heap.lt_size hx)
  have X₁ : K.In h₁ := X.keeps k
  have hx₁ := k _ _ hx
  refine ks_wpAt_execs_cons (ks_wpAt_Expr_any (ks_wpAt_MethodCall ?_))
  refine ks_wpAt_super_base (env := ksEnv "TooMany.__init__" iS s.heap.objs.size fI (.ref cda) cc) (by rfl) (by rfl) (by decide) rfl (X₁ _ _ ho) rfl (by rfl) rfl (X₁ _ _ hcda) rfl hvs hfile T.top ?_
  refine ks_loadName_global (by rfl) (by rfl) (loadGlobal_builtin (mg := mg) (mb := mb) (v := .type "super") (hg.keeps k) T.nsp (hbl.keeps k) ((hbb _ (by decide)).trans (by decide +kernel)) ⟨rfl, ?_⟩)
  refine wpAny_loadName_free (by rfl) (by rfl) (by rfl) ⟨_, X₁ _ _ hcell, rfl⟩ ?_
  refine wpAny_loadName_local (by rfl) (by rfl) hns (v := .ref x) (by first | rfl | with_unfolding_all rfl | kernel_rfl) ?_
  have hCo : ∃ oD : Obj, h₁.get? C = some oD ∧ ∃ cdD, oD.data = .cls cdD := ⟨_, X₁ _ _ hC, _, rfl⟩
  obtain ⟨oD, hD1, cdD, hD2⟩ := hCo
  refine ks_wpAny_isType_cls hD1 hD2 ⟨rfl, ?_⟩
  refine ks_wpAny_call_super hD1 hD2 hx₁ rfl (fun c e => by cases e) (looks_mroIn X₁ T.mro) (fun h₂ hso k₂ => ?_)
  have X₂ : K.In h₂ := X₁.keeps k₂
  have hx₂ := k₂ _ _ hx₁
  have I₂ : InstAt h₂ x (excO C t0) C none := ⟨hx₂, rfl, rfl, trivial⟩
  have hI : Looks (model P w) h₂ (isInstance (.ref x) (.type "ValueError")) true := I₂.type.andThen (looks_subIn X₂ T.veC)
  have sup := T.sup
  unfold ks_superIn at sup
  rw [hcl] at sup
  refine kxs_getMethod kxs_ValueError hso (looks_opaque X₂ T.opq) (l₀ := .ref C :: bm) (fun A Q E s k q => wpAny_bind ((looks_clsIn X₂ hcl) A _ E s k (wpAny_pure q))) rfl X₂ sup hI xC (by decide) ?_
  have k₃ : ∀ b o, h₂.get? b = some o → (h₂.push (kxs_mw "ValueError.__init__" x)).get? b = some o := fun b o e => Heap.get?_push_of_some _ e
  have hu : (h₂.push (kxs_mw "ValueError.__init__" x)).get? h₂.objs.size = some (kxs_mw "ValueError.__init__" x) := Heap.get?_push_at rfl rfl
  refine kxs_callWith (i := "ValueError.__init__") (x := x) (by rfl) (evalArgs_plain (spliced_cons (Constant_str (k := 0) (pos := ⟨9, 25, 9, 35⟩) (spliced_nil ⟨hu, ?_⟩))))
  refine call_bound (C := C) (k₃ _ _ (X₂ _ _ hC)) (k₃ _ _ hx₂) hu (one_size _) fun h₄ t1 k₄ hx₄ => ?_
  -- self.limit = limit
  have kk : ∀ b o, b ≠ x → s.heap.get? b = some o → h₄.get? b = some o := fun b o hb e => k₄ b o hb (k₃ _ _ (k₂ _ _ (k _ _ e)))
  have k1 : ∀ b o, b ≠ x → h₁.get? b = some o → h₄.get? b = some o := fun b o hb e => k₄ b o hb (k₃ _ _ (k₂ _ _ e))
  have X₄ : K.In h₄ := fun a o e => kk a o (fun z => by rw [z, hnx] at e; cases e) (X a o e)
  have hns₄ : h₄.Ns s.heap.objs.size (fun y => [(("self" : Str), Value.ref x), ("limit", v)].reverse.lookup y) := by
    obtain ⟨oL, es, ep, hL, r⟩ := hns
    exact ⟨oL, es, ep, k1 _ _ hxL hL, r⟩
  refine wpAt_of_wpAny (wpAny_execs_cons (plainObj_wpAny_Assign_Attribute ?_))
  refine wpAny_Name (wpAny_loadName_local (by rfl) (by rfl) hns₄ (v := v) (by first | rfl | with_unfolding_all rfl | kernel_rfl) ?_) (by decide)
  refine wpAny_Name (wpAny_loadName_local (by rfl) (by rfl) hns₄ (v := .ref x) (by first | rfl | with_unfolding_all rfl | kernel_rfl) ?_) (by decide)
  refine set_plain X₄ (ox := excO C t1) (od := none) ⟨hx₄, rfl, rfl, trivial⟩ T.sa ?_
  refine exc_osa X₄ hx₄ hcl (show refsVE (.ref C :: bm) = true from hbm) rfl T.noN (fun h₅ tk₅ dx k₅ dn dne hx₅ hn₅ => ?_)
  show wpAny _ _ (execs _ _) _ _ _
  refine wpAny_execs_nil (hq h₅ tk₅ dx t1 ⟨fun b o hb e => k₅ b o hb (kk b o hb e), hx₅, ?_, dne, hn₅⟩)
  have z : s.heap.objs.size < h₄.objs.size := hns₄.lt
  exact Nat.le_of_lt (Nat.lt_of_lt_of_le z dn)
theorem own_made (T : Txt P K mg C fI) {v : Value} (X : K.In s.heap) (hg : s.heap.Ns mainGlobals mg) (hbl : s.heap.Ns builtinsNs mb) (hbb : ∀ x : Str, x ≠ "__name__" → mb x = bootBuiltins x) (hlim : s.heap.NoLimit) (hroom : A.depth + 1 < recursionLimit)
    (hq : ∀ h' tk e d, OwnMade s.heap h' e C d v → R (.ok (.ret (.ref e))) { s with heap := h', toks := tk }) :
    codeAny (model P w) A (.call (.ref C) ⟨[v], []⟩) R s := by
  obtain ⟨nm, q, N, bs, bm, sn, sub, ab, col, dd, k0, k1, k2, k3, k5, hC, hbm⟩ := T.cls
  obtain ⟨hp, g, dr, tk, os⟩ := s
  have k : ∀ b o, hp.get? b = some o → ((hp.push (kdv_tup [v])).push (excO C hp.objs.size)).get? b = some o := fun b o e => Heap.get?_push_of_some _ (Heap.get?_push_of_some _ e)
  have hget : ((hp.push (kdv_tup [v])).push (excO C hp.objs.size)).get? (hp.objs.size + 1) = some (excO C hp.objs.size) := by heap_get
  have hnx : K.lookup (hp.objs.size + 1) = none := by
    cases e : K.lookup (hp.objs.size + 1) with
    | none => rfl
    | some o => exact absurd (Nat.lt_of_succ_lt (Heap.lt_size (X _ _ e))) (Nat.lt_irrefl _)
  refine call_own F.excBase_ValueError (fun X => refsVE_contains X bm hbm) (X _ _ hC) (looks_findIn X T.iC) (fun self => bind_fn X self T.tC) (one_size v) ?_
  refine own_init (s := ⟨(hp.push (kdv_tup [v])).push (excO C hp.objs.size), g, dr, tk, os⟩) T (X.keeps k) (hg.keeps k) (hbl.keeps k) hbb (hlim.keeps k) hget hnx hroom fun h' tk' dx t1 ⟨k', hx, dn, dne, hns⟩ => ?_
  have old : ∀ b o, hp.get? b = some o → h'.get? b = some o := fun b o e => k' b o (Nat.ne_of_lt (Nat.lt_succ_of_lt (Heap.lt_size e))) (k b o e)
  have z : hp.objs.size + 1 + 1 ≤ dx := by
    have q := dn
    simp only [Heap.size_push] at q
    exact q
  exact ⟨rfl, hq h' tk' (hp.objs.size + 1) dx ⟨old, Nat.le_succ _, ⟨_, _, hx, rfl, rfl, rfl, rfl⟩, Nat.le_trans (Nat.le_trans (Nat.le_succ _) (Nat.le_succ _)) z, dne, hns⟩⟩
end
end Kx
namespace Kr
open PySem PySem.Spec PyProof.Rows L2
theorem relO_one {v : V} {v' : Value} (r : RelV v v') (f : Str) : RelO (List.lookup f [(("limit" : Str), v)]) (if f = "limit" then some v' else none) := by
  by_cases hw : f = "limit"
  · subst hw
    rw [if_pos rfl, show List.lookup ("limit" : Str) [(("limit" : Str), v)] = some v by simp [List.lookup]]
    exact r
  · have qw : (f == ("limit" : Str)) = false := by simpa using hw
    rw [if_neg hw, show List.lookup f [(("limit" : Str), v)] = none by simp [List.lookup, qw]]
    trivial
section
variable {X : Cx} {C fI : Addr}
/-- TooMany(e): its own dict is new and holds the limit -/
def tMany (C : Addr) (ta : TA) : L2.St → Hp → XK → Prop := fun σ H Q => ta σ H fun vs H1 => ∃ v, vs = [v] ∧ ∀ d, H1 d = none → Q (.ref C) (some d) (upd H1 d (.xd [(("limit" : Str), v)]))
theorem pmk_many {a : Expr} {ta : TA} {p pos : Pos} {x : Str} {k : Nat} (T : Kx.Txt X.prog X.K X.mg C fI) (gC : X.mg x = some (.ref C)) (hr : Room k X.A) (ha : PA X [a] ta) (hg : Gl X x := by rfl)
    (he : starEach (a :: []) X.env = (false, eval a X.env) :: starEach [] X.env := by rfl) (hpl : (backTo pos (starEach [] X.env)).any (·.1) = false := by rfl) (hd : (x == ("__debug__" : Str)) = false := by decide) :
    PMk X (.Call (.Name x p) [a] [] pos) (tMany C ta) := by
  intro pins s σ H Q I h
  refine wpAny_Call_Name_kw (ld_glob I hg gC ?_ hd)
  refine PySem.W.callWith_K (h₀ := X.base) I.ok.mod.kin T.kC (thn (ha.run pos pins s σ H _ I h) fun us s1 hh => ?_) he hpl
  obtain ⟨vs, H1, I1, r1, v, rfl, q1⟩ := hh
  refine ⟨I1.kIn, ?_⟩
  cases r1 with
  | cons rv rn =>
    rename_i v' us'
    cases rn
    show wpAny _ _ (call (.ref C) [v']) _ _ _
    have hlim := I1.nolimit
    have hG := I1.mod.glob.keeps I1.bk
    obtain ⟨mb, hB, hBB⟩ := I1.mod.blt
    have hB' := hB.keeps I1.bk
    obtain ⟨hp, g, dr, tk, os⟩ := s1
    refine wpAny_call (Kx.own_made T I1.kIn hG hB' hBB hlim (by have := hr.dp; omega) fun h' tk' e d M => ?_)
    show MkP X pins σ Q (.ref e) ⟨h', g, dr, tk', os⟩
    obtain ⟨oe, fv, hoe, hc, hdd, hdat, h1⟩ := M.obj
    obtain ⟨G', g1, g2⟩ := restrict h' fun b => decide (b ≠ e)
    have gk : ∀ b, b ≠ e → G'.get? b = h'.get? b := fun b hb => g1 b (decide_eq_true hb)
    have ge : G'.get? e = none := g2 e (by simp)
    have old : ∀ b o, hp.get? b = some o → G'.get? b = some o := fun b o q => (gk b (Nat.ne_of_lt (Nat.lt_of_lt_of_le (Heap.lt_size q) M.new))).trans (M.keep b o q)
    have ob : ObjOk X.prog X.w (upd H1 d (.xd [(("limit" : Str), v)])) G' d (.xd [(("limit" : Str), v)]) :=
      ⟨_, M.ns.at (fun o q => (gk d M.dne).trans q), fun f => relO_one rv f⟩
    have J : Inv X pins σ (upd H1 d (.xd [(("limit" : Str), v)])) ⟨G', g, dr, tk', os⟩ := I1.laid (t' := tk') old M.dbig ob
    refine ⟨e, oe, fv, ⟨G', g, dr, tk', os⟩, _, .ref C, some d, rfl, J, fun b o q => ?_, ge, hoe, ⟨hc, hdd⟩, hdat, h1, ?_, rfl, I1.bare, raises_own T.exC T.tyC, q1 d (I1.hok.fresh M.dbig)⟩
    · by_cases hb : b = e
      · have q' : G'.get? b = some o := q
        rw [hb, ge] at q'
        cases q'
      · exact (gk b hb).symm.trans q
    · rw [upd_ne (Ne.symm M.dne)]
      exact I1.hok.fresh M.new
end
/-! ### several clauses, some with a name -/
/-- a clause: its class, its name's slot (if it has one), its suite -/
structure Cls where
  c : Value
  slot : Option Nat
  ts : Addr → Value → Option Addr → TS
/-- the ends of a suite whose name is dropped behind it -/
def dropAt (i : Nat) (D : Ends) : Ends := { nx := fun σ' H' => D.nx (σ'.set i none) H', rt := D.rt, bk := fun σ' H' => D.bk (σ'.set i none) H', ct := fun σ' H' => D.ct (σ'.set i none) H' }
/-- what the clauses wish of the body's error -/
def wMix (K : PySem.W.Frag) (Wout : WX) (D : Ends) : List Cls → WX
  | [] => Wout
  | ⟨c, none, ts⟩ :: r => fun cls d σ H => ∃ b, PySem.W.exmOne K cls c = some b ∧ (b = true → ∀ a, H a = none → ts a cls d D σ H) ∧ (b = false → wMix K Wout D r cls d σ H)
  | ⟨c, some i, ts⟩ :: r => fun cls d σ H => ∃ b, PySem.W.exmOne K cls c = some b ∧ (b = true → ∀ a, H a = none → ts a cls d (dropAt i D) (σ.set i (some (.ref a))) H) ∧ (b = false → wMix K Wout D r cls d σ H)
inductive ClsOk (X : Cx) : List ExceptHandler → List Cls → Prop
  | nil : ClsOk X [] []
  | plain {x : Str} {c : Value} {ts : Addr → Value → Option Addr → TS} {b₀ : Stmt} {suite : List Stmt} {np pos' : Pos} {hds : List ExceptHandler} {l : List Cls} (hc : Names X x c)
      (hsu : ∀ (a : Addr) (oe : Obj) (cls : Value) (d : Option Addr) (pn : List (Addr × Obj)), Zc cls d oe → (∃ vs, oe.data = .fields vs) → PSs (X.suite a ((a, oe) :: pn)) (b₀ :: suite) (ts a cls d)) (r : ClsOk X hds l) :
      ClsOk X (.ExceptHandler (some (.Name x np)) none (b₀ :: suite) pos' :: hds) (⟨c, none, ts⟩ :: l)
  | named {x n : Str} {c : Value} {i : Nat} {ts : Addr → Value → Option Addr → TS} {b₀ : Stmt} {suite : List Stmt} {np pos' : Pos} {hds : List ExceptHandler} {l : List Cls} (hN : X.N.Nodup) (hi : X.N[i]? = some n) (hln : X.env.kindOf n = some .local) (hc : Names X x c)
      (hsu : ∀ (a : Addr) (oe : Obj) (cls : Value) (d : Option Addr) (pn : List (Addr × Obj)), Zc cls d oe → (∃ vs, oe.data = .fields vs) → PSs (X.suite a ((a, oe) :: pn)) (b₀ :: suite) (ts a cls d)) (r : ClsOk X hds l) :
      ClsOk X (.ExceptHandler (some (.Name x np)) (some n) (b₀ :: suite) pos' :: hds) (⟨c, some i, ts⟩ :: l)
section
variable {X : Cx} {body : List Stmt} {h₀ : ExceptHandler} {hds : List ExceptHandler} {l : List Cls} {pos : Pos} {tb : WX → TS} {Wout : WX}
theorem ps_try_mix (hs : X.stack = X.env :: X.outer) (hf : X.env.frame = some X.env.locals) (tk : Takes X Wout)
    (hb : ∀ (W : WX) (pn : List (Addr × Obj)) (xe : Value → Shared → Prop), Takes (X.tr pn xe) W → PassesOwn (model X.prog X.w) X.A X.env xe → PSs (X.tr pn xe) body (tb W))
    (hh : ClsOk X (h₀ :: hds) l) : PS X (.Try body (h₀ :: hds) [] [] pos) (fun D σ H => tb (wMix X.K Wout D l) D σ H) := by
  refine ⟨fun pins s σ H D I h => ?_⟩
  have ok := I.ok
  have hfr : X.A.frames = some (X.env :: X.outer) := by rw [ok.frames, hs]
  refine wpAny_Try_except ?_
  refine wpAny_mono ((hb (wMix X.K Wout D l) (X.pn ++ pins) (fun e s₁ => wpAny (model X.prog X.w) X.A (noteFrame e X.env) (fun _ s₂ => wpAny (model X.prog X.w) X.A (setFlight e none) (fun _ s₃ =>
    wpAny (model X.prog X.w) X.A (handleBy e X.env (h₀ :: hds)) (SP X pins D) X.xe s₃) X.xe s₂) X.xe s₁) (fun u s' xx => ?_) PassesOwn.looking).run [] s σ H D (I.toTry _) h) (fun f s1 hsp => ?_) (fun e s1 he => he)
  · obtain ⟨a, B, sI, pins', σ', H', cls, d, rfl, J', nb, up, sky, na, os, ag, w⟩ := xx
    have J : Inv X pins σ' H' sI := J'.ofTry ok
    have sky' : Sky B (X.env :: X.outer) a (Zc cls d) X.env.locals s'.heap := by rw [← hs]; exact sky
    show wpAny (model X.prog X.w) X.A (noteFrame (.ref a) X.env) _ _ _
    refine Sky.land Zc.steady hfr hf sky' fun h3 fl3 up3 => ?_
    have J3 : Inv X pins σ' H' { s' with heap := h3 } := J.landed nb fl3.1 (up.trans up3) os ag
    obtain ⟨oe3, vs3, he3, hz3, hd3⟩ := fl3.there
    have nfr : a ∉ frs (X.env :: X.outer) := fun hm => by
      obtain ⟨_, o', e', hnf⟩ := fl3.2.2.1.mem hm
      rw [he3] at e'
      cases e'
      exact hnf _ hd3
    have nL : a ≠ X.env.locals := fun z => nfr (List.mem_filterMap.mpr ⟨X.env, List.mem_cons_self, by rw [hf, z]⟩)
    have nF : a ∉ X.fs := fun hm => by
      obtain ⟨e, he, q⟩ := List.mem_filterMap.mp hm
      exact nfr (List.mem_filterMap.mpr ⟨e, List.mem_cons_of_mem _ he, q⟩)
    have S3 := J3.suite he3 hd3 na nL nF
    have LT : PySem.W.Looks (model X.prog X.w) h3 (typeOf (.ref a)) cls := fun A Q E s k q => wpAny_typeOf_ref (k _ _ he3) (by rw [hz3.1]; exact q)
    have test : ∀ {x : Str} {c : Value} {np : Pos} {Q : Value → Shared → Prop} {E : Value → Shared → Prop}, Names X x c → Q c { s' with heap := h3 } → wpAny (model X.prog X.w) (X.A.mark (some (.ref a))) (eval (.Name x np) X.env) Q E { s' with heap := h3 } := fun {x c np Q E} hc q => by
      obtain ⟨hg, hdbg, hm | ⟨hm, hv, hnn⟩⟩ := hc
      · exact ld_glob (X := X.suite a ((a, oe3) :: (X.pn ++ pins))) S3 hg hm q hdbg
      · exact ld_blt (X := X.suite a ((a, oe3) :: (X.pn ++ pins))) S3 hg hm hv q hnn hdbg
    have go : ∀ {hds' : List ExceptHandler} {l' : List Cls}, ClsOk X hds' l' → wMix X.K Wout D l' cls d σ' H' → wpAny (model X.prog X.w) X.A (handleBy (.ref a) X.env hds') (SP X pins D) X.xe { s' with heap := h3 } := by
      intro hds' l' hk
      induction hk with
      | nil =>
        intro w
        refine wpAny_handleBy_nil ?_
        obtain ⟨k1, k2, k3, oe, vs, T, oT, ts', he, hz, hd, h1, hr⟩ := id fl3
        unfold PySem.passOn
        refine wpAny_bind (wpAny_field he hd h1 ?_)
        rw [if_neg (show ¬ ((Value.ref T == Value.none) = true) from by simp)]
        have fin : wpAny (model X.prog X.w) X.A (setFlight (.ref a) X.env.frame) (fun _ s4 => wpAny (model X.prog X.w) X.A (throw (.ref a) : Sem Flow) (SP X pins D) X.xe s4) X.xe { s' with heap := h3 } := by
          rw [hf]
          refine HandSPX.setFlight_upZ fl3 fun h4 hh4 up4 => wpAny_throw (tk _ _ ?_)
          exact ⟨a, B, sI, pins, σ', H', cls, d, rfl, J, nb, (up.trans up3).trans up4, .inr (.inr (by rw [hs]; exact hh4)), na, os, ag, w⟩
        first
          | exact wpAny_bind (wpAny_pure (wpAny_bind fin))
          | exact wpAny_bind fin
      | @plain x c ts b₀ suite np pos' hds2 l2 hc hsu r ih =>
        intro w
        obtain ⟨b, hb1, hyes, hno⟩ := w
        refine wpAny_handleBy_cons (codeAny_handlers_test ?_) (by intro q; cases q)
        refine test hc ((PySem.W.exm_one (M := model X.prog X.w) J3.kIn LT hb1).here ?_)
        cases b with
        | true =>
          refine codeAny_handlers_suite ?_
          refine HandSPX.lands_againZ fl3 fun h4 fl4 up4 => ?_
          have J4 : Inv X pins σ' H' { s' with heap := h4 } := J.landed nb fl4.1 ((up.trans up3).trans up4) os ag
          obtain ⟨oe4, vs4, he4, hz4, hd4⟩ := fl4.there
          refine wpAny_mono ((hsu a oe4 cls d (X.pn ++ pins) hz4 ⟨_, hd4⟩).run [] _ _ H' _ (J4.suite he4 hd4 na nL nF) (hyes rfl a na)) (fun f s6 hsp => ?_) (fun _ _ z => False.elim z)
          cases f with
          | ret u => obtain ⟨v6, σ6, H6, S6, r6, q6⟩ := hsp; exact ⟨_, _, _, S6.unsuite ok, r6, q6⟩
          | next => obtain ⟨σ6, H6, S6, q6⟩ := hsp; exact ⟨_, _, S6.unsuite ok, q6⟩
          | brk => obtain ⟨σ6, H6, S6, q6⟩ := hsp; exact ⟨_, _, S6.unsuite ok, q6⟩
          | cont => obtain ⟨σ6, H6, S6, q6⟩ := hsp; exact ⟨_, _, S6.unsuite ok, q6⟩
        | false => exact (ih (hno rfl) : wpAny _ X.A (handleBy (.ref a) X.env hds2) _ _ _)
      | @named x n c i ts b₀ suite np pos' hds2 l2 hN hi hln hc hsu r ih =>
        intro w
        obtain ⟨b, hb1, hyes, hno⟩ := w
        refine wpAny_handleBy_cons (codeAny_handlers_test ?_) (by intro q; cases q)
        refine test hc ((PySem.W.exm_one (M := model X.prog X.w) J3.kIn LT hb1).here ?_)
        cases b with
        | true =>
          refine codeAny_handlers_suite_as ?_
          refine HandSPX.lands_againZ fl3 fun h4 fl4 up4 => ?_
          have J4 : Inv X pins σ' H' { s' with heap := h4 } := J.landed nb fl4.1 ((up.trans up3).trans up4) os ag
          obtain ⟨oe4, vs4, he4, hz4, hd4⟩ := fl4.there
          refine store_ok (X := X.suite a ((a, oe4) :: (X.pn ++ pins))) (v := .ref a) (J4.suite he4 hd4 na nL nF) hN hi (.inl hln) rfl (fun s5 S5 => ?_) (.inr hln)
          refine wpAny_mono ((hsu a oe4 cls d (X.pn ++ pins) hz4 ⟨_, hd4⟩).run [] s5 _ H' _ S5 (hyes rfl a na)) (fun f s6 hsp => ?_) (fun _ _ z => False.elim z)
          have gone : ∀ {σ6 : L2.St} {H6 : Hp} {Q : Shared → Prop}, Inv (X.suite a ((a, oe4) :: (X.pn ++ pins))) [] σ6 H6 s6 → (∀ s7, Inv X pins (σ6.set i none) H6 s7 → Q s7) →
              wpAny (model X.prog X.w) X.A (do bindName X.env n .none; unbindBehindTheSuite X.env n pos') (fun _ s7 => Q s7) X.xe s6 := fun {σ6 H6 Q} S6 hq => gone_ok (S6.unsuite ok) hN hi hln hq
          cases f with
          | ret u => obtain ⟨v6, σ6, H6, S6, r6, q6⟩ := hsp; exact gone S6 fun s7 J7 => ⟨_, _, _, J7, r6, q6⟩
          | next => obtain ⟨σ6, H6, S6, q6⟩ := hsp; exact gone S6 fun s7 J7 => ⟨_, _, J7, q6⟩
          | brk => obtain ⟨σ6, H6, S6, q6⟩ := hsp; exact gone S6 fun s7 J7 => ⟨_, _, J7, q6⟩
          | cont => obtain ⟨σ6, H6, S6, q6⟩ := hsp; exact gone S6 fun s7 J7 => ⟨_, _, J7, q6⟩
        | false => exact (ih (hno rfl) : wpAny _ X.A (handleBy (.ref a) X.env hds2) _ _ _)
    exact go hh w
  · cases f with
    | next => obtain ⟨σ', H', J', q⟩ := hsp; exact wpAny_execs_nil ⟨σ', H', J'.ofTry ok, q⟩
    | brk => obtain ⟨σ', H', J', q⟩ := hsp; exact ⟨σ', H', J'.ofTry ok, q⟩
    | cont => obtain ⟨σ', H', J', q⟩ := hsp; exact ⟨σ', H', J'.ofTry ok, q⟩
    | ret u => obtain ⟨v, σ', H', J', r, q⟩ := hsp; exact ⟨v, σ', H', J'.ofTry ok, r, q⟩
end
end Kr

/-! The defs of the text: what all walks share; the looks at a row. -/
namespace Kd
open PySem PySem.Spec PyProof.Rows L2 Kr
/-! ### the text -/
def topS (i : Nat) : Stmt := PySem.Challenge.pw_wetfolds_k41_whole_shortest_rows_by_plac.main.body.getD i (.Pass ⟨0, 0, 0, 0⟩)
/-- no name of the text stands over these built-in ones -/
structure Bi (mg : Str → Option Value) : Prop where
  isi : mg "isinstance" = none
  int : mg "int" = none
  bool : mg "bool" = none
  tuple : mg "tuple" = none
  len : mg "len" = none
  all : mg "all" = none
  zip : mg "zip" = none
  abs : mg "abs" = none
  sorted : mg "sorted" = none
  set : mg "set" = none
  range : mg "range" = none
  dict : mg "dict" = none
  min : mg "min" = none
  enumerate : mg "enumerate" = none
  list : mg "list" = none
  str : mg "str" = none
/-- a def of the text as it stands behind the top -/
def Has (K : PySem.W.Frag) (mg : Str → Option Value) (x : Str) (st : Stmt) : Prop := ∃ (f : Addr) (fd : FuncData), Fun K x x st f fd ∧ mg x = some (.ref f)
/-- a def that keeps a promise, to be called by its name -/
structure Df (P : Program) (w : World) (K : PySem.W.Frag) (mg : Str → Option Value) (base : Heap) (CX : CXT) (k : Nat) (x : Str) (sp : Sp) : Prop where
  ex : ∃ (f : Addr) (fd : FuncData) (ps : List Str), FnOk P w K mg base CX k f fd ps sp ∧ mg x = some (.ref f) ∧ PySem.W.keepIn K (.ref f) = true ∧ Binds K fd ps []
section
variable {P : Program} {w : World} {K : PySem.W.Frag} {mg : Str → Option Value} {base : Heap}
theorem df {x : Str} {st : Stmt} {N ps : List Str} {k : Nat} {sp : Sp} (A : Has K mg x st) (S : FnScope N ps (defScope st)) (len : ∀ vs H Q E, sp vs H Q E → vs.length = ps.length)
    (hb : ∀ (kV doc pm : Value) (an : Option Addr) (cdv ct : Value) (us : List Value), us.length = ps.length → bindArgs (PySem.W.fnOf x x (defArgs st) (defBody st) (defScope st) .none kV doc pm an cdv ct) ⟨us, []⟩ = pure (ps.zip us))
    (hbody : ∀ (f : Addr) (cdv : Value) (A : Around) (outer : List Env) (s : Shared) (H : Hp) (vs : List V) (Q : VK) (E : XK), Room k (A.deeper (envOfC x (defScope st) s.heap.objs.size f cdv)) → sp vs H Q E →
      ∃ t, PSs (cxOf CX0 P w K mg base N x (defScope st) f cdv A outer s H E).nox (defBody st) t ∧ t { nx := fun _ H' => Q .non H', rt := Q } (start N vs) H) : Df P w K mg base CX0 (k + 1) x sp := by
  obtain ⟨f, fd, F, g⟩ := A
  exact ⟨f, fd, ps, F.ok S len fun cdv A outer s H vs Q E hr h => hbody f cdv A outer s H vs Q E hr h, g, F.kp, F.binds hb⟩
theorem dfX {x : Str} {st : Stmt} {N ps : List Str} {k : Nat} {sp : Sp} (A : Has K mg x st) (S : FnScope N ps (defScope st)) (len : ∀ vs H Q E, sp vs H Q E → vs.length = ps.length)
    (hb : ∀ (kV doc pm : Value) (an : Option Addr) (cdv ct : Value) (us : List Value), us.length = ps.length → bindArgs (PySem.W.fnOf x x (defArgs st) (defBody st) (defScope st) .none kV doc pm an cdv ct) ⟨us, []⟩ = pure (ps.zip us))
    (hbody : ∀ (f : Addr) (cdv : Value) (A : Around) (outer : List Env) (s : Shared) (H : Hp) (vs : List V) (Q : VK) (E : XK), Room k (A.deeper (envOfC x (defScope st) s.heap.objs.size f cdv)) → sp vs H Q E →
      ∃ t, PSs (cxOf (L2.CX P w) P w K mg base N x (defScope st) f cdv A outer s H E) (defBody st) t ∧ t { nx := fun _ H' => Q .non H', rt := Q } (start N vs) H) : Df P w K mg base (L2.CX P w) (k + 1) x sp := by
  obtain ⟨f, fd, F, g⟩ := A
  exact ⟨f, fd, ps, F.okX S len fun cdv A outer s H vs Q E hr h => hbody f cdv A outer s H vs Q E hr h, g, F.kp, F.binds hb⟩
theorem Df.imp {CX : CXT} {k : Nat} {x : Str} {sp sp' : Sp} (D : Df P w K mg base CX k x sp) (h : ∀ vs H Q E, sp' vs H Q E → sp vs H Q E) : Df P w K mg base CX k x sp' := by
  obtain ⟨f, fd, ps, F, a, b, c⟩ := D.ex
  exact ⟨f, fd, ps, F.imp h, a, b, c⟩
end
section
variable {X : Cx} {k j : Nat} {x : Str} {sp : Sp} {p pos : Pos} {e : Expr} {es : List Expr} {t : TA}
/-- x(e, ..), a def that lets nothing out -/
theorem cl (D : Df X.prog X.w X.K X.mg X.base CX0 k x sp) (hr : Room j X.A) (ha : PA X (e :: es) t) (hg : Gl X x := by rfl) (hk : k ≤ j := by decide)
    (hdb : (x == ("__debug__" : Str)) = false := by decide) (he : starEach (e :: es) X.env = (false, eval e X.env) :: starEach es X.env := by rfl) (hpl : (backTo pos (starEach es X.env)).any (·.1) = false := by rfl) :
    PE X (.Call (.Name x p) (e :: es) [] pos) (tCall sp [] E0 t) := by
  obtain ⟨f, fd, ps, F, hm, kp, b⟩ := D.ex
  exact pe_call F (hr.mono hk) hg hm kp b .nil pass0 ha hdb he hpl
/-- x(e, ..), a def that may let an error out, in a def that lets it out as it is -/
theorem clX {E : XK} (D : Df X.prog X.w X.K X.mg X.base (L2.CX X.prog X.w) k x sp) (hr : Room j X.A) (hx : Passes (L2.CX X.prog X.w) X E) (ha : PA X (e :: es) t) (hg : Gl X x := by rfl) (hk : k ≤ j := by decide)
    (hdb : (x == ("__debug__" : Str)) = false := by decide) (he : starEach (e :: es) X.env = (false, eval e X.env) :: starEach es X.env := by rfl) (hpl : (backTo pos (starEach es X.env)).any (·.1) = false := by rfl) :
    PE X (.Call (.Name x p) (e :: es) [] pos) (tCall sp [] E t) := by
  obtain ⟨f, fd, ps, F, hm, kp, b⟩ := D.ex
  exact pe_call F (hr.mono hk) hg hm kp b .nil hx ha hdb he hpl
end
/-! ### is_whole(value, low, high) -/
abbrev sWhole : Stmt := topS 7
theorem scWhole : FnScope ["value", "low", "high"] ["value", "low", "high"] (defScope sWhole) := ⟨rfl, rfl, rfl, by decide +kernel, rfl, by decide +kernel, by decide +kernel⟩
def spWhole : Sp := fun vs H Q _ => ∃ (x : V) (lo hi : Int), vs = [x, .int lo, .int hi] ∧ ((∃ i, x = .int i ∧ Q (.bl (decide (lo ≤ i ∧ i ≤ hi))) H) ∨ ∃ b, x = .bl b ∧ Q (.bl false) H)
section
variable {P : Program} {w : World} {K : PySem.W.Frag} {mg : Str → Option Value} {base : Heap}
theorem dWhole (A : Has K mg "is_whole" sWhole) (B : Bi mg) : Df P w K mg base CX0 1 "is_whole" spWhole := by
  refine df A scWhole (fun vs H Q E h => ?_) (fun _ _ _ _ _ _ us hl => match us, hl with | [_, _, _], _ => rfl) (fun f cdv A outer s H vs Q E hr h => ?_)
  · obtain ⟨x, lo, hi, rfl, _⟩ := h
    rfl
  · obtain ⟨x, lo, hi, rfl, h⟩ := h
    refine ⟨_, pss_one (ps_ret (pe_and (pe_callB call_isi (by rfl) B.isi (by decide +kernel) (pa_cons (pv 0) (pa_cons (pe_bltn (v := .ty "int") rfl B.int (by decide +kernel) rfl) pa_nil)))
      (pe_and (pe_not (pe_callB call_isi (by rfl) B.isi (by decide +kernel) (pa_cons (pv 0) (pa_cons (pe_bltn (v := .ty "bool") rfl B.bool (by decide +kernel) rfl) pa_nil))))
        (pe_one (pe_chain op_le op_le (pv 1) (pv 0) (pv 2)))))), ?_⟩
    rcases h with ⟨i, rfl, q⟩ | ⟨b, rfl, q⟩
    · refine ⟨_, rfl, _, _, _, _, true, rfl, .ty _, .base (.int _), kit_ty (by decide +kernel), _, rfl, iteT ⟨_, rfl, _, _, _, _, false, rfl, .ty _, .base (.int _), kit_ty (by decide +kernel), _, rfl, _, rfl, iteT ?_⟩⟩
      refine ⟨_, rfl, _, rfl, lo, i, rfl, rfl, _, rfl, ?_⟩
      by_cases c : lo ≤ i
      · rw [if_pos (decide_eq_true c)]
        refine ⟨_, rfl, i, hi, rfl, rfl, ?_⟩
        show Q (.bl (decide (i ≤ hi))) H
        rw [show decide (i ≤ hi) = decide (lo ≤ i ∧ i ≤ hi) by simp [c]]
        exact q
      · rw [if_neg (by simpa using c)]
        rw [show decide (lo ≤ i ∧ i ≤ hi) = false by simp [c]] at q
        exact q
    · exact ⟨_, rfl, _, _, _, _, true, rfl, .ty _, .base (.bl _), kit_ty (by decide +kernel), _, rfl, iteT ⟨_, rfl, _, _, _, _, true, rfl, .ty _, .base (.bl _), kit_ty (by decide +kernel), _, rfl, _, rfl, iteF q⟩⟩
end
/-! ### a comprehension that makes nothing but its list -/
/-- a tuple at p -/
abbrev Tup (H : Hp) (p : Addr) (ns : List Int) : Prop := H p = some (.tup (ns.map V.int))
theorem put {H H1 : Hp} {p : Addr} {o : HO} (e : Same H H1) (n : H1 p = none) : Same H (upd H1 p o) := fun b u h => by
  rw [upd_ne (ne_of_none (e _ _ h) n)]
  exact e _ _ h
theorem put0 {H : Hp} {p : Addr} {o : HO} (n : H p = none) : Same H (upd H p o) := put (Same.refl H) n
theorem sqT_keep {K : PySem.W.Frag} {H H' : Hp} {a : Addr} {xs : List V} (e : Same H H') (h : SqT K H a xs) : SqT K H' a xs := by
  rcases h with (h | ⟨o, h⟩) | h
  · exact .inl (.inl (e _ _ h))
  · exact .inl (.inr ⟨o, e _ _ h⟩)
  · exact .inr h
theorem wipe1 (σ : L2.St) (i : Nat) (v : V) : (wipe σ [i]).set i (some v) = σ.set i (some v) := by
  show (σ.set i none).set i (some v) = _
  rw [List.set_set]
theorem wipe1' (σ : L2.St) (i : Nat) (v : V) : wipe (σ.set i (some v)) [i] = wipe σ [i] := by
  show (σ.set i (some v)).set i none = σ.set i none
  rw [List.set_set]
section
variable {K : PySem.W.Frag} {a : Addr} {xs : List V} {tt : L2.TT} {te : TE} {σ : L2.St} {H1 : Hp} {D : Addr} {Qd : Hp → Prop} {i : Nat}
/-- what a turn of such a comprehension does: the test's answer, the element's value, no heap touched -/
structure Calm (tt : L2.TT) (te : TE) (σ : L2.St) (i : Nat) (H1 : Hp) (D : Addr) (p : V → Bool) (f : V → V) (x : V) : Prop where
  test : ∀ (acc : List V) (R : Bool → Hp → Prop), R (p x) (upd H1 D (.lst acc)) → tt (σ.set i (some x)) (upd H1 D (.lst acc)) R
  elt : p x = true → ∀ (acc : List V) (R : VK), R (f x) (upd H1 D (.lst acc)) → te (σ.set i (some x)) (upd H1 D (.lst acc)) R
theorem filter_more {p : V → Bool} {f : V → V} {xs : List V} {j : Nat} {x : V} (h : xs[j]? = some x) : ((xs.take (j + 1)).filter p).map f = ((xs.take j).filter p).map f ++ (if p x = true then [f x] else []) := by
  rw [List.take_add_one, h, List.filter_append, List.map_append]
  cases e : p x <;> simp [e]
theorem calm_turn {p : V → Bool} {f : V → V} {xs : List V} {j : Nat} {x : V} (hlen : xs.length ≤ sizeLine) (h : xs[j]? = some x) (C : Calm tt te σ i H1 D p f x) {H : Hp} (hH : H = upd H1 D (.lst (((xs.take j).filter p).map f))) :
    gName i x (wipe σ [i]) H fun σ2 H2 => wipe σ2 [i] = wipe σ [i] ∧ tt σ2 H2 fun b H3 => if b = true then te σ2 H3 fun y H4 => ∃ acc, H4 D = some (.lst acc) ∧ acc.length < sizeLine ∧ upd H4 D (.lst (acc ++ [y])) = upd H1 D (.lst (((xs.take (j + 1)).filter p).map f))
      else H3 = upd H1 D (.lst (((xs.take (j + 1)).filter p).map f)) := by
  subst hH
  show (wipe ((wipe σ [i]).set i (some x)) [i] = wipe σ [i]) ∧ _
  rw [wipe1]
  refine ⟨wipe1' σ i x, C.test _ _ ?_⟩
  have hj : j < xs.length := (List.getElem?_eq_some_iff.mp h).1
  rw [filter_more h]
  cases e : p x
  · refine iteF ?_
    simp
  · refine iteT (C.elt e _ _ ⟨_, upd_same, ?_, ?_⟩)
    · rw [List.length_map]
      refine Nat.lt_of_le_of_lt (List.length_filter_le _ _) ?_
      rw [List.length_take]
      exact Nat.lt_of_lt_of_le (Nat.lt_of_le_of_lt (Nat.min_le_left _ _) hj) hlen
    · rw [upd_upd]
      rfl
theorem lcL (seq : SqL K H1 a xs) (nD : H1 D = none) (hlen : xs.length ≤ sizeLine) (p : V → Bool) (f : V → V) (C : ∀ x ∈ xs, Calm tt te σ i H1 D p f x) (hd : Qd (upd H1 D (.lst ((xs.filter p).map f)))) :
    ∃ W : Nat → Nat → Hp → Prop, (∃ m, W 0 m (upd H1 D (.lst []))) ∧ ∀ j m H, W j m H →
      ((Itl K a).stop j H ∧ Qd H) ∨ ((Itl K a).go j H ∧ ∃ Nx : Hp → Prop, (∀ H', Nx H' → ∃ m', m' < m ∧ W (j + 1) m' H') ∧ ∀ x H', (Itl K a).yld j H x H' → gName i x (wipe σ [i]) H' fun σ2 H2 => wipe σ2 [i] = wipe σ [i] ∧ tt σ2 H2 fun b H3 =>
        if b = true then te σ2 H3 fun y H4 => ∃ acc, H4 D = some (.lst acc) ∧ acc.length < sizeLine ∧ Nx (upd H4 D (.lst (acc ++ [y]))) else Nx H3) := by
  refine lc_list (xs := xs) (fun j H => H = upd H1 D (.lst (((xs.take j).filter p).map f))) (by simp) (fun j H _ e => ?_) (fun j x H hx e => calm_turn hlen hx (C x (List.mem_of_getElem? hx)) e) (fun H e => ?_)
  · rw [e]
    exact (put0 nD).seq seq
  · rw [e, List.take_length]
    exact hd
theorem lcT (seq : SqT K H1 a xs) (nD : H1 D = none) (hlen : xs.length ≤ sizeLine) (p : V → Bool) (f : V → V) (C : ∀ x ∈ xs, Calm tt te σ i H1 D p f x) (hd : Qd (upd H1 D (.lst ((xs.filter p).map f)))) :
    ∃ W : Nat → Nat → Hp → Prop, (∃ m, W 0 m (upd H1 D (.lst []))) ∧ ∀ j m H, W j m H →
      ((Itt K a).stop j H ∧ Qd H) ∨ ((Itt K a).go j H ∧ ∃ Nx : Hp → Prop, (∀ H', Nx H' → ∃ m', m' < m ∧ W (j + 1) m' H') ∧ ∀ x H', (Itt K a).yld j H x H' → gName i x (wipe σ [i]) H' fun σ2 H2 => wipe σ2 [i] = wipe σ [i] ∧ tt σ2 H2 fun b H3 =>
        if b = true then te σ2 H3 fun y H4 => ∃ acc, H4 D = some (.lst acc) ∧ acc.length < sizeLine ∧ Nx (upd H4 D (.lst (acc ++ [y]))) else Nx H3) := by
  refine lc_tup (xs := xs) (fun j H => H = upd H1 D (.lst (((xs.take j).filter p).map f))) (by simp) (fun j H _ e => ?_) (fun j x H hx e => calm_turn hlen hx (C x (List.mem_of_getElem? hx)) e) (fun H e => ?_)
  · rw [e]
    exact sqT_keep (put0 nD) seq
  · rw [e, List.take_length]
    exact hd
end
/-! ### is_tuple_of(value, low, high) -/
abbrev sTupleOf : Stmt := topS 8
theorem scTupleOf : FnScope ["value", "low", "high"] ["value", "low", "high"] (defScope sTupleOf) := ⟨rfl, rfl, rfl, by decide +kernel, rfl, by decide +kernel, by decide +kernel⟩
/-- what is handed in where a tuple is asked for, and is none -/
def NoTup (H : Hp) (x : V) : Prop := x = .non ∨ (∃ i, x = .int i) ∨ ∃ l xs, x = .ref l ∧ H l = some (.lst xs)
def spTupleOf : Sp := fun vs H Q _ => ∃ (x : V) (lo hi : Int), vs = [x, .int lo, .int hi] ∧ ((∃ t xs, x = .ref t ∧ H t = some (.tup xs) ∧ Q (.bl (decide (lo ≤ (xs.length : Int) ∧ (xs.length : Int) ≤ hi))) H) ∨ (NoTup H x ∧ Q (.bl false) H))
section
variable {P : Program} {w : World} {K : PySem.W.Frag} {mg : Str → Option Value} {base : Heap}
theorem dTupleOf (A : Has K mg "is_tuple_of" sTupleOf) (B : Bi mg) : Df P w K mg base CX0 1 "is_tuple_of" spTupleOf := by
  refine df A scTupleOf (fun vs H Q E h => ?_) (fun _ _ _ _ _ _ us hl => match us, hl with | [_, _, _], _ => rfl) (fun f cdv A outer s H vs Q E hr h => ?_)
  · obtain ⟨x, lo, hi, rfl, _⟩ := h
    rfl
  · obtain ⟨x, lo, hi, rfl, h⟩ := h
    refine ⟨_, pss_one (ps_ret (pe_and (pe_callB call_isi (by rfl) B.isi (by decide +kernel) (pa_cons (pv 0) (pa_cons (pe_bltn (v := .ty "tuple") rfl B.tuple (by decide +kernel) rfl) pa_nil)))
      (pe_one (pe_chain op_le op_le (pv 1) (pe_callB call_len_seq (by rfl) B.len PySem.boot_len (pa_cons (pv 0) pa_nil)) (pv 2))))), ?_⟩
    rcases h with ⟨t, xs, rfl, ht, q⟩ | ⟨hx, q⟩
    · refine ⟨_, rfl, _, _, _, _, true, rfl, .ty _, .base (.tup ht), kit_ty (by decide +kernel), _, rfl, iteT ?_⟩
      refine ⟨_, rfl, _, rfl, t, xs, rfl, .inr (.inl (.inl ht)), lo, _, rfl, rfl, _, rfl, ?_⟩
      by_cases c : lo ≤ (xs.length : Int)
      · rw [if_pos (decide_eq_true c)]
        refine ⟨_, rfl, _, hi, rfl, rfl, ?_⟩
        show Q (.bl (decide ((xs.length : Int) ≤ hi))) H
        rw [show decide ((xs.length : Int) ≤ hi) = decide (lo ≤ (xs.length : Int) ∧ (xs.length : Int) ≤ hi) by simp [c]]
        exact q
      · rw [if_neg (by simpa using c)]
        rw [show decide (lo ≤ (xs.length : Int) ∧ (xs.length : Int) ≤ hi) = false by simp [c]] at q
        exact q
    · rcases hx with rfl | ⟨i, rfl⟩ | ⟨l, xs, rfl, hl⟩
      · exact ⟨_, rfl, _, _, _, _, false, rfl, .ty _, .base .non, kit_ty (by decide +kernel), _, rfl, iteF q⟩
      · exact ⟨_, rfl, _, _, _, _, false, rfl, .ty _, .base (.int _), kit_ty (by decide +kernel), _, rfl, iteF q⟩
      · exact ⟨_, rfl, _, _, _, _, false, rfl, .ty _, .base (.lst hl), kit_ty (by decide +kernel), _, rfl, iteF q⟩
end
/-! ### fits_crease(value), fits_folds(value) -/
abbrev sCrease : Stmt := topS 9
abbrev sFits : Stmt := topS 10
theorem scCrease : FnScope ["value"] ["value"] (defScope sCrease) := ⟨rfl, rfl, rfl, by decide +kernel, rfl, by decide +kernel, by decide +kernel⟩
theorem scFits : FnScope ["value", "crease"] ["value"] (defScope sFits) := ⟨rfl, rfl, rfl, by decide +kernel, rfl, by decide +kernel, by decide +kernel⟩
/-- an int or a truth value -/
def IB (x : V) : Prop := (∃ i, x = .int i) ∨ ∃ b, x = .bl b
def okV : V → Bool
  | .int i => decide (-1000000 ≤ i ∧ i ≤ 1000000)
  | _ => false
def spCrease : Sp := fun vs H Q _ => ∃ x : V, vs = [x] ∧ IB x ∧ Q (.bl (okV x)) H
/-- what is handed in as a row, and whether it is one -/
def Row (H : Hp) (x : V) (b : Bool) : Prop := (∃ t xs, x = .ref t ∧ H t = some (.tup xs) ∧ (∀ y ∈ xs, IB y) ∧ xs.length ≤ 1000 ∧ b = (decide (xs.length ≤ 12) && xs.all okV)) ∨ (NoTup H x ∧ b = false)
def spFits : Sp := fun vs H Q _ => ∃ (x : V) (b : Bool), vs = [x] ∧ Row H x b ∧ ∀ H', Same H H' → Q (.bl b) H'
section
variable {P : Program} {w : World} {K : PySem.W.Frag} {mg : Str → Option Value} {base : Heap}
theorem dCrease (A : Has K mg "fits_crease" sCrease) (B : Bi mg) (c : ∃ u, mg "CREASE" = some u ∧ RelV (.int 1000000) u) (W : Df P w K mg base CX0 1 "is_whole" spWhole) : Df P w K mg base CX0 2 "fits_crease" spCrease := by
  obtain ⟨u, hu, ru⟩ := c
  refine df A scCrease (fun vs H Q E h => ?_) (fun _ _ _ _ _ _ us hl => match us, hl with | [_], _ => rfl) (fun f cdv A outer s H vs Q E hr h => ?_)
  · obtain ⟨x, rfl, _⟩ := h
    rfl
  · obtain ⟨x, rfl, h, q⟩ := h
    refine ⟨_, pss_one (ps_ret (cl W hr (pa_cons (pv 0) (pa_cons (pe_un un_neg (pe_glob rfl hu ru)) (pa_cons (pe_glob rfl hu ru) pa_nil))))), ?_⟩
    refine ⟨x, rfl, 1000000, rfl, x, -1000000, 1000000, rfl, ?_⟩
    rcases h with ⟨i, rfl⟩ | ⟨b, rfl⟩
    · exact .inl ⟨i, rfl, q⟩
    · exact .inr ⟨b, rfl, q⟩
theorem dFits (A : Has K mg "fits_folds" sFits) (B : Bi mg) (c : ∃ u, mg "FOLDS_strips" = some u ∧ RelV (.int 12) u) (T : Df P w K mg base CX0 1 "is_tuple_of" spTupleOf) (W : Df P w K mg base CX0 2 "fits_crease" spCrease) : Df P w K mg base CX0 3 "fits_folds" spFits := by
  obtain ⟨u, hu, ru⟩ := c
  refine df A scFits (fun vs H Q E h => ?_) (fun _ _ _ _ _ _ us hl => match us, hl with | [_], _ => rfl) (fun f cdv A outer s H vs Q E hr h => ?_)
  · obtain ⟨x, b, rfl, _⟩ := h
    rfl
  · obtain ⟨x, b, rfl, h, q⟩ := h
    refine ⟨_, pss_one (ps_ret (pe_and (cl T hr (pa_cons (pv 0) (pa_cons pe_int (pa_cons (pe_glob rfl hu ru) pa_nil))))
      (pe_one (pe_callB (cr_all rfl) (by rfl) B.all (by decide +kernel) (pa_cons (pe_lc (own := [("crease", 1)]) (g := gName 1) (tt := tYes) rfl scFits.nd (pi_tup (pv 0)) (blkOk_by (N := ["value", "crease"]) (sc := defScope sFits) (by decide +kernel))
        (fun _ _ _ _ _ => pg_name (i := 1) scFits.nd rfl (.inl rfl)) (fun _ _ _ _ _ => pts_nil) (fun _ _ _ _ _ => cl W hr (pa_cons (pv 1) pa_nil))) pa_nil))))), ?_⟩
    rcases h with ⟨t, xs, rfl, ht, hib, hlen, rfl⟩ | ⟨hx, rfl⟩
    · refine ⟨.ref t, rfl, .ref t, 0, 12, rfl, .inl ⟨t, xs, rfl, ht, _, rfl, ?_⟩⟩
      by_cases c : xs.length ≤ 12
      · rw [if_pos (by simp; omega)]
        refine ⟨.ref t, rfl, t, rfl, ⟨xs, .inl (.inl ht)⟩, fun D nD => ?_⟩
        refine lcT (xs := xs) (.inl (.inl ht)) nD (Nat.le_of_lt (small1000 hlen)) (fun _ => true) (fun x => .bl (okV x)) (fun x hx => ⟨fun acc R q => q, fun _ acc R q => ⟨x, rfl, x, rfl, hib x hx, q⟩⟩) ?_
        refine ⟨D, xs.map okV, rfl, .inl (.inl ?_), ?_⟩
        · rw [upd_same, List.filter_eq_self.mpr (by simp), List.map_map]
          rfl
        · rw [show (xs.map okV).all id = (decide (xs.length ≤ 12) && xs.all okV) by simp [c, List.all_map]]
          exact q _ (put0 nD)
      · rw [if_neg (by simp; omega)]
        rw [show (decide (xs.length ≤ 12) && xs.all okV) = false by simp [c]] at q
        exact q _ (Same.refl H)
    · exact ⟨x, rfl, x, 0, 12, rfl, .inr ⟨hx, _, rfl, iteF (q _ (Same.refl H))⟩⟩
end
end Kd

/-! The defs of the text: errors at a row, steps, sums. -/
namespace Kd
open PySem PySem.Spec PyProof.Rows L2 Kr RZ
/-! ### == of tuples of ints -/
abbrev dT (ns : List Int) : PyData := .tuple (ns.map .int)
theorem dT_can : ∀ ns : List Int, PyData.canLayAll0 (ns.map .int) = true
  | [] => rfl
  | x :: r => by
    show (PyData.canLay0 (.int x) && PyData.canLayAll0 (r.map .int)) = true
    rw [dT_can r]
    rfl
theorem dT_deep : ∀ ns : List Int, PyData.depthAll (ns.map .int) = 0
  | [] => rfl
  | x :: r => by
    show max (PyData.depth (.int x)) (PyData.depthAll (r.map .int)) = 0
    rw [dT_deep r]
    rfl
theorem dT_shaped (ns : List Int) : SeqAt.shaped (dT ns) = true := by
  unfold SeqAt.shaped
  rw [Bool.and_eq_true, decide_eq_true_eq]
  refine ⟨dT_can ns, ?_⟩
  show PyData.depthAll (ns.map .int) + 1 ≤ 64
  rw [dT_deep]
  decide
theorem dT_eqvA : ∀ ns ms : List Int, PyData.eqvAll (ns.map .int) (ms.map .int) = decide (ns = ms)
  | [], [] => rfl
  | [], _ :: _ => rfl
  | _ :: _, [] => rfl
  | x :: r, y :: t => by
    show (x == y && PyData.eqvAll (r.map .int) (t.map .int)) = decide (x :: r = y :: t)
    rw [dT_eqvA r t]
    by_cases e : x = y
    · subst e
      simp
    · simp [e]
theorem dT_eqv (ns ms : List Int) : PyData.eqv (dT ns) (dT ms) = decide (ns = ms) := dT_eqvA ns ms
theorem dp_ints {K : PySem.W.Frag} {H : Hp} : ∀ ns : List Int, DpAll K H (ns.map V.int) (ns.map .int)
  | [] => .nil
  | x :: r => .cons (.int x) (dp_ints r)
theorem dp_tup {K : PySem.W.Frag} {H : Hp} {p : Addr} {ns : List Int} (h : Tup H p ns) : Dp K H (.ref p) (dT ns) := .tup (.inl (.inl h)) (dp_ints ns)
theorem sq {K : PySem.W.Frag} {H : Hp} {p : Addr} {xs : List V} (h : H p = some (.tup xs)) : SqT K H p xs := .inl (.inl h)
theorem sl {K : PySem.W.Frag} {H : Hp} {p : Addr} {xs : List V} (h : H p = some (.lst xs)) : SqL K H p xs := .inl (.inl h)
theorem ifD {c A B : Prop} [Decidable c] (h1 : c → A) (h2 : ¬ c → B) : if decide c = true then A else B := by
  by_cases h : c
  · rw [if_pos (decide_eq_true h)]
    exact h1 h
  · rw [if_neg (by simpa using h)]
    exact h2 h
theorem ifN {c A B : Prop} [Decidable c] (h1 : ¬ c → A) (h2 : c → B) : if (!decide c) = true then A else B := by
  by_cases h : c
  · rw [if_neg (by simpa using h)]
    exact h2 h
  · rw [if_pos (by simpa using h)]
    exact h1 h
/-! ### need_folds(value), need_few_folds(folds) -/
abbrev sNeed : Stmt := topS 11
abbrev sFew : Stmt := topS 19
theorem scNeed : FnScope ["value"] ["value"] (defScope sNeed) := ⟨rfl, rfl, rfl, by decide +kernel, rfl, by decide +kernel, by decide +kernel⟩
theorem scFew : FnScope ["folds"] ["folds"] (defScope sFew) := ⟨rfl, rfl, rfl, by decide +kernel, rfl, by decide +kernel, by decide +kernel⟩
/-- the errors' classes -/
structure Er (P : Program) (K : PySem.W.Frag) (mg : Str → Option Value) (CI CM fI : Addr) : Prop where
  gI : mg "InvalidFolds" = some (.ref CI)
  xI : PySem.W.excIn K CI [.type "ValueError", .type "Exception", .type "BaseException", .type "object"] "ValueError.__new__" = true
  kI : PySem.W.keepIn K (.ref CI) = true
  bI : PySem.W.subIn K (.ref CI) (.type "BaseException") = some true
  tI : PySem.W.typeIn K (.ref CI) = some (.type "type")
  gM : mg "TooMany" = some (.ref CM)
  tm : Kx.Txt P K mg CM fI
def spNeed (CI : Addr) : Sp := fun vs H Q E => ∃ (x : V) (b : Bool), vs = [x] ∧ Row H x b ∧ (b = true → ∀ H', Same H H' → Q .non H') ∧ (b = false → ∀ H', Same H H' → E (.ref CI) none H')
def spFew (CM : Addr) : Sp := fun vs H Q E => ∃ (t : Addr) (xs : List V), vs = [.ref t] ∧ H t = some (.tup xs) ∧ (xs.length ≤ 8 → Q .non H) ∧ (¬ xs.length ≤ 8 → ∀ d, H d = none → E (.ref CM) (some d) (upd H d (.xd [(("limit" : Str), .int 8)])))
section
variable {P : Program} {w : World} {K : PySem.W.Frag} {mg : Str → Option Value} {base : Heap} {CI CM fI : Addr}
theorem dNeed (A : Has K mg "need_folds" sNeed) (T : Er P K mg CI CM fI) (F : Df P w K mg base CX0 3 "fits_folds" spFits) : Df P w K mg base (L2.CX P w) 4 "need_folds" (spNeed CI) := by
  refine dfX A scNeed (fun vs H Q E h => ?_) (fun _ _ _ _ _ _ us hl => match us, hl with | [_], _ => rfl) (fun f cdv A outer s H vs Q E hr h => ?_)
  · obtain ⟨x, b, rfl, _⟩ := h
    rfl
  · obtain ⟨x, b, rfl, h, q1, q2⟩ := h
    refine ⟨_, pss_one (ps_if (pt_not (pt_val (cl F hr (pa_cons (pv 0) pa_nil))))
      (pss_one (ps_raise rfl (takes_of rfl rfl rfl rfl) (pmk_own PySem.F.excBase_ValueError T.xI T.gI T.kI (raises_own T.bI T.tI) rfl))) pss_nil), ?_⟩
    refine ⟨x, rfl, x, b, rfl, h, fun H' sm => ⟨b, rfl, ?_⟩⟩
    cases b
    · exact iteT (q2 rfl H' sm)
    · exact iteF (q1 rfl H' sm)
theorem dFew (A : Has K mg "need_few_folds" sFew) (B : Bi mg) (T : Er P K mg CI CM fI) (c : ∃ u, mg "FOLDS_inkedplaces" = some u ∧ RelV (.int 8) u) : Df P w K mg base (L2.CX P w) 2 "need_few_folds" (spFew CM) := by
  obtain ⟨u, hu, ru⟩ := c
  refine dfX A scFew (fun vs H Q E h => ?_) (fun _ _ _ _ _ _ us hl => match us, hl with | [_], _ => rfl) (fun f cdv A outer s H vs Q E hr h => ?_)
  · obtain ⟨x, b, rfl, _⟩ := h
    rfl
  · obtain ⟨t, xs, rfl, ht, q1, q2⟩ := h
    refine ⟨_, pss_one (ps_if (pt_cmpR op_gt (pe_callB call_len_seq (by rfl) B.len PySem.boot_len (pa_cons (pv 0) pa_nil)) (pe_glob rfl hu ru) (nomark _))
      (pss_one (ps_raise rfl (takes_of rfl rfl rfl rfl) (pmk_many T.tm T.gM hr (pa_cons (pe_glob rfl hu ru) pa_nil)))) pss_nil), ?_⟩
    refine ⟨.ref t, rfl, t, xs, rfl, .inr (sq ht), _, _, rfl, rfl, _, rfl, ?_⟩
    exact ifD (fun c => ⟨_, rfl, fun d hd => q2 (by omega) d hd⟩) fun c => q1 (by omega)
end
/-! ### a comprehension over zip of two tuples -/
section
variable {K : PySem.W.Frag} {a b : Addr} {ns ms : List Int} {te : TE} {σ : L2.St} {H1 : Hp} {D : Addr} {Qd : Hp → Prop} {i j : Nat}
theorem lcZ (sa : SqT K H1 a (ns.map V.int)) (sb : SqT K H1 b (ms.map V.int)) (nD : H1 D = none) (hz : ns.length ≤ 1000) (hij : i ≠ j) (f : Int → Int → V)
    (he : ∀ (x y : Int) (H : Hp) (R : VK), R (f x y) H → te (((wipe σ [i, j]).set i (some (.int x))).set j (some (.int y))) H R)
    (hd : ∀ H', Same H1 H' → H' D = some (.lst (List.zipWith f ns ms)) → Qd H') :
    ∃ W : Nat → Nat → Hp → Prop, (∃ m, W 0 m (upd H1 D (.lst []))) ∧ ∀ k m H, W k m H →
      ((ItzT K a b).stop k H ∧ Qd H) ∨ ((ItzT K a b).go k H ∧ ∃ Nx : Hp → Prop, (∀ H', Nx H' → ∃ m', m' < m ∧ W (k + 1) m' H') ∧ ∀ x H', (ItzT K a b).yld k H x H' → gTup K 2 (gCons (gName i) (gCons (gName j) gNil)) x (wipe σ [i, j]) H' fun σ2 H2 => wipe σ2 [i, j] = wipe σ [i, j] ∧ tYes σ2 H2 fun b H3 =>
        if b = true then te σ2 H3 fun y H4 => ∃ acc, H4 D = some (.lst acc) ∧ acc.length < sizeLine ∧ Nx (upd H4 D (.lst (acc ++ [y]))) else Nx H3) := by
  refine ⟨fun k m H => k + m = min ns.length ms.length ∧ Same H1 H ∧ H D = some (.lst ((List.zipWith f ns ms).take k)), ⟨min ns.length ms.length, by omega, put0 nD, upd_same⟩, fun k m H hW => ?_⟩
  obtain ⟨em, sm, hD⟩ := hW
  have qa := sqT_keep sm sa
  have qb := sqT_keep sm sb
  by_cases hk : k < min ns.length ms.length
  · have h1 : k < ns.length := by omega
    have h2 : k < ms.length := by omega
    have g1 : (ns.map V.int)[k]? = some (.int ns[k]) := by rw [List.getElem?_map, List.getElem?_eq_getElem h1]; rfl
    have g2 : (ms.map V.int)[k]? = some (.int ms[k]) := by rw [List.getElem?_map, List.getElem?_eq_getElem h2]; rfl
    refine .inr ⟨⟨_, _, _, _, qa, qb, g1, g2⟩, fun H' => Same H1 H' ∧ H' D = some (.lst ((List.zipWith f ns ms).take (k + 1))), fun H' ⟨s', d'⟩ => ⟨m - 1, by omega, by omega, s', d'⟩, fun x H' hy => ?_⟩
    obtain ⟨T, x1, x2, rfl, nT, rfl, f1, f2⟩ := hy
    obtain rfl : x1 = .int ns[k] := Option.some.inj ((f1 _ qa).symm.trans g1)
    obtain rfl : x2 = .int ms[k] := Option.some.inj ((f2 _ qb).symm.trans g2)
    have nTD : D ≠ T := ne_of_none hD nT
    refine ⟨T, _, rfl, sq upd_same, rfl, _, _, rfl, _, _, rfl, rfl, ?_, ?_⟩
    rotate_left
    · simp only [tYes, if_true]
      refine he _ _ _ _ ⟨_, by rw [upd_ne nTD]; exact hD, ?_, ?_, ?_⟩
      · refine Nat.lt_of_le_of_lt ?_ (small1000 hz)
        rw [List.length_take, List.length_zipWith]
        omega
      · intro b o e
        rw [upd_ne (ne_of_none e nD), upd_ne (ne_of_none (sm _ _ e) nT)]
        exact sm _ _ e
      · rw [upd_same]
        have : (List.zipWith f ns ms)[k]? = some (f ns[k] ms[k]) := by
          rw [List.getElem?_zipWith, List.getElem?_eq_getElem h1, List.getElem?_eq_getElem h2]
        rw [List.take_add_one, this]
        rfl
    · show ((((wipe σ [i, j]).set i _).set j _).set j none).set i none = ((σ.set j none).set i none)
      refine List.ext_getElem? fun q => ?_
      simp only [wipe, List.getElem?_set, List.length_set]
      by_cases c1 : i = q <;> by_cases c2 : j = q <;> simp [c1, c2]
  · refine .inl ⟨⟨_, _, qa, qb, ?_⟩, hd H sm ?_⟩
    · rw [List.length_map, List.length_map]
      omega
    · rw [hD, List.take_of_length_le (by rw [List.length_zipWith]; omega)]
end
theorem zip_steps : ∀ ns : List Int, List.zipWith (fun x y => V.int (Km.iabs (x - y))) ns (ns.drop 1) = (Km.stepsOf ns).map V.int
  | [] => rfl
  | [_] => rfl
  | x :: y :: r => by
    have ih := zip_steps (y :: r)
    simp only [List.drop_succ_cons, List.drop_zero] at ih ⊢
    show V.int (Km.iabs (x - y)) :: List.zipWith _ (y :: r) r = _
    rw [ih]
    rfl
theorem cut1 (xs : List V) : cutV xs (some 1) none = xs.drop 1 := by
  unfold cutV
  rw [show HT.sIx xs.length 0 (some 1) = min 1 xs.length from HT.sIx_nat xs.length 0 1, HT.sIx_none]
  cases xs with
  | nil => rfl
  | cons x r =>
    rw [show min 1 (x :: r).length = 1 by rw [List.length_cons]; omega]
    show (List.take ((x :: r).length - 1) r) = r
    rw [List.length_cons, Nat.add_sub_cancel]
    exact List.take_length
/-! ### steps_in(folds) -/
abbrev sSteps : Stmt := topS 13
theorem scSteps : FnScope ["folds", "one", "other"] ["folds"] (defScope sSteps) := ⟨rfl, rfl, rfl, by decide +kernel, rfl, by decide +kernel, by decide +kernel⟩
def spSteps : Sp := fun vs H Q _ => ∃ (t : Addr) (ns : List Int), vs = [.ref t] ∧ Tup H t ns ∧ ns ≠ [] ∧ ns.length ≤ 1000 ∧ ∀ H' p (l : List Int), Same H H' → l.Perm (Km.stepsOf ns) → l.Pairwise (· ≤ ·) → Tup H' p l → Q (.ref p) H'
section
variable {P : Program} {w : World} {K : PySem.W.Frag} {mg : Str → Option Value} {base : Heap}
theorem dSteps (A : Has K mg "steps_in" sSteps) (B : Bi mg) : Df P w K mg base CX0 1 "steps_in" spSteps := by
  refine df A scSteps (fun vs H Q E h => ?_) (fun _ _ _ _ _ _ us hl => match us, hl with | [_], _ => rfl) (fun f cdv A outer s H vs Q E hr h => ?_)
  · obtain ⟨t, ns, rfl, _⟩ := h
    rfl
  · obtain ⟨t, ns, rfl, ht, hne, hz, q⟩ := h
    refine ⟨_, pss_one (ps_ret (pe_callTy call_tuple_of (by rfl) B.tuple (by decide +kernel) (pa_cons (pe_callB cr_sortedI (by rfl) B.sorted (by decide +kernel) (pa_cons
      (pe_lc (own := [("one", 1), ("other", 2)]) (g := gTup K 2 (gCons (gName 1) (gCons (gName 2) gNil))) (tt := tYes) rfl scSteps.nd (pi_zipA (by rfl) B.zip (pa_cons (pv 0) (pa_cons (pe_slice sl_tupA (pv 0) (po_some pe_int) po_none) pa_nil)))
        (blkOk_by (N := ["folds", "one", "other"]) (sc := defScope sSteps) (by decide +kernel)) (fun _ _ _ _ _ => pg_tup rfl (pgs_cons (pg_name (i := 1) scSteps.nd rfl (.inl rfl)) (pgs_cons (pg_name (i := 2) scSteps.nd rfl (.inl rfl)) pgs_nil)))
        (fun _ _ _ _ _ => pts_nil) (fun _ _ _ _ _ => pe_callB call_abs (by rfl) B.abs (by decide +kernel) (pa_cons (pe_op op_sub (pv 1) (pv 2)) pa_nil))) pa_nil)) pa_nil))), ?_⟩
    refine ⟨.ref t, rfl, .ref t, rfl, 1, rfl, t, ns.map V.int, rfl, sq ht, fun c => ?_, fun _ c nc => ?_⟩
    · exfalso
      have := c.1
      rw [show HT.sIx (ns.map V.int).length 0 (some 1) = min 1 (ns.map V.int).length from HT.sIx_nat _ 0 1, List.length_map] at this
      have := List.length_pos_iff.mpr hne
      omega
    · refine ⟨t, c, ns.map V.int, (ns.drop 1).map V.int, rfl, .inr ⟨sq (put0 nc _ _ ht), ?_, fun D nD => ?_⟩⟩
      · refine sq ?_
        rw [upd_same, cut1, List.map_drop]
      · refine lcZ (ns := ns) (ms := ns.drop 1) (i := 1) (j := 2) (sq (put0 nc _ _ ht)) ?_ nD hz (by decide) (fun x y => V.int (Km.iabs (x - y))) (fun x y H' R hR => ?_) fun H' sm hD => ?_
        · refine sq ?_
          rw [upd_same, cut1, List.map_drop]
        · exact ⟨.int x, rfl, .int y, rfl, x, y, rfl, rfl, x - y, rfl, hR⟩
        · rw [zip_steps] at hD
          refine ⟨D, Km.stepsOf ns, rfl, sl hD, fun l p hp hu np => ?_⟩
          have s1 : Same H (upd H' p (.lst (l.map V.int))) := put ((put0 nc).trans sm) np
          refine ⟨p, l.map V.int, rfl, .inl ⟨sl upd_same, fun r nr => ?_⟩⟩
          exact q _ r l (put s1 nr) hp hu upd_same
end
/-! ### all_sums(steps) -/
abbrev sAll : Stmt := topS 16
theorem scAll : FnScope ["steps", "found", "step", "total"] ["steps"] (defScope sAll) := ⟨rfl, rfl, rfl, by decide +kernel, rfl, by decide +kernel, by decide +kernel⟩
def spAll : Sp := fun vs H Q _ => ∃ (t : Addr) (ns : List Int), vs = [.ref t] ∧ Tup H t ns ∧ ns.length ≤ 11 ∧ ∀ H' p, Same H H' → Tup H' p (Km.allSums ns) → Q (.ref p) H'
theorem allSums_snoc {l : List Int} {s : Int} : Km.allSums (l ++ [s]) = Km.turn (Km.allSums l) s := by
  unfold Km.allSums
  rw [List.foldl_append]
  rfl
theorem take_snoc {α : Type} {l : List α} {i : Nat} {x : α} (h : l[i]? = some x) : l.take (i + 1) = l.take i ++ [x] := by
  rw [List.take_add_one, h]
  rfl
theorem map_get {ns : List Int} {i : Nat} {x : V} (h : (ns.map V.int)[i]? = some x) : ∃ z, ns[i]? = some z ∧ x = .int z := by
  rw [List.getElem?_map] at h
  cases e : ns[i]? with
  | none => rw [e] at h; cases h
  | some z => rw [e] at h; exact ⟨z, rfl, (Option.some.inj h).symm⟩
/-- a function of ints, on values -/
def onI (f : Int → Int) : V → V
  | .int i => .int (f i)
  | v => v
theorem map_filt (ns : List Int) (f : Int → Int) : (((ns.map V.int).filter fun _ => true).map (onI f)) = (ns.map f).map V.int := by
  rw [List.filter_eq_self.mpr (by simp), List.map_map, List.map_map]
  rfl
theorem two_pow_le {a : Nat} (h : a ≤ 10) : 2 ^ a ≤ 1024 := Nat.pow_le_pow_right (by decide) h
section
variable {P : Program} {w : World} {K : PySem.W.Frag} {mg : Str → Option Value} {base : Heap}
theorem dAll (A : Has K mg "all_sums" sAll) (B : Bi mg) : Df P w K mg base CX0 1 "all_sums" spAll := by
  refine df A scAll (fun vs H Q E h => ?_) (fun _ _ _ _ _ _ us hl => match us, hl with | [_], _ => rfl) (fun f cdv A outer s H vs Q E hr h => ?_)
  · obtain ⟨t, ns, rfl, _⟩ := h
    rfl
  · obtain ⟨t, ns, rfl, ht, hz, q⟩ := h
    refine ⟨_, pss_cons (ps_set (i := 1) scAll.nd rfl (.inl rfl) (pe_lst (pa_cons pe_int pa_nil)))
      (pss_cons (ps_for PassesOwn.never rfl (pi_tup (pv 0)) (pg_name (i := 2) scAll.nd rfl (.inr rfl)) (pss_one (ps_set (i := 1) scAll.nd rfl (.inl rfl)
        (pe_callB (cr_sortedA rfl) (by rfl) B.sorted (by decide +kernel) (pa_cons (pe_callTy (cr_setI rfl) (by rfl) B.set (by decide +kernel) (pa_cons (pe_op op_cat
          (pe_lc (own := [("total", 3)]) (g := gName 3) (tt := tYes) rfl scAll.nd (pi_list (pv 1)) (blkOk_by (N := ["steps", "found", "step", "total"]) (sc := defScope sAll) (by decide +kernel)) (fun _ _ _ _ _ => pg_name (i := 3) scAll.nd rfl (.inl rfl)) (fun _ _ _ _ _ => pts_nil) (fun _ _ _ _ _ => pe_op op_add (pv 3) (pv 2)))
          (pe_lc (own := [("total", 3)]) (g := gName 3) (tt := tYes) rfl scAll.nd (pi_list (pv 1)) (blkOk_by (N := ["steps", "found", "step", "total"]) (sc := defScope sAll) (by decide +kernel)) (fun _ _ _ _ _ => pg_name (i := 3) scAll.nd rfl (.inl rfl)) (fun _ _ _ _ _ => pts_nil) (fun _ _ _ _ _ => pe_op op_sub (pv 3) (pv 2)))) pa_nil)) pa_nil)))))
      (pss_one (ps_ret (pe_callTy call_tuple_of (by rfl) B.tuple (by decide +kernel) (pa_cons (pv 1) pa_nil))))), ?_⟩
    refine ⟨by decide, fun p0 n0 => ?_⟩
    refine ⟨.ref t, rfl, t, rfl, ⟨_, sq (put0 n0 _ _ ht)⟩, for_tup (xs := ns.map V.int) (fun i σ H' => ∃ p z2 z3, σ = [some (.ref t), some (.ref p), z2, z3] ∧ Same H H' ∧ H' p = some (.lst ((Km.allSums (ns.take i)).map V.int)))
      ⟨p0, none, none, rfl, put0 n0, upd_same⟩ (fun i σ H' _ ⟨_, _, _, _, sm, _⟩ => sq (sm _ _ ht)) ?_ ?_⟩
    · rintro i x σ H' hx ⟨p, z2, z3, rfl, sm, hp⟩
      obtain ⟨st, hst, rfl⟩ := map_get hx
      have hi : i < ns.length := (List.getElem?_eq_some_iff.mp hst).1
      have hl : (Km.allSums (ns.take i)).length ≤ 1024 := Nat.le_trans Km.allSums_len (two_pow_le (by rw [List.length_take]; omega))
      have hl' : ((Km.allSums (ns.take i)).map V.int).length ≤ sizeLine := by rw [List.length_map, sizeLine_eq]; omega
      refine ⟨.ref p, rfl, p, rfl, ⟨_, sl hp⟩, fun D1 n1 => ?_⟩
      refine lcL (i := 3) (sl hp) n1 hl' (fun _ => true) (onI fun k => k + st) (fun x hx => ⟨fun acc R q => q, fun _ acc R q => ?_⟩) ?_
      · obtain ⟨k, _, rfl⟩ := List.mem_map.mp hx
        exact ⟨_, rfl, _, rfl, k, st, rfl, rfl, q⟩
      · rw [map_filt]
        have hp1 := put0 n1 (o := .lst ((List.map (fun k => k + st) (Km.allSums (ns.take i))).map V.int)) _ _ hp
        refine ⟨.ref p, rfl, p, rfl, ⟨_, sl hp1⟩, fun D2 n2 => ?_⟩
        refine lcL (i := 3) (sl hp1) n2 hl' (fun _ => true) (onI fun k => k - st) (fun x hx => ⟨fun acc R q => q, fun _ acc R q => ?_⟩) ?_
        · obtain ⟨k, _, rfl⟩ := List.mem_map.mp hx
          exact ⟨_, rfl, _, rfl, k, st, rfl, rfl, q⟩
        · rw [map_filt]
          have d12 : D1 ≠ D2 := fun e => by
            rw [← e, upd_same] at n2
            cases n2
          refine ⟨D1, D2, _, _, rfl, rfl, by rw [upd_ne d12, upd_same], upd_same, ?_, fun p3 n3 => ?_⟩
          · simp only [List.length_map]
            rw [sizeLine_eq]
            omega
          · refine ⟨p3, ((Km.allSums (ns.take i)).map (fun k => k + st)) ++ ((Km.allSums (ns.take i)).map (fun k => k - st)), rfl, .inl (sl ?_), ?_, fun p4 c n4 => ?_⟩
            · rw [upd_same, List.map_append]
            · rw [List.length_append, List.length_map, List.length_map]
              exact Nat.lt_of_le_of_lt (show _ ≤ 2049 by omega) (by decide)
            · refine ⟨p4, _, c, rfl, upd_same, fun ns' p5 hu hm n5 => ?_⟩
              refine ⟨p5, some (.int st), z3, rfl, put (put (put (put (put sm n1) n2) n3) n4) n5, ?_⟩
              rw [upd_same, take_snoc hst, allSums_snoc]
              rw [Km.norm_eq (l := ns') (m := ((Km.allSums (ns.take i)).map (fun k => k + st)) ++ ((Km.allSums (ns.take i)).map (fun k => k - st))) hu (fun x => by rw [hm x, decide_eq_true_eq])]
              rfl
    · rintro σ H' ⟨p, z2, z3, rfl, sm, hp⟩
      rw [List.length_map, List.take_length] at hp
      exact ⟨.ref p, rfl, p, _, rfl, .inl ⟨sl hp, fun r nr => q _ r (put sm nr) upd_same⟩⟩
end
end Kd

/-! The defs of the text: alike by places; growing, reaching, the goal. -/
namespace Kd
open PySem PySem.Spec PyProof.Rows L2 Kr RZ
/-- the sums of a row -/
def sumsIn (ns : List Int) : List Int := if ns = [] then [] else Km.allSums (Km.stepsOf ns)
/-- a tuple is handed back -/
def RetT (H : Hp) (Q : VK) (l : List Int) : Prop := ∀ H' p, Same H H' → Tup H' p l → Q (.ref p) H'
/-! ### sums_in(folds) -/
abbrev sSums : Stmt := topS 17
theorem scSums : FnScope ["folds"] ["folds"] (defScope sSums) := ⟨rfl, rfl, rfl, by decide +kernel, rfl, by decide +kernel, by decide +kernel⟩
def spSums : Sp := fun vs H Q _ => ∃ (t : Addr) (ns : List Int), vs = [.ref t] ∧ Tup H t ns ∧ ns.length ≤ 12 ∧ RetT H Q (sumsIn ns)
section
variable {P : Program} {w : World} {K : PySem.W.Frag} {mg : Str → Option Value} {base : Heap}
theorem dSums (A : Has K mg "sums_in" sSums) (B : Bi mg) (S : Df P w K mg base CX0 1 "steps_in" spSteps) (L : Df P w K mg base CX0 1 "all_sums" spAll) : Df P w K mg base CX0 2 "sums_in" spSums := by
  refine df A scSums (fun vs H Q E h => ?_) (fun _ _ _ _ _ _ us hl => match us, hl with | [_], _ => rfl) (fun f cdv A outer s H vs Q E hr h => ?_)
  · obtain ⟨t, ns, rfl, _⟩ := h
    rfl
  · obtain ⟨t, ns, rfl, ht, hz, q⟩ := h
    refine ⟨_, pss_one (ps_ret (pe_ifExp (pt_cmpR (op_neD hr.units) (pv 0) (pe_tup pa_nil) (nomark _)) (cl L hr (pa_cons (cl S hr (pa_cons (pv 0) pa_nil)) pa_nil)) (pe_tup pa_nil))), ?_⟩
    refine ⟨.ref t, rfl, by decide, fun p np => ⟨dT ns, dT [], dp_tup (put0 np _ _ ht), dp_tup (ns := []) upd_same, dT_shaped _, dT_shaped _, _, rfl, ?_⟩⟩
    rw [dT_eqv]
    refine ifN (fun c => ?_) (fun c => ?_)
    · refine ⟨.ref t, rfl, t, ns, rfl, put0 np _ _ ht, c, by omega, fun H' p2 l sm hp hu h2 => ?_⟩
      refine ⟨p2, l, rfl, h2, by rw [hp.length_eq, Km.stepsOf_len]; omega, fun H2 p3 sm2 h3 => ?_⟩
      rw [Km.allSums_perm hp] at h3
      refine q H2 p3 ((put0 np).trans (sm.trans sm2)) ?_
      unfold sumsIn
      rw [if_neg c]
      exact h3
    · refine ⟨by decide, fun p2 n2 => q _ p2 (put (put0 np) n2) ?_⟩
      unfold sumsIn
      rw [if_pos c]
      exact upd_same
end
/-! ### are_alike(folds, other_folds), alike_by_places(folds, other_folds) -/
abbrev sAlike : Stmt := topS 18
abbrev sBy : Stmt := topS 20
theorem scAlike : FnScope ["folds", "other_folds", "ends"] ["folds", "other_folds"] (defScope sAlike) := ⟨rfl, rfl, rfl, by decide +kernel, rfl, by decide +kernel, by decide +kernel⟩
theorem scBy : FnScope ["folds", "other_folds"] ["folds", "other_folds"] (defScope sBy) := ⟨rfl, rfl, rfl, by decide +kernel, rfl, by decide +kernel, by decide +kernel⟩
/-- two rows of the same ends and sums -/
structure Like (ns ms : List Int) : Prop where
  n : ns ≠ []
  m : ms ≠ []
  head : ns.head? = ms.head?
  last : ns.getLast? = ms.getLast?
  sums : sumsIn ns = sumsIn ms
  ln : ns.length ≤ 12
  lm : ms.length ≤ 12
def spAlike : Sp := fun vs H Q _ => ∃ (t u : Addr) (ns ms : List Int), vs = [.ref t, .ref u] ∧ Tup H t ns ∧ Tup H u ms ∧ Like ns ms ∧ ∀ H', Same H H' → Q (.bl true) H'
theorem at_first {ns : List Int} {x : Int} (h : ns.head? = some x) : atI (ns.map V.int) 0 = some (.int x) := by
  refine atI_nat (j := 0) ?_
  cases ns with
  | nil => cases h
  | cons y r => cases h; rfl
theorem at_end {ns : List Int} {x : Int} (h : ns.getLast? = some x) : atI (ns.map V.int) (-1) = some (.int x) := by
  obtain ⟨r, e⟩ : ∃ r, ns = r ++ [x] := by
    rcases List.eq_nil_or_concat ns with e | ⟨r, z, e⟩
    · rw [e] at h; cases h
    · rw [List.concat_eq_append] at e
      rw [e, List.getLast?_append] at h
      have : z = x := by simpa using h
      exact ⟨r, by rw [e, this]⟩
  rw [e, List.map_append]
  exact atI_last _ _
theorem head_of {ns : List Int} (h : ns ≠ []) : ∃ x, ns.head? = some x := by
  cases ns with
  | nil => exact absurd rfl h
  | cons x r => exact ⟨x, rfl⟩
theorem last_of {ns : List Int} (h : ns ≠ []) : ∃ x, ns.getLast? = some x := ⟨_, List.getLast?_eq_some_getLast h⟩
section
variable {P : Program} {w : World} {K : PySem.W.Frag} {mg : Str → Option Value} {base : Heap}
theorem dAlike (A : Has K mg "are_alike" sAlike) (S : Df P w K mg base CX0 2 "sums_in" spSums) : Df P w K mg base CX0 3 "are_alike" spAlike := by
  refine df A scAlike (fun vs H Q E h => ?_) (fun _ _ _ _ _ _ us hl => match us, hl with | [_, _], _ => rfl) (fun f cdv A outer s H vs Q E hr h => ?_)
  · obtain ⟨t, u, ns, ms, rfl, _⟩ := h
    rfl
  · obtain ⟨t, u, ns, ms, rfl, ht, hu, L, q⟩ := h
    obtain ⟨a, ha⟩ := head_of L.n
    obtain ⟨b, hb⟩ := last_of L.n
    have ha' := L.head ▸ ha
    have hb' := L.last ▸ hb
    refine ⟨_, pss_cons (ps_if (PW.pt (pw_or (pt_cmpR (op_eqD hr.units) (pv 0) (pe_tup pa_nil) (nomark _)) (pw_or1 (pt_cmpR (op_eqD hr.units) (pv 1) (pe_tup pa_nil) (nomark _)))))
        (pss_one (ps_ret (pe_cmpR (op_eqD hr.units) (pv 0) (pv 1) (nomark _)))) pss_nil)
      (pss_cons (ps_set (i := 2) scAlike.nd rfl (.inl rfl) (pe_cmpR (op_eqD hr.units) (pe_tup (pa_cons (pe_ix ix_tup (pv 0) pe_int (fun _ _ => rfl)) (pa_cons (pe_ix ix_tup (pv 0) (pe_un un_neg pe_int) (fun _ _ => rfl)) pa_nil)))
          (pe_tup (pa_cons (pe_ix ix_tup (pv 1) pe_int (fun _ _ => rfl)) (pa_cons (pe_ix ix_tup (pv 1) (pe_un un_neg pe_int) (fun _ _ => rfl)) pa_nil))) (nomark _)))
      (pss_one (ps_ret (pe_and (pv 2) (pe_one (pe_cmpR (op_eqD hr.units) (cl S hr (pa_cons (pv 0) pa_nil)) (cl S hr (pa_cons (pv 1) pa_nil)) (nomark _))))))), ?_⟩
    refine ⟨.ref t, rfl, by decide, fun p np => ⟨dT ns, dT [], dp_tup (put0 np _ _ ht), dp_tup (ns := []) upd_same, dT_shaped _, dT_shaped _, _, rfl, ?_⟩⟩
    rw [dT_eqv]
    refine ifD (fun c => absurd c L.n) fun _ => ?_
    refine ⟨.ref u, rfl, by decide, fun p2 n2 => ⟨dT ms, dT [], dp_tup (put (put0 np) n2 _ _ hu), dp_tup (ns := []) upd_same, dT_shaped _, dT_shaped _, _, rfl, ?_⟩⟩
    rw [dT_eqv]
    refine ifD (fun c => absurd c L.m) fun _ => ?_
    have s2 := put (o := .tup []) (put0 (o := .tup []) np) n2
    have ht2 := s2 _ _ ht
    have hu2 := s2 _ _ hu
    refine ⟨.ref t, rfl, t, _, 0, _, rfl, rfl, sq ht2, at_first ha, .ref t, rfl, 1, rfl, t, _, -1, _, rfl, rfl, sq ht2, at_end hb, (by show 2 ≤ sizeLine; decide), fun p3 n3 => ?_⟩
    have s3 := put (o := .tup [.int a, .int b]) s2 n3
    have hu3 := s3 _ _ hu
    refine ⟨.ref u, rfl, u, _, 0, _, rfl, rfl, sq hu3, at_first ha', .ref u, rfl, 1, rfl, u, _, -1, _, rfl, rfl, sq hu3, at_end hb', (by show 2 ≤ sizeLine; decide), fun p4 n4 => ?_⟩
    have s4 := put (o := .tup [.int a, .int b]) s3 n4
    refine ⟨dT [a, b], dT [a, b], dp_tup (put0 n4 _ _ (show Tup _ p3 [a, b] from upd_same)), dp_tup (ns := [a, b]) upd_same, dT_shaped _, dT_shaped _, ?_⟩
    rw [dT_eqv, decide_eq_true rfl]
    refine ⟨_, rfl, true, rfl, iteT ⟨.ref t, rfl, t, ns, rfl, s4 _ _ ht, L.ln, fun H5 p5 s5 h5 => ?_⟩⟩
    refine ⟨.ref u, rfl, u, ms, rfl, s5 _ _ (s4 _ _ hu), L.lm, fun H6 p6 s6 h6 => ?_⟩
    refine ⟨dT (sumsIn ns), dT (sumsIn ms), dp_tup (s6 _ _ h5), dp_tup h6, dT_shaped _, dT_shaped _, ?_⟩
    rw [dT_eqv, decide_eq_true L.sums]
    exact q _ (s4.trans (s5.trans s6))
theorem row_ok {H : Hp} {t : Addr} {ns : List Int} (h : Tup H t ns) (hl : ns.length ≤ 12) (hb : ∀ x ∈ ns, -1000000 ≤ x ∧ x ≤ 1000000) : Row H (.ref t) true := by
  refine .inl ⟨t, _, rfl, h, fun y hy => ?_, by rw [List.length_map]; omega, ?_⟩
  · obtain ⟨z, _, rfl⟩ := List.mem_map.mp hy
    exact .inl ⟨z, rfl⟩
  · rw [List.length_map, decide_eq_true hl, Bool.true_and, List.all_map]
    refine (List.all_eq_true.mpr fun x hx => ?_).symm
    show decide (-1000000 ≤ x ∧ x ≤ 1000000) = true
    exact decide_eq_true (hb x hx)
/-- the creases of a row, none too far -/
def Near (ns : List Int) : Prop := ∀ x ∈ ns, -1000000 ≤ x ∧ x ≤ 1000000
def spBy : Sp := fun vs H Q _ => ∃ (t u : Addr) (ns ms : List Int), vs = [.ref t, .ref u] ∧ Tup H t ns ∧ Tup H u ms ∧ Like ns ms ∧ Near ns ∧ Near ms ∧ ∀ H', Same H H' → Q (.bl true) H'
theorem dBy {CI : Addr} (A : Has K mg "alike_by_places" sBy) (N : Df P w K mg base (L2.CX P w) 4 "need_folds" (spNeed CI)) (L : Df P w K mg base CX0 3 "are_alike" spAlike) : Df P w K mg base CX0 5 "alike_by_places" spBy := by
  refine df A scBy (fun vs H Q E h => ?_) (fun _ _ _ _ _ _ us hl => match us, hl with | [_, _], _ => rfl) (fun f cdv A outer s H vs Q E hr h => ?_)
  · obtain ⟨t, u, ns, ms, rfl, _⟩ := h
    rfl
  · obtain ⟨t, u, ns, ms, rfl, ht, hu, k, hn, hm, q⟩ := h
    refine ⟨_, pss_cons (ps_expr (clX N hr passL (pa_cons (pv 0) pa_nil))) (pss_cons (ps_expr (clX N hr passL (pa_cons (pv 1) pa_nil))) (pss_one (ps_ret (cl L hr (pa_cons (pv 0) (pa_cons (pv 1) pa_nil)))))), ?_⟩
    refine ⟨.ref t, rfl, .ref t, true, rfl, row_ok ht k.ln hn, fun _ H1 s1 => ?_, fun c => by cases c⟩
    refine ⟨.ref u, rfl, .ref u, true, rfl, row_ok (s1 _ _ hu) k.lm hm, fun _ H2 s2 => ?_, fun c => by cases c⟩
    exact ⟨.ref t, rfl, .ref u, rfl, t, u, ns, ms, rfl, s2 _ _ (s1 _ _ ht), s2 _ _ (s1 _ _ hu), k, fun H3 s3 => q _ (s1.trans (s2.trans s3))⟩
end
/-! ### grown(reached, step) -/
abbrev sGrown : Stmt := topS 23
theorem scGrown : FnScope ["reached", "step", "one"] ["reached", "step"] (defScope sGrown) := ⟨rfl, rfl, rfl, by decide +kernel, rfl, by decide +kernel, by decide +kernel⟩
def spGrown : Sp := fun vs H Q _ => ∃ (t : Addr) (fs : List Int) (st : Int), vs = [.ref t, .int st] ∧ Tup H t fs ∧ fs ≠ [] ∧ fs.length ≤ 1000 ∧ RetT H Q (Km.grown fs st)
section
variable {P : Program} {w : World} {K : PySem.W.Frag} {mg : Str → Option Value} {base : Heap}
theorem dGrown (A : Has K mg "grown" sGrown) (B : Bi mg) : Df P w K mg base CX0 1 "grown" spGrown := by
  refine df A scGrown (fun vs H Q E h => ?_) (fun _ _ _ _ _ _ us hl => match us, hl with | [_, _], _ => rfl) (fun f cdv A outer s H vs Q E hr h => ?_)
  · obtain ⟨t, fs, st, rfl, _⟩ := h
    rfl
  · obtain ⟨t, fs, st, rfl, ht, hne, hz, q⟩ := h
    refine ⟨_, pss_one (ps_ret (pe_callTy call_tuple_of (by rfl) B.tuple (by decide +kernel) (pa_cons (pe_callB (cr_sortedA rfl) (by rfl) B.sorted (by decide +kernel) (pa_cons (pe_callTy (cr_setI rfl) (by rfl) B.set (by decide +kernel) (pa_cons (pe_op op_catA (pv 0)
      (pe_callTy call_tuple_of (by rfl) B.tuple (by decide +kernel) (pa_cons (pe_lc (own := [("one", 2)]) (g := gName 2) (tt := tYes) rfl scGrown.nd (pi_tup (pv 0)) (blkOk_by (N := ["reached", "step", "one"]) (sc := defScope sGrown) (by decide +kernel))
        (fun _ _ _ _ _ => pg_name (i := 2) scGrown.nd rfl (.inl rfl)) (fun _ _ _ _ _ => pts_nil) (fun _ _ _ _ _ => pe_op op_add (pv 2) (pv 1))) pa_nil))) pa_nil)) pa_nil)) pa_nil))), ?_⟩
    have hz' : (fs.map V.int).length ≤ sizeLine := by rw [List.length_map]; exact Nat.le_of_lt (small1000 hz)
    refine ⟨.ref t, rfl, .ref t, rfl, t, rfl, ⟨_, sq ht⟩, fun D nD => ?_⟩
    refine lcT (i := 2) (sq ht) nD hz' (fun _ => true) (onI fun k => k + st) (fun x hx => ⟨fun acc R q => q, fun _ acc R q => ?_⟩) ?_
    · obtain ⟨k, _, rfl⟩ := List.mem_map.mp hx
      exact ⟨_, rfl, _, rfl, k, st, rfl, rfl, q⟩
    · rw [map_filt]
      refine ⟨D, _, rfl, .inl ⟨sl upd_same, fun p2 n2 => ?_⟩⟩
      have s2 := put (o := .tup ((fs.map (fun k => k + st)).map V.int)) (put0 (o := .lst ((fs.map (fun k => k + st)).map V.int)) nD) n2
      have ne1 : fs.map V.int ≠ [] := by simpa using hne
      refine ⟨t, p2, fs.map V.int, (fs.map (fun k => k + st)).map V.int, rfl, rfl, sq (s2 _ _ ht), sq upd_same, ?_, fun c => absurd c ne1, fun _ c => absurd c (by simpa using hne), fun _ _ p3 n3 => ?_⟩
      · simp only [List.length_map]
        rw [sizeLine_eq]
        omega
      · refine ⟨p3, fs ++ fs.map (fun k => k + st), rfl, .inr (sq ?_), ?_, fun p4 c n4 => ?_⟩
        · rw [upd_same, List.map_append]
        · rw [List.length_append, List.length_map]
          exact Nat.lt_of_le_of_lt (show _ ≤ 2001 by omega) (by decide)
        · refine ⟨p4, _, c, rfl, upd_same, fun ns' p5 hu hm n5 => ?_⟩
          refine ⟨p5, _, rfl, .inl ⟨sl upd_same, fun r nr => q _ r (put (put (put (put s2 n3) n4) n5) nr) ?_⟩⟩
          show _ = some (HO.tup _)
          rw [upd_same, Km.norm_eq (l := ns') (m := fs ++ fs.map (fun k => k + st)) hu (fun x => by rw [hm x, decide_eq_true_eq])]
          rfl
end
/-! ### can_reach(goal, reached, many) -/
abbrev sCan : Stmt := topS 24
theorem scCan : FnScope ["goal", "reached", "many", "most", "turn"] ["goal", "reached", "many"] (defScope sCan) := ⟨rfl, rfl, rfl, by decide +kernel, rfl, by decide +kernel, by decide +kernel⟩
def spCan : Sp := fun vs H Q _ => ∃ (t u : Addr) (g fs : List Int) (n : Nat), vs = [.ref t, .ref u, .int (n : Int)] ∧ Tup H t g ∧ Tup H u fs ∧ n ≤ 100 ∧ Q (.bl (Km.canReach g fs n)) H
section
variable {P : Program} {w : World} {K : PySem.W.Frag} {mg : Str → Option Value} {base : Heap}
theorem dCan (A : Has K mg "can_reach" sCan) (B : Bi mg) : Df P w K mg base CX0 1 "can_reach" spCan := by
  refine df A scCan (fun vs H Q E h => ?_) (fun _ _ _ _ _ _ us hl => match us, hl with | [_, _, _], _ => rfl) (fun f cdv A outer s H vs Q E hr h => ?_)
  · obtain ⟨t, u, g, fs, n, rfl, _⟩ := h
    rfl
  · obtain ⟨t, u, g, fs, n, rfl, ht, hu, hn, q⟩ := h
    refine ⟨_, pss_cons (ps_set (i := 3) scCan.nd rfl (.inl rfl) (pe_callB call_len_seq (by rfl) B.len PySem.boot_len (pa_cons (pv 1) pa_nil)))
      (pss_cons (ps_for PassesOwn.never rfl (pi_range1 rfl B.range (pa_cons (pv 2) pa_nil)) (pg_name (i := 4) scCan.nd rfl (.inl rfl)) (pss_one (ps_set (i := 3) scCan.nd rfl (.inl rfl) (pe_op op_mul (pv 3) pe_int))))
      (pss_one (ps_ret (pe_cmpR op_ge (pv 3) (pe_callB call_len_seq (by rfl) B.len PySem.boot_len (pa_cons (pv 0) pa_nil)) (nomark _))))), ?_⟩
    refine ⟨.ref u, rfl, u, _, rfl, .inr (sq hu), ?_⟩
    refine ⟨.int n, rfl, n, rfl, by omega, by omega, for_range (n := (n : Int).toNat) (fun i σ H' => H' = H ∧ ∃ z, σ = [some (.ref t), some (.ref u), some (.int (n : Int)), some (.int ((fs.length * 2 ^ i : Nat) : Int)), z]) ⟨rfl, none, ?_⟩ ?_ ?_⟩
    · rw [List.length_map, Nat.pow_zero, Nat.mul_one]
      rfl
    · rintro i σ H' hi ⟨rfl, z, rfl⟩
      refine ⟨_, rfl, _, 2, rfl, rfl, .inr ⟨by decide, by decide⟩, rfl, some (.int (0 + (i : Int))), ?_⟩
      show [some (V.ref t), some (V.ref u), some (V.int (n : Int)), some (V.int (((fs.length * 2 ^ i : Nat) : Int) * 2)), some (V.int (0 + (i : Int)))] = _
      rw [Nat.pow_succ, ← Nat.mul_assoc]
      rfl
    · rintro σ H' ⟨rfl, z, rfl⟩
      refine ⟨_, rfl, .ref t, rfl, t, _, rfl, .inr (sq ht), _, _, rfl, rfl, ?_⟩
      rw [List.length_map, show (n : Int).toNat = n from rfl]
      have : decide (((g.length : Nat) : Int) ≤ ((fs.length * 2 ^ n : Nat) : Int)) = Km.canReach g fs n := by
        unfold Km.canReach
        rw [decide_eq_decide]
        omega
      show Q (.bl (decide (((g.length : Nat) : Int) ≤ ((fs.length * 2 ^ n : Nat) : Int)))) H'
      rw [this]
      exact q
end
/-! ### goal_of(folds) -/
abbrev sGoal : Stmt := topS 29
theorem scGoal : FnScope ["folds", "sums", "total"] ["folds"] (defScope sGoal) := ⟨rfl, rfl, rfl, by decide +kernel, rfl, by decide +kernel, by decide +kernel⟩
def spGoal : Sp := fun vs H Q _ => ∃ (t : Addr) (ns : List Int), vs = [.ref t] ∧ Tup H t ns ∧ ns ≠ [] ∧ ns.length ≤ 8 ∧ RetT H Q (Km.subs (Km.stepsOf ns))
section
variable {P : Program} {w : World} {K : PySem.W.Frag} {mg : Str → Option Value} {base : Heap}
theorem dGoal (A : Has K mg "goal_of" sGoal) (B : Bi mg) (S : Df P w K mg base CX0 2 "sums_in" spSums) : Df P w K mg base CX0 3 "goal_of" spGoal := by
  refine df A scGoal (fun vs H Q E h => ?_) (fun _ _ _ _ _ _ us hl => match us, hl with | [_], _ => rfl) (fun f cdv A outer s H vs Q E hr h => ?_)
  · obtain ⟨t, ns, rfl, _⟩ := h
    rfl
  · obtain ⟨t, ns, rfl, ht, hne, hz, q⟩ := h
    refine ⟨_, pss_cons (ps_set (i := 1) scGoal.nd rfl (.inr rfl) (cl S hr (pa_cons (pv 0) pa_nil)))
      (pss_one (ps_ret (pe_callTy call_tuple_of (by rfl) B.tuple (by decide +kernel) (pa_cons (pe_lc (own := [("total", 2)]) (g := gName 2) (tt := tYes) rfl scGoal.nd (pi_tup (pv 1)) (blkOk_by (N := ["folds", "sums", "total"]) (sc := defScope sGoal) (by decide +kernel))
        (fun _ _ _ _ _ => pg_name (i := 2) scGoal.nd rfl (.inl rfl)) (fun _ _ _ _ _ => pts_nil) (fun _ _ _ _ _ => pe_op op_fdiv (pe_op op_add (pv 2) (pe_ix (r := rIxT K) ix_tup (pv 1) (pe_un un_neg pe_int) (fun _ _ => rfl))) pe_int)) pa_nil)))), ?_⟩
    refine ⟨.ref t, rfl, t, ns, rfl, ht, by omega, fun H1 p1 s1 h1 => ?_⟩
    have e1 : sumsIn ns = Km.allSums (Km.stepsOf ns) := if_neg hne
    rw [e1] at h1
    have hz1 : ((Km.allSums (Km.stepsOf ns)).map V.int).length ≤ sizeLine := by
      rw [List.length_map]
      refine Nat.le_of_lt (small1000 (Nat.le_trans Km.allSums_len ?_))
      exact Nat.le_trans (Nat.pow_le_pow_right (by decide) (show _ ≤ 7 by rw [Km.stepsOf_len]; omega)) (by decide)
    obtain ⟨z, hzl⟩ := last_of (Km.allSums_ne (l := Km.stepsOf ns))
    have ez : (Km.allSums (Km.stepsOf ns)).getLastD 0 = z := by rw [List.getLastD_eq_getLast?, hzl]; rfl
    refine ⟨.ref p1, rfl, p1, rfl, ⟨_, sq h1⟩, fun D nD => ?_⟩
    refine lcT (i := 2) (sq h1) nD hz1 (fun _ => true) (onI fun k => (k + z) / 2) (fun x hx => ⟨fun acc R q => q, fun _ acc R q => ?_⟩) ?_
    · obtain ⟨k, _, rfl⟩ := List.mem_map.mp hx
      exact ⟨_, rfl, .ref p1, rfl, 1, rfl, p1, _, -1, _, rfl, rfl, sq (put0 nD _ _ h1), at_end hzl, k, z, rfl, rfl, k + z, 2, rfl, rfl, ⟨by decide, by decide⟩, q⟩
    · rw [map_filt]
      refine ⟨D, _, rfl, .inl ⟨sl upd_same, fun r nr => q _ r (put (put s1 nD) nr) ?_⟩⟩
      show _ = some (HO.tup _)
      rw [upd_same, ← Km.goalOf_eq (Km.stepsOf_nn ns)]
      unfold Km.goalOf
      rw [ez]
end
end Kd

/-! The defs of the text: the steps that can follow. -/
namespace Kd
open PySem PySem.Spec PyProof.Rows L2 Kr RZ
/-- a list of ints is handed back -/
def RetI (H : Hp) (Q : VK) (l : List Int) : Prop := ∀ H' p, Same H H' → H' p = some (.lst (l.map V.int)) → Q (.ref p) H'
theorem filt_ints (p : V → Bool) (q : Int → Bool) (h : ∀ x, p (.int x) = q x) (g : List Int) : ((g.map V.int).filter p).map (fun x => x) = (g.filter q).map V.int := by
  rw [List.map_id', List.filter_map]
  congr 1
  exact List.filter_congr fun x _ => h x
theorem inV_ints (x : Int) : ∀ fs : List Int, inV (.int x) (fs.map V.int) = decide (x ∈ fs)
  | [] => by simp [inV]
  | y :: r => by
    show (eqV (.int y) (.int x) || inV (.int x) (r.map V.int)) = _
    rw [inV_ints x r]
    show ((y == x) || decide (x ∈ r)) = decide (x ∈ y :: r)
    by_cases e : y = x
    · subst e
      simp
    · have e' : ¬ x = y := fun z => e z.symm
      simp [e, e']
theorem flat_ints (fs : List Int) : (fs.map V.int).all flatV = true := by
  rw [List.all_map]
  exact List.all_eq_true.mpr fun _ _ => rfl
/-- the dict of a goal -/
def dictOf (g : List Int) : List (Key × V) := mergeK [] (g.map fun z => ((Sum.inl z : Key), V.bl true))
theorem dict_has (x : Int) : ∀ (g : List Int) (acc : List (Key × V)), (valV (mergeK acc (g.map fun z => ((Sum.inl z : Key), V.bl true))) (Sum.inl x)).isSome = ((valV acc (Sum.inl x)).isSome || decide (x ∈ g))
  | [], acc => by
    show (valV acc (Sum.inl x)).isSome = _
    simp
  | y :: r, acc => by
    show (valV (mergeK (putK acc (Sum.inl y) (V.bl true)) (r.map fun z => ((Sum.inl z : Key), V.bl true))) (Sum.inl x)).isSome = _
    rw [dict_has x r, valV_put]
    by_cases e : x = y
    · subst e
      simp
    · have e' : ¬ (Sum.inl x : Key) = Sum.inl y := fun z => e (Sum.inl.inj z)
      rw [if_neg e']
      simp [e]
theorem dictOf_has (g : List Int) (x : Int) : (valV (dictOf g) (Sum.inl x)).isSome = decide (x ∈ g) := by
  unfold dictOf
  rw [dict_has x g []]
  simp [valV]
theorem dict_paired {K : PySem.W.Frag} {H : Hp} : ∀ {ps : List Addr} {g : List Int}, Paired (fun p z => H p = some (.tup [.int z, .bl true])) ps g → Paired (fun p kv => SqT K H p [kV kv.1, kv.2]) ps (g.map fun z => ((Sum.inl z : Key), V.bl true))
  | _, _, .nil => .nil
  | _, _, .cons h t => .cons (sq h) (dict_paired t)
theorem lastD_of {l : List Int} {z : Int} (h : l.getLast? = some z) (d : Int) : l.getLastD d = z := by rw [List.getLastD_eq_getLast?, h]; rfl
/-- a question to ints, as a value -/
def onB (q : Int → Bool) : V → V
  | .int i => .bl (q i)
  | v => v
theorem map_bools (ns : List Int) (q : Int → Bool) : (((ns.map V.int).filter fun _ => true).map (onB q)) = (ns.map q).map V.bl := by
  rw [List.filter_eq_self.mpr (by simp), List.map_map, List.map_map]
  rfl
/-! ### == of lists of ints -/
abbrev dL (ns : List Int) : PyData := .list (ns.map .int)
theorem dL_shaped (ns : List Int) : SeqAt.shaped (dL ns) = true := by
  unfold SeqAt.shaped
  rw [Bool.and_eq_true, decide_eq_true_eq]
  refine ⟨dT_can ns, ?_⟩
  show PyData.depthAll (ns.map .int) + 1 ≤ 64
  rw [dT_deep]
  decide
theorem dL_eqv (ns ms : List Int) : PyData.eqv (dL ns) (dL ms) = decide (ns = ms) := dT_eqvA ns ms
theorem dp_lst {K : PySem.W.Frag} {H : Hp} {p : Addr} {ns : List Int} (h : H p = some (.lst (ns.map V.int))) : Dp K H (.ref p) (dL ns) := .lst (.inl (.inl h)) (dp_ints ns)
/-! ### a list in the making -/
theorem put1 {H H' : Hp} {D : Addr} {o : HO} (e : Same H H') (n : H D = none) : Same H (upd H' D o) := fun b u h => by
  rw [upd_ne (ne_of_none h n)]
  exact e _ _ h
theorem put2 {H H' : Hp} {D p : Addr} {o o' : HO} (e : Same H H') (n : H D = none) (np : H' p = none) : Same H (upd (upd H' p o) D o') := put1 (put e np) n
/-- a question to ints, asked of values -/
def askI (q : Int → Bool) : V → Bool
  | .int i => q i
  | _ => false
/-- a test of the form a if c else b -/
def tIfT (tc ta tb : L2.TT) : L2.TT := fun σ H Q => tc σ H fun d H1 => if d = true then ta σ H1 Q else tb σ H1 Q
theorem pt_ifExp {X : Cx} {c a b : Expr} {pos : Pos} {tc ta tb : L2.TT} (hc : PT X c tc) (ha : PT X a ta) (hb : PT X b tb) : PT X (.IfExp c a b pos) (tIfT tc ta tb) := by
  refine ⟨fun pins s σ H Q I h => ?_⟩
  have e : PySem.isTrue (.IfExp c a b pos) X.env (eval (.IfExp c a b pos) X.env) = (PySem.isTrue c X.env (eval c X.env) >>= fun d => if d = true then PySem.isTrue a X.env (eval a X.env) else PySem.isTrue b X.env (eval b X.env)) := by
    rw [PySem.isTrue]
  rw [e]
  refine wpAny_bind (thn (hc.run pins s σ H _ I h) fun d s1 ⟨H1, I1, q1⟩ => ?_)
  cases d with
  | true => exact ha.run pins s1 σ H1 Q I1 q1
  | false => exact hb.run pins s1 σ H1 Q I1 q1
/-! ### steps_behind(goal, reached, last, many) -/
abbrev sBehind : Stmt := topS 25
abbrev nBehind : List Str := ["goal", "reached", "last", "many", "missing", "rest", "places", "some", "one", "step"]
theorem scBehind : FnScope nBehind ["goal", "reached", "last", "many"] (defScope sBehind) := ⟨rfl, rfl, rfl, by decide +kernel, rfl, by decide +kernel, by decide +kernel⟩
abbrev scStep : Scope := { kind := .function, names := [(Str.ofString ".0", .local), (Str.ofString "step", .cell), (Str.ofString "all", .globalImplicit), (Str.ofString "places", .cell), (Str.ofString "reached", .cell)], isGenerator := false, isCoroutine := false }
def spBehind : Sp := fun vs H Q _ => ∃ (t u : Addr) (g fs : List Int) (last : Int) (n : Nat), vs = [.ref t, .ref u, .int last, .int (n : Int)] ∧ Tup H t g ∧ Tup H u fs ∧ fs ≠ [] ∧ g.length ≤ 1000 ∧ fs.length ≤ 1000 ∧ n ≤ 100 ∧ RetI H Q (Km.stepsBehind g fs last n)
/-- the readings of the tests -/
def ttMiss (K : PySem.W.Frag) : L2.TT := tTest (tOp (rIn K true) (tVar 8) (tVar 1))
def rLe : R2 := rI0 fun i j => .bl (decide (i ≤ j))
def ttSome (K : PySem.W.Frag) : L2.TT := tAnd (tTest (tChain rLe rLe (tVar 2) (tVar 9) (tOp (rIxL K) (tVar 4) (tC (.int 0))))) (tIfT (tTest (tOp rEq (tVar 3) (tC (.int 1)))) (tTest (tOp rEq (tVar 9) (tVar 5))) (tTest (tOp rLe (tVar 9) (tVar 5))))
def tePl : TE := tDIn (tOp (rI0 fun i j => .int (i + j)) (tVar 8) (tVar 9)) (tVar 6)
def ttFit (K : PySem.W.Frag) : L2.TT := tB (tCB (rAll K) (tCons (tLc (iTup K (tVar 1)) (gName 8) tYes tePl [8]) tNil))
section
variable {P : Program} {w : World} {K : PySem.W.Frag} {mg : Str → Option Value} {base : Heap}
theorem dBehind (A : Has K mg "steps_behind" sBehind) (B : Bi mg) (C : Df P w K mg base CX0 1 "can_reach" spCan) : Df P w K mg base CX0 2 "steps_behind" spBehind := by
  refine df A scBehind (fun vs H Q E h => ?_) (fun _ _ _ _ _ _ us hl => match us, hl with | [_, _, _, _], _ => rfl) (fun f cdv A outer s H vs Q E hr h => ?_)
  · obtain ⟨t, u, g, fs, last, n, rfl, _⟩ := h
    rfl
  · obtain ⟨t, u, g, fs, last, n, rfl, ht, hu, hne, hzg, hzf, hn, q⟩ := h
    have hg' : (g.map V.int).length ≤ sizeLine := by rw [List.length_map]; exact Nat.le_of_lt (small1000 hzg)
    have hf' : (fs.map V.int).length ≤ sizeLine := by rw [List.length_map]; exact Nat.le_of_lt (small1000 hzf)
    refine ⟨_, pss_cons (ps_set (i := 4) scBehind.nd rfl (.inr rfl) (pe_lc (own := [("one", 8)]) (g := gName 8) (tt := ttMiss K) rfl scBehind.nd (pi_tup (pv 0)) (blkOk_by (N := nBehind) (sc := defScope sBehind) (by decide +kernel))
        (fun _ _ _ _ _ => pg_name (i := 8) scBehind.nd rfl (.inl rfl)) (fun _ _ _ _ _ => pts_one (pt_cmpR (r := rIn K true) op_notIn_seq (pv 8) (pv 1) rfl)) (fun _ _ _ _ _ => pv 8)))
      (pss_cons (ps_if (PW.pt (pw_or (pt_cmpR (op_eqD hr.units) (pv 4) (pe_lst pa_nil) (nomark _)) (pw_or (pt_cmpR op_eq (pv 3) pe_int (nomark _)) (pw_or1 (pt_not (pt_val (cl C hr (pa_cons (pv 0) (pa_cons (pv 1) (pa_cons (pv 3) pa_nil))))))))))
        (pss_one (ps_ret (pe_lst pa_nil))) pss_nil)
      (pss_cons (ps_asg (pe_tup (pa_cons (pe_op op_sub (pe_ix ix_tup (pv 0) (pe_un un_neg pe_int) (fun _ _ => rfl)) (pe_ix ix_tup (pv 1) (pe_un un_neg pe_int) (fun _ _ => rfl)))
          (pa_cons (pe_callTy (call_dictP rfl) (by rfl) B.dict (by decide +kernel) (pa_cons (pe_lc (own := [("one", 8)]) (g := gName 8) (tt := tYes) rfl scBehind.nd (pi_tup (pv 0)) (blkOk_by (N := nBehind) (sc := defScope sBehind) (by decide +kernel))
            (fun _ _ _ _ _ => pg_name (i := 8) scBehind.nd rfl (.inl rfl)) (fun _ _ _ _ _ => pts_nil) (fun _ _ _ _ _ => pe_tup (pa_cons (pv 8) (pa_cons pe_bl pa_nil)))) pa_nil)) pa_nil)))
        (pg_tup rfl (pgs_cons (pg_name (i := 5) scBehind.nd rfl (.inr rfl)) (pgs_cons (pg_name (i := 6) scBehind.nd rfl (.inr rfl)) pgs_nil))))
      (pss_cons (ps_setLc (i := 7) (own := [("step", 9)]) (g := gName 9) (tt := ttSome K) (by rfl) scBehind.nd rfl rfl (sw_true rfl rfl rfl (by decide +kernel)) (pi_tup (pv 0)) (blkOk_by (N := nBehind) (sc := defScope sBehind) (by decide +kernel))
        (fun _ _ _ _ _ => pg_name (i := 9) scBehind.nd rfl (.inl rfl))
        (fun _ _ _ _ _ => pts_one (PW.pt (pw_and (pt_chain op_le op_le (pv 2) (pv 9) (pe_ix (r := rIxL K) ix_list (pv 4) pe_int (fun _ _ => rfl))) (pw_and1 (pt_ifExp (pt_cmpR op_eq (pv 3) pe_int (nomark _)) (pt_cmpR op_eq (pv 9) (pv 5) (nomark _)) (pt_cmpR op_le (pv 9) (pv 5) (nomark _)))))))
        (fun _ _ _ _ _ => pv 9))
      (pss_one (ps_ret (pe_lc (own := [("step", 9)]) (g := gName 9) (tt := ttFit K) rfl scBehind.nd (pi_list (pv 7)) (blkOk_by (N := nBehind) (sc := defScope sBehind) (by decide +kernel)) (fun _ _ _ _ _ => pg_name (i := 9) scBehind.nd rfl (.inr rfl))
        (fun _ _ _ _ _ => pts_one (pt_val (pe_callB (r := rAll K) (cr_all rfl) (by rfl) B.all (by decide +kernel) (pa_cons (pe_lc (wi := iTup K (tVar 1)) (own := [("one", 8)]) (g := gName 8) (tt := tYes) rfl scBehind.nd (pi_tup (pv 1)) (blkOk_by (N := nBehind) (sc := scStep) (by decide +kernel))
          (fun _ _ _ _ _ => pg_name (i := 8) scBehind.nd rfl (.inl rfl)) (fun _ _ _ _ _ => pts_nil) (fun _ _ _ _ _ => pe_cmp (pc_din (hu_of hr) (pe_op op_add (pv 8) (pv 9)) (pv 6)) rfl)) pa_nil))))
        (fun _ _ _ _ _ => pv 9))))))), ?_⟩
    -- missing
    refine ⟨.ref t, rfl, t, rfl, ⟨_, sq ht⟩, fun D1 n1 => ?_⟩
    refine lcT (i := 8) (sq ht) n1 hg' (fun x => !inV x (fs.map V.int)) (fun x => x) (fun x hx => ⟨fun acc R q => ?_, fun _ acc R q => ⟨x, rfl, q⟩⟩) ?_
    · obtain ⟨k, _, rfl⟩ := List.mem_map.mp hx
      exact ⟨.int k, rfl, .ref u, rfl, u, _, rfl, .inr (sq (put0 n1 _ _ hu)), rfl, flat_ints fs, _, rfl, q⟩
    rw [filt_ints _ (fun z => !decide (z ∈ fs)) (fun z => by rw [inV_ints]) g]
    have s1 : Same H (upd H D1 (.lst ((Km.missingOf g fs).map V.int))) := put0 n1
    have hD1 : (upd H D1 (.lst ((Km.missingOf g fs).map V.int))) D1 = some (.lst ((Km.missingOf g fs).map V.int)) := upd_same
    have fin : ∀ {H' : Hp}, Same H H' → Km.stepsBehind g fs last n = [] → ∀ p, H' p = none → Q (.ref p) (upd H' p (.lst [])) := fun {H'} sm e p np => by
      refine q _ p (put sm np) ?_
      rw [e, upd_same]
      rfl
    -- the tests ahead
    refine ⟨.ref D1, rfl, Nat.zero_le _, fun p2 n2 => ⟨dL (Km.missingOf g fs), dL [], dp_lst (put0 n2 _ _ hD1), dp_lst (ns := []) upd_same, dL_shaped _, dL_shaped _, _, rfl, ?_⟩⟩
    rw [dL_eqv]
    have s2 : Same H (upd (upd H D1 (.lst ((Km.missingOf g fs).map V.int))) p2 (.lst [])) := put s1 n2
    refine ifD (fun c => ?_) (fun c => ?_)
    · exact iteT ⟨Nat.zero_le _, fin s2 (by unfold Km.stepsBehind; rw [c])⟩
    obtain ⟨m, mr, em⟩ : ∃ m mr, Km.missingOf g fs = m :: mr := by
      cases e : Km.missingOf g fs with
      | nil => exact absurd e c
      | cons m mr => exact ⟨m, mr, rfl⟩
    refine ⟨.int n, rfl, rfl, _, rfl, ifD (fun c2 => ?_) (fun c2 => ?_)⟩
    · have c2' : n = 0 := by
        have := V.int.inj c2
        omega
      exact iteT ⟨Nat.zero_le _, fin s2 (by unfold Km.stepsBehind; rw [em]; simp [c2'])⟩
    have n0 : ¬ n = 0 := fun z => c2 (by rw [z]; rfl)
    refine ⟨.ref t, rfl, .ref u, rfl, .int n, rfl, t, u, g, fs, n, rfl, s2 _ _ ht, s2 _ _ hu, hn, _, rfl, ?_⟩
    cases e3 : Km.canReach g fs n
    · exact iteT ⟨Nat.zero_le _, fin s2 (by unfold Km.stepsBehind; rw [em]; simp [n0, e3])⟩
    refine iteF ?_
    -- rest, places
    have gne : g ≠ [] := fun z => by
      rw [z] at em
      cases em
    obtain ⟨gz, hgz⟩ := last_of gne
    obtain ⟨fz, hfz⟩ := last_of hne
    have ht2 := s2 _ _ ht
    have hu2 := s2 _ _ hu
    refine ⟨.ref t, rfl, 1, rfl, t, _, -1, _, rfl, rfl, sq ht2, at_end hgz, .ref u, rfl, 1, rfl, u, _, -1, _, rfl, rfl, sq hu2, at_end hfz, gz, fz, rfl, rfl, ?_⟩
    refine ⟨.ref t, rfl, t, rfl, ⟨_, sq ht2⟩, fun D2 n3 => ?_⟩
    refine lc_tup (xs := g.map V.int) (fun i H' => Same _ H' ∧ ∃ ps : List Addr, H' D2 = some (.lst (ps.map V.ref)) ∧ Paired (fun p z => H' p = some (.tup [.int z, .bl true])) ps (g.take i))
      ⟨put0 n3, [], upd_same, .nil⟩ (fun i H' _ ⟨sm, _⟩ => sq (sm _ _ ht2)) ?_ ?_
    · rintro i x H' hx ⟨sm, ps, hD, hp⟩
      obtain ⟨z, hz, rfl⟩ := map_get hx
      refine ⟨rfl, ?_⟩
      simp only [tYes, if_true]
      refine ⟨.int z, rfl, (by show 2 ≤ sizeLine; decide), fun p np => ⟨ps.map V.ref, ?_, ?_, put2 sm n3 np, ps ++ [p], ?_, ?_⟩⟩
      · rw [upd_ne (ne_of_none hD np)]
        exact hD
      · have hlt : i < g.length := (List.getElem?_eq_some_iff.mp hz).1
        rw [List.length_map, hp.length, List.length_take]
        exact small1000 (by omega)
      · rw [upd_same, List.map_append]
        rfl
      · rw [take_snoc hz]
        have pD : p ≠ D2 := fun z => by rw [z, hD] at np; cases np
        refine (hp.mono fun a b h => ?_).snoc ?_
        · have aD : a ≠ D2 := fun z => by rw [z, hD] at h; cases h
          rw [upd_ne aD, upd_ne (ne_of_none h np)]
          exact h
        · rw [upd_ne pD, upd_same]
    rintro H3 ⟨s3, ps, hD2, hps⟩
    rw [List.length_map, List.take_length] at hps
    refine ⟨D2, ps, g.map fun z => ((Sum.inl z : Key), V.bl true), rfl, sl hD2, dict_paired hps, fun p4 n4 => ⟨(by show 2 ≤ sizeLine; decide), fun p5 n5 => ⟨p5, _, rfl, sq upd_same, rfl, _, _, rfl, _, _, rfl, rfl, ?_⟩⟩⟩
    have s5 : Same H (upd (upd H3 p4 (.dK (dictOf g))) p5 (.tup [.int (gz - fz), .ref p4])) := put (put (s2.trans s3) n4) n5
    have hd5 : (upd (upd H3 p4 (.dK (dictOf g))) p5 (.tup [.int (gz - fz), .ref p4])) p4 = some (.dK (dictOf g)) := put0 n5 _ _ upd_same
    have hm5 : (upd (upd H3 p4 (.dK (dictOf g))) p5 (.tup [.int (gz - fz), .ref p4])) D1 = some (.lst ((m :: mr).map V.int)) := by
      rw [← em]
      exact put0 n5 _ _ (put0 n4 _ _ (s3 _ _ (put0 n2 _ _ hD1)))
    show (tSeq _ _ : TS) _ _ (upd (upd H3 p4 (.dK (dictOf g))) p5 (.tup [.int (gz - fz), .ref p4]))
    generalize upd (upd H3 p4 (.dK (dictOf g))) p5 (.tup [.int (gz - fz), .ref p4]) = H5 at s5 hd5 hm5
    -- some
    have ht5 := s5 _ _ ht
    have hu5 := s5 _ _ hu
    refine ⟨.ref t, rfl, t, rfl, ⟨_, sq ht5⟩, fun D3 n6 => ?_⟩
    refine lcT (i := 9) (sq ht5) n6 hg' (askI (Km.okStep g fs last m n)) (fun x => x) (fun x hx => ⟨fun acc R q => ?_, fun _ acc R q => ⟨x, rfl, q⟩⟩) ?_
    · obtain ⟨k, _, rfl⟩ := List.mem_map.mp hx
      have q : R (decide (last ≤ k) && decide (k ≤ m) && (if n = 1 then decide (k = g.getLastD 0 - fs.getLastD 0) else decide (k ≤ g.getLastD 0 - fs.getLastD 0))) _ := q
      rw [lastD_of hgz, lastD_of hfz] at q
      refine ⟨.int last, rfl, .int k, rfl, last, k, rfl, rfl, _, rfl, ifD (fun c1 => ?_) (fun c1 => ?_)⟩
      · refine ⟨.ref D1, rfl, D1, _, 0, .int m, rfl, rfl, sl (put0 n6 _ _ hm5), atI_nat (j := 0) rfl, k, m, rfl, rfl, _, rfl, ifD (fun c3 => ?_) (fun c3 => ?_)⟩
        · rw [decide_eq_true c1, decide_eq_true c3, Bool.true_and, Bool.true_and] at q
          refine ⟨.int n, rfl, rfl, _, rfl, ifD (fun c4 => ?_) (fun c4 => ?_)⟩
          · have c4' : n = 1 := by
              have := V.int.inj c4
              omega
            rw [if_pos c4'] at q
            refine ⟨.int k, rfl, .int (gz - fz), rfl, rfl, _, rfl, ?_⟩
            rw [show decide (V.int k = V.int (gz - fz)) = decide (k = gz - fz) by
              rw [decide_eq_decide]
              exact ⟨V.int.inj, fun z => by rw [z]⟩]
            exact q
          · have c4' : ¬ n = 1 := fun z => c4 (by rw [z]; rfl)
            rw [if_neg c4'] at q
            exact ⟨.int k, rfl, .int (gz - fz), rfl, k, gz - fz, rfl, rfl, _, rfl, q⟩
        · rw [decide_eq_false c3, Bool.and_false, Bool.false_and] at q
          exact q
      · rw [decide_eq_false c1, Bool.false_and, Bool.false_and] at q
        exact ⟨false, rfl, q⟩
    rw [filt_ints _ (Km.okStep g fs last m n) (fun z => rfl) g]
    have s6 : Same H (upd H5 D3 (.lst ((g.filter (Km.okStep g fs last m n)).map V.int))) := put s5 n6
    have hd6 : (upd H5 D3 (.lst ((g.filter (Km.okStep g fs last m n)).map V.int))) p4 = some (.dK (dictOf g)) := put0 n6 _ _ hd5
    have hD3 : (upd H5 D3 (.lst ((g.filter (Km.okStep g fs last m n)).map V.int))) D3 = some (.lst ((g.filter (Km.okStep g fs last m n)).map V.int)) := upd_same
    show gName 7 (.ref D3) _ (upd H5 D3 (.lst ((g.filter (Km.okStep g fs last m n)).map V.int))) _
    generalize upd H5 D3 (.lst ((g.filter (Km.okStep g fs last m n)).map V.int)) = H6 at s6 hd6 hD3
    -- the steps that fit
    have res : Km.stepsBehind g fs last n = (g.filter (Km.okStep g fs last m n)).filter (Km.fitsAll g fs) := by
      unfold Km.stepsBehind
      rw [em]
      simp [n0, e3]
    have hlen : (g.filter (Km.okStep g fs last m n)).length ≤ 1000 := Nat.le_trans (List.length_filter_le _ _) hzg
    rw [res] at q
    generalize g.filter (Km.okStep g fs last m n) = L at hD3 q hlen
    refine ⟨.ref D3, rfl, D3, rfl, ⟨_, sl hD3⟩, fun D4 n7 => ?_⟩
    refine lc_list (xs := L.map V.int) (fun i H' => Same H6 H' ∧ H' D4 = some (.lst (((L.take i).filter (Km.fitsAll g fs)).map V.int))) ⟨put0 n7, upd_same⟩ (fun i H' _ ⟨sm, _⟩ => sl (sm _ _ hD3)) ?_ ?_
    · rintro i x H' hx ⟨sm, hD⟩
      obtain ⟨st, hst, rfl⟩ := map_get hx
      have hi : i < L.length := (List.getElem?_eq_some_iff.mp hst).1
      have hu' := sm _ _ (s6 _ _ hu)
      refine ⟨rfl, ?_⟩
      refine ⟨.ref u, rfl, u, rfl, ⟨_, sq hu'⟩, fun D5 n8 => ?_⟩
      refine lcT (i := 8) (sq hu') n8 hf' (fun _ => true) (onB fun o => decide (o + st ∈ g)) (fun x hx => ⟨fun acc R q => q, fun _ acc R q => ?_⟩) ?_
      · obtain ⟨o, _, rfl⟩ := List.mem_map.mp hx
        refine ⟨.int o, rfl, .int st, rfl, o, st, rfl, rfl, .ref p4, rfl, p4, _, rfl, DGet.k (k := Sum.inl (o + st)) (put0 n8 _ _ (sm _ _ hd6)), ?_⟩
        rw [dictOf_has]
        exact q
      · rw [map_bools]
        have eD : D4 ≠ D5 := ne_of_none hD n8
        refine ⟨D5, _, rfl, sl upd_same, _, rfl, ?_⟩
        have ea : ((fs.map fun o => decide (o + st ∈ g)).all id) = Km.fitsAll g fs st := by
          rw [List.all_map]
          rfl
        rw [ea, take_snoc hst, List.filter_append]
        cases e9 : Km.fitsAll g fs st
        · refine iteF ⟨put sm n8, ?_⟩
          rw [upd_ne eD, hD, List.filter_cons_of_neg (by rw [e9]; exact Bool.false_ne_true)]
          simp
        · refine iteT ⟨.int st, rfl, _, by rw [upd_ne eD]; exact hD, ?_, put2 sm n7 n8, ?_⟩
          · rw [List.length_map]
            refine small1000 (Nat.le_trans (List.length_filter_le _ _) ?_)
            rw [List.length_take]
            omega
          · rw [upd_same, List.filter_cons_of_pos e9]
            simp
    · rintro H' ⟨sm, hD⟩
      rw [List.length_map, List.take_length] at hD
      exact q H' D4 (s6.trans sm) hD
end
end Kd

/-! The defs of the text: comprehensions whose elements are made; the lines of steps. -/
namespace Kd
open PySem PySem.Spec PyProof.Rows L2 Kr RZ
/-! ### a heap without one of its records -/
def hide (H : Hp) (D : Addr) : Hp := fun b => if b = D then none else H b
theorem hide_upd {H : Hp} {D : Addr} {o : HO} : hide (upd H D o) D = hide H D := by
  funext b
  unfold hide
  by_cases e : b = D
  · rw [if_pos e, if_pos e]
  · rw [if_neg e, if_neg e, upd_ne e]
theorem hide_le {H : Hp} {D : Addr} : Same (hide H D) H := fun b u h => by
  unfold hide at h
  by_cases e : b = D
  · rw [if_pos e] at h
    cases h
  · rw [if_neg e] at h
    exact h
theorem hide_mono {H H' : Hp} {D : Addr} (s : Same H H') : Same (hide H D) (hide H' D) := fun b u h => by
  unfold hide at h ⊢
  by_cases e : b = D
  · rw [if_pos e] at h
    cases h
  · rw [if_neg e] at h ⊢
    exact s _ _ h
theorem hide_tup {H : Hp} {D p : Addr} {acc xs : List V} (hD : H D = some (.lst acc)) (h : H p = some (.tup xs)) : hide H D p = some (.tup xs) := by
  have e : p ≠ D := fun z => by
    rw [z, hD] at h
    cases h
  unfold hide
  rw [if_neg e]
  exact h
theorem filt_snoc {α β : Type} {p : α → Bool} {y : α → β} {zs : List α} {j : Nat} {z : α} (h : zs[j]? = some z) : ((zs.take (j + 1)).filter p).map y = ((zs.take j).filter p).map y ++ (if p z = true then [y z] else []) := by
  rw [List.take_add_one, h, List.filter_append, List.map_append]
  cases e : p z <;> simp [e]
section
variable {α β : Type} {K : PySem.W.Frag} {a : Addr} {xs : List V} {zs : List α} {g : TG} {tt : L2.TT} {te : TE} {vs : List Nat} {σ : L2.St} {H1 : Hp} {D : Addr} {Qd : Hp → Prop}
/-- a turn of a comprehension whose elements are made -/
def MkTurn (F : Hp → V → β → Prop) (p : α → Bool) (y : α → β) (xs : List V) (zs : List α) (g : TG) (tt : L2.TT) (te : TE) (vs : List Nat) (σ : L2.St) (H1 : Hp) (D : Addr) : Prop :=
  ∀ (j : Nat) (x : V) (z : α) (H : Hp) (acc : List V) (N : Hp → Prop), xs[j]? = some x → zs[j]? = some z → Same H1 H → H D = some (.lst acc) → acc.length < sizeLine →
    (p z = true → ∀ v H4, Same H H4 → F (hide H4 D) v (y z) → N (upd H4 D (.lst (acc ++ [v])))) → (p z = false → ∀ H4, Same H H4 → N H4) →
    g x (wipe σ vs) H fun σ2 H2 => wipe σ2 vs = wipe σ vs ∧ tt σ2 H2 fun b H3 => if b = true then te σ2 H3 fun v H4 => ∃ acc, H4 D = some (.lst acc) ∧ acc.length < sizeLine ∧ N (upd H4 D (.lst (acc ++ [v]))) else N H3
/-- how it stands after some turns -/
def MkAt (F : Hp → V → β → Prop) (p : α → Bool) (y : α → β) (zs : List α) (H1 : Hp) (D : Addr) (j : Nat) (H : Hp) : Prop :=
  Same H1 H ∧ ∃ ws, H D = some (.lst ws) ∧ Paired (F (hide H D)) ws (((zs.take j).filter p).map y)
theorem mk_step {F : Hp → V → β → Prop} (keep : ∀ {H H' v y}, Same H H' → F H v y → F H' v y) {p : α → Bool} {y : α → β} (nD : H1 D = none) (hlen : xs.length ≤ sizeLine) (el : xs.length = zs.length)
    (hs : MkTurn F p y xs zs g tt te vs σ H1 D) {j : Nat} {x : V} {H : Hp} (hx : xs[j]? = some x) (m : MkAt F p y zs H1 D j H) :
    g x (wipe σ vs) H fun σ2 H2 => wipe σ2 vs = wipe σ vs ∧ tt σ2 H2 fun b H3 => if b = true then te σ2 H3 fun v H4 => ∃ acc, H4 D = some (.lst acc) ∧ acc.length < sizeLine ∧ MkAt F p y zs H1 D (j + 1) (upd H4 D (.lst (acc ++ [v]))) else MkAt F p y zs H1 D (j + 1) H3 := by
  obtain ⟨sm, ws, hD, pr⟩ := m
  have hj : j < xs.length := (List.getElem?_eq_some_iff.mp hx).1
  obtain ⟨z, hz⟩ : ∃ z, zs[j]? = some z := ⟨zs[j]'(el ▸ hj), List.getElem?_eq_getElem _⟩
  refine hs j x z H ws _ hx hz sm hD ?_ (fun e v H4 s4 f => ?_) (fun e H4 s4 => ?_)
  · rw [pr.length, List.length_map]
    refine Nat.lt_of_le_of_lt (List.length_filter_le _ _) ?_
    rw [List.length_take]
    omega
  · refine ⟨put1 (sm.trans s4) nD, _, upd_same, ?_⟩
    rw [hide_upd, filt_snoc hz, if_pos e]
    exact (pr.mono fun _ _ h => keep (hide_mono s4) h).snoc f
  · refine ⟨sm.trans s4, ws, s4 _ _ hD, ?_⟩
    rw [filt_snoc hz, if_neg (by rw [e]; exact Bool.false_ne_true), List.append_nil]
    exact pr.mono fun _ _ h => keep (hide_mono s4) h
theorem lcGL {F : Hp → V → β → Prop} (keep : ∀ {H H' v y}, Same H H' → F H v y → F H' v y) (p : α → Bool) (y : α → β) (seq : SqL K H1 a xs) (nD : H1 D = none) (hlen : xs.length ≤ sizeLine) (el : xs.length = zs.length)
    (hs : MkTurn F p y xs zs g tt te vs σ H1 D) (hd : ∀ H' ws, Same H1 H' → H' D = some (.lst ws) → Paired (F H') ws ((zs.filter p).map y) → Qd H') :
    ∃ W : Nat → Nat → Hp → Prop, (∃ m, W 0 m (upd H1 D (.lst []))) ∧ ∀ i m H, W i m H →
      ((Itl K a).stop i H ∧ Qd H) ∨ ((Itl K a).go i H ∧ ∃ Nx : Hp → Prop, (∀ H', Nx H' → ∃ m', m' < m ∧ W (i + 1) m' H') ∧ ∀ x H', (Itl K a).yld i H x H' → g x (wipe σ vs) H' fun σ2 H2 => wipe σ2 vs = wipe σ vs ∧ tt σ2 H2 fun b H3 =>
        if b = true then te σ2 H3 fun y H4 => ∃ acc, H4 D = some (.lst acc) ∧ acc.length < sizeLine ∧ Nx (upd H4 D (.lst (acc ++ [y]))) else Nx H3) := by
  refine lc_list (xs := xs) (MkAt F p y zs H1 D) ⟨put0 nD, [], upd_same, .nil⟩ (fun i H' _ ⟨sm, _⟩ => sm.seq seq) (fun i x H' hx m => mk_step (F := F) (p := p) (y := y) keep nD hlen el hs hx m) ?_
  rintro H' ⟨sm, ws, hD, pr⟩
  rw [el, List.take_length] at pr
  exact hd H' ws sm hD (pr.mono fun _ _ h => keep hide_le h)
theorem lcGT {F : Hp → V → β → Prop} (keep : ∀ {H H' v y}, Same H H' → F H v y → F H' v y) (p : α → Bool) (y : α → β) (seq : SqT K H1 a xs) (nD : H1 D = none) (hlen : xs.length ≤ sizeLine) (el : xs.length = zs.length)
    (hs : MkTurn F p y xs zs g tt te vs σ H1 D) (hd : ∀ H' ws, Same H1 H' → H' D = some (.lst ws) → Paired (F H') ws ((zs.filter p).map y) → Qd H') :
    ∃ W : Nat → Nat → Hp → Prop, (∃ m, W 0 m (upd H1 D (.lst []))) ∧ ∀ i m H, W i m H →
      ((Itt K a).stop i H ∧ Qd H) ∨ ((Itt K a).go i H ∧ ∃ Nx : Hp → Prop, (∀ H', Nx H' → ∃ m', m' < m ∧ W (i + 1) m' H') ∧ ∀ x H', (Itt K a).yld i H x H' → g x (wipe σ vs) H' fun σ2 H2 => wipe σ2 vs = wipe σ vs ∧ tt σ2 H2 fun b H3 =>
        if b = true then te σ2 H3 fun y H4 => ∃ acc, H4 D = some (.lst acc) ∧ acc.length < sizeLine ∧ Nx (upd H4 D (.lst (acc ++ [y]))) else Nx H3) := by
  refine lc_tup (xs := xs) (MkAt F p y zs H1 D) ⟨put0 nD, [], upd_same, .nil⟩ (fun i H' _ ⟨sm, _⟩ => sqT_keep sm seq) (fun i x H' hx m => mk_step (F := F) (p := p) (y := y) keep nD hlen el hs hx m) ?_
  rintro H' ⟨sm, ws, hD, pr⟩
  rw [el, List.take_length] at pr
  exact hd H' ws sm hD (pr.mono fun _ _ h => keep hide_le h)
end
/-! ### lists of tuples of ints, and of pairs of them -/
theorem paired_append {α β : Type} {F : α → β → Prop} : ∀ {l m : List α} {r s : List β}, Paired F l r → Paired F m s → Paired F (l ++ m) (r ++ s)
  | _, _, _, _, .nil, h => h
  | _, _, _, _, .cons a t, h => .cons a (paired_append t h)
def TV (H : Hp) (v : V) (l : List Int) : Prop := ∃ p, v = .ref p ∧ Tup H p l
def PV (H : Hp) (v : V) (x : List Int × List Int) : Prop := ∃ p a b, v = .ref p ∧ H p = some (.tup [.ref a, .ref b]) ∧ Tup H a x.1 ∧ Tup H b x.2
theorem TV.keep {H H' : Hp} {v : V} {l : List Int} (s : Same H H') (h : TV H v l) : TV H' v l := by
  obtain ⟨p, e, t⟩ := h
  exact ⟨p, e, s _ _ t⟩
theorem PV.keep {H H' : Hp} {v : V} {l : List Int × List Int} (s : Same H H') (h : PV H v l) : PV H' v l := by
  obtain ⟨p, a, b, e, t, u, w⟩ := h
  exact ⟨p, a, b, e, s _ _ t, s _ _ u, s _ _ w⟩
def LT (H : Hp) (p : Addr) (ls : List (List Int)) : Prop := ∃ ws, H p = some (.lst ws) ∧ Paired (TV H) ws ls
def LP (H : Hp) (p : Addr) (ls : List (List Int × List Int)) : Prop := ∃ ws, H p = some (.lst ws) ∧ Paired (PV H) ws ls
theorem LT.keep {H H' : Hp} {p : Addr} {ls : List (List Int)} (s : Same H H') (h : LT H p ls) : LT H' p ls := by
  obtain ⟨ws, e, t⟩ := h
  exact ⟨ws, s _ _ e, t.mono fun _ _ => TV.keep s⟩
theorem LP.keep {H H' : Hp} {p : Addr} {ls : List (List Int × List Int)} (s : Same H H') (h : LP H p ls) : LP H' p ls := by
  obtain ⟨ws, e, t⟩ := h
  exact ⟨ws, s _ _ e, t.mono fun _ _ => PV.keep s⟩
def RetL (H : Hp) (Q : VK) (ls : List (List Int)) : Prop := ∀ H' p, Same H H' → LT H' p ls → Q (.ref p) H'
def RetP (H : Hp) (Q : VK) (ls : List (List Int × List Int)) : Prop := ∀ H' p, Same H H' → LP H' p ls → Q (.ref p) H'
/-- lists of them, set together -/
theorem LT.cat {H H' : Hp} {a b p : Addr} {ls ms : List (List Int)} {xs ys : List V} (s : Same H H') (ha : H a = some (.lst xs)) (pa : Paired (TV H) xs ls) (hb : H b = some (.lst ys)) (pb : Paired (TV H) ys ms) (h : H' p = some (.lst (xs ++ ys))) : LT H' p (ls ++ ms) :=
  ⟨_, h, paired_append (pa.mono fun _ _ => TV.keep s) (pb.mono fun _ _ => TV.keep s)⟩
theorem LP.cat {H H' : Hp} {a b p : Addr} {ls ms : List (List Int × List Int)} {xs ys : List V} (s : Same H H') (ha : H a = some (.lst xs)) (pa : Paired (PV H) xs ls) (hb : H b = some (.lst ys)) (pb : Paired (PV H) ys ms) (h : H' p = some (.lst (xs ++ ys))) : LP H' p (ls ++ ms) :=
  ⟨_, h, paired_append (pa.mono fun _ _ => PV.keep s) (pb.mono fun _ _ => PV.keep s)⟩
theorem paired_at {α β : Type} {F : α → β → Prop} : ∀ {l : List α} {r : List β}, Paired F l r → ∀ {i : Nat} {a : α} {b : β}, l[i]? = some a → r[i]? = some b → F a b
  | _, _, .nil, _, _, _, h, _ => by simp at h
  | _, _, .cons f t, 0, _, _, h, k => by
    simp at h k
    subst h
    subst k
    exact f
  | _, _, .cons f t, i + 1, _, _, h, k => paired_at t (by simpa using h) (by simpa using k)
/-! ### longer_on(goal, steps, reached, many) -/
abbrev sLonger : Stmt := topS 26
abbrev nLonger : List Str := ["goal", "steps", "reached", "many", "last", "step"]
theorem scLonger : FnScope nLonger ["goal", "steps", "reached", "many"] (defScope sLonger) := ⟨rfl, rfl, rfl, by decide +kernel, rfl, by decide +kernel, by decide +kernel⟩
def spLonger : Sp := fun vs H Q _ => ∃ (t a u : Addr) (g ss fs : List Int) (n : Nat), vs = [.ref t, .ref a, .ref u, .int (n : Int)] ∧ Tup H t g ∧ Tup H a ss ∧ Tup H u fs ∧ fs ≠ [] ∧ g.length ≤ 1000 ∧ ss.length ≤ 100 ∧ fs.length ≤ 1000 ∧ n ≤ 100 ∧ RetP H Q (Km.longerOn g ss fs n)
/-- t + (a, ..), an item or more laid to it -/
theorem cat_some {K : PySem.W.Frag} {H : Hp} {a b : Addr} {xs ys : List V} {Q : VK} (ha : H a = some (.tup xs)) (hb : H b = some (.tup ys)) (hy : ys ≠ []) (hz : xs.length + ys.length ≤ sizeLine)
    (h : ∀ p H', Same H H' → H' p = some (.tup (xs ++ ys)) → Q (.ref p) H') : rCatA K (.ref a) (.ref b) H Q := by
  refine ⟨a, b, xs, ys, rfl, rfl, sq ha, sq hb, hz, fun e => ?_, fun _ e => absurd e hy, fun _ _ p np => h p _ (put0 np) upd_same⟩
  subst e
  exact h b H (Same.refl H) hb
section
variable {P : Program} {w : World} {K : PySem.W.Frag} {mg : Str → Option Value} {base : Heap}
theorem dLonger (A : Has K mg "longer_on" sLonger) (B : Bi mg) (G : Df P w K mg base CX0 1 "grown" spGrown) (S : Df P w K mg base CX0 2 "steps_behind" spBehind) : Df P w K mg base CX0 3 "longer_on" spLonger := by
  refine df A scLonger (fun vs H Q E h => ?_) (fun _ _ _ _ _ _ us hl => match us, hl with | [_, _, _, _], _ => rfl) (fun f cdv A outer s H vs Q E hr h => ?_)
  · obtain ⟨t, a, u, g, ss, fs, n, rfl, _⟩ := h
    rfl
  · obtain ⟨t, a, u, g, ss, fs, n, rfl, ht, ha, hu, hne, hzg, hzs, hzf, hn, q⟩ := h
    refine ⟨_, pss_cons (ps_set (i := 4) scLonger.nd rfl (.inl rfl) (pe_ifExp (pt_cmpR (op_neD hr.units) (pv 1) (pe_tup pa_nil) (nomark _)) (pe_ix (r := rIxT K) ix_tup (pv 1) (pe_un un_neg pe_int) (fun _ _ => rfl)) pe_int))
      (pss_one (ps_ret (pe_lc (own := [("step", 5)]) (g := gName 5) (tt := tYes) rfl scLonger.nd (pi_list (cl S hr (pa_cons (pv 0) (pa_cons (pv 2) (pa_cons (pv 4) (pa_cons (pv 3) pa_nil)))))) (blkOk_by (N := nLonger) (sc := defScope sLonger) (by decide +kernel))
        (fun _ _ _ _ _ => pg_name (i := 5) scLonger.nd rfl (.inl rfl)) (fun _ _ _ _ _ => pts_nil) (fun _ _ _ _ _ => pe_tup (pa_cons (pe_op (r := rCatA K) op_catA (pv 1) (pe_tup (pa_cons (pv 5) pa_nil))) (pa_cons (cl G hr (pa_cons (pv 2) (pa_cons (pv 5) pa_nil))) pa_nil)))))), ?_⟩
    refine ⟨.ref a, rfl, by decide, fun p np => ⟨dT ss, dT [], dp_tup (put0 np _ _ ha), dp_tup (ns := []) upd_same, dT_shaped _, dT_shaped _, _, rfl, ?_⟩⟩
    rw [dT_eqv]
    have s1 : Same H (upd H p (.tup [])) := put0 np
    have go : (tRet (tLc (iList K (tCall spBehind [] E0 (tCons (tVar 0) (tCons (tVar 2) (tCons (tVar 4) (tCons (tVar 3) tNil)))))) (gName 5) tYes
        (tTup (tCons (tOp (rCatA K) (tVar 1) (tTup (tCons (tVar 5) tNil))) (tCons (tCall spGrown [] E0 (tCons (tVar 2) (tCons (tVar 5) tNil))) tNil))) [5]) : TS) { nx := fun _ H' => Q .non H', rt := Q }
        [some (.ref t), some (.ref a), some (.ref u), some (.int (n : Int)), some (.int (ss.getLastD 1)), none] (upd H p (.tup [])) := by
      refine ⟨.ref t, rfl, .ref u, rfl, .int (ss.getLastD 1), rfl, .int n, rfl, t, u, g, fs, ss.getLastD 1, n, rfl, s1 _ _ ht, s1 _ _ hu, hne, hzg, hzf, hn, fun H2 p2 s2 h2 => ?_⟩
      have hlen : (Km.stepsBehind g fs (ss.getLastD 1) n).length ≤ 1000 := Nat.le_trans Km.behind_len hzg
      have s12 := s1.trans s2
      refine ⟨p2, rfl, ⟨_, sl h2⟩, fun D nD => ?_⟩
      refine lcGL (zs := Km.stepsBehind g fs (ss.getLastD 1) n) (F := PV) PV.keep (fun _ => true) (fun st => (ss ++ [st], Km.grown fs st)) (sl h2) nD (by rw [List.length_map]; exact Nat.le_of_lt (small1000 hlen)) (by rw [List.length_map]) ?_ ?_
      · intro j x z H3 acc N hx hz s3 hD hacc hy _
        obtain ⟨z', hz', rfl⟩ := map_get hx
        obtain rfl : z' = z := Option.some.inj (hz'.symm.trans hz)
        refine ⟨rfl, ?_⟩
        simp only [tYes, if_true]
        have ha3 := s3 _ _ (s12 _ _ ha)
        refine ⟨.ref a, rfl, .int z', rfl, (by show 1 ≤ sizeLine; decide), fun p5 n5 => ?_⟩
        refine cat_some (put0 n5 _ _ ha3) upd_same (by simp) (by rw [List.length_map]; show ss.length + 1 ≤ sizeLine; rw [sizeLine_eq]; omega) fun p6 H6 s6 h6 => ?_
        have s56 := (put0 (o := .tup [.int z']) n5).trans s6
        refine ⟨.ref u, rfl, .int z', rfl, u, fs, z', rfl, s56 _ _ (s3 _ _ (s12 _ _ hu)), hne, hzf, fun H7 p7 s7 h7 => ⟨(by show 2 ≤ sizeLine; decide), fun p8 n8 => ?_⟩⟩
        have s8 : Same H3 (upd H7 p8 (.tup [.ref p6, .ref p7])) := put (s56.trans s7) n8
        refine ⟨acc, s8 _ _ hD, hacc, hy rfl _ _ s8 ⟨p8, p6, p7, rfl, hide_tup (s8 _ _ hD) upd_same, hide_tup (s8 _ _ hD) ?_, hide_tup (s8 _ _ hD) (put0 n8 _ _ h7)⟩⟩
        rw [put0 n8 _ _ (s7 _ _ h6), List.map_append]
        rfl
      · intro H' ws sm hD pr
        refine q H' D (s12.trans sm) ⟨ws, hD, ?_⟩
        rw [List.filter_eq_self.mpr (by simp)] at pr
        exact pr
    refine ifN (fun c => ?_) (fun c => ?_)
    · obtain ⟨z, hz⟩ := last_of c
      refine ⟨.ref a, rfl, 1, rfl, a, _, -1, _, rfl, rfl, sq (s1 _ _ ha), at_end hz, ?_⟩
      rw [lastD_of hz] at go
      exact go
    · rw [c] at go
      exact go
end
end Kd

/-! The defs of the text: the shortest tuples of steps. -/
namespace Kd
open PySem PySem.Spec PyProof.Rows L2 Kr RZ
/-! ### == of lists of tuples -/
abbrev dLT (ls : List (List Int)) : PyData := .list (ls.map dT)
theorem dLT_can : ∀ ls : List (List Int), PyData.canLayAll0 (ls.map dT) = true
  | [] => rfl
  | x :: r => by
    show (PyData.canLayAll0 (x.map .int) && PyData.canLayAll0 (r.map dT)) = true
    rw [dLT_can r, dT_can]
    rfl
theorem dLT_deep : ∀ ls : List (List Int), PyData.depthAll (ls.map dT) ≤ 1
  | [] => by decide
  | x :: r => by
    show max (PyData.depthAll (x.map .int) + 1) (PyData.depthAll (r.map dT)) ≤ 1
    rw [dT_deep]
    have := dLT_deep r
    omega
theorem dLT_shaped (ls : List (List Int)) : SeqAt.shaped (dLT ls) = true := by
  unfold SeqAt.shaped
  rw [Bool.and_eq_true, decide_eq_true_eq]
  refine ⟨dLT_can ls, ?_⟩
  show PyData.depthAll (ls.map dT) + 1 ≤ 64
  have := dLT_deep ls
  omega
theorem dLT_eqv0 (ls : List (List Int)) : PyData.eqv (dLT ls) (dLT []) = decide (ls = []) := by
  cases ls <;> rfl
theorem dp_tups {K : PySem.W.Frag} {H : Hp} : ∀ {ws : List V} {ls : List (List Int)}, Paired (TV H) ws ls → DpAll K H ws (ls.map dT)
  | _, _, .nil => .nil
  | _, _, .cons h t => by
    obtain ⟨p, rfl, hp⟩ := h
    exact .cons (dp_tup hp) (dp_tups t)
theorem dp_lt {K : PySem.W.Frag} {H : Hp} {p : Addr} {ls : List (List Int)} (h : LT H p ls) : Dp K H (.ref p) (dLT ls) := by
  obtain ⟨ws, hp, pr⟩ := h
  exact .lst (.inl (.inl hp)) (dp_tups pr)
/-! ### tuples_of(goal, many) -/
abbrev sTuples : Stmt := topS 27
abbrev nTuples : List Str := ["goal", "many", "line", "turn", "later", "steps", "reached"]
theorem scTuples : FnScope nTuples ["goal", "many"] (defScope sTuples) := ⟨rfl, rfl, rfl, by decide +kernel, rfl, by decide +kernel, by decide +kernel⟩
/-- the lines of a turn are not too many -/
def Fits (g : List Int) (n : Nat) : Prop := ∀ k, k ≤ n → (Km.lineAt g n k).length ≤ 1000000
def spTuples : Sp := fun vs H Q _ => ∃ (t : Addr) (g : List Int) (n : Nat), vs = [.ref t, .int (n : Int)] ∧ Tup H t g ∧ g.length ≤ 1000 ∧ n ≤ 7 ∧ Fits g n ∧ RetL H Q (Km.tuplesOf g n)
theorem flat_take {α β : Type} (f : α → List β) (l : List α) (i : Nat) : ((l.take i).flatMap f).length ≤ (l.flatMap f).length := by
  have e : l.flatMap f = (l.take i).flatMap f ++ (l.drop i).flatMap f := by rw [← List.flatMap_append, List.take_append_drop]
  rw [e, List.length_append]
  omega
theorem flat_snoc {α β : Type} (f : α → List β) {l : List α} {i : Nat} {x : α} (h : l[i]? = some x) : (l.take (i + 1)).flatMap f = (l.take i).flatMap f ++ f x := by
  rw [take_snoc h, List.flatMap_append]
  simp
section
variable {P : Program} {w : World} {K : PySem.W.Frag} {mg : Str → Option Value} {base : Heap}
theorem dTuples (A : Has K mg "tuples_of" sTuples) (B : Bi mg) (L : Df P w K mg base CX0 3 "longer_on" spLonger) : Df P w K mg base CX0 4 "tuples_of" spTuples := by
  refine df A scTuples (fun vs H Q E h => ?_) (fun _ _ _ _ _ _ us hl => match us, hl with | [_, _], _ => rfl) (fun f cdv A outer s H vs Q E hr h => ?_)
  · obtain ⟨t, g, n, rfl, _⟩ := h
    rfl
  · obtain ⟨t, g, n, rfl, ht, hzg, hn, hfit, q⟩ := h
    refine ⟨_, pss_cons (ps_set (i := 2) scTuples.nd rfl (.inl rfl) (pe_lst (pa_cons (pe_tup (pa_cons (pe_tup pa_nil) (pa_cons (pe_tup (pa_cons pe_int pa_nil)) pa_nil))) pa_nil)))
      (pss_cons (ps_for PassesOwn.never rfl (pi_range1 rfl B.range (pa_cons (pv 1) pa_nil)) (pg_name (i := 3) scTuples.nd rfl (.inl rfl))
        (pss_cons (ps_set (i := 4) scTuples.nd rfl (.inl rfl) (pe_lst pa_nil))
        (pss_cons (ps_for PassesOwn.never rfl (pi_list (pv 2)) (pg_tup rfl (pgs_cons (pg_name (i := 5) scTuples.nd rfl (.inl rfl)) (pgs_cons (pg_name (i := 6) scTuples.nd rfl (.inl rfl)) pgs_nil)))
          (pss_one (ps_set (i := 4) scTuples.nd rfl (.inl rfl) (pe_op op_cat (pv 4) (cl L hr (pa_cons (pv 0) (pa_cons (pv 5) (pa_cons (pv 6) (pa_cons (pe_op op_sub (pv 1) (pv 3)) pa_nil)))))))))
        (pss_one (ps_set (i := 2) scTuples.nd rfl (.inl rfl) (pv 4))))))
      (pss_one (ps_ret (pe_lc (own := [("steps", 5), ("reached", 6)]) (g := gTup K 2 (gCons (gName 5) (gCons (gName 6) gNil))) (tt := tTest (tOp (rEqD K) (tVar 6) (tVar 0))) rfl scTuples.nd (pi_list (pv 2)) (blkOk_by (N := nTuples) (sc := defScope sTuples) (by decide +kernel))
        (fun _ _ _ _ _ => pg_tup rfl (pgs_cons (pg_name (i := 5) scTuples.nd rfl (.inl rfl)) (pgs_cons (pg_name (i := 6) scTuples.nd rfl (.inl rfl)) pgs_nil)))
        (fun _ _ _ _ _ => pts_one (pt_cmpR (r := rEqD K) (op_eqD hr.units) (pv 6) (pv 0) rfl)) (fun _ _ _ _ _ => pv 5))))), ?_⟩
    refine ⟨by decide, fun p1 n1 => ⟨by decide, fun p2 n2 => ⟨(by show 2 ≤ sizeLine; decide), fun p3 n3 => ⟨(by show 1 ≤ sizeLine; decide), fun p4 n4 => ?_⟩⟩⟩⟩
    have s1 : Same H (upd H p1 (.tup [])) := put0 n1
    have s2 : Same H (upd (upd H p1 (.tup [])) p2 (.tup [.int 0])) := put s1 n2
    have s3 := put (o := .tup [.ref p1, .ref p2]) s2 n3
    have s4 := put (o := .lst [.ref p3]) s3 n4
    have h3 : LP (upd (upd (upd (upd H p1 (.tup [])) p2 (.tup [.int 0])) p3 (.tup [.ref p1, .ref p2])) p4 (.lst [.ref p3])) p4 [([], [0])] :=
      ⟨_, upd_same, .cons ⟨p3, p1, p2, rfl, put0 n4 _ _ upd_same, put0 n4 _ _ (put0 n3 _ _ (put0 n2 _ _ upd_same)), put0 n4 _ _ (put0 n3 _ _ upd_same)⟩ .nil⟩
    refine ⟨.int n, rfl, n, rfl, by omega, by omega, for_range (n := (n : Int).toNat) (fun i σ H' => Same H H' ∧ ∃ p z3 z4 z5 z6, σ = [some (.ref t), some (.int (n : Int)), some (.ref p), z3, z4, z5, z6] ∧ LP H' p (Km.lineAt g n i))
      ⟨s4, p4, none, none, none, none, rfl, h3⟩ ?_ ?_⟩
    · rintro i σ H1 hi ⟨sm, p, z3, z4, z5, z6, rfl, hp⟩
      have hi : i < n := hi
      refine ⟨Nat.zero_le _, fun p5 n5 => ?_⟩
      obtain ⟨ws, hw, pr⟩ := hp
      have hlen : ws.length ≤ sizeLine := by
        rw [pr.length]
        exact Nat.le_trans (hfit i (by omega)) (by decide)
      refine ⟨.ref p, rfl, p, rfl, ⟨_, sl (put0 n5 _ _ hw)⟩, for_list (xs := ws) (fun j σ H' => Same H1 H' ∧ ∃ r y5 y6, σ = [some (.ref t), some (.int (n : Int)), some (.ref p), some (.int (0 + (i : Int))), some (.ref r), y5, y6] ∧ LP H' r (((Km.lineAt g n i).take j).flatMap fun x => Km.longerOn g x.1 x.2 (n - i)))
        ⟨put0 n5, p5, z5, z6, rfl, ⟨[], upd_same, .nil⟩⟩ (fun j σ H' _ ⟨sm', _⟩ => sl (sm' _ _ hw)) ?_ ?_⟩
      · rintro j x σ H2 hx ⟨sm', r, y5, y6, rfl, hr2⟩
        have hj : j < (Km.lineAt g n i).length := by
          rw [← pr.length]
          exact (List.getElem?_eq_some_iff.mp hx).1
        obtain ⟨pt, a, b, rfl, hpt, ha, hb⟩ := paired_at pr hx (List.getElem?_eq_getElem hj)
        generalize hz : (Km.lineAt g n i)[j] = z at ha hb
        have hz' : (Km.lineAt g n i)[j]? = some z := by rw [List.getElem?_eq_getElem hj, hz]
        obtain ⟨l1, l2, l3, l4⟩ := Km.line_sound (List.mem_of_getElem? hz')
        have lz2 : z.2.length ≤ 128 := by
          rw [l4]
          exact Nat.le_trans Km.subs_len (Nat.le_trans (Nat.pow_le_pow_right (by decide) (show z.1.length ≤ 7 by omega)) (by decide))
        have lz3 : z.2 ≠ [] := by
          rw [l4]
          intro e
          have : (0 : Int) ∈ Km.subs z.1 := Km.mem_subs.mpr (Km.PS.zero _)
          rw [e] at this
          cases this
        have s6 := sm.trans sm'
        refine ⟨pt, _, rfl, sq (sm' _ _ hpt), rfl, _, _, rfl, _, _, rfl, rfl, ?_⟩
        refine ⟨.ref r, rfl, .ref t, rfl, .ref a, rfl, .ref b, rfl, .int n, rfl, .int (0 + (i : Int)), rfl, n, 0 + (i : Int), rfl, rfl, ?_⟩
        refine ⟨t, a, b, g, z.1, z.2, n - i, ?_, s6 _ _ ht, sm' _ _ ha, sm' _ _ hb, lz3, hzg, by omega, by omega, by omega, fun H7 p7 s7 h7 => ?_⟩
        · show [V.ref t, V.ref a, V.ref b, V.int ((n : Int) - (0 + (i : Int)))] = _
          rw [show (n : Int) - (0 + (i : Int)) = ((n - i : Nat) : Int) by omega]
        · obtain ⟨w1, e1, q1⟩ := hr2.keep s7
          obtain ⟨w2, e2, q2⟩ := h7
          have tot : ((((Km.lineAt g n i).take (j + 1)).flatMap fun x => Km.longerOn g x.1 x.2 (n - i))).length ≤ 1000000 := by
            refine Nat.le_trans (flat_take _ _ _) ?_
            exact hfit (i + 1) (by omega)
          rw [flat_snoc _ hz', List.length_append] at tot
          refine ⟨r, p7, w1, w2, rfl, rfl, e1, e2, ?_, fun p8 n8 => ?_⟩
          · rw [q1.length, q2.length]
            exact Nat.le_trans tot (by decide)
          · refine ⟨(sm'.trans s7).trans (put0 n8), p8, _, _, rfl, ?_⟩
            rw [flat_snoc _ hz']
            exact LP.cat (put0 n8) e1 q1 e2 q2 upd_same
      · rintro σ H2 ⟨sm', r, y5, y6, rfl, hr2⟩
        rw [pr.length, List.take_length] at hr2
        exact ⟨.ref r, rfl, sm.trans sm', r, _, _, _, _, rfl, hr2⟩
    · rintro σ H1 ⟨sm, p, z3, z4, z5, z6, rfl, ws, hw, pr⟩
      rw [show (n : Int).toNat = n from rfl] at pr
      have hlen : ws.length ≤ sizeLine := by
        rw [pr.length]
        exact Nat.le_trans (hfit n (Nat.le_refl _)) (by decide)
      refine ⟨.ref p, rfl, p, rfl, ⟨_, sl hw⟩, fun D nD => ?_⟩
      refine lcGL (zs := Km.lineAt g n n) (F := TV) TV.keep (fun x => decide (x.2 = g)) (·.1) (sl hw) nD hlen pr.length ?_ ?_
      · intro j x z H3 acc N hx hz s3 hD hacc hy hno
        obtain ⟨pt, a, b, rfl, hpt, ha, hb⟩ := paired_at pr hx hz
        refine ⟨pt, _, rfl, sq (s3 _ _ hpt), rfl, _, _, rfl, _, _, rfl, rfl, rfl, ?_⟩
        refine ⟨.ref b, rfl, .ref t, rfl, dT z.2, dT g, dp_tup (s3 _ _ hb), dp_tup (s3 _ _ (sm _ _ ht)), dT_shaped _, dT_shaped _, _, rfl, ?_⟩
        rw [dT_eqv]
        refine ifD (fun c => ?_) (fun c => hno (decide_eq_false c) _ (Same.refl _))
        exact ⟨.ref a, rfl, acc, hD, hacc, hy (decide_eq_true c) _ _ (Same.refl _) ⟨a, rfl, hide_tup hD (s3 _ _ ha)⟩⟩
      · intro H' ws' sm' hD pr'
        exact q H' D (sm.trans sm') ⟨ws', hD, pr'⟩
end
/-! ### shortest_to(goal, most) -/
abbrev sShort : Stmt := topS 28
theorem scShort : FnScope ["goal", "most", "many", "found"] ["goal", "most"] (defScope sShort) := ⟨rfl, rfl, rfl, by decide +kernel, rfl, by decide +kernel, by decide +kernel⟩
/-- a goal that is reached, in n steps and no fewer -/
structure Reach (g : List Int) (n : Nat) : Prop where
  len : g.length ≤ 1000
  n7 : n ≤ 7
  has : Km.tuplesOf g n ≠ []
  no : ∀ j, j < n → Km.tuplesOf g j = []
  fit : ∀ j, j ≤ n → Fits g j
def spShort : Sp := fun vs H Q _ => ∃ (t : Addr) (g : List Int) (n : Nat), vs = [.ref t, .int 7] ∧ Tup H t g ∧ Reach g n ∧ RetL H Q (Km.tuplesOf g n)
section
variable {P : Program} {w : World} {K : PySem.W.Frag} {mg : Str → Option Value} {base : Heap}
theorem dShort (A : Has K mg "shortest_to" sShort) (B : Bi mg) (L : Df P w K mg base CX0 4 "tuples_of" spTuples) : Df P w K mg base CX0 5 "shortest_to" spShort := by
  refine df A scShort (fun vs H Q E h => ?_) (fun _ _ _ _ _ _ us hl => match us, hl with | [_, _], _ => rfl) (fun f cdv A outer s H vs Q E hr h => ?_)
  · obtain ⟨t, g, n, rfl, _⟩ := h
    rfl
  · obtain ⟨t, g, n, rfl, ht, R, q⟩ := h
    refine ⟨_, pss_cons (ps_for PassesOwn.never rfl (pi_range1 rfl B.range (pa_cons (pe_op op_add (pv 1) pe_int) pa_nil)) (pg_name (i := 2) scShort.nd rfl (.inl rfl))
        (pss_cons (ps_set (i := 3) scShort.nd rfl (.inl rfl) (cl L hr (pa_cons (pv 0) (pa_cons (pv 2) pa_nil))))
        (pss_one (ps_if (pt_cmpR (op_neD hr.units) (pv 3) (pe_lst pa_nil) (nomark _)) (pss_one (ps_ret (pv 3))) pss_nil))))
      (pss_one (ps_ret (pe_lst pa_nil))), ?_⟩
    refine ⟨.int 7, rfl, 7, 1, rfl, rfl, 7 + 1, rfl, by decide, by decide, for_range (n := 8) (fun i σ H' => i ≤ n ∧ Same H H' ∧ ∃ z2 z3, σ = [some (.ref t), some (.int 7), z2, z3]) ⟨Nat.zero_le _, Same.refl H, none, none, rfl⟩ ?_ ?_⟩
    · rintro i σ H1 hi ⟨hin, sm, z2, z3, rfl⟩
      refine ⟨.ref t, rfl, .int (0 + (i : Int)), rfl, t, g, i, ?_, sm _ _ ht, R.len, by omega, R.fit i hin, fun H2 p2 s2 h2 => ?_⟩
      · show [V.ref t, V.int (0 + (i : Int))] = _
        rw [Int.zero_add]
      · refine ⟨.ref p2, rfl, Nat.zero_le _, fun p3 n3 => ⟨dLT (Km.tuplesOf g i), dLT [], dp_lt (h2.keep (put0 n3)), dp_lt ⟨[], upd_same, .nil⟩, dLT_shaped _, dLT_shaped _, _, rfl, ?_⟩⟩
        rw [dLT_eqv0]
        have s3 := sm.trans (s2.trans (put0 (o := .lst []) n3))
        by_cases e : i = n
        · subst e
          exact ifN (fun c => ⟨.ref p2, rfl, q _ p2 s3 (h2.keep (put0 n3))⟩) fun c => absurd c R.has
        · exact ifN (fun c => absurd (R.no i (by omega)) c) fun c => ⟨by omega, s3, _, _, rfl⟩
    · rintro σ H1 ⟨hin, _⟩
      have := R.n7
      omega
end
end Kd

/-! The defs of the text: the least row with given steps. -/
namespace Kd
open PySem PySem.Spec PyProof.Rows L2 Kr RZ
/-! ### parts of tuples, tuples set together -/
theorem cut_lo {K : PySem.W.Frag} {H : Hp} {a : Addr} {xs : List Int} {k : Nat} {Q : VK} (ha : Tup H a xs) (hk : k < xs.length) (h : ∀ p H', Same H H' → Tup H' p (xs.take k) → Q (.ref p) H') : rSlA K (.ref a) none (some (k : Int)) H Q := by
  refine ⟨a, xs.map V.int, rfl, sq ha, fun c => ?_, fun _ p np => h p _ (put0 np) ?_⟩
  · exfalso
    have := c.2
    rw [HT.sIx_nat, List.length_map] at this
    omega
  · show upd H p _ p = _
    rw [upd_same]
    unfold cutV
    rw [HT.sIx_nat, HT.sIx_none, List.drop_zero, Nat.sub_zero, List.length_map, Nat.min_eq_left (by omega), List.map_take]
theorem cut_hi {K : PySem.W.Frag} {σ : L2.St} {H : Hp} {a : Addr} {xs : List Int} {k : Nat} {Q : VK} (ha : Tup H a xs) (hk : k < xs.length) (h : ∀ p H', Same H H' → Tup H' p (xs.drop (k + 1)) → Q (.ref p) H') :
    tNoPart σ H fun u H3 => rSlA K (.ref a) (some ((k : Int) + 1)) u H3 Q := by
  show rSlA K (.ref a) (some ((k : Int) + 1)) none H Q
  have e1 : ((k : Int) + 1) = ((k + 1 : Nat) : Int) := by omega
  rw [e1]
  refine ⟨a, xs.map V.int, rfl, sq ha, fun c => ?_, fun _ p np => h p _ (put0 np) ?_⟩
  · exfalso
    have := c.1
    rw [HT.sIx_nat, List.length_map] at this
    omega
  · show upd H p _ p = _
    rw [upd_same]
    unfold cutV
    rw [HT.sIx_nat, HT.sIx_none, List.length_map, Nat.min_eq_left (by omega), List.take_of_length_le (by rw [List.length_drop, List.length_map]; omega), List.map_drop]
theorem cat_ints {K : PySem.W.Frag} {H : Hp} {a b : Addr} {xs ys : List Int} {Q : VK} (ha : Tup H a xs) (hb : Tup H b ys) (hz : xs.length + ys.length ≤ 1000) (h : ∀ p H', Same H H' → Tup H' p (xs ++ ys) → Q (.ref p) H') : rCatA K (.ref a) (.ref b) H Q := by
  refine ⟨a, b, _, _, rfl, rfl, sq ha, sq hb, ?_, fun e => ?_, fun _ e => ?_, fun _ _ p np => h p _ (put0 np) ?_⟩
  · rw [List.length_map, List.length_map]
    exact Nat.le_of_lt (small1000 hz)
  · have e' : xs = [] := by simpa using e
    subst e'
    exact h b H (Same.refl H) hb
  · have e' : ys = [] := by simpa using e
    subst e'
    exact h a H (Same.refl H) (by rw [List.append_nil]; exact ha)
  · show upd H p _ p = _
    rw [upd_same, List.map_append]
/-! ### enumerate over a tuple -/
theorem for_enumT {K : PySem.W.Frag} {a : Addr} {xs : List V} {g : TG} {tb : TS} {D : Ends} {σ : L2.St} {H : Hp} (Pv : Nat → L2.St → Hp → Prop) (h0 : Pv 0 σ H) (hl : ∀ i σ H, i ≤ xs.length → Pv i σ H → SqT K H a xs)
    (hs : ∀ i x σ H T, xs[i]? = some x → Pv i σ H → H T = none → g (.ref T) σ (upd H T (.tup [.int (i : Nat), x])) fun σ2 H2 => tb { D with nx := Pv (i + 1), ct := Pv (i + 1), bk := D.nx } σ2 H2) (hd : ∀ σ H, Pv xs.length σ H → D.nx σ H) :
    ∃ W : Nat → Nat → L2.St → Hp → Prop, (∃ m, W 0 m σ H) ∧ ∀ i m σ H, W i m σ H →
      ((IteT K a).stop i H ∧ D.nx σ H) ∨ ((IteT K a).go i H ∧ ∃ N : L2.St → Hp → Prop, (∀ σ' H', N σ' H' → ∃ m', m' < m ∧ W (i + 1) m' σ' H') ∧ ∀ x H', (IteT K a).yld i H x H' → g x σ H' fun σ2 H2 => tb { D with nx := N, ct := N, bk := D.nx } σ2 H2) := by
  refine ⟨fun i m σ H => m = xs.length - i ∧ i ≤ xs.length ∧ Pv i σ H, ⟨xs.length, by simp, Nat.zero_le _, h0⟩, ?_⟩
  rintro i m σ H ⟨rfl, hi, p⟩
  have q := hl i σ H hi p
  by_cases hlt : i < xs.length
  · refine .inr ⟨⟨xs, xs[i], q, by simp [hlt]⟩, Pv (i + 1), fun σ' H' p' => ⟨xs.length - (i + 1), by omega, rfl, hlt, p'⟩, fun x H' y => ?_⟩
    obtain ⟨T, x1, rfl, nT, rfl, f1⟩ := y
    exact hs i x1 σ H T (f1 _ q) p nT
  · have e : i = xs.length := by omega
    subst e
    exact .inl ⟨⟨xs, q, Nat.le_refl _⟩, hd σ H p⟩
/-! ### the least of tuples -/
theorem keys_of {H : Hp} : ∀ {ws : List V} {ls : List (List Int)}, Paired (TV H) ws ls → ∃ ks : List (Addr × List Int), ws = ks.map (fun p => V.ref p.1) ∧ ls = ks.map (·.2) ∧ ∀ p ∈ ks, Tup H p.1 p.2
  | _, _, .nil => ⟨[], rfl, rfl, by simp⟩
  | _, _, .cons h t => by
    obtain ⟨p, rfl, hp⟩ := h
    obtain ⟨ks, rfl, rfl, hk⟩ := keys_of t
    refine ⟨(p, _) :: ks, rfl, rfl, fun q hq => ?_⟩
    rcases List.mem_cons.mp hq with e | e
    · rw [e]
      exact hp
    · exact hk q e
theorem min_of {K : PySem.W.Frag} {H : Hp} {a : Addr} {ls : List (List Int)} (h : LT H a ls) : ∃ ks : List (Addr × List Int), ls = ks.map (·.2) ∧ SqL K H a (ks.map fun p => V.ref p.1) ∧ ∀ p ∈ ks, Tup H p.1 p.2 := by
  obtain ⟨ws, ha, pr⟩ := h
  obtain ⟨ks, rfl, rfl, hk⟩ := keys_of pr
  exact ⟨ks, rfl, sl ha, hk⟩
/-! ### least_with(first, last, steps) -/
abbrev sLeast : Stmt := topS 30
abbrev nLeast : List Str := ["first", "last", "steps", "row", "left", "some", "at", "step", "rest", "there"]
theorem scLeast : FnScope nLeast ["first", "last", "steps"] (defScope sLeast) := ⟨rfl, rfl, rfl, by decide +kernel, rfl, by decide +kernel, by decide +kernel⟩
def spLeast : Sp := fun vs H Q _ => ∃ (a b : Int) (t : Addr) (ss : List Int), vs = [.int a, .int b, .ref t] ∧ Tup H t ss ∧ ss.length ≤ 11 ∧ b - a ∈ Km.allSums ss ∧ RetT H Q (Km.leastFrom ss.length a b ss)
theorem cands_ne {cur last : Int} {left : List Int} (h : left ≠ []) (hs : last - cur ∈ Km.allSums left) : Km.cands cur last left ≠ [] := by
  have hl : 0 < left.length := List.length_pos_iff.mpr h
  rcases (Km.sums_cut hl).mp hs with k | k
  · refine List.ne_nil_of_mem (Km.mem_cands.mpr ⟨0, cur + left.getD 0 0, hl, .inr rfl, ?_, rfl⟩)
    rw [show last - (cur + left.getD 0 0) = last - cur - left.getD 0 0 by omega]
    exact k
  · refine List.ne_nil_of_mem (Km.mem_cands.mpr ⟨0, cur - left.getD 0 0, hl, .inl rfl, ?_, rfl⟩)
    rw [show last - (cur - left.getD 0 0) = last - cur + left.getD 0 0 by omega]
    exact k
/-- what can come next by the step at k -/
def candAt (cur last : Int) (left : List Int) (k : Nat) : List (List Int) :=
  ([cur - left.getD k 0, cur + left.getD k 0].filter fun there => decide (last - there ∈ Km.allSums (left.take k ++ left.drop (k + 1)))).map fun there => [there, (k : Int)]
theorem candAt_len {cur last : Int} {left : List Int} {k : Nat} : (candAt cur last left k).length ≤ 2 := by
  unfold candAt
  rw [List.length_map]
  exact List.length_filter_le _ _
theorem range_get {n i : Nat} (h : i < n) : (List.range n)[i]? = some i := by
  rw [List.getElem?_eq_getElem (by rw [List.length_range]; exact h), List.getElem_range]
section
variable {P : Program} {w : World} {K : PySem.W.Frag} {mg : Str → Option Value} {base : Heap}
theorem dLeast (A : Has K mg "least_with" sLeast) (B : Bi mg) (S : Df P w K mg base CX0 1 "all_sums" spAll) : Df P w K mg base CX0 2 "least_with" spLeast := by
  refine df A scLeast (fun vs H Q E h => ?_) (fun _ _ _ _ _ _ us hl => match us, hl with | [_, _, _], _ => rfl) (fun f cdv A outer s H vs Q E hr h => ?_)
  · obtain ⟨a, b, t, ss, rfl, _⟩ := h
    rfl
  · obtain ⟨a, b, t, ss, rfl, ht, hz, hab, q⟩ := h
    refine ⟨_, pss_cons (ps_par rfl scLeast.nd (i := 3) (j := 4) rfl rfl (by decide) rfl rfl (pa_cons (pe_tup (pa_cons (pv 0) pa_nil)) (pa_cons (pv 2) pa_nil)) rfl)
      (pss_cons (ps_while PassesOwn.never (pt_cmpR (op_neD hr.units) (pv 4) (pe_tup pa_nil) (nomark _))
        (pss_cons (ps_set (i := 5) scLeast.nd rfl (.inl rfl) (pe_lst pa_nil))
        (pss_cons (ps_for PassesOwn.never rfl (pi_enumT (by rfl) B.enumerate (pa_cons (pv 4) pa_nil)) (pg_tup rfl (pgs_cons (pg_name (i := 6) scLeast.nd rfl (.inr rfl)) (pgs_cons (pg_name (i := 7) scLeast.nd rfl (.inl rfl)) pgs_nil)))
          (pss_cons (ps_set (i := 8) scLeast.nd rfl (.inr rfl) (cl S hr (pa_cons (pe_op op_catA (pe_slice sl_tupA (pv 4) po_none (po_some (pv 6))) (pe_slice sl_tupA (pv 4) (po_some (pe_op op_add (pv 6) pe_int)) po_none)) pa_nil)))
          (pss_one (ps_set (i := 5) scLeast.nd rfl (.inl rfl) (pe_op op_cat (pv 5)
            (pe_lc (own := [("there", 9)]) (g := gName 9) (tt := tTest (tOp (rIn K false) (tOp (rI0 fun i j => .int (i - j)) (tVar 1) (tVar 9)) (tVar 8))) rfl scLeast.nd
              (pi_tup (pe_tup (pa_cons (pe_op op_sub (pe_ix (r := rIxT K) ix_tup (pv 3) (pe_un un_neg pe_int) (fun _ _ => rfl)) (pv 7)) (pa_cons (pe_op op_add (pe_ix (r := rIxT K) ix_tup (pv 3) (pe_un un_neg pe_int) (fun _ _ => rfl)) (pv 7)) pa_nil))))
              (blkOk_by (N := nLeast) (sc := defScope sLeast) (by decide +kernel)) (fun _ _ _ _ _ => pg_name (i := 9) scLeast.nd rfl (.inl rfl))
              (fun _ _ _ _ _ => pts_one (pt_cmpR (r := rIn K false) op_in_seq (pe_op op_sub (pv 1) (pv 9)) (pv 8) rfl)) (fun _ _ _ _ _ => pe_tup (pa_cons (pv 9) (pa_cons (pv 6) pa_nil)))))))))
        (pss_cons (ps_asg (pe_callB (cr_minT rfl hr.units) (by rfl) B.min (by decide +kernel) (pa_cons (pv 5) pa_nil)) (pg_tup rfl (pgs_cons (pg_name (i := 9) scLeast.nd rfl (.inl rfl)) (pgs_cons (pg_name (i := 6) scLeast.nd rfl (.inr rfl)) pgs_nil))))
        (pss_one (ps_par rfl scLeast.nd (i := 3) (j := 4) rfl rfl (by decide) rfl rfl
          (pa_cons (pe_op op_catA (pv 3) (pe_tup (pa_cons (pv 9) pa_nil))) (pa_cons (pe_op op_catA (pe_slice sl_tupA (pv 4) po_none (po_some (pv 6))) (pe_slice sl_tupA (pv 4) (po_some (pe_op op_add (pv 6) pe_int)) po_none)) pa_nil)) rfl))))))
      (pss_one (ps_ret (pv 3)))), ?_⟩
    refine ⟨.int a, rfl, (by show 1 ≤ sizeLine; decide), fun p1 n1 => ⟨.ref t, rfl, .ref p1, .ref t, rfl, ?_⟩⟩
    refine ⟨fun m σ H' => Same H H' ∧ ∃ r l pre cur left z5 z6 z7 z8 z9, σ = [some (.int a), some (.int b), some (.ref t), some (.ref r), some (.ref l), z5, z6, z7, z8, z9] ∧ Tup H' r (pre ++ [cur]) ∧ Tup H' l left ∧ left.length = m ∧ pre.length + left.length ≤ 11 ∧
      b - cur ∈ Km.allSums left ∧ pre ++ Km.leastFrom left.length cur b left = Km.leastFrom ss.length a b ss,
      ⟨ss.length, put0 n1, p1, t, [], a, ss, none, none, none, none, none, rfl, upd_same, put0 n1 _ _ ht, rfl, by simpa using hz, hab, rfl⟩, ?_⟩
    rintro m σ H1 ⟨sm, r, l, pre, cur, left, z5, z6, z7, z8, z9, rfl, hr1, hl1, hlm, hpl, hcur, hfin⟩
    refine ⟨.ref l, rfl, by decide, fun p2 n2 => ⟨dT left, dT [], dp_tup (put0 n2 _ _ hl1), dp_tup (ns := []) upd_same, dT_shaped _, dT_shaped _, _, rfl, ?_⟩⟩
    rw [dT_eqv]
    have s2 : Same H1 (upd H1 p2 (.tup [])) := put0 n2
    generalize upd H1 p2 (.tup []) = H2 at s2
    refine ifN (fun hne => ?_) (fun hemp => ?_)
    · refine ⟨fun σ' H' => Same H H' ∧ ∃ r l pre cur left z5 z6 z7 z8 z9, σ' = [some (.int a), some (.int b), some (.ref t), some (.ref r), some (.ref l), z5, z6, z7, z8, z9] ∧ Tup H' r (pre ++ [cur]) ∧ Tup H' l left ∧ left.length + 1 = m ∧ pre.length + left.length ≤ 11 ∧
        b - cur ∈ Km.allSums left ∧ pre ++ Km.leastFrom left.length cur b left = Km.leastFrom ss.length a b ss, ?_, ?_⟩
      · rintro σ' H' ⟨e0, r', l', pre', cur', left', y5, y6, y7, y8, y9, e1, e2, e3, e4, e5, e6, e7⟩
        exact ⟨left'.length, by omega, e0, r', l', pre', cur', left', y5, y6, y7, y8, y9, e1, e2, e3, rfl, e5, e6, e7⟩
      refine ⟨Nat.zero_le _, fun p3 n3 => ?_⟩
      have s3 : Same H1 (upd H2 p3 (.lst [])) := s2.trans (put0 n3)
      have hl3 := s3 _ _ hl1
      refine ⟨.ref l, rfl, l, left.map V.int, rfl, sq hl3, for_enumT (xs := left.map V.int) (fun i σ H' => Same H1 H' ∧ ∃ s y6 y7 y8 y9, σ = [some (.int a), some (.int b), some (.ref t), some (.ref r), some (.ref l), some (.ref s), y6, y7, y8, y9] ∧
        LT H' s (((List.range left.length).take i).flatMap (candAt cur b left))) ⟨s3, p3, z6, z7, z8, z9, rfl, [], upd_same, .nil⟩ (fun i σ H' _ ⟨sm', _⟩ => sq (sm' _ _ hl1)) ?_ ?_⟩
      · rintro i x σ H4 T hx ⟨s4, p, y6, y7, y8, y9, rfl, hp⟩ nT
        obtain ⟨st, hst, rfl⟩ := map_get hx
        have hi : i < left.length := (List.getElem?_eq_some_iff.mp hst).1
        have est : left.getD i 0 = st := by rw [List.getD_eq_getElem?_getD, hst]; rfl
        have s5 : Same H1 (upd H4 T (.tup [.int (i : Nat), .int st])) := put s4 nT
        have hp5 := hp.keep (put0 (o := .tup [.int (i : Nat), .int st]) nT)
        refine ⟨T, _, rfl, sq upd_same, rfl, _, _, rfl, _, _, rfl, rfl, ?_⟩
        generalize upd H4 T (.tup [.int (i : Nat), .int st]) = H5 at s5 hp5
        refine ⟨.ref l, rfl, .int i, rfl, i, rfl, cut_lo (s5 _ _ hl1) hi fun p6 H6 s6 h6 => ?_⟩
        refine ⟨.ref l, rfl, .int i, rfl, i, 1, rfl, rfl, (i : Int) + 1, rfl, cut_hi (s6 _ _ (s5 _ _ hl1)) hi fun p7 H7 s7 h7 => ?_⟩
        refine cat_ints (s7 _ _ h6) h7 (by rw [List.length_take, List.length_drop]; omega) fun p8 H8 s8 h8 => ?_
        have cl := Km.cut_len hi
        refine ⟨p8, left.take i ++ left.drop (i + 1), rfl, h8, by omega, fun H9 p9 s9 h9 => ?_⟩
        have s69 := s6.trans (s7.trans (s8.trans s9))
        have hr9 := s69 _ _ (s5 _ _ hr1)
        refine ⟨.ref p, rfl, .ref r, rfl, 1, rfl, r, _, -1, _, rfl, rfl, sq hr9, at_end (by simp), .int st, rfl, cur, st, rfl, rfl, ?_⟩
        refine ⟨.ref r, rfl, 1, rfl, r, _, -1, _, rfl, rfl, sq hr9, at_end (by simp), .int st, rfl, cur, st, rfl, rfl, (by show 2 ≤ sizeLine; decide), fun pA nA => ?_⟩
        refine ⟨pA, rfl, ⟨_, sq upd_same⟩, fun D nD => ?_⟩
        have sA := put0 (o := .tup [.int (cur - st), .int (cur + st)]) nA
        refine lcGT (zs := [cur - st, cur + st]) (F := TV) TV.keep (fun there => decide (b - there ∈ Km.allSums (left.take i ++ left.drop (i + 1)))) (fun there => [there, (i : Int)]) (sq upd_same) nD (by show 2 ≤ sizeLine; decide) rfl ?_ ?_
        · intro j x z HB acc N hx hz sB hD hacc hy hno
          obtain ⟨z', hz', rfl⟩ := map_get (ns := [cur - st, cur + st]) hx
          obtain rfl : z' = z := Option.some.inj (hz'.symm.trans hz)
          refine ⟨rfl, ?_⟩
          refine ⟨.int b, rfl, .int z', rfl, b, z', rfl, rfl, .ref p9, rfl, p9, _, rfl, .inr (sq (sB _ _ (sA _ _ h9))), rfl, flat_ints _, _, rfl, ?_⟩
          rw [inV_ints]
          refine ifD (fun c => ?_) (fun c => hno (decide_eq_false c) _ (Same.refl _))
          refine ⟨.int z', rfl, .int i, rfl, (by show 2 ≤ sizeLine; decide), fun pC nC => ?_⟩
          have hDC := put0 (o := .tup [.int z', .int i]) nC _ _ hD
          exact ⟨acc, hDC, hacc, hy (decide_eq_true c) _ _ (put0 nC) ⟨pC, rfl, hide_tup hDC upd_same⟩⟩
        · intro HB ws sB hD pr
          obtain ⟨w1, e1, q1⟩ := hp5.keep (s69.trans (sA.trans sB))
          have hlen1 : (((List.range left.length).take i).flatMap (candAt cur b left)).length ≤ i * 2 := by
            refine Nat.le_trans (Km.flat_len (b := 2) fun _ _ => candAt_len) ?_
            rw [List.length_take]
            exact Nat.mul_le_mul_right _ (Nat.min_le_left _ _)
          have hlen2 : ws.length ≤ 2 := by
            rw [pr.length, List.length_map]
            exact List.length_filter_le _ _
          refine ⟨p, D, w1, ws, rfl, rfl, e1, hD, ?_, fun pE nE => ?_⟩
          · rw [q1.length]
            refine Nat.le_trans (show _ ≤ 24 by omega) (by decide)
          · refine ⟨put (s5.trans (s69.trans (sA.trans sB))) nE, pE, _, _, _, _, rfl, ?_⟩
            rw [flat_snoc _ (range_get hi)]
            refine LT.cat (put0 nE) e1 q1 hD ?_ upd_same
            unfold candAt
            rw [est]
            exact pr
      · rintro σ H4 ⟨s4, p, y6, y7, y8, y9, rfl, hp⟩
        rw [List.length_map, List.take_of_length_le (by rw [List.length_range]; exact Nat.le_refl _)] at hp
        have hc : LT H4 p (Km.cands cur b left) := hp
        obtain ⟨ks, ek, hks, hkt⟩ := min_of (K := K) hc
        refine ⟨.ref p, rfl, p, ks, rfl, hks, fun x hx => sq (hkt x hx), fun e => cands_ne hne hcur (by rw [ek, e]; rfl), fun x hx hm => ?_⟩
        obtain ⟨p5, c⟩ := x
        have h5 := hkt _ hx
        rw [← ek] at hm
        have ec : Km.leastOf (Km.cands cur b left) = c := (Km.leastOf_min (cands_ne hne hcur)).one hm
        obtain ⟨k, there, hk, _, hin, rfl⟩ := Km.mem_cands.mp hm.mem
        have hl4 := s4 _ _ hl1
        have hr4 := s4 _ _ hr1
        refine ⟨p5, _, rfl, sq h5, rfl, _, _, rfl, _, _, rfl, rfl, ?_⟩
        refine ⟨.ref r, rfl, .int there, rfl, (by show 1 ≤ sizeLine; decide), fun p6 n6 => ?_⟩
        refine cat_ints (ys := [there]) (put0 n6 _ _ hr4) upd_same (by rw [List.length_append]; show pre.length + 1 + 1 ≤ 1000; omega) fun p7 H7 s7 h7 => ?_
        have hl7 := s7 _ _ (put0 (o := .tup [.int there]) n6 _ _ hl4)
        refine ⟨.ref l, rfl, .int k, rfl, k, rfl, cut_lo hl7 hk fun p8 H8 s8 h8 => ?_⟩
        refine ⟨.ref l, rfl, .int k, rfl, k, 1, rfl, rfl, (k : Int) + 1, rfl, cut_hi (s8 _ _ hl7) hk fun p9 H9 s9 h9 => ?_⟩
        refine cat_ints (s9 _ _ h8) h9 (by rw [List.length_take, List.length_drop]; omega) fun pA HA sA hA => ?_
        have cl := Km.cut_len hk
        have sAll := s4.trans ((put0 (o := .tup [.int there]) n6).trans (s7.trans (s8.trans (s9.trans sA))))
        refine ⟨.ref p7, .ref pA, rfl, sm.trans sAll, p7, pA, pre ++ [cur], there, left.take k ++ left.drop (k + 1), _, _, _, _, _, rfl, sA _ _ (s9 _ _ (s8 _ _ h7)), hA, by omega, by rw [List.length_append]; show pre.length + 1 + _ ≤ 11; omega, hin, ?_⟩
        rw [← hfin]
        have : left.length = (left.take k ++ left.drop (k + 1)).length + 1 := cl.symm
        conv => rhs; rw [this]; unfold Km.leastFrom
        rw [if_neg hne, ec, List.append_assoc]
        rfl
    · subst hemp
      refine ⟨.ref r, rfl, q _ r (sm.trans s2) ?_⟩
      rw [← hfin]
      exact s2 _ _ hr1
end
end Kd

/-! The defs of the text: the fewest folds, the row with the least ink. -/
namespace Kd
open PySem PySem.Spec PyProof.Rows L2 Kr RZ
/-- what is asked of: a row, none, or one too long -/
def Ask (CI CM : Addr) (H : Hp) (x : V) (E : XK) (ok : Addr → List Int → Prop) : Prop :=
  (∃ t ns, x = .ref t ∧ Tup H t ns ∧ ns.length ≤ 8 ∧ Near ns ∧ ok t ns) ∨ (Row H x false ∧ ∀ H', Same H H' → E (.ref CI) none H') ∨
  (∃ t ns, x = .ref t ∧ Tup H t ns ∧ 8 < ns.length ∧ ns.length ≤ 12 ∧ Near ns ∧ ∀ H', Same H H' → ∀ d, H' d = none → E (.ref CM) (some d) (upd H' d (.xd [(("limit" : Str), .int 8)])))
/-- a row whose sums are reached by n steps and no fewer -/
def Fair (ns : List Int) (n : Nat) : Prop := Reach (Km.subs (Km.stepsOf ns)) n
abbrev sFewest : Stmt := topS 31
abbrev sInk : Stmt := topS 32
theorem scFewest : FnScope ["folds"] ["folds"] (defScope sFewest) := ⟨rfl, rfl, rfl, by decide +kernel, rfl, by decide +kernel, by decide +kernel⟩
theorem scInk : FnScope ["folds", "steps"] ["folds"] (defScope sInk) := ⟨rfl, rfl, rfl, by decide +kernel, rfl, by decide +kernel, by decide +kernel⟩
def spFewest (CI CM : Addr) : Sp := fun vs H Q E => ∃ x : V, vs = [x] ∧ Ask CI CM H x E fun t ns => (ns = [] ∧ ∀ H', Same H H' → Q (.int 0) H') ∨ (ns ≠ [] ∧ ∃ n : Nat, Fair ns n ∧ ∀ H', Same H H' → Q (.int ((n : Int) + 1)) H')
def toldOf (ns : List Int) (n : Nat) (a b : Int) : List (List Int) := (Km.tuplesOf (Km.subs (Km.stepsOf ns)) n).map fun s => Km.leastFrom s.length a b s
def spInk (CI CM : Addr) : Sp := fun vs H Q E => ∃ x : V, vs = [x] ∧ Ask CI CM H x E fun t ns => (ns = [] ∧ RetT H Q []) ∨ (ns ≠ [] ∧ ∃ (n : Nat) (a b : Int), Fair ns n ∧ (Km.tuplesOf (Km.subs (Km.stepsOf ns)) n).length ≤ 1000000 ∧ ns.head? = some a ∧ ns.getLast? = some b ∧ ∀ l, Km.IsMin l (toldOf ns n a b) → RetT H Q l)
theorem lt_head {H : Hp} {p : Addr} {ls : List (List Int)} (h : LT H p ls) (hne : ls ≠ []) : ∃ ws a l, H p = some (.lst ws) ∧ ws[0]? = some (.ref a) ∧ l ∈ ls ∧ Tup H a l := by
  obtain ⟨ws, hp, pr⟩ := h
  cases pr with
  | nil => exact absurd rfl hne
  | cons f t =>
    obtain ⟨a, rfl, ha⟩ := f
    exact ⟨_, a, _, hp, rfl, by simp, ha⟩
section
variable {P : Program} {w : World} {K : PySem.W.Frag} {mg : Str → Option Value} {base : Heap} {CI CM : Addr}
theorem dFewest (A : Has K mg "fewest_folds" sFewest) (B : Bi mg) (c : ∃ u, mg "STEPS" = some u ∧ RelV (.int 7) u) (N : Df P w K mg base (L2.CX P w) 4 "need_folds" (spNeed CI)) (M : Df P w K mg base (L2.CX P w) 2 "need_few_folds" (spFew CM))
    (G : Df P w K mg base CX0 3 "goal_of" spGoal) (S : Df P w K mg base CX0 5 "shortest_to" spShort) : Df P w K mg base (L2.CX P w) 6 "fewest_folds" (spFewest CI CM) := by
  obtain ⟨u7, hu7, ru7⟩ := c
  refine dfX A scFewest (fun vs H Q E h => ?_) (fun _ _ _ _ _ _ us hl => match us, hl with | [_], _ => rfl) (fun f cdv A outer s H vs Q E hr h => ?_)
  · obtain ⟨x, rfl, _⟩ := h
    rfl
  · obtain ⟨x, rfl, h⟩ := h
    refine ⟨_, pss_cons (ps_expr (clX N hr (passes_call (takes_of rfl rfl rfl rfl) fun _ _ _ _ h => h) (pa_cons (pv 0) pa_nil))) (pss_cons (ps_expr (clX M hr (passes_call (takes_of rfl rfl rfl rfl) fun _ _ _ _ h => h) (pa_cons (pv 0) pa_nil)))
      (pss_one (ps_ret (pe_ifExp (pt_cmpR (op_neD hr.units) (pv 0) (pe_tup pa_nil) (nomark _))
        (pe_op op_add (pe_callB call_len_seq (by rfl) B.len PySem.boot_len (pa_cons (pe_ix ix_list (cl S hr (pa_cons (cl G hr (pa_cons (pv 0) pa_nil)) (pa_cons (pe_glob rfl hu7 ru7) pa_nil))) pe_int (fun _ _ => rfl)) pa_nil)) pe_int) pe_int)))), ?_⟩
    rcases h with ⟨t, ns, rfl, ht, hz, hn, h⟩ | ⟨hrow, q⟩ | ⟨t, ns, rfl, ht, hz, hz2, hn, q⟩
    · refine ⟨.ref t, rfl, .ref t, true, rfl, row_ok ht (by omega) hn, fun _ H1 s1 => ?_, fun c => by cases c⟩
      refine ⟨.ref t, rfl, t, ns.map V.int, rfl, s1 _ _ ht, fun _ => ?_, fun c => absurd (by rw [List.length_map]; exact hz) c⟩
      refine ⟨.ref t, rfl, by decide, fun p np => ⟨dT ns, dT [], dp_tup (put0 np _ _ (s1 _ _ ht)), dp_tup (ns := []) upd_same, dT_shaped _, dT_shaped _, _, rfl, ?_⟩⟩
      rw [dT_eqv]
      have s2 : Same H (upd H1 p (.tup [])) := put s1 np
      rcases h with ⟨rfl, q⟩ | ⟨hne, n, F, q⟩
      · exact ifN (fun c => absurd rfl c) fun _ => q _ s2
      · refine ifN (fun _ => ?_) fun c => absurd c hne
        refine ⟨.ref t, rfl, t, ns, rfl, s2 _ _ ht, hne, hz, fun H3 p3 s3 h3 => ?_⟩
        refine ⟨p3, Km.subs (Km.stepsOf ns), n, rfl, h3, F, fun H4 p4 s4 h4 => ?_⟩
        obtain ⟨ws, a, l, hw, h0, hl, ha⟩ := lt_head h4 F.has
        refine ⟨p4, ws, 0, .ref a, rfl, rfl, sl hw, atI_nat (j := 0) h0, a, _, rfl, .inr (sq ha), _, 1, rfl, rfl, ?_⟩
        rw [List.length_map, (Km.tuples_iff.mp hl).len]
        exact q _ (s2.trans (s3.trans s4))
    · exact ⟨x, rfl, x, false, rfl, hrow, fun c => (by cases c), fun _ H' s' => q H' s'⟩
    · refine ⟨.ref t, rfl, .ref t, true, rfl, row_ok ht hz2 hn, fun _ H1 s1 => ?_, fun c => by cases c⟩
      exact ⟨.ref t, rfl, t, ns.map V.int, rfl, s1 _ _ ht, fun c => by rw [List.length_map] at c; omega, fun _ d hd => q H1 s1 d hd⟩
theorem dInk (A : Has K mg "least_ink_row" sInk) (B : Bi mg) (c : ∃ u, mg "STEPS" = some u ∧ RelV (.int 7) u) (N : Df P w K mg base (L2.CX P w) 4 "need_folds" (spNeed CI)) (M : Df P w K mg base (L2.CX P w) 2 "need_few_folds" (spFew CM))
    (G : Df P w K mg base CX0 3 "goal_of" spGoal) (S : Df P w K mg base CX0 5 "shortest_to" spShort) (L : Df P w K mg base CX0 2 "least_with" spLeast) : Df P w K mg base (L2.CX P w) 6 "least_ink_row" (spInk CI CM) := by
  obtain ⟨u7, hu7, ru7⟩ := c
  refine dfX A scInk (fun vs H Q E h => ?_) (fun _ _ _ _ _ _ us hl => match us, hl with | [_], _ => rfl) (fun f cdv A outer s H vs Q E hr h => ?_)
  · obtain ⟨x, rfl, _⟩ := h
    rfl
  · obtain ⟨x, rfl, h⟩ := h
    refine ⟨_, pss_cons (ps_expr (clX N hr (passes_call (takes_of rfl rfl rfl rfl) fun _ _ _ _ h => h) (pa_cons (pv 0) pa_nil))) (pss_cons (ps_expr (clX M hr (passes_call (takes_of rfl rfl rfl rfl) fun _ _ _ _ h => h) (pa_cons (pv 0) pa_nil)))
      (pss_cons (ps_if (pt_cmpR (op_eqD hr.units) (pv 0) (pe_tup pa_nil) (nomark _)) (pss_one (ps_ret (pe_tup pa_nil))) pss_nil)
      (pss_one (ps_ret (pe_callB (cr_minT rfl hr.units) (by rfl) B.min (by decide +kernel) (pa_cons
        (pe_lc (own := [("steps", 1)]) (g := gName 1) (tt := tYes) rfl scInk.nd (pi_list (cl S hr (pa_cons (cl G hr (pa_cons (pv 0) pa_nil)) (pa_cons (pe_glob rfl hu7 ru7) pa_nil)))) (blkOk_by (N := ["folds", "steps"]) (sc := defScope sInk) (by decide +kernel))
          (fun _ _ _ _ _ => pg_name (i := 1) scInk.nd rfl (.inl rfl)) (fun _ _ _ _ _ => pts_nil)
          (fun _ _ _ _ _ => cl L hr (pa_cons (pe_ix (r := rIxT K) ix_tup (pv 0) pe_int (fun _ _ => rfl)) (pa_cons (pe_ix (r := rIxT K) ix_tup (pv 0) (pe_un un_neg pe_int) (fun _ _ => rfl)) (pa_cons (pv 1) pa_nil))))) pa_nil)))))), ?_⟩
    rcases h with ⟨t, ns, rfl, ht, hz, hn, h⟩ | ⟨hrow, q⟩ | ⟨t, ns, rfl, ht, hz, hz2, hn, q⟩
    · refine ⟨.ref t, rfl, .ref t, true, rfl, row_ok ht (by omega) hn, fun _ H1 s1 => ?_, fun c => by cases c⟩
      refine ⟨.ref t, rfl, t, ns.map V.int, rfl, s1 _ _ ht, fun _ => ?_, fun c => absurd (by rw [List.length_map]; exact hz) c⟩
      refine ⟨.ref t, rfl, by decide, fun p np => ⟨dT ns, dT [], dp_tup (put0 np _ _ (s1 _ _ ht)), dp_tup (ns := []) upd_same, dT_shaped _, dT_shaped _, _, rfl, ?_⟩⟩
      rw [dT_eqv]
      have s2 : Same H (upd H1 p (.tup [])) := put s1 np
      rcases h with ⟨rfl, q⟩ | ⟨hne, n, a, b, F, hlen, ha, hb, q⟩
      · exact ifD (fun c => ⟨by decide, fun p2 n2 => q _ p2 (put s2 n2) upd_same⟩) fun c => absurd rfl c
      · refine ifD (fun c => absurd c hne) fun _ => ?_
        refine ⟨.ref t, rfl, t, ns, rfl, s2 _ _ ht, hne, hz, fun H3 p3 s3 h3 => ?_⟩
        refine ⟨p3, Km.subs (Km.stepsOf ns), n, rfl, h3, F, fun H4 p4 s4 h4 => ?_⟩
        have s24 := s2.trans (s3.trans s4)
        obtain ⟨ws, hw, pr⟩ := h4
        refine ⟨p4, rfl, ⟨_, sl hw⟩, fun D nD => ?_⟩
        refine lcGL (zs := Km.tuplesOf (Km.subs (Km.stepsOf ns)) n) (F := TV) TV.keep (fun _ => true) (fun s => Km.leastFrom s.length a b s) (sl hw) nD (by rw [pr.length]; exact Nat.le_trans hlen (by decide)) pr.length ?_ ?_
        · intro j x z H5 acc N hx hz s5 hD hacc hy _
          obtain ⟨pz, rfl, hpz⟩ := paired_at pr hx hz
          have ht5 := s5 _ _ (s24 _ _ ht)
          have gz := Km.tuples_iff.mp (List.mem_of_getElem? hz)
          refine ⟨rfl, ?_⟩
          simp only [tYes, if_true]
          refine ⟨.ref t, rfl, t, _, 0, _, rfl, rfl, sq ht5, at_first ha, .ref t, rfl, 1, rfl, t, _, -1, _, rfl, rfl, sq ht5, at_end hb, .ref pz, rfl, a, b, pz, z, rfl, s5 _ _ hpz, ?_, ?_, fun H6 p6 s6 h6 => ?_⟩
          · rw [gz.len]
            have := F.n7
            omega
          · rw [(Km.sums_iff (Km.nn_of_pos gz.pos) (Km.stepsOf_nn ns)).mpr gz.to]
            exact Km.ends_sum ha hb
          · exact ⟨acc, s6 _ _ hD, hacc, hy rfl _ _ s6 ⟨p6, rfl, hide_tup (s6 _ _ hD) h6⟩⟩
        · intro H' ws' sm' hD pr'
          rw [List.filter_eq_self.mpr (by simp)] at pr'
          obtain ⟨ks, ek, hks, hkt⟩ := min_of (K := K) (H := H') (a := D) (ls := toldOf ns n a b) ⟨ws', hD, pr'⟩
          refine ⟨D, ks, rfl, hks, fun x hx => sq (hkt x hx), fun e => ?_, fun x hx hm => ?_⟩
          · rw [e] at ek
            exact F.has (by simpa [toldOf] using ek)
          · rw [← ek] at hm
            exact q _ hm _ _ (s24.trans sm') (hkt _ hx)
    · exact ⟨x, rfl, x, false, rfl, hrow, fun c => (by cases c), fun _ H' s' => q H' s'⟩
    · refine ⟨.ref t, rfl, .ref t, true, rfl, row_ok ht hz2 hn, fun _ H1 s1 => ?_, fun c => by cases c⟩
      exact ⟨.ref t, rfl, t, ns.map V.int, rfl, s1 _ _ ht, fun c => by rw [List.length_map] at c; omega, fun _ d hd => q H1 s1 d hd⟩
end
end Kd

/-! The law's own defs: sums, steps. -/
namespace Kd
open PySem PySem.Spec PyProof.Rows L2 Kr RZ
/-! ### a walk over a list or a tuple -/
def iAny (K : PySem.W.Frag) (tl : TE) : TI := fun σ H R => tl σ H fun x H1 => ∃ a, x = .ref a ∧ (((∃ xs, SqL K H1 a xs) ∧ R (Itl K a) H1) ∨ ((∃ xs, SqT K H1 a xs) ∧ R (Itt K a) H1))
theorem pi_any {X : Cx} {tg l : Expr} {tl : TE} (hl : PE X l tl) : PI X tg l (iAny X.K tl) := by
  refine ⟨fun pins s σ H R I h => ?_⟩
  refine thn (hl.run pins s σ H _ I h) fun v s1 ⟨x, H1, I1, r1, q1⟩ => ?_
  obtain ⟨a, e, q⟩ := q1
  subst e
  cases r1
  rcases q with ⟨⟨xs, hq⟩, q⟩ | ⟨⟨xs, hq⟩, q⟩
  · obtain ⟨its, rv, p, hz⟩ := I1.list hq
    refine wpAny_pyIter_list p.isList ?_
    refine ⟨s1.heap.objs.size, [s1.heap.objs.size], _, _, H1, rfl, I1.kept (t' := s1.toks) fun b o e => Heap.get?_push_of_some _ e, turn_list a _, ⟨_, Heap.get?_push_size _ rfl, rfl, rfl⟩, fun b hb => ?_, q⟩
    have e : b = s1.heap.objs.size := by simpa using hb
    subst e
    exact I1.fpOk (Nat.le_refl _) (I1.hok.fresh (Nat.le_refl _))
  · obtain ⟨its, rv, p, hz⟩ := I1.tuple hq
    refine wpAny_pyIter_tuple (show s1.heap.IsTuple a its.toArray from p) ?_
    refine ⟨s1.heap.objs.size, [s1.heap.objs.size], _, _, H1, rfl, I1.kept (t' := s1.toks) fun b o e => Heap.get?_push_of_some _ e, turn_tuple a _, ⟨_, Heap.get?_push_size _ rfl, rfl, rfl⟩, fun b hb => ?_, q⟩
    have e : b = s1.heap.objs.size := by simpa using hb
    subst e
    exact I1.fpOk (Nat.le_refl _) (I1.hok.fresh (Nat.le_refl _))
def Sq (H : Hp) (a : Addr) (l : List Int) : Prop := H a = some (.lst (l.map V.int)) ∨ H a = some (.tup (l.map V.int))
theorem for_any {K : PySem.W.Frag} {a : Addr} {l : List Int} {g : TG} {tb : TS} {D : Ends} {σ : L2.St} {H : Hp} (ha : Sq H a l) (Pv : Nat → L2.St → Hp → Prop) (h0 : Pv 0 σ H) (keep : ∀ i σ H', Pv i σ H' → Same H H')
    (hs : ∀ i z σ H', l[i]? = some z → Pv i σ H' → g (.int z) σ H' fun σ2 H2 => tb { D with nx := Pv (i + 1), ct := Pv (i + 1), bk := D.nx } σ2 H2) (hd : ∀ σ H', Pv l.length σ H' → D.nx σ H') :
    ((∃ xs, SqL K H a xs) ∧ ∃ W : Nat → Nat → L2.St → Hp → Prop, (∃ m, W 0 m σ H) ∧ ∀ i m σ H, W i m σ H →
      ((Itl K a).stop i H ∧ D.nx σ H) ∨ ((Itl K a).go i H ∧ ∃ N : L2.St → Hp → Prop, (∀ σ' H', N σ' H' → ∃ m', m' < m ∧ W (i + 1) m' σ' H') ∧ ∀ x H', (Itl K a).yld i H x H' → g x σ H' fun σ2 H2 => tb { D with nx := N, ct := N, bk := D.nx } σ2 H2)) ∨
    ((∃ xs, SqT K H a xs) ∧ ∃ W : Nat → Nat → L2.St → Hp → Prop, (∃ m, W 0 m σ H) ∧ ∀ i m σ H, W i m σ H →
      ((Itt K a).stop i H ∧ D.nx σ H) ∨ ((Itt K a).go i H ∧ ∃ N : L2.St → Hp → Prop, (∀ σ' H', N σ' H' → ∃ m', m' < m ∧ W (i + 1) m' σ' H') ∧ ∀ x H', (Itt K a).yld i H x H' → g x σ H' fun σ2 H2 => tb { D with nx := N, ct := N, bk := D.nx } σ2 H2)) := by
  rcases ha with ha | ha
  · refine .inl ⟨⟨_, sl ha⟩, for_list (xs := l.map V.int) Pv h0 (fun i σ H' _ p => sl (keep i σ H' p _ _ ha)) (fun i x σ H' hx p => ?_) (fun σ H' p => hd σ H' (by rw [List.length_map] at p; exact p))⟩
    obtain ⟨z, hz, rfl⟩ := map_get hx
    exact hs i z σ H' hz p
  · refine .inr ⟨⟨_, sq ha⟩, for_tup (xs := l.map V.int) Pv h0 (fun i σ H' _ p => sq (keep i σ H' p _ _ ha)) (fun i x σ H' hx p => ?_) (fun σ H' p => hd σ H' (by rw [List.length_map] at p; exact p))⟩
    obtain ⟨z, hz, rfl⟩ := map_get hx
    exact hs i z σ H' hz p
/-! ### a walk over the keys of a dict -/
theorem for_keys {d : Addr} {o : Obj} {kvs : List (Key × V)} {g : TG} {tb : TS} {D : Ends} {σ : L2.St} {H : Hp} (Pv : Nat → L2.St → Hp → Prop) (h0 : Pv 0 σ H) (hl : ∀ i σ H, i ≤ kvs.length → Pv i σ H → H d = some (.frz o (.dK kvs)))
    (hs : ∀ i k v σ H, kvs[i]? = some (k, v) → Pv i σ H → g (kV k) σ H fun σ2 H2 => tb { D with nx := Pv (i + 1), ct := Pv (i + 1), bk := D.nx } σ2 H2) (hd : ∀ σ H, Pv kvs.length σ H → D.nx σ H) :
    ∃ W : Nat → Nat → L2.St → Hp → Prop, (∃ m, W 0 m σ H) ∧ ∀ i m σ H, W i m σ H →
      ((Itk d o kvs).stop i H ∧ D.nx σ H) ∨ ((Itk d o kvs).go i H ∧ ∃ N : L2.St → Hp → Prop, (∀ σ' H', N σ' H' → ∃ m', m' < m ∧ W (i + 1) m' σ' H') ∧ ∀ x H', (Itk d o kvs).yld i H x H' → g x σ H' fun σ2 H2 => tb { D with nx := N, ct := N, bk := D.nx } σ2 H2) := by
  refine ⟨fun i m σ H => m = kvs.length - i ∧ i ≤ kvs.length ∧ Pv i σ H, ⟨kvs.length, by simp, Nat.zero_le _, h0⟩, ?_⟩
  rintro i m σ H ⟨rfl, hi, p⟩
  have q := hl i σ H hi p
  by_cases hlt : i < kvs.length
  · refine .inr ⟨⟨q, hlt⟩, Pv (i + 1), fun σ' H' p' => ⟨kvs.length - (i + 1), by omega, rfl, hlt, p'⟩, fun x H' y => ?_⟩
    obtain ⟨rfl, k, v, e, rfl⟩ := y
    exact hs i k v σ _ e p
  · have e : i = kvs.length := by omega
    subst e
    exact .inl ⟨⟨q, Nat.le_refl _⟩, hd σ H p⟩
/-- the dict of ints, all True -/
def kd (zs : List Int) : List (Key × V) := zs.map fun z => ((Sum.inl z : Key), V.bl true)
def add (zs : List Int) (z : Int) : List Int := if z ∈ zs then zs else zs ++ [z]
theorem kd_put (zs : List Int) (z : Int) : putK (kd zs) (Sum.inl z) (V.bl true) = kd (add zs z) := by
  unfold putK kd add
  have e : ((zs.map fun z => ((Sum.inl z : Key), V.bl true)).any fun kv => decide (kv.1 = Sum.inl z)) = decide (z ∈ zs) := by
    rw [List.any_map]
    induction zs with
    | nil => simp
    | cons x r ih =>
      rw [List.any_cons, ih]
      by_cases h : x = z
      · subst h
        simp
      · have h' : ¬ z = x := fun q => h q.symm
        simp [h, h']
  rw [e]
  by_cases h : z ∈ zs
  · rw [if_pos (decide_eq_true h), if_pos h, List.map_map]
    refine List.map_congr_left fun y _ => ?_
    show (if (Sum.inl y : Key) = Sum.inl z then ((Sum.inl y : Key), V.bl true) else ((Sum.inl y : Key), V.bl true)) = _
    split <;> rfl
  · rw [if_neg (by simpa using h), if_neg h, List.map_append]
    rfl
theorem mem_add {zs : List Int} {z x : Int} : x ∈ add zs z ↔ x ∈ zs ∨ x = z := by
  unfold add
  by_cases h : z ∈ zs
  · rw [if_pos h]
    constructor
    · exact .inl
    · rintro (q | q)
      · exact q
      · rw [q]
        exact h
  · rw [if_neg h]
    simp
theorem add_nodup {zs : List Int} {z : Int} (h : zs.Nodup) : (add zs z).Nodup := by
  unfold add
  by_cases q : z ∈ zs
  · rw [if_pos q]
    exact h
  · rw [if_neg q, List.nodup_append]
    refine ⟨h, by simp, fun a ha b hb e => ?_⟩
    have hb' : b = z := by simpa using hb
    rw [e, hb'] at ha
    exact q ha
theorem add_len {zs : List Int} {z : Int} : (add zs z).length ≤ zs.length + 1 := by
  unfold add
  split
  · omega
  · rw [List.length_append]
    simp
theorem up_len {lo hi : Int} : ∀ {l : List Int}, l.Pairwise (· < ·) → (∀ x ∈ l, lo ≤ x ∧ x ≤ hi) → (l.length : Int) ≤ max 0 (hi - lo + 1) := by
  intro l
  induction l generalizing lo with
  | nil => intro _ _; simp; omega
  | cons x r ih =>
    intro hp hb
    have hx := hb x (by simp)
    have h1 := List.pairwise_cons.mp hp
    have := ih (lo := x + 1) h1.2 fun y hy => ⟨by have := h1.1 y hy; omega, (hb y (by simp [hy])).2⟩
    rw [List.length_cons]
    omega
theorem up_nodup {l : List Int} (h : l.Pairwise (· < ·)) : l.Nodup := h.imp fun {a b} q e => by omega
theorem sums_len {l : List Int} (hl : ∀ x ∈ l, 0 ≤ x) (hs : l.sum ≤ 12) : (Km.allSums l).length ≤ 25 := by
  have := up_len (lo := -12) (hi := 12) (Km.allSums_up (l := l)) fun x hx => by
    obtain ⟨p, hp, e⟩ := Km.mem_allSums.mp hx
    have h1 := Km.PS.le hl hp
    have h2 := Km.PS.ge hl hp
    omega
  omega
theorem mem_turn {f : List Int} {s x : Int} : x ∈ Km.turn f s ↔ ∃ t ∈ f, x = t + s ∨ x = t - s := by
  unfold Km.turn
  rw [Km.mem_norm, List.mem_append, List.mem_map, List.mem_map]
  constructor
  · rintro (⟨t, ht, e⟩ | ⟨t, ht, e⟩)
    · exact ⟨t, ht, .inl e.symm⟩
    · exact ⟨t, ht, .inr e.symm⟩
  · rintro ⟨t, ht, e | e⟩
    · exact .inl ⟨t, ht, e.symm⟩
    · exact .inr ⟨t, ht, e.symm⟩
/-- the lock is off -/
theorem unlock {H H' : Hp} {d : Addr} {u x : HO} (hd : H d = some u) (s : Same (upd H d x) H') : Same H (upd H' d u) := fun b v h => by
  by_cases e : b = d
  · rw [e, hd] at h
    rw [e, upd_same]
    exact h
  · rw [upd_ne e]
    exact s b v (by rw [upd_ne e]; exact h)
/-! ### _law_sums(steps) -/
abbrev sLSums : Stmt := topS 42
abbrev nLSums : List Str := ["_law_steps_here", "_law_found", "_law_step", "_law_later", "_law_total"]
theorem scLSums : FnScope nLSums ["_law_steps_here"] (defScope sLSums) := ⟨rfl, rfl, rfl, by decide +kernel, rfl, by decide +kernel, by decide +kernel⟩
def spLSums : Sp := fun vs H Q _ => ∃ (t : Addr) (l : List Int), vs = [.ref t] ∧ Sq H t l ∧ (∀ x ∈ l, 0 ≤ x) ∧ l.length ≤ 12 ∧ l.sum ≤ 12 ∧ RetT H Q (Km.allSums l)
section
variable {P : Program} {w : World} {K : PySem.W.Frag} {mg : Str → Option Value} {base : Heap}
theorem dLSums (A : Has K mg "_law_sums" sLSums) (B : Bi mg) : Df P w K mg base CX0 1 "_law_sums" spLSums := by
  refine df A scLSums (fun vs H Q E h => ?_) (fun _ _ _ _ _ _ us hl => match us, hl with | [_], _ => rfl) (fun f cdv A outer s H vs Q E hr h => ?_)
  · obtain ⟨t, l, rfl, _⟩ := h
    rfl
  · obtain ⟨t, l, rfl, ht, hnn, hlen, hsum, q⟩ := h
    refine ⟨_, pss_cons (ps_set (i := 1) scLSums.nd rfl (.inl rfl) (pe_disp (pps_cons pe_int pe_bl pps_nil) (by rfl) (by rfl) (fun z => by cases z) (by decide)))
      (pss_cons (ps_for PassesOwn.never rfl (pi_any (pv 0)) (pg_name (i := 2) scLSums.nd rfl (.inl rfl))
        (pss_cons (ps_set (i := 3) scLSums.nd rfl (.inl rfl) pe_dnewK)
        (pss_cons (ps_lock (ps_for PassesOwn.never rfl (pi_keys (pv 1)) (pg_name (i := 4) scLSums.nd rfl (.inl rfl))
          (pss_cons (ps_dput (hu_of hr) (pv 3) (pe_op op_add (pv 4) (pv 2)) pe_bl rfl) (pss_one (ps_dput (hu_of hr) (pv 3) (pe_op op_sub (pv 4) (pv 2)) pe_bl rfl)))))
        (pss_one (ps_set (i := 1) scLSums.nd rfl (.inl rfl) (pv 3))))))
      (pss_one (ps_ret (pe_callTy call_tuple_of (by rfl) B.tuple (by decide +kernel) (pa_cons (pe_callB (call_sortedDI rfl) (by rfl) B.sorted (by decide +kernel) (pa_cons (pv 1) pa_nil)) pa_nil))))), ?_⟩
    intro p0 n0
    refine ⟨upd_same, [(Sum.inl 0, .bl true)], rfl, by decide, ?_⟩
    rw [upd_upd]
    have s0 : Same H (upd H p0 (.dK (kd [0]))) := put0 n0
    have h0 : (upd H p0 (.dK (kd [0]))) p0 = some (.dK (kd [0])) := upd_same
    show tSeq _ _ _ [some (V.ref t), some (V.ref p0), none, none, none] (upd H p0 (.dK (kd [0])))
    generalize upd H p0 (.dK (kd [0])) = H0 at s0 h0
    have ht0 : Sq H0 t l := ht.imp (s0 _ _) (s0 _ _)
    refine ⟨.ref t, rfl, t, rfl, for_any ht0 (fun i σ H' => Same H0 H' ∧ ∃ p zs y2 y3 y4, σ = [some (.ref t), some (.ref p), y2, y3, y4] ∧ H' p = some (.dK (kd zs)) ∧ zs.Nodup ∧ zs.length ≤ 2 ^ i ∧ ∀ x, x ∈ zs ↔ x ∈ Km.allSums (l.take i))
      ⟨Same.refl _, p0, [0], none, none, none, rfl, h0, by simp, by simp, fun x => by simp [Km.allSums]⟩ (fun i σ H' p => p.1) ?_ ?_⟩
    · rintro i st σ H1 hst ⟨sm, p, zs, y2, y3, y4, rfl, hp, hnd, hzl, hmem⟩
      have hi : i < l.length := (List.getElem?_eq_some_iff.mp hst).1
      have hz12 : zs.length ≤ 4096 := Nat.le_trans hzl (Nat.le_trans (Nat.pow_le_pow_right (by decide) (show i ≤ 12 by omega)) (by decide))
      intro L nL
      have hp1 := put0 (o := .dK []) nL _ _ hp
      have pL : p ≠ L := ne_of_none hp nL
      have sL : Same H1 (upd H1 L (.dK [])) := put0 nL
      refine ⟨p, .dK (kd zs), hp1, trivial, fun od => ?_⟩
      refine ⟨.ref p, rfl, p, od, rfl, .inl ⟨kd zs, upd_same, for_keys (fun j σ H' => Same (upd H1 p (.frz od (.dK (kd zs)))) H' ∧ ∃ ms y4, σ = [some (.ref t), some (.ref p), some (.int st), some (.ref L), y4] ∧ H' L = some (.dK (kd ms)) ∧ ms.Nodup ∧ ms.length ≤ 2 * j ∧ ∀ x, x ∈ ms ↔ ∃ z ∈ zs.take j, x = z + st ∨ x = z - st)
        ⟨fun b o e => ?_, [], y4, rfl, by rw [upd_ne (Ne.symm pL), upd_same]; rfl, by simp, by simp, fun x => by simp⟩ (fun j σ H' _ p => p.1 _ _ upd_same) ?_ ?_⟩⟩
      · by_cases e1 : b = p
        · rw [e1, upd_same] at e
          rw [e1, upd_same]
          exact e
        · rw [upd_ne e1] at e
          rw [upd_ne e1]
          exact sL _ _ e
      · rintro j k v σ H' hk ⟨s1, ms, y4, rfl, hL, hnm, hml, hmm⟩
        have hj : j < zs.length := by
          have := (List.getElem?_eq_some_iff.mp hk).1
          rw [kd, List.length_map] at this
          exact this
        obtain ⟨z, hz, rfl⟩ : ∃ z, zs[j]? = some z ∧ k = Sum.inl z := by
          rw [kd, List.getElem?_map, List.getElem?_eq_getElem hj] at hk
          exact ⟨_, List.getElem?_eq_getElem hj, (congrArg Prod.fst (Option.some.inj hk)).symm⟩
        have nLp : (upd H1 p (.frz od (.dK (kd zs)))) L = none := by rw [upd_ne (Ne.symm pL)]; exact nL
        refine ⟨.ref L, rfl, .int z, rfl, .int st, rfl, z, st, rfl, rfl, L, _, rfl, DPut.k (k := Sum.inl (z + st)) hL (by rw [kd, List.length_map]; exact Nat.lt_of_le_of_lt (show _ ≤ 10000 by omega) (by decide)), ?_⟩
        rw [kd_put]
        refine ⟨.ref L, rfl, .int z, rfl, .int st, rfl, z, st, rfl, rfl, L, _, rfl, DPut.k (k := Sum.inl (z - st)) upd_same (by rw [kd, List.length_map]; exact Nat.lt_of_le_of_lt (Nat.le_trans add_len (show _ ≤ 10001 by omega)) (by decide)), ?_⟩
        rw [kd_put, upd_upd]
        refine ⟨put1 s1 nLp, _, _, rfl, upd_same, add_nodup (add_nodup hnm), ?_, fun x => ?_⟩
        · have h1 := add_len (zs := ms) (z := z + st)
          have h2 := add_len (zs := add ms (z + st)) (z := z - st)
          omega
        · rw [mem_add, mem_add, hmm, take_snoc hz]
          constructor
          · rintro ((⟨a, ha, e⟩ | e) | e)
            · exact ⟨a, by simp [ha], e⟩
            · exact ⟨z, by simp, .inl e⟩
            · exact ⟨z, by simp, .inr e⟩
          · rintro ⟨a, ha, e⟩
            rcases List.mem_append.mp ha with ha | ha
            · exact .inl (.inl ⟨a, ha, e⟩)
            · have ha' : a = z := by simpa using ha
              subst ha'
              rcases e with e | e
              · exact .inl (.inr e)
              · exact .inr e
      · rintro σ H' ⟨s1, ms, y4', rfl, hL, hnm, hml, hmm⟩
        refine ⟨s1 _ _ upd_same, .ref L, rfl, sm.trans (unlock hp s1), L, ms, _, _, _, rfl, by rw [upd_ne (Ne.symm pL)]; exact hL, hnm, ?_, fun x => ?_⟩
        · rw [kd, List.length_map] at hml
          rw [Nat.pow_succ]
          omega
        · rw [kd, List.length_map, List.take_length] at hmm
          rw [hmm, take_snoc hst, allSums_snoc, mem_turn]
          constructor
          · rintro ⟨a, ha, e⟩
            exact ⟨a, (hmem a).mp ha, e⟩
          · rintro ⟨a, ha, e⟩
            exact ⟨a, (hmem a).mpr ha, e⟩
    · rintro σ H1 ⟨sm, p, zs, y2, y3, y4, rfl, hp, hnd, hzl, hmem⟩
      rw [List.take_length] at hmem
      have pm : zs.Perm (Km.allSums l) := (List.perm_ext_iff_of_nodup hnd (up_nodup Km.allSums_up)).mpr hmem
      refine ⟨.ref p, rfl, p, kd zs, zs, rfl, .of hp, by rw [kd, List.map_map]; rfl, by have := sums_len hnn hsum; rw [pm.length_eq]; omega, fun ys r hys hup hr2 => ?_⟩
      refine ⟨r, ys.map V.int, rfl, .inl ⟨sl upd_same, fun r2 nr2 => ?_⟩⟩
      have ey : ys = Km.allSums l := by
        refine List.Perm.eq_of_pairwise (le := fun a b => a ≤ b) (fun a b _ _ h1 h2 => Int.le_antisymm h1 h2) hup (Km.allSums_up.imp fun h => Int.le_of_lt h) (hys.trans pm)
      subst ey
      exact q _ r2 (put (put (s0.trans sm) hr2) nr2) upd_same
end
/-! ### _law_steps(folds) -/
abbrev sLSteps : Stmt := topS 43
theorem scLSteps : FnScope ["_law_folds_here", "_law_one", "_law_other"] ["_law_folds_here"] (defScope sLSteps) := ⟨rfl, rfl, rfl, by decide +kernel, rfl, by decide +kernel, by decide +kernel⟩
def spLSteps : Sp := fun vs H Q _ => ∃ (t : Addr) (ns : List Int), vs = [.ref t] ∧ Tup H t ns ∧ ns ≠ [] ∧ ns.length ≤ 1000 ∧ RetI H Q (Km.stepsOf ns)
section
variable {P : Program} {w : World} {K : PySem.W.Frag} {mg : Str → Option Value} {base : Heap}
theorem dLSteps (A : Has K mg "_law_steps" sLSteps) (B : Bi mg) : Df P w K mg base CX0 1 "_law_steps" spLSteps := by
  refine df A scLSteps (fun vs H Q E h => ?_) (fun _ _ _ _ _ _ us hl => match us, hl with | [_], _ => rfl) (fun f cdv A outer s H vs Q E hr h => ?_)
  · obtain ⟨t, ns, rfl, _⟩ := h
    rfl
  · obtain ⟨t, ns, rfl, ht, hne, hz, q⟩ := h
    refine ⟨_, pss_one (ps_ret (pe_lc (own := [("_law_one", 1), ("_law_other", 2)]) (g := gTup K 2 (gCons (gName 1) (gCons (gName 2) gNil))) (tt := tYes) rfl scLSteps.nd (pi_zipA (by rfl) B.zip (pa_cons (pv 0) (pa_cons (pe_slice sl_tupA (pv 0) (po_some pe_int) po_none) pa_nil)))
        (blkOk_by (N := ["_law_folds_here", "_law_one", "_law_other"]) (sc := defScope sLSteps) (by decide +kernel)) (fun _ _ _ _ _ => pg_tup rfl (pgs_cons (pg_name (i := 1) scLSteps.nd rfl (.inl rfl)) (pgs_cons (pg_name (i := 2) scLSteps.nd rfl (.inl rfl)) pgs_nil)))
        (fun _ _ _ _ _ => pts_nil) (fun _ _ _ _ _ => pe_callB call_abs (by rfl) B.abs (by decide +kernel) (pa_cons (pe_op op_sub (pv 1) (pv 2)) pa_nil)))), ?_⟩
    refine ⟨.ref t, rfl, .ref t, rfl, 1, rfl, t, ns.map V.int, rfl, sq ht, fun c => ?_, fun _ c nc => ?_⟩
    · exfalso
      have := c.1
      rw [show HT.sIx (ns.map V.int).length 0 (some 1) = min 1 (ns.map V.int).length from HT.sIx_nat _ 0 1, List.length_map] at this
      have := List.length_pos_iff.mpr hne
      omega
    · have hc : (upd H c (.tup (cutV (ns.map V.int) (some 1) none))) c = some (.tup ((ns.drop 1).map V.int)) := by rw [upd_same, cut1, List.map_drop]
      refine ⟨t, c, ns.map V.int, (ns.drop 1).map V.int, rfl, .inr ⟨sq (put0 nc _ _ ht), sq hc, fun D nD => ?_⟩⟩
      refine lcZ (ns := ns) (ms := ns.drop 1) (i := 1) (j := 2) (sq (put0 nc _ _ ht)) (sq hc) nD hz (by decide) (fun x y => V.int (Km.iabs (x - y))) (fun x y H' R hR => ?_) fun H' sm hD => ?_
      · exact ⟨.int x, rfl, .int y, rfl, x, y, rfl, rfl, x - y, rfl, hR⟩
      · rw [zip_steps] at hD
        exact q H' D ((put0 nc).trans sm) hD
end
end Kd

/-! The law's own defs: parts of a total, all rows. -/
namespace Kd
open PySem PySem.Spec PyProof.Rows L2 Kr RZ
/-- a def that is never asked anything -/
theorem dBot {P : Program} {w : World} {K : PySem.W.Frag} {mg : Str → Option Value} {base : Heap} {CX : CXT} {x : Str} {st : Stmt} {ps : List Str} (A : Has K mg x st)
    (hb : ∀ (kV doc pm : Value) (an : Option Addr) (cdv ct : Value) (us : List Value), us.length = ps.length → bindArgs (PySem.W.fnOf x x (defArgs st) (defBody st) (defScope st) .none kV doc pm an cdv ct) ⟨us, []⟩ = pure (ps.zip us)) :
    Df P w K mg base CX 0 x (fun _ _ _ _ => False) := by
  obtain ⟨f, fd, F, g⟩ := A
  exact ⟨f, fd, ps, ⟨fun _ _ _ _ h => h.elim, fun _ _ _ _ _ _ _ _ _ _ _ _ _ h => h.elim⟩, g, F.kp, F.binds hb⟩
/-! ### _law_parts(total, least, most) -/
abbrev sParts : Stmt := topS 41
abbrev nParts : List Str := ["_law_total", "_law_least", "_law_most", "_law_found", "_law_first", "_law_some_here"]
theorem scParts : FnScope nParts ["_law_total", "_law_least", "_law_most"] (defScope sParts) := ⟨rfl, rfl, rfl, by decide +kernel, rfl, by decide +kernel, by decide +kernel⟩
def spParts (n : Nat) : Sp := fun vs H Q _ => ∃ total least : Int, vs = [.int total, .int least, .int (n : Int)] ∧ 0 ≤ total ∧ total ≤ 12 ∧ 1 ≤ least ∧ least ≤ 1000 ∧ RetL H Q (Km.partsOf n total least)
theorem pow12 {t : Int} (h : t ≤ 12) : 2 ^ t.toNat ≤ 4096 := Nat.le_trans (Nat.pow_le_pow_right (by decide) (show t.toNat ≤ 12 by omega)) (by decide)
section
variable {P : Program} {w : World} {K : PySem.W.Frag} {mg : Str → Option Value} {base : Heap}
theorem stepParts (A : Has K mg "_law_parts" sParts) (B : Bi mg) {n k : Nat} {sp' : Sp} (hn : n ≤ 7) (R : Df P w K mg base CX0 k "_law_parts" sp') (hR : ∀ m, n = m + 1 → ∀ vs H Q E, spParts m vs H Q E → sp' vs H Q E) :
    Df P w K mg base CX0 (k + 1) "_law_parts" (spParts n) := by
  refine df A scParts (fun vs H Q E h => ?_) (fun _ _ _ _ _ _ us hl => match us, hl with | [_, _, _], _ => rfl) (fun f cdv A outer s H vs Q E hr h => ?_)
  · obtain ⟨total, least, rfl, _⟩ := h
    rfl
  · obtain ⟨total, least, rfl, ht0, ht, hl1, hl2, q⟩ := h
    refine ⟨_, pss_cons (ps_if (pt_cmpR op_eq (pv 0) pe_int (nomark _)) (pss_one (ps_ret (pe_lst (pa_cons (pe_tup pa_nil) pa_nil)))) pss_nil)
      (pss_cons (ps_set (i := 3) scParts.nd rfl (.inl rfl) (pe_lst pa_nil))
      (pss_cons (ps_for PassesOwn.never rfl (pi_range2 rfl B.range (pa_cons (pv 1) (pa_cons (pe_ifExp (pt_cmpR op_gt (pv 2) pe_int (nomark _)) (pe_op op_add (pv 0) pe_int) pe_int) pa_nil))) (pg_name (i := 4) scParts.nd rfl (.inr rfl))
        (pss_one (ps_set (i := 3) scParts.nd rfl (.inl rfl) (pe_op op_cat (pv 3)
          (pe_lc (own := [("_law_some_here", 5)]) (g := gName 5) (tt := tYes) rfl scParts.nd (pi_list (cl (hk := Nat.le_refl _) R hr (pa_cons (pe_op op_sub (pv 0) (pv 4)) (pa_cons (pv 4) (pa_cons (pe_op op_sub (pv 2) pe_int) pa_nil)))))
            (blkOk_by (N := nParts) (sc := defScope sParts) (by decide +kernel)) (fun _ _ _ _ _ => pg_name (i := 5) scParts.nd rfl (.inl rfl)) (fun _ _ _ _ _ => pts_nil)
            (fun _ _ _ _ _ => pe_op (r := rCatA K) op_catA (pe_tup (pa_cons (pv 4) pa_nil)) (pv 5)))))))
      (pss_one (ps_ret (pv 3))))), ?_⟩
    refine ⟨.int total, rfl, rfl, _, rfl, ifD (fun c => ?_) (fun c => ?_)⟩
    · have c' : total = 0 := V.int.inj c
      subst c'
      refine ⟨by decide, fun p1 n1 => ⟨(by show 1 ≤ sizeLine; decide), fun p2 n2 => q _ p2 (put (put0 n1) n2) ?_⟩⟩
      rw [Km.partsOf_zero]
      exact ⟨_, upd_same, .cons ⟨p1, rfl, put0 n2 _ _ upd_same⟩ .nil⟩
    have tn : total ≠ 0 := fun e => c (by rw [e])
    refine ⟨Nat.zero_le _, fun p1 n1 => ?_⟩
    have s1 : Same H (upd H p1 (.lst [])) := put0 n1
    refine ⟨.int least, rfl, .int n, rfl, n, 0, rfl, rfl, _, rfl, ifD (fun c2 => ?_) (fun c2 => ?_)⟩
    · obtain ⟨m, rfl⟩ : ∃ m, n = m + 1 := ⟨n - 1, by have : (0 : Int) < (n : Int) := c2; omega⟩
      refine ⟨.int total, rfl, total, 1, rfl, rfl, least, total + 1, rfl, ⟨by omega, by omega, by omega, by omega⟩, ?_⟩
      have tot : ((List.range (total + 1 - least).toNat).flatMap fun (i : Nat) => (Km.partsOf m (total - (least + (i : Int))) (least + (i : Int))).map fun r => (least + (i : Int)) :: r).length ≤ 4096 := by
        rw [← Km.partsOf_succ tn]
        exact Nat.le_trans (Km.parts_len hl1 ht0) (pow12 ht)
      refine for_range (n := (total + 1 - least).toNat) (fun i σ H' => Same H H' ∧ ∃ p y4 y5, σ = [some (.int total), some (.int least), some (.int ((m + 1 : Nat) : Int)), some (.ref p), y4, y5] ∧
        LT H' p (((List.range (total + 1 - least).toNat).take i).flatMap fun (i : Nat) => (Km.partsOf m (total - (least + (i : Int))) (least + (i : Int))).map fun r => (least + (i : Int)) :: r)) ⟨s1, p1, none, none, rfl, [], upd_same, .nil⟩ ?_ ?_
      · rintro i σ H1 hi ⟨sm, p, y4, y5, rfl, hp⟩
        refine ⟨.ref p, rfl, .int total, rfl, .int (least + (i : Int)), rfl, total, least + (i : Int), rfl, rfl, .int (least + (i : Int)), rfl, .int ((m + 1 : Nat) : Int), rfl, ((m + 1 : Nat) : Int), 1, rfl, rfl, ?_⟩
        refine hR m rfl _ _ _ _ ⟨total - (least + (i : Int)), least + (i : Int), ?_, by omega, by omega, by omega, by omega, fun H2 p2 s2 h2 => ?_⟩
        · show [V.int (total - (least + (i : Int))), V.int (least + (i : Int)), V.int (((m + 1 : Nat) : Int) - 1)] = _
          rw [show ((m + 1 : Nat) : Int) - 1 = (m : Int) by omega]
        · obtain ⟨ws, hw, pr⟩ := h2
          have hz2 : (Km.partsOf m (total - (least + (i : Int))) (least + (i : Int))).length ≤ 4096 := Nat.le_trans (Km.parts_len (by omega) (by omega)) (pow12 (by omega))
          refine ⟨p2, rfl, ⟨_, sl hw⟩, fun D nD => ?_⟩
          refine lcGL (zs := Km.partsOf m (total - (least + (i : Int))) (least + (i : Int))) (F := TV) TV.keep (fun _ => true) (fun r => (least + (i : Int)) :: r) (sl hw) nD (by rw [pr.length]; exact Nat.le_trans hz2 (by decide)) pr.length ?_ ?_
          · intro j x z H3 acc N hx hz s3 hD hacc hy _
            obtain ⟨pz, rfl, hpz⟩ := paired_at pr hx hz
            have gz := (Km.parts_iff (by omega)).mp (List.mem_of_getElem? hz)
            refine ⟨rfl, ?_⟩
            simp only [tYes, if_true]
            refine ⟨.int (least + (i : Int)), rfl, (by show 1 ≤ sizeLine; decide), fun p5 n5 => ⟨.ref pz, rfl, ?_⟩⟩
            refine cat_ints (xs := [least + (i : Int)]) upd_same (put0 n5 _ _ (s3 _ _ hpz)) (by have := gz.1; show 1 + z.length ≤ 1000; omega) fun p6 H6 s6 h6 => ?_
            have s56 := (put0 (o := .tup [.int (least + (i : Int))]) n5).trans s6
            exact ⟨acc, s56 _ _ hD, hacc, hy rfl _ _ s56 ⟨p6, rfl, hide_tup (s56 _ _ hD) h6⟩⟩
          · intro H3 ws3 s3 hD pr3
            rw [List.filter_eq_self.mpr (by simp)] at pr3
            obtain ⟨w1, e1, q1⟩ := hp.keep (s2.trans s3)
            have tk := Nat.le_trans (flat_take (fun (i : Nat) => (Km.partsOf m (total - (least + (i : Int))) (least + (i : Int))).map fun r => (least + (i : Int)) :: r) (List.range (total + 1 - least).toNat) (i + 1)) tot
            rw [flat_snoc _ (range_get hi), List.length_append] at tk
            refine ⟨p, D, w1, ws3, rfl, rfl, e1, hD, ?_, fun p8 n8 => ⟨put (sm.trans (s2.trans s3)) n8, p8, _, _, rfl, ?_⟩⟩
            · rw [q1.length, pr3.length]
              exact Nat.le_trans tk (by decide)
            · rw [flat_snoc _ (range_get hi)]
              exact LT.cat (put0 n8) e1 q1 hD pr3 upd_same
      · rintro σ H1 ⟨sm, p, y4, y5, rfl, hp⟩
        rw [List.take_of_length_le (by rw [List.length_range]; exact Nat.le_refl _), ← Km.partsOf_succ tn] at hp
        exact ⟨.ref p, rfl, q _ p sm hp⟩
    · have n0 : n = 0 := by
        have : ¬ (0 : Int) < (n : Int) := c2
        omega
      subst n0
      refine ⟨least, 0, rfl, ⟨by omega, by omega, by omega, by omega⟩, for_range (n := (0 - least).toNat) (fun i σ H' => Same H H' ∧ ∃ p y4 y5, σ = [some (.int total), some (.int least), some (.int ((0 : Nat) : Int)), some (.ref p), y4, y5] ∧ LT H' p []) ⟨s1, p1, none, none, rfl, [], upd_same, .nil⟩ (fun i σ H1 hi _ => ?_) ?_⟩
      · exfalso
        omega
      · rintro σ H1 ⟨sm, p, y4, y5, rfl, hp⟩
        refine ⟨.ref p, rfl, q _ p sm ?_⟩
        rw [Km.partsOf_none tn]
        exact hp
theorem dParts (A : Has K mg "_law_parts" sParts) (B : Bi mg) : ∀ n : Nat, n ≤ 7 → Df P w K mg base CX0 (n + 1) "_law_parts" (spParts n)
  | 0, h => stepParts A B h (dBot (ps := ["_law_total", "_law_least", "_law_most"]) A fun _ _ _ _ _ _ us hl => match us, hl with | [_, _, _], _ => rfl) fun m e => by omega
  | n + 1, h => stepParts A B h (dParts A B n (by omega)) fun m e _ _ _ _ h => by
    obtain rfl : n = m := by omega
    exact h
end
/-! ### _law_rows(first, last, steps) -/
abbrev sRows : Stmt := topS 45
abbrev nRows : List Str := ["_law_first", "_law_last", "_law_steps_here", "_law_found", "_law_at", "_law_step", "_law_rest", "_law_there", "_law_row"]
theorem scRows : FnScope nRows ["_law_first", "_law_last", "_law_steps_here"] (defScope sRows) := ⟨rfl, rfl, rfl, by decide +kernel, rfl, by decide +kernel, by decide +kernel⟩
def spRows (n : Nat) : Sp := fun vs H Q _ => ∃ (a b : Int) (t : Addr) (ss : List Int), vs = [.int a, .int b, .ref t] ∧ Tup H t ss ∧ ss.length = n ∧ (∀ x ∈ ss, 0 ≤ x) ∧ RetL H Q (Km.rowsOf n a b ss)
def spRowsTo (N : Nat) : Sp := fun vs H Q E => ∃ n, n ≤ N ∧ spRows n vs H Q E
/-- the rows that start by the step at k -/
def rowsAt (m : Nat) (a b : Int) (ss : List Int) (k : Nat) : List (List Int) := if ss.getD k 0 ∈ ss.take k then [] else
  (Km.rowsOf m (a - ss.getD k 0) b (ss.take k ++ ss.drop (k + 1))).map (a :: ·) ++ (Km.rowsOf m (a + ss.getD k 0) b (ss.take k ++ ss.drop (k + 1))).map (a :: ·)
theorem rows_flat {m : Nat} {a b : Int} {ss : List Int} (h : ss ≠ []) : Km.rowsOf (m + 1) a b ss = (List.range ss.length).flatMap (rowsAt m a b ss) := Km.rowsOf_cons h
theorem fact2_7 {n : Nat} (h : n ≤ 7) : Km.fact2 n ≤ 645120 := Nat.le_trans (Km.fact2_mono h) (by decide)
section
variable {P : Program} {w : World} {K : PySem.W.Frag} {mg : Str → Option Value} {base : Heap}
theorem stepRows (A : Has K mg "_law_rows" sRows) (B : Bi mg) {N k : Nat} {sp' : Sp} (hN : N ≤ 7) (R : Df P w K mg base CX0 k "_law_rows" sp') (hR : ∀ m, m + 1 ≤ N → ∀ vs H Q E, spRows m vs H Q E → sp' vs H Q E) :
    Df P w K mg base CX0 (k + 1) "_law_rows" (spRowsTo N) := by
  refine df A scRows (fun vs H Q E h => ?_) (fun _ _ _ _ _ _ us hl => match us, hl with | [_, _, _], _ => rfl) (fun f cdv A outer s H vs Q E hr h => ?_)
  · obtain ⟨n, _, a, b, t, ss, rfl, _⟩ := h
    rfl
  · obtain ⟨n, hnN, a, b, t, ss, rfl, ht, hlen, hnn, q⟩ := h
    have hn : n ≤ 7 := by omega
    refine ⟨_, pss_cons (ps_if (pt_cmpR (op_eqD hr.units) (pv 2) (pe_tup pa_nil) (nomark _)) (pss_one (ps_ret (pe_ifExp (pt_cmpR op_eq (pv 0) (pv 1) (nomark _)) (pe_lst (pa_cons (pe_tup (pa_cons (pv 0) pa_nil)) pa_nil)) (pe_lst pa_nil)))) pss_nil)
      (pss_cons (ps_set (i := 3) scRows.nd rfl (.inl rfl) (pe_lst pa_nil))
      (pss_cons (ps_for PassesOwn.never rfl (pi_enumT (by rfl) B.enumerate (pa_cons (pv 2) pa_nil)) (pg_tup rfl (pgs_cons (pg_name (i := 4) scRows.nd rfl (.inl rfl)) (pgs_cons (pg_name (i := 5) scRows.nd rfl (.inl rfl)) pgs_nil)))
        (pss_one (ps_if (pt_cmpR (r := rIn K true) op_notIn_seq (pv 5) (pe_slice sl_tupA (pv 2) po_none (po_some (pv 4))) rfl)
          (pss_cons (ps_set (i := 6) scRows.nd rfl (.inl rfl) (pe_op op_catA (pe_slice sl_tupA (pv 2) po_none (po_some (pv 4))) (pe_slice sl_tupA (pv 2) (po_some (pe_op op_add (pv 4) pe_int)) po_none)))
          (pss_one (ps_for PassesOwn.never rfl (pi_tup (pe_tup (pa_cons (pe_op op_sub (pv 0) (pv 5)) (pa_cons (pe_op op_add (pv 0) (pv 5)) pa_nil)))) (pg_name (i := 7) scRows.nd rfl (.inl rfl))
            (pss_one (ps_set (i := 3) scRows.nd rfl (.inl rfl) (pe_op op_cat (pv 3)
              (pe_lc (own := [("_law_row", 8)]) (g := gName 8) (tt := tYes) rfl scRows.nd (pi_list (cl (hk := Nat.le_refl _) R hr (pa_cons (pv 7) (pa_cons (pv 1) (pa_cons (pv 6) pa_nil)))))
                (blkOk_by (N := nRows) (sc := defScope sRows) (by decide +kernel)) (fun _ _ _ _ _ => pg_name (i := 8) scRows.nd rfl (.inl rfl)) (fun _ _ _ _ _ => pts_nil)
                (fun _ _ _ _ _ => pe_op (r := rCatA K) op_catA (pe_tup (pa_cons (pv 0) pa_nil)) (pv 8)))))))))
          pss_nil)))
      (pss_one (ps_ret (pv 3))))), ?_⟩
    refine ⟨.ref t, rfl, by decide, fun p1 n1 => ⟨dT ss, dT [], dp_tup (put0 n1 _ _ ht), dp_tup (ns := []) upd_same, dT_shaped _, dT_shaped _, _, rfl, ?_⟩⟩
    rw [dT_eqv]
    have s1 : Same H (upd H p1 (.tup [])) := put0 n1
    refine ifD (fun c => ?_) (fun c => ?_)
    · subst c
      rw [Km.rowsOf_nil] at q
      refine ⟨.int a, rfl, .int b, rfl, rfl, _, rfl, ifD (fun c2 => ?_) (fun c2 => ?_)⟩
      · have c2' : a = b := V.int.inj c2
        rw [if_pos c2'] at q
        refine ⟨.int a, rfl, (by show 1 ≤ sizeLine; decide), fun p2 n2 => ⟨(by show 1 ≤ sizeLine; decide), fun p3 n3 => q _ p3 (put (put s1 n2) n3) ?_⟩⟩
        exact ⟨_, upd_same, .cons ⟨p2, rfl, put0 n3 _ _ upd_same⟩ .nil⟩
      · have c2' : ¬ a = b := fun e => c2 (by rw [e])
        rw [if_neg c2'] at q
        exact ⟨Nat.zero_le _, fun p2 n2 => q _ p2 (put s1 n2) ⟨[], upd_same, .nil⟩⟩
    obtain ⟨m, rfl⟩ : ∃ m, n = m + 1 := ⟨n - 1, by have := List.length_pos_iff.mpr c; omega⟩
    rw [rows_flat c] at q
    have tot : ((List.range ss.length).flatMap (rowsAt m a b ss)).length ≤ 645120 := by
      rw [← rows_flat c]
      exact Nat.le_trans (Km.rows_len hlen) (fact2_7 hn)
    refine ⟨Nat.zero_le _, fun p2 n2 => ?_⟩
    have s2 : Same H (upd (upd H p1 (.tup [])) p2 (.lst [])) := put s1 n2
    refine ⟨.ref t, rfl, t, ss.map V.int, rfl, sq (s2 _ _ ht), for_enumT (xs := ss.map V.int) (fun i σ H' => Same H H' ∧ ∃ p y4 y5 y6 y7 y8, σ = [some (.int a), some (.int b), some (.ref t), some (.ref p), y4, y5, y6, y7, y8] ∧
      LT H' p (((List.range ss.length).take i).flatMap (rowsAt m a b ss))) ⟨s2, p2, none, none, none, none, none, rfl, [], upd_same, .nil⟩ (fun i σ H' _ ⟨sm', _⟩ => sq (sm' _ _ ht)) ?_ ?_⟩
    · rintro i x σ H4 T hx ⟨s4, p, y4, y5, y6, y7, y8, rfl, hp⟩ nT
      obtain ⟨st, hst, rfl⟩ := map_get hx
      have hi : i < ss.length := (List.getElem?_eq_some_iff.mp hst).1
      have est : ss.getD i 0 = st := by rw [List.getD_eq_getElem?_getD, hst]; rfl
      have s5 : Same H (upd H4 T (.tup [.int (i : Nat), .int st])) := put s4 nT
      have hp5 := hp.keep (put0 (o := .tup [.int (i : Nat), .int st]) nT)
      refine ⟨T, _, rfl, sq upd_same, rfl, _, _, rfl, _, _, rfl, rfl, ?_⟩
      generalize upd H4 T (.tup [.int (i : Nat), .int st]) = H5 at s5 hp5
      refine ⟨.int st, rfl, .ref t, rfl, .int i, rfl, i, rfl, cut_lo (s5 _ _ ht) hi fun p6 H6 s6 h6 => ?_⟩
      refine ⟨p6, _, rfl, .inr (sq h6), rfl, flat_ints _, _, rfl, ?_⟩
      rw [inV_ints]
      have tk := Nat.le_trans (flat_take (rowsAt m a b ss) (List.range ss.length) (i + 1)) tot
      rw [flat_snoc _ (range_get hi), List.length_append] at tk
      refine ifN (fun c3 => ?_) (fun c3 => ?_)
      · have eR : rowsAt m a b ss i = (Km.rowsOf m (a - st) b (ss.take i ++ ss.drop (i + 1))).map (a :: ·) ++ (Km.rowsOf m (a + st) b (ss.take i ++ ss.drop (i + 1))).map (a :: ·) := by
          unfold rowsAt
          rw [est, if_neg c3]
        refine ⟨.ref t, rfl, .int i, rfl, i, rfl, cut_lo (s6 _ _ (s5 _ _ ht)) hi fun p7 H7 s7 h7 => ?_⟩
        refine ⟨.ref t, rfl, .int i, rfl, i, 1, rfl, rfl, (i : Int) + 1, rfl, cut_hi (s7 _ _ (s6 _ _ (s5 _ _ ht))) hi fun p8 H8 s8 h8 => ?_⟩
        refine cat_ints (s8 _ _ h7) h8 (by rw [List.length_take, List.length_drop]; omega) fun p9 H9 s9 h9 => ?_
        have cl := Km.cut_len hi
        have s59 := s6.trans (s7.trans (s8.trans s9))
        refine ⟨.int a, rfl, .int st, rfl, a, st, rfl, rfl, .int a, rfl, .int st, rfl, a, st, rfl, rfl, (by show 2 ≤ sizeLine; decide), fun pA nA => ?_⟩
        have sA := put0 (o := .tup [.int (a - st), .int (a + st)]) nA
        refine ⟨pA, rfl, ⟨_, sq upd_same⟩, for_tup (xs := [a - st, a + st].map V.int) (fun j σ H' => Same (upd H9 pA (.tup [.int (a - st), .int (a + st)])) H' ∧ ∃ p z7 z8, σ = [some (.int a), some (.int b), some (.ref t), some (.ref p), some (.int i), some (.int st), some (.ref p9), z7, z8] ∧
          LT H' p ((((List.range ss.length).take i).flatMap (rowsAt m a b ss)) ++ (([a - st, a + st].take j).flatMap fun th => (Km.rowsOf m th b (ss.take i ++ ss.drop (i + 1))).map (a :: ·))))
          ⟨Same.refl _, p, y7, y8, rfl, by simpa using hp5.keep (s59.trans sA)⟩ (fun j σ H' _ ⟨sm', _⟩ => sq (sm' _ _ upd_same)) ?_ ?_⟩
        · rintro j x σ H' hx ⟨sB, pp, z7, z8, rfl, hpp⟩
          obtain ⟨th, hth, rfl⟩ := map_get hx
          have h9' := sB _ _ (sA _ _ h9)
          refine ⟨.ref pp, rfl, .int th, rfl, .int b, rfl, .ref p9, rfl, hR m hnN _ _ _ _ ⟨th, b, p9, _, rfl, h9', by omega, fun x hx => hnn x (Km.cut_mem hx), fun HC pC sC hC => ?_⟩⟩
          obtain ⟨ws, hw, pr⟩ := hC
          have hz2 : (Km.rowsOf m th b (ss.take i ++ ss.drop (i + 1))).length ≤ 645120 := Nat.le_trans (Km.rows_len (by omega)) (fact2_7 (by omega))
          refine ⟨pC, rfl, ⟨_, sl hw⟩, fun D nD => ?_⟩
          refine lcGL (zs := Km.rowsOf m th b (ss.take i ++ ss.drop (i + 1))) (F := TV) TV.keep (fun _ => true) (a :: ·) (sl hw) nD (by rw [pr.length]; exact Nat.le_trans hz2 (by decide)) pr.length ?_ ?_
          · intro jj x z HD acc N hx hz sD hD hacc hy _
            obtain ⟨pz, rfl, hpz⟩ := paired_at pr hx hz
            have gz := (Km.row_is (show (ss.take i ++ ss.drop (i + 1)).length = m by omega) (fun x hx => hnn x (Km.cut_mem hx)) (List.mem_of_getElem? hz)).2.1
            refine ⟨rfl, ?_⟩
            simp only [tYes, if_true]
            refine ⟨.int a, rfl, (by show 1 ≤ sizeLine; decide), fun pE nE => ⟨.ref pz, rfl, ?_⟩⟩
            refine cat_ints (xs := [a]) upd_same (put0 nE _ _ (sD _ _ hpz)) (by show 1 + z.length ≤ 1000; omega) fun pF HF sF hF => ?_
            have sEF := (put0 (o := .tup [.int a]) nE).trans sF
            exact ⟨acc, sEF _ _ hD, hacc, hy rfl _ _ sEF ⟨pF, rfl, hide_tup (sEF _ _ hD) hF⟩⟩
          · intro HD wsD sD hD prD
            rw [List.filter_eq_self.mpr (by simp)] at prD
            obtain ⟨w1, e1, q1⟩ := hpp.keep (sC.trans sD)
            have tj := flat_take (fun th => (Km.rowsOf m th b (ss.take i ++ ss.drop (i + 1))).map (a :: ·)) [a - st, a + st] (j + 1)
            rw [flat_snoc _ hth, List.length_append] at tj
            have eR2 : rowsAt m a b ss i = [a - st, a + st].flatMap fun th => (Km.rowsOf m th b (ss.take i ++ ss.drop (i + 1))).map (a :: ·) := by
              rw [eR]
              simp
            rw [← eR2] at tj
            refine ⟨pp, D, w1, wsD, rfl, rfl, e1, hD, ?_, fun pG nG => ⟨put (sB.trans (sC.trans sD)) nG, pG, _, _, rfl, ?_⟩⟩
            · rw [q1.length, prD.length, List.length_append]
              refine Nat.le_trans ?_ (show 645120 ≤ sizeLine by decide)
              omega
            · rw [flat_snoc _ hth, ← List.append_assoc]
              exact LT.cat (put0 nG) e1 q1 hD prD upd_same
        · rintro σ H' ⟨sB, pp, z7, z8, rfl, hpp⟩
          refine ⟨s5.trans (s59.trans (sA.trans sB)), pp, _, _, _, _, _, rfl, ?_⟩
          rw [flat_snoc _ (range_get hi), eR]
          simpa using hpp
      · refine ⟨s5.trans s6, p, _, _, _, _, _, rfl, ?_⟩
        rw [flat_snoc _ (range_get hi)]
        have : rowsAt m a b ss i = [] := by
          unfold rowsAt
          rw [est, if_pos c3]
        rw [this, List.append_nil]
        exact hp5.keep s6
    · rintro σ H4 ⟨s4, p, y4, y5, y6, y7, y8, rfl, hp⟩
      rw [List.length_map, List.take_of_length_le (by rw [List.length_range]; exact Nat.le_refl _)] at hp
      exact ⟨.ref p, rfl, q _ p s4 hp⟩
theorem dRows (A : Has K mg "_law_rows" sRows) (B : Bi mg) : ∀ N : Nat, N ≤ 7 → Df P w K mg base CX0 (N + 1) "_law_rows" (spRowsTo N)
  | 0, h => stepRows A B h (dBot (ps := ["_law_first", "_law_last", "_law_steps_here"]) A fun _ _ _ _ _ _ us hl => match us, hl with | [_, _, _], _ => rfl) fun m e => by omega
  | N + 1, h => stepRows A B h (dRows A B N (by omega)) fun m e _ _ _ _ h => ⟨m, by omega, h⟩
end
end Kd

/-! The law's own defs: the best row, whether it is told. -/
namespace Kd
open PySem PySem.Spec PyProof.Rows L2 Kr RZ
/-! ### _law_best(folds) -/
abbrev sBest : Stmt := topS 46
abbrev nBest : List Str := ["_law_folds_here", "_law_sums_here", "_law_lots", "_law_steps_here", "_law_many", "_law_rows_here"]
theorem scBest : FnScope nBest ["_law_folds_here"] (defScope sBest) := ⟨rfl, rfl, rfl, by decide +kernel, rfl, by decide +kernel, by decide +kernel⟩
/-- a row that is asked for: its steps, their fewest, its ends -/
structure Asked (ns : List Int) (n : Nat) (a b : Int) : Prop where
  ne : ns ≠ []
  len : ns.length ≤ 8
  near : Near ns
  sum : (Km.stepsOf ns).sum ≤ 12
  few : Km.Fewest (Km.stepsOf ns) n
  n7 : n ≤ 7
  size : 2 ^ (Km.stepsOf ns).sum.toNat * Km.fact2 n ≤ sizeLine
  fair : Fair ns n
  some : (Km.tuplesOf (Km.subs (Km.stepsOf ns)) n).length ≤ 1000000
  fst : ns.head? = .some a
  lst : ns.getLast? = .some b
  wide : ∀ x : Int, a - (Km.stepsOf ns).sum ≤ x → x ≤ a + (Km.stepsOf ns).sum → -1000000 ≤ x ∧ x ≤ 1000000
def spBest : Sp := fun vs H Q _ => ∃ (t : Addr) (ns : List Int) (n : Nat) (a b : Int), vs = [.ref t] ∧ Tup H t ns ∧ Asked ns n a b ∧ ∀ l, Km.IsMin l (Km.rowsAll n a b (Km.lotsOf (Km.stepsOf ns))) → RetT H Q l
def IV (H : Hp) (v : V) (i : Int) : Prop := v = .int i
theorem iv_ints {H : Hp} : ∀ {ws : List V} {is : List Int}, Paired (IV H) ws is → ws = is.map V.int
  | _, _, .nil => rfl
  | _, _, .cons h t => by
    have h' : _ = V.int _ := h
    rw [h', iv_ints t]
    rfl
/-- len of a list or a tuple -/
def rLenS (K : PySem.W.Frag) : List V → Hp → VK → Prop := fun xs H Q => ∃ p ys, xs = [V.ref p] ∧ (SqL K H p ys ∨ SqT K H p ys) ∧ Q (.int (ys.length : Int)) H
/-- the rows of one lot -/
def lotRows (n : Nat) (a b : Int) (s : List Int) : List (List Int) := if s.length = n then Km.rowsOf s.length a b s else []
section
variable {P : Program} {w : World} {K : PySem.W.Frag} {mg : Str → Option Value} {base : Heap}
theorem dBest (A : Has K mg "_law_best" sBest) (B : Bi mg) (S : Df P w K mg base CX0 1 "_law_sums" spLSums) (T : Df P w K mg base CX0 1 "_law_steps" spLSteps) (G : Df P w K mg base CX0 8 "_law_parts" (spParts 7)) (R : Df P w K mg base CX0 8 "_law_rows" (spRowsTo 7)) :
    Df P w K mg base CX0 9 "_law_best" spBest := by
  refine df A scBest (fun vs H Q E h => ?_) (fun _ _ _ _ _ _ us hl => match us, hl with | [_], _ => rfl) (fun f cdv A outer s H vs Q E hr h => ?_)
  · obtain ⟨t, ns, n, a, b, rfl, _⟩ := h
    rfl
  · obtain ⟨t, ns, n, a, b, rfl, ht, K1, q⟩ := h
    refine ⟨_, pss_cons (ps_set (i := 1) scBest.nd rfl (.inr rfl) (cl S hr (pa_cons (cl T hr (pa_cons (pv 0) pa_nil)) pa_nil)))
      (pss_cons (ps_setLc (i := 2) (own := [("_law_steps_here", 3)]) (g := gName 3) (tt := tTest (tOp (rEqD K) (tCall spLSums [] E0 (tCons (tVar 3) tNil)) (tVar 1))) (by rfl) scBest.nd rfl rfl (sw_true rfl rfl rfl (by decide +kernel))
        (pi_list (cl G hr (pa_cons (pe_ix (r := rIxT K) ix_tup (pv 1) (pe_un un_neg pe_int) (fun _ _ => rfl)) (pa_cons pe_int (pa_cons pe_int pa_nil))))) (blkOk_by (N := nBest) (sc := defScope sBest) (by decide +kernel))
        (fun _ _ _ _ _ => pg_name (i := 3) scBest.nd rfl (.inl rfl)) (fun _ _ _ _ _ => pts_one (pt_cmpR (r := rEqD K) (op_eqD hr.units) (cl S hr (pa_cons (pv 3) pa_nil)) (pv 1) rfl)) (fun _ _ _ _ _ => pv 3))
      (pss_cons (ps_set (i := 4) scBest.nd rfl (.inl rfl) (pe_callB (cr_min rfl) (by rfl) B.min (by decide +kernel) (pa_cons
        (pe_lc (own := [("_law_steps_here", 3)]) (g := gName 3) (tt := tYes) rfl scBest.nd (pi_list (pv 2)) (blkOk_by (N := nBest) (sc := defScope sBest) (by decide +kernel))
          (fun _ _ _ _ _ => pg_name (i := 3) scBest.nd rfl (.inl rfl)) (fun _ _ _ _ _ => pts_nil) (fun _ _ _ _ _ => pe_callB (r := rLenS K) call_len_seq (by rfl) B.len PySem.boot_len (pa_cons (pv 3) pa_nil))) pa_nil)))
      (pss_cons (ps_set (i := 5) scBest.nd rfl (.inl rfl) (pe_lst pa_nil))
      (pss_cons (ps_for PassesOwn.never rfl (pi_list (pv 2)) (pg_name (i := 3) scBest.nd rfl (.inl rfl))
        (pss_one (ps_set (i := 5) scBest.nd rfl (.inl rfl) (pe_op op_cat (pv 5) (pe_ifExp (pt_cmpR op_eq (pe_callB call_len_seq (by rfl) B.len PySem.boot_len (pa_cons (pv 3) pa_nil)) (pv 4) (nomark _))
          (cl R hr (pa_cons (pe_ix ix_tup (pv 0) pe_int (fun _ _ => rfl)) (pa_cons (pe_ix ix_tup (pv 0) (pe_un un_neg pe_int) (fun _ _ => rfl)) (pa_cons (pv 3) pa_nil)))) (pe_lst pa_nil))))))
      (pss_one (ps_ret (pe_callB (cr_minT rfl hr.units) (by rfl) B.min (by decide +kernel) (pa_cons (pv 5) pa_nil)))))))), ?_⟩
    have hnn := Km.stepsOf_nn ns
    have hl8 := K1.len
    refine ⟨.ref t, rfl, t, ns, rfl, ht, K1.ne, by omega, fun H1 p1 s1 h1 => ?_⟩
    refine ⟨p1, Km.stepsOf ns, rfl, .inl h1, hnn, by rw [Km.stepsOf_len]; omega, K1.sum, fun H2 p2 s2 h2 => ?_⟩
    have s12 := s1.trans s2
    have hlast : (Km.allSums (Km.stepsOf ns)).getLast? = some (Km.stepsOf ns).sum := by
      obtain ⟨z, hz⟩ := last_of (Km.allSums_ne (l := Km.stepsOf ns))
      rw [hz, ← lastD_of hz 0, Km.allSums_last hnn]
    refine ⟨.ref p2, rfl, 1, rfl, p2, _, -1, _, rfl, rfl, sq h2, at_end hlast, ?_⟩
    refine ⟨(Km.stepsOf ns).sum, 1, rfl, Km.sum_nn hnn, K1.sum, by decide, by decide, fun H3 p3 s3 h3 => ?_⟩
    have s13 := s12.trans s3
    have h2' := s3 _ _ h2
    obtain ⟨ws, hw, pr⟩ := h3
    have hlp : (Km.partsOf 7 (Km.stepsOf ns).sum 1).length ≤ 4096 := Nat.le_trans (Km.parts_len (by decide) (Km.sum_nn hnn)) (pow12 K1.sum)
    refine ⟨p3, rfl, ⟨_, sl hw⟩, fun D nD => ?_⟩
    refine lcGL (zs := Km.partsOf 7 (Km.stepsOf ns).sum 1) (F := TV) TV.keep (fun s => decide (Km.allSums s = Km.allSums (Km.stepsOf ns))) (fun s => s) (sl hw) nD (by rw [pr.length]; exact Nat.le_trans hlp (by decide)) pr.length ?_ ?_
    · intro j x z H4 acc N hx hz s4 hD hacc hy hno
      obtain ⟨pz, rfl, hpz⟩ := paired_at pr hx hz
      obtain ⟨g1, g2, g3, g4⟩ := (Km.parts_iff (by decide)).mp (List.mem_of_getElem? hz)
      refine ⟨rfl, ?_⟩
      refine ⟨.ref pz, rfl, pz, z, rfl, .inr (s4 _ _ hpz), fun x hx => by have := g3 x hx; omega, by omega, by rw [g4]; exact K1.sum, fun H5 p5 s5 h5 => ?_⟩
      refine ⟨.ref p2, rfl, dT (Km.allSums z), dT (Km.allSums (Km.stepsOf ns)), dp_tup h5, dp_tup (s5 _ _ (s4 _ _ h2')), dT_shaped _, dT_shaped _, _, rfl, ?_⟩
      rw [dT_eqv]
      refine ifD (fun c => ?_) (fun c => hno (decide_eq_false c) _ s5)
      exact ⟨.ref pz, rfl, acc, s5 _ _ hD, hacc, hy (decide_eq_true c) _ _ s5 ⟨pz, rfl, hide_tup (s5 _ _ hD) (s5 _ _ (s4 _ _ hpz))⟩⟩
    · intro H4 ws4 s4 hD pr4
      rw [List.map_id'] at pr4
      have eL : (Km.partsOf 7 (Km.stepsOf ns).sum 1).filter (fun s => decide (Km.allSums s = Km.allSums (Km.stepsOf ns))) = Km.lotsOf (Km.stepsOf ns) := rfl
      rw [eL] at pr4
      have hll : (Km.lotsOf (Km.stepsOf ns)).length ≤ 2 ^ (Km.stepsOf ns).sum.toNat := Km.lots_len hnn
      have hll2 : (Km.lotsOf (Km.stepsOf ns)).length ≤ sizeLine := Nat.le_trans hll (Nat.le_trans (pow12 K1.sum) (by decide))
      have lots7 : ∀ s ∈ Km.lotsOf (Km.stepsOf ns), s.length ≤ 7 ∧ ∀ x ∈ s, 0 ≤ x := fun s hs => by
        obtain ⟨h7, g⟩ := (Km.lots_iff hnn).mp hs
        exact ⟨h7, Km.nn_of_pos g.pos⟩
      have few := Km.lots_many hnn K1.n7 K1.few
      refine ⟨.ref D, rfl, D, rfl, ⟨_, sl hD⟩, fun D2 nD2 => ?_⟩
      refine lcGL (zs := Km.lotsOf (Km.stepsOf ns)) (F := IV) (fun _ h => h) (fun _ => true) (fun s => (s.length : Int)) (sl hD) nD2 (by rw [pr4.length]; exact hll2) pr4.length ?_ ?_
      · intro j x z H5 acc N hx hz s5 hD5 hacc hy _
        obtain ⟨pz, rfl, hpz⟩ := paired_at pr4 hx hz
        refine ⟨rfl, ?_⟩
        simp only [tYes, if_true]
        refine ⟨.ref pz, rfl, pz, _, rfl, .inr (sq (s5 _ _ hpz)), acc, hD5, hacc, hy rfl _ _ (Same.refl _) ?_⟩
        show V.int ((z.map V.int).length : Int) = _
        rw [List.length_map]
      · intro H5 ws5 s5 hD2 pr5
        rw [List.filter_eq_self.mpr (by simp)] at pr5
        rw [iv_ints pr5] at hD2
        refine ⟨D2, _, rfl, sl hD2, List.length_pos_iff.mpr (List.ne_nil_of_mem few.1), fun m hm hmin => ?_⟩
        have em : m = (n : Int) := Int.le_antisymm (hmin _ few.1) (few.2 _ hm)
        subst em
        refine ⟨Nat.zero_le _, fun p6 n6 => ?_⟩
        have hD5 := s5 _ _ hD
        have s6 : Same H5 (upd H5 p6 (.lst [])) := put0 n6
        have tot : ((Km.lotsOf (Km.stepsOf ns)).flatMap (lotRows n a b)).length ≤ sizeLine := Nat.le_trans Km.rowsAll_len (Nat.le_trans (Nat.mul_le_mul_right _ hll) K1.size)
        have s46 := s13.trans (s4.trans (s5.trans s6))
        have pr6 : Paired (TV H4) ws4 (Km.lotsOf (Km.stepsOf ns)) := pr4
        refine ⟨.ref D, rfl, D, rfl, ⟨_, sl (s6 _ _ hD5)⟩, for_list (xs := ws4) (fun i σ H' => Same (upd H5 p6 (.lst [])) H' ∧ ∃ p z3, σ = [some (.ref t), some (.ref p2), some (.ref D), z3, some (.int n), some (.ref p)] ∧
          LT H' p (((Km.lotsOf (Km.stepsOf ns)).take i).flatMap (lotRows n a b))) ⟨Same.refl _, p6, none, rfl, [], upd_same, .nil⟩ (fun i σ H' _ ⟨sm, _⟩ => sl (sm _ _ (s6 _ _ hD5))) ?_ ?_⟩
        · rintro i x σ H7 hx ⟨s7, p, z3, rfl, hp⟩
          have hi : i < (Km.lotsOf (Km.stepsOf ns)).length := by
            rw [← pr6.length]
            exact (List.getElem?_eq_some_iff.mp hx).1
          obtain ⟨z, hz⟩ : ∃ z, (Km.lotsOf (Km.stepsOf ns))[i]? = some z := ⟨_, List.getElem?_eq_getElem hi⟩
          obtain ⟨pz, rfl, hpz⟩ := paired_at pr6 hx hz
          have s57 := s5.trans (s6.trans s7)
          have hz7 := lots7 z (List.mem_of_getElem? hz)
          have tk := Nat.le_trans (flat_take (lotRows n a b) (Km.lotsOf (Km.stepsOf ns)) (i + 1)) tot
          rw [flat_snoc _ hz, List.length_append] at tk
          have ht7 := s7 _ _ (s46 _ _ ht)
          refine ⟨.ref p, rfl, .ref pz, rfl, pz, _, rfl, .inr (sq (s57 _ _ hpz)), .int n, rfl, rfl, _, rfl, ?_⟩
          rw [List.length_map]
          refine ifD (fun c => ?_) (fun c => ?_)
          · have c' : z.length = n := by
              have := V.int.inj c
              omega
            have eR : lotRows n a b z = Km.rowsOf z.length a b z := if_pos c'
            refine ⟨.ref t, rfl, t, _, 0, _, rfl, rfl, sq ht7, at_first K1.fst, .ref t, rfl, 1, rfl, t, _, -1, _, rfl, rfl, sq ht7, at_end K1.lst, .ref pz, rfl, ?_⟩
            refine ⟨z.length, hz7.1, a, b, pz, z, rfl, s57 _ _ hpz, rfl, hz7.2, fun H8 p8 s8 h8 => ?_⟩
            obtain ⟨w1, e1, q1⟩ := hp.keep s8
            obtain ⟨w2, e2, q2⟩ := h8
            refine ⟨p, p8, w1, w2, rfl, rfl, e1, e2, ?_, fun p9 n9 => ⟨put (s7.trans s8) n9, p9, _, rfl, ?_⟩⟩
            · rw [q1.length, q2.length, ← eR]
              exact tk
            · rw [flat_snoc _ hz, eR]
              exact LT.cat (put0 n9) e1 q1 e2 q2 upd_same
          · have c' : ¬ z.length = n := fun e => c (by rw [e])
            have eR : lotRows n a b z = [] := if_neg c'
            refine ⟨Nat.zero_le _, fun p8 n8 => ?_⟩
            obtain ⟨w1, e1, q1⟩ := hp.keep (put0 (o := .lst []) n8)
            refine ⟨p, p8, w1, [], rfl, rfl, e1, upd_same, ?_, fun p9 n9 => ⟨put (put s7 n8) n9, p9, _, rfl, ?_⟩⟩
            · rw [q1.length]
              exact Nat.le_trans (Nat.le_add_right _ _) tk
            · rw [flat_snoc _ hz, eR]
              exact LT.cat (put0 n9) e1 q1 upd_same .nil upd_same
        · rintro σ H7 ⟨s7, p, z3, rfl, hp⟩
          rw [pr6.length, List.take_length] at hp
          have hs : b - a ∈ Km.allSums (Km.stepsOf ns) := Km.ends_sum K1.fst K1.lst
          obtain ⟨ks, ek, hks, hkt⟩ := min_of (K := K) hp
          have eA : (Km.lotsOf (Km.stepsOf ns)).flatMap (lotRows n a b) = Km.rowsAll n a b (Km.lotsOf (Km.stepsOf ns)) := rfl
          refine ⟨.ref p, rfl, p, ks, rfl, hks, fun x hx => sq (hkt x hx), fun e => ?_, fun x hx hm => ?_⟩
          · rw [e] at ek
            exact Km.rows_some hnn K1.n7 K1.few hs ek
          · rw [← ek] at hm
            exact q _ hm _ _ (s46.trans s7) (hkt _ hx)
end
/-! ### _law_right(folds) -/
abbrev sRight : Stmt := topS 47
abbrev nRight : List Str := ["_law_folds_here", "_law_due", "_law_told"]
theorem scRight : FnScope nRight ["_law_folds_here"] (defScope sRight) := ⟨rfl, rfl, rfl, by decide +kernel, rfl, by decide +kernel, by decide +kernel⟩
def spRight : Sp := fun vs H Q _ => ∃ (t : Addr) (ns : List Int) (n : Nat) (a b : Int), vs = [.ref t] ∧ Tup H t ns ∧ Asked ns n a b ∧ ∀ H', Same H H' → Q (.bl true) H'
section
variable {P : Program} {w : World} {K : PySem.W.Frag} {mg : Str → Option Value} {base : Heap} {CI CM : Addr}
theorem dRight (A : Has K mg "_law_right" sRight) (B : Bi mg) (S : Df P w K mg base CX0 9 "_law_best" spBest) (I : Df P w K mg base (L2.CX P w) 6 "least_ink_row" (spInk CI CM)) (F : Df P w K mg base (L2.CX P w) 6 "fewest_folds" (spFewest CI CM)) (Y : Df P w K mg base CX0 5 "alike_by_places" spBy) :
    Df P w K mg base CX0 10 "_law_right" spRight := by
  refine df A scRight (fun vs H Q E h => ?_) (fun _ _ _ _ _ _ us hl => match us, hl with | [_], _ => rfl) (fun f cdv A outer s H vs Q E hr h => ?_)
  · obtain ⟨t, ns, n, a, b, rfl, _⟩ := h
    rfl
  · obtain ⟨t, ns, n, a, b, rfl, ht, K1, q⟩ := h
    refine ⟨_, pss_cons (ps_par rfl scRight.nd (i := 1) (j := 2) rfl rfl (by decide) rfl rfl (pa_cons (cl S hr (pa_cons (pv 0) pa_nil)) (pa_cons (clX I hr passL (pa_cons (pv 0) pa_nil)) pa_nil)) rfl)
      (pss_one (ps_ret (pe_and (pe_cmpR (op_eqD hr.units) (pv 2) (pv 1) (nomark _)) (pe_and (pe_cmpR op_eq (clX F hr passL (pa_cons (pv 0) pa_nil)) (pe_callB call_len_seq (by rfl) B.len PySem.boot_len (pa_cons (pv 1) pa_nil)) (nomark _))
        (pe_one (pe_cmpR op_is_bl (cl Y hr (pa_cons (pv 0) (pa_cons (pv 2) pa_nil))) pe_bl (nomark _))))))), ?_⟩
    have hnn := Km.stepsOf_nn ns
    have hl8 := K1.len
    have hs : b - a ∈ Km.allSums (Km.stepsOf ns) := Km.ends_sum K1.fst K1.lst
    refine ⟨.ref t, rfl, t, ns, n, a, b, rfl, ht, K1, fun due hdue H1 p1 s1 h1 => ?_⟩
    refine ⟨.ref t, rfl, .ref t, rfl, .inl ⟨t, ns, rfl, s1 _ _ ht, hl8, K1.near, .inr ⟨K1.ne, n, a, b, K1.fair, K1.some, K1.fst, K1.lst, fun told htold H2 p2 s2 h2 => ?_⟩⟩⟩
    obtain ⟨e1, e2, e3, e4, e5, e6⟩ := Km.told_due hnn K1.n7 K1.few hs htold hdue
    subst e1
    have s12 := s1.trans s2
    have h1' := s2 _ _ h1
    refine ⟨.ref p1, .ref p2, rfl, .ref p2, rfl, .ref p1, rfl, dT told, dT told, dp_tup h2, dp_tup h1', dT_shaped _, dT_shaped _, ?_⟩
    rw [dT_eqv, decide_eq_true rfl]
    refine ⟨true, rfl, iteT ⟨.ref t, rfl, .ref t, rfl, .inl ⟨t, ns, rfl, s12 _ _ ht, hl8, K1.near, .inr ⟨K1.ne, n, K1.fair, fun H3 s3 => ?_⟩⟩⟩⟩
    refine ⟨.ref p1, rfl, p1, _, rfl, .inr (sq (s3 _ _ h1')), rfl, ?_⟩
    rw [List.length_map, e2, show decide (V.int ((n : Int) + 1) = V.int ((n + 1 : Nat) : Int)) = true from decide_eq_true rfl]
    have hne : told ≠ [] := fun e => by
      rw [e] at e2
      cases e2
    have n7 := K1.n7
    refine ⟨true, rfl, iteT ⟨.ref t, rfl, .ref p2, rfl, t, p2, ns, told, rfl, s3 _ _ (s12 _ _ ht), s3 _ _ h2, ⟨K1.ne, hne, by rw [K1.fst, e3], by rw [K1.lst, e4], ?_, by omega, by omega⟩, K1.near, fun x hx => K1.wide x (e6 x hx).1 (e6 x hx).2, fun H4 s4 => ?_⟩⟩
    · unfold sumsIn
      rw [if_neg K1.ne, if_neg hne, e5]
    · exact ⟨true, true, rfl, rfl, q _ (s12.trans (s3.trans s4))⟩
end
end Kd

/-! The law's own defs: the cup, the rolls, a small row. -/
namespace Kd
open PySem PySem.Spec PyProof.Rows L2 Kr RZ
/-! ### the cup -/
def CupOk (a b : Int) : Prop := 0 ≤ a ∧ 0 ≤ b ∧ b < 4294967296
def Cup (H : Hp) (c : Addr) : Prop := ∃ a b, H c = some (.lst [.int a, .int b]) ∧ CupOk a b
/-- all stands but what is at c -/
def But (c : Addr) (H H' : Hp) : Prop := ∀ b u, b ≠ c → H b = some u → H' b = some u
theorem But.trans {c : Addr} {H H1 H2 : Hp} (s : But c H H1) (t : But c H1 H2) : But c H H2 := fun b u n h => t b u n (s b u n h)
theorem But.of {c : Addr} {H H1 : Hp} (s : Same H H1) : But c H H1 := fun b u _ h => s b u h
theorem But.up {c : Addr} {H : Hp} {o : HO} : But c H (upd H c o) := fun b u n h => by rw [upd_ne n]; exact h
theorem But.refl {c : Addr} {H : Hp} : But c H H := fun _ _ _ h => h
theorem Cup.keep {H H' : Hp} {c : Addr} (s : Same H H') (h : Cup H c) : Cup H' c := by
  obtain ⟨a, b, e, k⟩ := h
  exact ⟨a, b, s _ _ e, k⟩
theorem Cup.not {H : Hp} {c t : Addr} {xs : List V} (h : Cup H c) (ht : H t = some (.tup xs)) : t ≠ c := fun e => by
  obtain ⟨a, b, q, _⟩ := h
  rw [e, q] at ht
  cases ht
abbrev sCup : Stmt := topS 34
theorem scCup : FnScope ["_law_script", "_law_cell"] ["_law_script"] (defScope sCup) := ⟨rfl, rfl, rfl, by decide +kernel, rfl, by decide +kernel, by decide +kernel⟩
def spCup (K : PySem.W.Frag) : Sp := fun vs H Q _ => ∃ (t : Addr) (ns : List Int), vs = [.ref t] ∧ SqL K H t (ns.map V.int) ∧ ns.length ≤ 999 ∧ ∀ H' c, Same H H' → Cup H' c → Q (.ref c) H'
section
variable {P : Program} {w : World} {K : PySem.W.Frag} {mg : Str → Option Value} {base : Heap}
theorem dCup (A : Has K mg "_law_cup" sCup) (B : Bi mg) : Df P w K mg base CX0 1 "_law_cup" (spCup K) := by
  refine df A scCup (fun vs H Q E h => ?_) (fun _ _ _ _ _ _ us hl => match us, hl with | [_], _ => rfl) (fun f cdv A outer s H vs Q E hr h => ?_)
  · obtain ⟨t, ns, rfl, _⟩ := h
    rfl
  · obtain ⟨t, ns, rfl, ht, hz, q⟩ := h
    refine ⟨_, pss_cons (ps_set (i := 1) scCup.nd rfl (.inl rfl) (pe_callB call_abs (by rfl) B.abs (by decide +kernel) (pa_cons (pe_ix ix_list (pe_op op_cat (pe_callTy call_list_of (by rfl) B.list (by decide +kernel) (pa_cons (pv 0) pa_nil)) (pe_lst (pa_cons pe_int pa_nil))) pe_int (fun _ _ => rfl)) pa_nil)))
      (pss_one (ps_ret (pe_lst (pa_cons (pe_ifExp (pt_cmpR op_ge (pv 1) (pe_op op_pow pe_int pe_int) (nomark _)) (pe_op op_fdiv (pv 1) pe_int) pe_int)
        (pa_cons (pe_op op_add (pe_op op_mod (pe_callTy call_int1 (by rfl) B.int (by decide +kernel) (pa_cons (pe_op op_add (pe_op op_mul (pv 1) pe_int) pe_int) pa_nil)) pe_int) pe_int) pa_nil))))), ?_⟩
    refine ⟨.ref t, rfl, t, _, rfl, .inl ht, fun p1 n1 => ⟨(by show 1 ≤ sizeLine; decide), fun p2 n2 => ?_⟩⟩
    have e12 : p1 ≠ p2 := fun e => by
      rw [← e, upd_same] at n2
      cases n2
    have s2 : Same H (upd (upd H p1 (.lst (ns.map V.int))) p2 (.lst [.int 0])) := put (put0 n1) n2
    refine ⟨p1, p2, ns.map V.int, [.int 0], rfl, rfl, by rw [upd_ne e12, upd_same], upd_same, by rw [List.length_map]; exact Nat.le_of_lt (small1000 (by show ns.length + 1 ≤ 1000; omega)), fun p3 n3 => ?_⟩
    obtain ⟨z, hz⟩ : ∃ z, (ns.map V.int ++ [V.int 0])[0]? = some (.int z) := by
      cases ns with
      | nil => exact ⟨0, rfl⟩
      | cons x r => exact ⟨x, rfl⟩
    refine ⟨p3, _, 0, .int z, rfl, rfl, sl upd_same, atI_nat (j := 0) hz, z, rfl, ?_⟩
    have s3 := put (o := .lst (ns.map V.int ++ [V.int 0])) s2 n3
    have hc : 0 ≤ (if z < 0 then -z else z) := by split <;> omega
    show gName 1 (V.int (if z < 0 then -z else z)) _ _ _
    generalize (if z < 0 then -z else z) = c at hc
    have hb0 : 0 ≤ (c * 239 + 1913) % 2077503509 := Int.emod_nonneg _ (by decide)
    have hb1 : (c * 239 + 1913) % 2077503509 < 2077503509 := Int.emod_lt_of_pos _ (by decide)
    refine ⟨.int c, rfl, 10, 18, rfl, rfl, ⟨by decide, by decide, by decide⟩, c, _, rfl, rfl, _, rfl, ifD (fun c1 => ?_) (fun c1 => ?_)⟩
    · refine ⟨.int c, rfl, c, 37, rfl, rfl, ⟨by decide, by decide⟩, ?_⟩
      refine ⟨.int c, rfl, c, 239, rfl, rfl, .inr ⟨by decide, by decide⟩, c * 239, 1913, rfl, rfl, .inl ⟨_, rfl, c * 239 + 1913, 2077503509, rfl, rfl, (by show (0 : Int) < 2077503509; decide), (c * 239 + 1913) % 2077503509, 127, rfl, rfl, (by show 2 ≤ sizeLine; decide), fun p4 n4 => ?_⟩⟩
      exact q _ p4 (put s3 n4) ⟨_, _, upd_same, Int.ediv_nonneg hc (by decide), by omega, by omega⟩
    · refine ⟨.int c, rfl, c, 239, rfl, rfl, .inr ⟨by decide, by decide⟩, c * 239, 1913, rfl, rfl, .inl ⟨_, rfl, c * 239 + 1913, 2077503509, rfl, rfl, (by show (0 : Int) < 2077503509; decide), (c * 239 + 1913) % 2077503509, 127, rfl, rfl, (by show 2 ≤ sizeLine; decide), fun p4 n4 => ?_⟩⟩
      exact q _ p4 (put s3 n4) ⟨_, _, upd_same, by decide, by omega, by omega⟩
end
/-! ### _law_roll(cup, many), _law_some(cup, things) -/
abbrev sRoll : Stmt := topS 35
abbrev sSome : Stmt := topS 36
theorem scRoll : FnScope ["_law_cup_here", "_law_many", "_law_found", "_law_deep"] ["_law_cup_here", "_law_many"] (defScope sRoll) := ⟨rfl, rfl, rfl, by decide +kernel, rfl, by decide +kernel, by decide +kernel⟩
theorem scSome : FnScope ["_law_cup_here", "_law_things"] ["_law_cup_here", "_law_things"] (defScope sSome) := ⟨rfl, rfl, rfl, by decide +kernel, rfl, by decide +kernel, by decide +kernel⟩
def spRoll : Sp := fun vs H Q _ => ∃ (c : Addr) (n : Int), vs = [.ref c, .int n] ∧ 0 < n ∧ n ≤ 1000 ∧ Cup H c ∧ ∀ r a b, 0 ≤ r → r < n → CupOk a b → Q (.int r) (upd H c (.lst [.int a, .int b]))
def spSome : Sp := fun vs H Q _ => ∃ (c p : Addr) (is : List Int), vs = [.ref c, .ref p] ∧ H p = some (.lst (is.map V.int)) ∧ p ≠ c ∧ is ≠ [] ∧ is.length ≤ 1000 ∧ Cup H c ∧ ∀ x a b, x ∈ is → CupOk a b → Q (.int x) (upd H c (.lst [.int a, .int b]))
section
variable {P : Program} {w : World} {K : PySem.W.Frag} {mg : Str → Option Value} {base : Heap}
theorem dRoll (A : Has K mg "_law_roll" sRoll) (B : Bi mg) : Df P w K mg base CX0 1 "_law_roll" spRoll := by
  refine df A scRoll (fun vs H Q E h => ?_) (fun _ _ _ _ _ _ us hl => match us, hl with | [_, _], _ => rfl) (fun f cdv A outer s H vs Q E hr h => ?_)
  · obtain ⟨c, n, rfl, _⟩ := h
    rfl
  · obtain ⟨c, n, rfl, hn, hn2, ⟨a, b, hc, a0, b0, b1⟩, q⟩ := h
    refine ⟨_, pss_cons (ps_if (pt_cmpR op_gt (pe_ix ix_list (pv 0) pe_int (fun _ _ => rfl)) pe_int (nomark _))
        (pss_cons (ps_set (i := 2) scRoll.nd rfl (.inl rfl) (pe_op op_mod (pe_callTy call_int1 (by rfl) B.int (by decide +kernel) (pa_cons (pe_ix ix_list (pv 0) pe_int (fun _ _ => rfl)) pa_nil)) (pv 1)))
        (pss_cons (ps_asg (pe_op op_fdiv (pe_ix ix_list (pv 0) pe_int (fun _ _ => rfl)) (pv 1)) (pg_sub (pv 0) pe_int set_list))
        (pss_one (ps_ret (pv 2))))) pss_nil)
      (pss_cons (ps_asg (pe_op op_mod (pe_callTy call_int1 (by rfl) B.int (by decide +kernel) (pa_cons (pe_op op_add (pe_op op_mul (pe_ix ix_list (pv 0) pe_int (fun _ _ => rfl)) pe_int) pe_int) pa_nil)) pe_int) (pg_sub (pv 0) pe_int set_list))
      (pss_cons (ps_set (i := 3) scRoll.nd rfl (.inl rfl) (pe_op op_mod (pe_callTy call_int1 (by rfl) B.int (by decide +kernel) (pa_cons (pe_op op_mul (pe_ix ix_list (pv 0) pe_int (fun _ _ => rfl)) (pe_op op_add (pe_ix ix_list (pv 0) pe_int (fun _ _ => rfl)) pe_int)) pa_nil)) pe_int))
      (pss_one (ps_ret (pe_op op_mod (pe_callTy call_int1 (by rfl) B.int (by decide +kernel) (pa_cons (pe_op op_fdiv (pv 3) pe_int) pa_nil)) (pv 1)))))), ?_⟩
    have g0 : atI [V.int a, V.int b] 0 = some (.int a) := atI_nat (j := 0) rfl
    refine ⟨.ref c, rfl, c, _, 0, .int a, rfl, rfl, sl hc, g0, a, 0, rfl, rfl, _, rfl, ifD (fun _ => ?_) (fun _ => ?_)⟩
    · refine ⟨.ref c, rfl, c, _, 0, .int a, rfl, rfl, sl hc, g0, .inl ⟨a, rfl, .int n, rfl, a, n, rfl, rfl, hn, ?_⟩⟩
      refine ⟨.ref c, rfl, c, _, 0, .int a, rfl, rfl, sl hc, g0, .int n, rfl, a, n, rfl, rfl, ⟨hn, by omega⟩, ?_⟩
      refine ⟨.ref c, rfl, c, _, _, 0, rfl, rfl, hc, rfl, .int (a % n), rfl, ?_⟩
      exact q (a % n) (a / n) b (Int.emod_nonneg _ (by omega)) (Int.emod_lt_of_pos _ hn) ⟨Int.ediv_nonneg a0 (by omega), b0, b1⟩
    · have g1 : ∀ z : Int, atI [V.int a, V.int z] 1 = some (.int z) := fun z => atI_nat (j := 1) rfl
      refine ⟨.ref c, rfl, c, _, 1, .int b, rfl, rfl, sl hc, g1 b, b, 30949, rfl, rfl, .inr ⟨by decide, by decide⟩, b * 30949, 7919, rfl, rfl, .inl ⟨_, rfl, b * 30949 + 7919, 2147483497, rfl, rfl, (by show (0 : Int) < 2147483497; decide), ?_⟩⟩
      have h0 : 0 ≤ (b * 30949 + 7919) % 2147483497 := Int.emod_nonneg _ (by decide)
      have h1 : (b * 30949 + 7919) % 2147483497 < 2147483497 := Int.emod_lt_of_pos _ (by decide)
      refine ⟨.ref c, rfl, c, _, _, 1, rfl, rfl, hc, rfl, ?_⟩
      show tSeq _ _ _ [some (V.ref c), some (V.int n), none, none] (upd H c (.lst [.int a, .int ((b * 30949 + 7919) % 2147483497)]))
      generalize (b * 30949 + 7919) % 2147483497 = d at h0 h1
      have hc' : (upd H c (.lst [.int a, .int d])) c = some (.lst [.int a, .int d]) := upd_same
      refine ⟨.ref c, rfl, c, _, 1, .int d, rfl, rfl, sl hc', g1 d, .ref c, rfl, c, _, 1, .int d, rfl, rfl, sl hc', g1 d, d, 191, rfl, rfl, d, d + 191, rfl, rfl, .inl ⟨by omega, by omega⟩, .inl ⟨_, rfl, d * (d + 191), 2147483587, rfl, rfl, (by show (0 : Int) < 2147483587; decide), ?_⟩⟩
      refine ⟨_, rfl, d * (d + 191) % 2147483587, 761, rfl, rfl, ⟨by decide, by decide⟩, .inl ⟨_, rfl, .int n, rfl, _, n, rfl, rfl, hn, ?_⟩⟩
      exact q _ a d (Int.emod_nonneg _ (by omega)) (Int.emod_lt_of_pos _ hn) ⟨a0, h0, by omega⟩
theorem dSome (A : Has K mg "_law_some" sSome) (B : Bi mg) (R : Df P w K mg base CX0 1 "_law_roll" spRoll) : Df P w K mg base CX0 2 "_law_some" spSome := by
  refine df A scSome (fun vs H Q E h => ?_) (fun _ _ _ _ _ _ us hl => match us, hl with | [_, _], _ => rfl) (fun f cdv A outer s H vs Q E hr h => ?_)
  · obtain ⟨c, p, is, rfl, _⟩ := h
    rfl
  · obtain ⟨c, p, is, rfl, hp, hpc, hne, hlen, hcup, q⟩ := h
    refine ⟨_, pss_one (ps_ret (pe_ix ix_list (pv 1) (cl R hr (pa_cons (pv 0) (pa_cons (pe_callB call_len_seq (by rfl) B.len PySem.boot_len (pa_cons (pv 1) pa_nil)) pa_nil))) (fun _ _ => rfl))), ?_⟩
    have := List.length_pos_iff.mpr hne
    refine ⟨.ref p, rfl, .ref c, rfl, .ref p, rfl, p, _, rfl, .inl (sl hp), c, (is.length : Int), ?_, by omega, by omega, hcup, fun r a b r0 r1 hab => ?_⟩
    · show [V.ref c, V.int ((is.map V.int).length : Int)] = _
      rw [List.length_map]
    · obtain ⟨k, rfl⟩ : ∃ k : Nat, r = (k : Int) := ⟨r.toNat, by omega⟩
      have hk : k < is.length := by omega
      have hx : (is.map V.int)[k]? = some (.int is[k]) := by rw [List.getElem?_map, List.getElem?_eq_getElem hk]; rfl
      exact ⟨p, _, (k : Int), .int is[k], rfl, rfl, sl (by rw [upd_ne hpc]; exact hp), atI_nat hx, q _ a b (List.getElem_mem hk) hab⟩
end
/-! ### _law_small_row(cup, most) -/
abbrev sSmall : Stmt := topS 40
abbrev nSmall : List Str := ["_law_cup_here", "_law_most", "_law_found", "_law_left", "_law_turn", "_law_step"]
theorem scSmall : FnScope nSmall ["_law_cup_here", "_law_most"] (defScope sSmall) := ⟨rfl, rfl, rfl, by decide +kernel, rfl, by decide +kernel, by decide +kernel⟩
/-- a small row -/
structure Small (most : Int) (ns : List Int) : Prop where
  ne : ns ≠ []
  len : ns.length ≤ 6
  sum : (Km.stepsOf ns).sum ≤ most
  box : ∀ x ∈ ns, -5 - most ≤ x ∧ x ≤ 5 + most
def spSmall : Sp := fun vs H Q _ => ∃ (c : Addr) (most : Int), vs = [.ref c, .int most] ∧ 0 ≤ most ∧ most ≤ 12 ∧ Cup H c ∧ ∀ H' t ns, But c H H' → Cup H' c → Tup H' t ns → Small most ns → Q (.ref t) H'
theorem steps_snoc : ∀ (pre : List Int) (y x : Int), Km.stepsOf (pre ++ [y] ++ [x]) = Km.stepsOf (pre ++ [y]) ++ [Km.iabs (y - x)]
  | [], y, x => rfl
  | [z], y, x => rfl
  | z :: u :: r, y, x => by
    have ih := steps_snoc (u :: r) y x
    show Km.iabs (z - u) :: Km.stepsOf (u :: r ++ [y] ++ [x]) = Km.iabs (z - u) :: Km.stepsOf (u :: r ++ [y]) ++ [Km.iabs (y - x)]
    rw [ih]
    rfl
section
variable {P : Program} {w : World} {K : PySem.W.Frag} {mg : Str → Option Value} {base : Heap}
theorem dSmall (A : Has K mg "_law_small_row" sSmall) (B : Bi mg) (R : Df P w K mg base CX0 1 "_law_roll" spRoll) (S : Df P w K mg base CX0 2 "_law_some" spSome) : Df P w K mg base CX0 3 "_law_small_row" spSmall := by
  refine df A scSmall (fun vs H Q E h => ?_) (fun _ _ _ _ _ _ us hl => match us, hl with | [_, _], _ => rfl) (fun f cdv A outer s H vs Q E hr h => ?_)
  · obtain ⟨c, most, rfl, _⟩ := h
    rfl
  · obtain ⟨c, most, rfl, hm0, hm1, hcup, q⟩ := h
    refine ⟨_, pss_cons (ps_par rfl scSmall.nd (i := 2) (j := 3) rfl rfl (by decide) rfl rfl (pa_cons (pe_tup (pa_cons (pe_op op_sub (cl R hr (pa_cons (pv 0) (pa_cons pe_int pa_nil))) pe_int) pa_nil)) (pa_cons (pv 1) pa_nil)) rfl)
      (pss_cons (ps_for PassesOwn.never rfl (pi_range1 rfl B.range (pa_cons (cl R hr (pa_cons (pv 0) (pa_cons pe_int pa_nil))) pa_nil)) (pg_name (i := 4) scSmall.nd rfl (.inl rfl))
        (pss_cons (ps_set (i := 5) scSmall.nd rfl (.inl rfl) (pe_callB (call_min2 rfl) (by rfl) B.min (by decide +kernel) (pa_cons (pv 3) (pa_cons (cl S hr (pa_cons (pv 0) (pa_cons (pe_lst (pa_cons pe_int (pa_cons pe_int (pa_cons pe_int (pa_cons pe_int (pa_cons pe_int (pa_cons pe_int (pa_cons pe_int (pa_cons pe_int (pa_cons pe_int pa_nil)))))))))) pa_nil))) pa_nil))))
        (pss_one (ps_par rfl scSmall.nd (i := 2) (j := 3) rfl rfl (by decide) rfl rfl
          (pa_cons (pe_op op_catA (pv 2) (pe_tup (pa_cons (pe_op op_add (pe_ix ix_tup (pv 2) (pe_un un_neg pe_int) (fun _ _ => rfl)) (cl S hr (pa_cons (pv 0) (pa_cons (pe_lst (pa_cons (pv 5) (pa_cons (pe_un un_neg (pv 5)) pa_nil))) pa_nil)))) pa_nil)))
            (pa_cons (pe_op op_sub (pv 3) (pv 5)) pa_nil)) rfl))))
      (pss_one (ps_ret (pv 2)))), ?_⟩
    refine ⟨.ref c, rfl, c, 11, rfl, by decide, by decide, hcup, fun r a b r0 r1 hab => ⟨r, 5, rfl, rfl, (by show 1 ≤ sizeLine; decide), fun p1 n1 => ⟨.int most, rfl, .ref p1, .int most, rfl, ?_⟩⟩⟩
    have s1 : But c H (upd (upd H c (.lst [.int a, .int b])) p1 (.tup [.int (r - 5)])) := But.up.trans (But.of (put0 n1))
    have c1 : Cup (upd (upd H c (.lst [.int a, .int b])) p1 (.tup [.int (r - 5)])) c := Cup.keep (put0 n1) ⟨a, b, upd_same, hab⟩
    have t1 : Tup (upd (upd H c (.lst [.int a, .int b])) p1 (.tup [.int (r - 5)])) p1 [r - 5] := upd_same
    show tSeq _ _ _ [some (V.ref c), some (V.int most), some (V.ref p1), some (V.int most), none, none] (upd (upd H c (.lst [.int a, .int b])) p1 (.tup [.int (r - 5)]))
    generalize upd (upd H c (.lst [.int a, .int b])) p1 (.tup [.int (r - 5)]) = H1 at s1 c1 t1
    have p1c := c1.not t1
    refine ⟨.ref c, rfl, c, 6, rfl, by decide, by decide, c1, fun r2 a2 b2 r20 r21 hab2 => ⟨r2, rfl, by omega, by omega, ?_⟩⟩
    refine for_range (n := r2.toNat) (fun i σ H' => But c H H' ∧ Cup H' c ∧ ∃ (p : Addr) (left : Int) (pre : List Int) (y : Int) (z4 z5 : Option V), σ = [some (.ref c), some (.int most), some (.ref p), some (.int left), z4, z5] ∧ Tup H' p (pre ++ [y]) ∧ pre.length = i ∧ 0 ≤ left ∧ left ≤ most ∧
        (Km.stepsOf (pre ++ [y])).sum = most - left ∧ ∀ x ∈ pre ++ [y], -5 - (most - left) ≤ x ∧ x ≤ 5 + (most - left))
      ⟨s1.trans But.up, ⟨a2, b2, upd_same, hab2⟩, p1, most, [], r - 5, none, none, rfl, by show upd H1 c _ p1 = _; rw [upd_ne p1c]; exact t1, rfl, hm0, Int.le_refl _, by show (0 : Int) = _; omega, fun x hx => by
        have : x = r - 5 := by simpa using hx
        omega⟩ ?_ ?_
    · rintro i σ H2 hi ⟨s2, c2, p, left, pre, y, z4, z5, rfl, tp, hlen, l0, l1, hsum, hbox⟩
      refine ⟨.int left, rfl, .ref c, rfl, (by show 9 ≤ sizeLine; decide), fun p3 n3 => ?_⟩
      have p3c : p3 ≠ c := fun e => by
        obtain ⟨_, _, q2, _⟩ := c2
        rw [e, q2] at n3
        cases n3
      refine ⟨c, p3, [0, 1, 1, 1, 2, 2, 3, 4, 5], rfl, upd_same, p3c, by decide, by decide, c2.keep (put0 n3), fun x a3 b3 hx hab3 => ?_⟩
      have hx5 : 0 ≤ x := by
        simp at hx
        omega
      have s3 : But c H2 (upd (upd H2 p3 (.lst ([0, 1, 1, 1, 2, 2, 3, 4, 5].map V.int))) c (.lst [.int a3, .int b3])) := (But.of (put0 n3)).trans But.up
      refine ⟨left, x, rfl, ?_⟩
      have hst : 0 ≤ (if x < left then x else left) ∧ (if x < left then x else left) ≤ left := by split <;> omega
      show gName 5 (V.int (if x < left then x else left)) _ (upd (upd H2 p3 (.lst ([0, 1, 1, 1, 2, 2, 3, 4, 5].map V.int))) c (.lst [.int a3, .int b3])) _
      generalize (if x < left then x else left) = st at hst
      show gName 5 (V.int st) _ (upd (upd H2 p3 (.lst ([0, 1, 1, 1, 2, 2, 3, 4, 5].map V.int))) c (.lst [.int a3, .int b3])) _
      have c3 : Cup (upd (upd H2 p3 (.lst ([0, 1, 1, 1, 2, 2, 3, 4, 5].map V.int))) c (.lst [.int a3, .int b3])) c := ⟨a3, b3, upd_same, hab3⟩
      generalize upd (upd H2 p3 (.lst ([0, 1, 1, 1, 2, 2, 3, 4, 5].map V.int))) c (.lst [.int a3, .int b3]) = H3 at s3 c3
      have pc := c2.not tp
      have tp3 : Tup H3 p (pre ++ [y]) := s3 _ _ pc tp
      refine ⟨.ref p, rfl, .ref p, rfl, 1, rfl, p, _, -1, _, rfl, rfl, sq tp3, at_end (ns := pre ++ [y]) (x := y) (by simp), .ref c, rfl, .int st, rfl, .int st, rfl, st, rfl, (by show 2 ≤ sizeLine; decide), fun p4 n4 => ?_⟩
      have p4c : p4 ≠ c := fun e => by
        obtain ⟨_, _, q2, _⟩ := c3
        rw [e, q2] at n4
        cases n4
      refine ⟨c, p4, [st, -st], rfl, upd_same, p4c, by simp, (by show 2 ≤ 1000; decide), c3.keep (put0 n4), fun x5 a5 b5 hx5 hab5 => ⟨y, x5, rfl, rfl, (by show 1 ≤ sizeLine; decide), fun p5 n5 => ?_⟩⟩
      have hx6 : x5 = st ∨ x5 = -st := by simpa using hx5
      have s5 : But c H3 (upd (upd (upd H3 p4 (.lst ([st, -st].map V.int))) c (.lst [.int a5, .int b5])) p5 (.tup [.int (y + x5)])) := ((But.of (put0 n4)).trans But.up).trans (But.of (put0 n5))
      have c5 : Cup (upd (upd (upd H3 p4 (.lst ([st, -st].map V.int))) c (.lst [.int a5, .int b5])) p5 (.tup [.int (y + x5)])) c := Cup.keep (put0 n5) ⟨a5, b5, upd_same, hab5⟩
      have t5 : Tup (upd (upd (upd H3 p4 (.lst ([st, -st].map V.int))) c (.lst [.int a5, .int b5])) p5 (.tup [.int (y + x5)])) p5 [y + x5] := upd_same
      refine cat_ints (xs := pre ++ [y]) (s5 _ _ pc tp3) t5 (by rw [List.length_append]; show pre.length + 1 + 1 ≤ 1000; omega) fun p6 H6 s6 h6 => ?_
      refine ⟨.int left, rfl, .int st, rfl, left, st, rfl, rfl, .ref p6, .int (left - st), rfl, ?_⟩
      have ea : Km.iabs (y - (y + x5)) = st := by
        unfold Km.iabs
        split <;> omega
      refine ⟨s2.trans (s3.trans (s5.trans (But.of s6))), c5.keep s6, p6, left - st, pre ++ [y], y + x5, _, _, rfl, h6, by rw [List.length_append, hlen]; rfl, by omega, by omega, ?_, fun z hz => ?_⟩
      · rw [steps_snoc, List.sum_append, hsum, ea]
        show most - left + (st + 0) = _
        omega
      · rcases List.mem_append.mp hz with hz | hz
        · have := hbox z hz
          omega
        · have e : z = y + x5 := by simpa using hz
          have := hbox y (by simp)
          omega
    · rintro σ H2 ⟨s2, c2, p, left, pre, y, z4, z5, rfl, tp, hlen, l0, l1, hsum, hbox⟩
      refine ⟨.ref p, rfl, q _ p _ s2 c2 tp ⟨by simp, by rw [List.length_append]; show pre.length + 1 ≤ 6; omega, by omega, fun x hx => ?_⟩⟩
      have := hbox x hx
      omega
end
end Kd

/-! The law's own defs: the errors that a call of a lambda raises. -/
namespace Kd
open PySem PySem.Spec PyProof.Rows L2 Kr RZ LamX
abbrev sErr : Stmt := topS 44
abbrev nErr : List Str := ["_law_call", "e"]
theorem scErr : FnScope nErr ["_law_call"] (defScope sErr) := ⟨rfl, rfl, rfl, by decide +kernel, rfl, by decide +kernel, by decide +kernel⟩
/-- how the errors' classes are told apart -/
structure Tell (K : PySem.W.Frag) (CI CM : Addr) : Prop where
  ii : PySem.W.exmOne K (.ref CI) (.ref CI) = some true
  mi : PySem.W.exmOne K (.ref CM) (.ref CI) = some false
  mm : PySem.W.exmOne K (.ref CM) (.ref CM) = some true
  xf : XfC K CM
  no : PySem.W.findIn K (.ref CM) "limit" = some none
/-- what is answered for an error -/
def Eerr (CI CM : Addr) (Q : VK) : XK := fun cls d H' => (cls = .ref CI ∧ Q (.str "folds") H') ∨ (cls = .ref CM ∧ ∃ dd, d = some dd ∧ H' dd = some (.xd [(("limit" : Str), .int 8)]) ∧ Q (.str "many8") H')
def TTerr (CI CM : Addr) : (XK → Hp → VK → Prop) → Hp → VK → Prop := fun tl H Q => tl (Eerr CI CM Q) H fun _ H' => Q (.str "") H'
theorem takes_len {X : Cx} {W : WX} (t : Takes X W) : Takes X (fun c d σ H => σ.length = X.N.length → W c d σ H) := fun u s' ⟨a, B, sI, pins, σ, H, cls, d, e, I, nb, up, sky, na, os, ag, w⟩ =>
  t u s' ⟨a, B, sI, pins, σ, H, cls, d, e, I, nb, up, sky, na, os, ag, w I.len⟩
theorem err_gives {X : Cx} {g CI CM CF : Addr} {cdg : Value} {q : Str} (T : Tell X.K CI CM) (gI : X.mg "InvalidFolds" = some (.ref CI)) (gM : X.mg "TooMany" = some (.ref CM)) (gF : X.mg "FoldError" = some (.ref CF)) (hs : X.mg "str" = none) :
    GivesTo X nErr "_law_error" (defScope sErr) g cdg (defBody sErr) "_law_call" q (TTerr CI CM) := by
  intro f c' s H Q tl act hc h
  refine ⟨_, pss_cons (ps_try_mix (X := (cxOf C8.CX0 X.prog X.w X.K X.mg X.base nErr "_law_error" (defScope sErr) g cdg X.A X.stack s H C8.E0).nox) (l := [⟨.ref CI, none, _⟩, ⟨.ref CM, some 1, _⟩, ⟨.ref CF, none, _⟩])
      (tb := fun W D σ H => ∃ Ech : XK, (∀ cls d σ' H', Ech cls d H' → σ'.length = 2 → W cls d σ' H') ∧ σ[0]? = some (some (.ref f)) ∧ H c' = some (CodeO c' q) ∧ tl Ech H (fun _ H' => D.nx σ H'))
      rfl rfl L2.takes0 (fun W pn xe tk _ => ?_)
      (.plain ⟨rfl, by decide, .inl gI⟩ (fun a oe cls d pn _ _ => pss_one (ps_ret pe_str))
        (.named scErr.nd (i := 1) rfl rfl ⟨rfl, by decide, .inl gM⟩ (fun a oe cls d pn hz hf => pss_one (ps_ret (pe_op op_add_str pe_str (pe_callTy call_str_int (by rfl) hs (by decide +kernel) (pa_cons (pe_xf T.xf T.no hz hf (pv 1)) pa_nil)))))
          (.plain ⟨rfl, by decide, .inl gF⟩ (fun a oe cls d pn _ _ => pss_one (ps_ret pe_str)) .nil))))
    (pss_one (ps_ret pe_str)), ?_⟩
  · refine ⟨fun pins s' σ H' D I h' => ?_⟩
    obtain ⟨Ech, hW, h1, h2, h3⟩ := h'
    have hp := act _ pn xe Ech ⟨163, 8, 163, 17⟩ ⟨163, 8, 163, 19⟩ (takes_len tk) hW
    exact (pss_one (ps_expr hp)).run pins s' σ H' D I ⟨h1, h2, h3⟩
  · refine ⟨Eerr CI CM Q, ?_, rfl, hc, h⟩
    rintro cls d σ' H' (⟨rfl, k⟩ | ⟨rfl, dd, rfl, hd, k⟩) hl
    · exact ⟨true, T.ii, fun _ a _ => k, fun e => by cases e⟩
    · refine ⟨false, T.mi, fun e => (by cases e), fun _ => ⟨true, T.mm, fun _ a na => ?_, fun e => by cases e⟩⟩
      refine ⟨.ref a, ?_, rfl, rfl, dd, _, .int 8, rfl, hd, rfl, 8, rfl, by decide +kernel, _, _, rfl, rfl, by decide +kernel, ?_⟩
      · show (σ'.set 1 (some (V.ref a)))[1]? = _
        rw [List.getElem?_set_self (by omega)]
      · have e : (("many" : Str) ++ (toString (8 : Int) : Str)) = "many8" := by decide +kernel
        rw [e]
        exact k
end Kd

/-! The rows that the law asks for: their facts. -/
namespace Kd
open PySem PySem.Spec PyProof.Rows L2 Kr RZ
/-! ### rows that are written down, by reckoning -/
def chkFit (g : List Int) (n : Nat) : Bool := (List.range (n + 1)).all fun j => (List.range (j + 1)).all fun k => decide ((Km.lineAt g j k).length ≤ 1000000)
def chkReach (g : List Int) (n : Nat) : Bool := decide (g.length ≤ 1000) && decide (n ≤ 7) && !(Km.tuplesOf g n).isEmpty && ((List.range n).all fun j => (Km.tuplesOf g j).isEmpty) && chkFit g n && decide ((Km.tuplesOf g n).length ≤ 1000000)
theorem fit_of {g : List Int} {n : Nat} (h : chkFit g n = true) : ∀ j, j ≤ n → Fits g j := fun j hj k hk => by
  have h1 := List.all_eq_true.mp h j (List.mem_range.mpr (by omega))
  have h2 := List.all_eq_true.mp h1 k (List.mem_range.mpr (by omega))
  exact of_decide_eq_true h2
theorem reach_of {g : List Int} {n : Nat} (h : chkReach g n = true) : Reach g n ∧ (Km.tuplesOf g n).length ≤ 1000000 := by
  unfold chkReach at h
  simp only [Bool.and_eq_true, decide_eq_true_eq] at h
  obtain ⟨⟨⟨⟨⟨h1, h2⟩, h3⟩, h4⟩, h5⟩, h6⟩ := h
  refine ⟨⟨h1, h2, fun e => ?_, fun j hj => ?_, fit_of h5⟩, h6⟩
  · rw [e] at h3
    cases h3
  · have := List.all_eq_true.mp h4 j (List.mem_range.mpr hj)
    exact List.isEmpty_iff.mp this
def chkMin (due : List Int) (ls : List (List Int)) : Bool := ls.contains due && ls.all fun y => !Km.lt y due
theorem min_ok {due : List Int} {ls : List (List Int)} (h : chkMin due ls = true) : Km.IsMin due ls := by
  unfold chkMin at h
  rw [Bool.and_eq_true] at h
  refine ⟨by simpa using h.1, fun y hy => ?_⟩
  have := List.all_eq_true.mp h.2 y hy
  simpa using this
/-- a row, what is told of it, its fewest steps, its ends -/
def chkTold (ns due : List Int) (n : Nat) (a b : Int) : Bool := !ns.isEmpty && decide (ns.length ≤ 8) && (ns.all fun x => decide (-1000000 ≤ x ∧ x ≤ 1000000)) && decide (ns.head? = some a) && decide (ns.getLast? = some b) && decide (due.length = n + 1) &&
  chkReach (Km.subs (Km.stepsOf ns)) n && chkMin due (toldOf ns n a b)
structure Told (ns due : List Int) (n : Nat) (a b : Int) : Prop where
  ne : ns ≠ []
  len : ns.length ≤ 8
  near : Near ns
  fst : ns.head? = some a
  lst : ns.getLast? = some b
  many : due.length = n + 1
  fair : Fair ns n
  some : (Km.tuplesOf (Km.subs (Km.stepsOf ns)) n).length ≤ 1000000
  min : Km.IsMin due (toldOf ns n a b)
theorem told_of {ns due : List Int} {n : Nat} {a b : Int} (h : chkTold ns due n a b = true) : Told ns due n a b := by
  unfold chkTold at h
  simp only [Bool.and_eq_true, decide_eq_true_eq] at h
  obtain ⟨⟨⟨⟨⟨⟨⟨h1, h2⟩, h3⟩, h4⟩, h5⟩, h6⟩, h7⟩, h8⟩ := h
  obtain ⟨r1, r2⟩ := reach_of h7
  refine ⟨fun e => ?_, h2, fun x hx => ?_, h4, h5, h6, r1, r2, min_ok h8⟩
  · rw [e] at h1
    cases h1
  · exact of_decide_eq_true (List.all_eq_true.mp h3 x hx)
theorem asked_of {ns due : List Int} {n : Nat} {a b : Int} (T : Told ns due n a b) (hs : (Km.stepsOf ns).sum ≤ 12) (hz : 2 ^ (Km.stepsOf ns).sum.toNat * Km.fact2 n ≤ 16777216) (ha : -1000 ≤ a ∧ a ≤ 1000) : Asked ns n a b :=
  ⟨T.ne, T.len, T.near, hs, ⟨T.fair.has, T.fair.no⟩, T.fair.n7, by rw [sizeLine_eq]; exact hz, T.fair, T.some, T.fst, T.lst, fun x h1 h2 => by
    have h0 : (0 : Int) ≤ (Km.stepsOf ns).sum := Km.sum_nn (Km.stepsOf_nn ns)
    omega⟩
/-- the rows in the text, and what is due -/
def rows1 : List (List Int × List Int) := [([0, 1, 2, 3], [0, 1, 3]), ([4, 4], [4]), ([], []), ([0, 5], [0, 5]), ([0, 1, 2, 1, 0], [0, -2, -1, 0])]
def rows2 : List (List Int × List Int) := [([0, 2, 4, 6], [0, 2, 6]), ([3, 3, 4, 4], [3, 4]), ([0, 1, 2, 3, 4, 5, 6, 7], [0, 1, 3, 7])]
def rows3 : List (List Int × List Int) := [([7, 5, 2], [7, 4, 2]), ([0, 3, 0], [0, -3, 0]), ([1, 2, 4, 8], [1, 2, 4, 8]), ([0, 1, 0, 1, 0, 1], [0, -2, -1, 1])]
def rows12 : List (List Int × List Int) := rows1 ++ rows2 ++ rows3
def chkRow (x : List Int × List Int) : Bool := (x.1.isEmpty && x.2.isEmpty) || (match x.1.head?, x.1.getLast? with
  | some a, some b => chkTold x.1 x.2 (x.2.length - 1) a b && decide ((Km.stepsOf x.1).sum ≤ 12) && decide (2 ^ (Km.stepsOf x.1).sum.toNat * Km.fact2 (x.2.length - 1) ≤ 16777216) && decide (-1000 ≤ a ∧ a ≤ 1000)
  | _, _ => false)
theorem row_of {x : List Int × List Int} (h : chkRow x = true) : (x.1 = [] ∧ x.2 = []) ∨ ∃ n a b, Told x.1 x.2 n a b ∧ Asked x.1 n a b := by
  unfold chkRow at h
  rcases (Bool.or_eq_true _ _).mp h with h | h
  · rw [Bool.and_eq_true] at h
    exact .inl ⟨List.isEmpty_iff.mp h.1, List.isEmpty_iff.mp h.2⟩
  · refine .inr ?_
    split at h
    · rename_i a b e1 e2
      simp only [Bool.and_eq_true, decide_eq_true_eq] at h
      obtain ⟨⟨⟨h1, h2⟩, h3⟩, h4⟩ := h
      exact ⟨_, a, b, told_of h1, asked_of (told_of h1) h2 h3 h4⟩
    · cases h
theorem rows_ok : ∀ x ∈ rows12, (x.1 = [] ∧ x.2 = []) ∨ ∃ n a b, Told x.1 x.2 n a b ∧ Asked x.1 n a b := fun x hx => row_of (List.all_eq_true.mp (show rows12.all chkRow = true by decide +kernel) x hx)
theorem rows_12 : rows12.length = 12 := rfl
/-! ### the rows with many steps -/
theorem wide_fair : Fair [0, 1, 3, 7, 15, 31, 63, 127] 7 := (reach_of (by decide +kernel)).1
theorem far_told : Told [9, 8, 6, 2, -6, -22, -54] [9, -23, -39, -47, -51, -53, -54] 6 9 (-54) := told_of (by decide +kernel)
theorem flat_told : Told (List.replicate 8 1000000) [1000000] 0 1000000 1000000 := told_of (by decide +kernel)
/-! ### small rows -/
theorem small_asked {most : Int} {ns : List Int} (S : Small most ns) (hm : most ≤ 12) : ∃ n a b, Asked ns n a b := by
  have hnn := Km.stepsOf_nn ns
  have hl := Km.stepsOf_len ns
  have h6 := S.len
  have hsum := S.sum
  have s0 : (0 : Int) ≤ (Km.stepsOf ns).sum := Km.sum_nn hnn
  obtain ⟨s, h1, h2, h3⟩ := Km.own_good hnn
  obtain ⟨m, hm1, F⟩ := Km.fewest_some ⟨s, h3⟩
  obtain ⟨a, ha⟩ := head_of S.ne
  obtain ⟨b, hb⟩ := last_of S.ne
  have m5 : m ≤ 5 := by omega
  have g13 : (Km.subs (Km.stepsOf ns)).length ≤ 13 := by
    have := up_len (lo := 0) (hi := 12) (Km.subs_up (l := Km.stepsOf ns)) fun x hx => by
      have hp := Km.mem_subs.mp hx
      have h1 := Km.PS.le hnn hp
      have h2 := Km.PS.ge hnn hp
      omega
    omega
  have line : ∀ j k, k ≤ 5 → (Km.lineAt (Km.subs (Km.stepsOf ns)) j k).length ≤ 1000000 := fun j k hk => by
    refine Nat.le_trans Km.line_len (Nat.le_trans (Nat.pow_le_pow_left g13 k) (Nat.le_trans (Nat.pow_le_pow_right (by decide) hk) (by decide)))
  have amem : a ∈ ns := List.mem_of_mem_head? (by rw [ha]; rfl)
  have hab := S.box a amem
  refine ⟨m, a, b, S.ne, by omega, fun x hx => ?_, by omega, F, by omega, ?_, ⟨by omega, by omega, F.has, F.no, fun j hj k hk => line j k (by omega)⟩, ?_, ha, hb, fun x h1 h2 => by omega⟩
  · have := S.box x hx
    omega
  · rw [sizeLine_eq]
    have e1 : 2 ^ (Km.stepsOf ns).sum.toNat ≤ 4096 := pow12 (by omega)
    have e2 : Km.fact2 m ≤ 3840 := Nat.le_trans (Km.fact2_mono m5) (by decide)
    exact Nat.le_trans (Nat.mul_le_mul e1 e2) (by decide)
  · unfold Km.tuplesOf
    rw [List.length_map]
    exact Nat.le_trans (List.length_filter_le _ _) (line m m m5)
end Kd

/-! The law. -/
namespace Kd
open PySem PySem.Spec PyProof.Rows L2 Kr RZ LamX
/-! ### displays that are written down -/
section
variable {X : Cx} {e ea eb : Expr} {es : List Expr} {x1 j : Nat} {pos p2 : Pos}
def tIs (ns : List Int) : TA := fun _ H Q => Q (ns.map V.int) H
def tMk (ns : List Int) : TE := fun _ H Q => ∀ p H', Same H H' → Tup H' p ns → Q (.ref p) H'
def tMkP (x : List Int × List Int) : TE := fun _ H Q => ∀ v H', Same H H' → PV H' v x → Q v H'
def tMkPs (ls : List (List Int × List Int)) : TA := fun _ H Q => ∀ ws H', Same H H' → Paired (PV H') ws ls → Q ws H'
def tMkL (ls : List (List Int × List Int)) : TE := fun _ H Q => ∀ p H', Same H H' → LP H' p ls → Q (.ref p) H'
theorem pe_imp {t u : TE} (h : PE X e t) (k : ∀ σ H Q, u σ H Q → t σ H Q) : PE X e u := ⟨fun pins s σ H Q I q => h.run pins s σ H Q I (k σ H Q q)⟩
theorem pa_imp {t u : TA} (h : PA X es t) (k : ∀ σ H Q, u σ H Q → t σ H Q) : PA X es u := ⟨fun pos pins s σ H Q I q => h.run pos pins s σ H Q I (k σ H Q q)⟩
theorem pa_i0 : PA X [] (tIs []) := pa_imp pa_nil fun _ _ _ q => q
theorem pa_iP {i : Int} {ns : List Int} (h : PA X es (tIs ns)) : PA X (.Constant (.int i) j pos :: es) (tIs (i :: ns)) := pa_imp (pa_cons pe_int h) fun _ _ _ q => q
theorem pa_iN {i : Int} {ns : List Int} (h : PA X es (tIs ns)) : PA X (.UnaryOp .USub (.Constant (.int i) j pos) p2 :: es) (tIs (-i :: ns)) := pa_imp (pa_cons (pe_un un_neg pe_int) h) fun _ _ _ q => ⟨i, rfl, q⟩
theorem mkT {ns : List Int} (h : PA X es (tIs ns)) (hz : ns.length ≤ 1000) : PE X (.Tuple es x1 pos) (tMk ns) := pe_imp (pe_tup h) fun σ H Q q =>
  ⟨by rw [List.length_map]; exact Nat.le_of_lt (small1000 hz), fun p np => q p _ (put0 np) upd_same⟩
theorem mkP {a b : List Int} (ha : PE X ea (tMk a)) (hb : PE X eb (tMk b)) (h1 : starEach [eb] X.env = (false, eval eb X.env) :: starEach [] X.env := by rfl) (h2 : starEach [ea, eb] X.env = (false, eval ea X.env) :: starEach [eb] X.env := by rfl) :
    PE X (.Tuple [ea, eb] x1 pos) (tMkP (a, b)) := pe_imp (pe_tup (pa_cons ha (pa_cons hb pa_nil h1) h2)) fun σ H Q q =>
  fun p1 H1 s1 h1 => fun p2 H2 s2 h2 => ⟨by show 2 ≤ sizeLine; decide, fun p np => q _ _ (put (s1.trans s2) np) ⟨p, p1, p2, rfl, upd_same, put0 np _ _ (s2 _ _ h1), put0 np _ _ h2⟩⟩
theorem pa_P0 : PA X [] (tMkPs []) := pa_imp pa_nil fun _ H Q q => q [] H (Same.refl H) .nil
theorem pa_PS {x : List Int × List Int} {ls : List (List Int × List Int)} (h : PE X e (tMkP x)) (hs : PA X es (tMkPs ls)) (h1 : starEach (e :: es) X.env = (false, eval e X.env) :: starEach es X.env := by rfl) : PA X (e :: es) (tMkPs (x :: ls)) := pa_imp (pa_cons h hs h1) fun _ H Q q =>
  fun v H1 s1 h1 ws H2 s2 h2 => q _ H2 (s1.trans s2) (.cons (h1.keep s2) h2)
theorem mkL {ls : List (List Int × List Int)} (h : PA X es (tMkPs ls)) (hz : ls.length ≤ 1000) : PE X (.List es pos) (tMkL ls) := pe_imp (pe_lst h) fun σ H Q q =>
  fun ws H1 s1 h1 => ⟨by rw [h1.length]; exact Nat.le_of_lt (small1000 hz), fun p np => q p _ (put s1 np) ⟨ws, upd_same, h1.mono fun _ _ => PV.keep (put0 np)⟩⟩
end
theorem near_of {ns : List Int} (h : (ns.all fun x => decide (-1000000 ≤ x ∧ x ≤ 1000000)) = true) : Near ns := fun x hx => of_decide_eq_true (List.all_eq_true.mp h x hx)
/-! ### the tables stand -/
theorem Tabs.but {T : List (Addr × Str)} {H H' : Hp} {c : Addr} (k : Cup H c) (s : But c H H') (t : Tabs T H) : Tabs T H' := fun p hp => by
  obtain ⟨ps, h1, h2, h3⟩ := t p hp
  obtain ⟨a, b, hc, _⟩ := k
  refine ⟨ps, s _ _ (fun e => ?_) h1, h2, fun pos cv h => ?_⟩
  · rw [e, hc] at h1
    cases h1
  · obtain ⟨c0, e, h4⟩ := h3 pos cv h
    refine ⟨c0, e, s _ _ (fun e => ?_) h4⟩
    rw [e, hc] at h4
    cases h4
theorem extN_up {H H' : Hp} {p : Addr} {o : HO} (e : ExtN H H') (n : H p = none) : ExtN H (upd H' p o) := fun b u h k => by
  rw [upd_ne (ne_of_none h n)]
  exact e _ _ h k
theorem extN_tup {H H' : Hp} {p : Addr} {xs : List V} (e : ExtN H H') (h : H p = some (.tup xs)) : H' p = some (.tup xs) := e _ _ h fun _ z => by cases z
theorem extN_lst {H H' : Hp} {p : Addr} {xs : List V} (e : ExtN H H') (h : H p = some (.lst xs)) : H' p = some (.lst xs) := e _ _ h fun _ z => by cases z
theorem extN_put {H H2 H' : Hp} {p : Addr} {o : HO} (e0 : ExtN H H2) (n : H2 p = none) (e : ExtN H H') : ExtN H (upd H' p o) := fun b u h k => by
  have e1 := e0 _ _ h k
  rw [upd_ne (ne_of_none e1 n)]
  exact e _ _ h k
theorem tabs_lst {T : List (Addr × Str)} {H : Hp} {p : Addr} {xs : List V} {o : HO} (t : Tabs T H) (h : H p = some (.lst xs)) : Tabs T (upd H p o) := fun q hq => by
  obtain ⟨ps, h1, h2, h3⟩ := t q hq
  refine ⟨ps, ?_, h2, fun pos cv k => ?_⟩
  · rw [upd_ne (fun e => by rw [e, h] at h1; cases h1)]
    exact h1
  · obtain ⟨c0, e, h4⟩ := h3 pos cv k
    refine ⟨c0, e, ?_⟩
    rw [upd_ne (fun e => by rw [e, h] at h4; cases h4)]
    exact h4
/-! ### _law_error(lambda: ..) -/
theorem lamE {X : Cx} {CI CM CF cc Pt : Addr} {params : Arguments} {body : Expr} {scope : Scope} {t : XK → TE} {p lpos pos : Pos} (Hh : Has X.K X.mg "_law_error" sErr) (T : Tell X.K CI CM) (gI : X.mg "InvalidFolds" = some (.ref CI)) (gM : X.mg "TooMany" = some (.ref CM))
    (gF : X.mg "FoldError" = some (.ref CF)) (hs : X.mg "str" = none) (TB : TabB X.base X.mg cc Pt) (hcode : X.env.code = .ref cc) {j : Nat} (hr : Room j X.A) (hj : 8 ≤ j) (L : LamS X.env.scope scope) (hdef : defaultsOf params X.env = ([], []))
    (hbind : ∀ (q : Str) (cl : List (Str × Addr)) (pm cv ctv : Value), bindArgs (PySem.W.kla_fn "<lambda>" q params body scope cl pm cv ctv) ⟨[], []⟩ = pure [])
    (hbody : ∀ (A : Around) (outer : List Env) (s : Shared) (H : Hp) (E : XK) (f c' : Addr), Room 6 (A.deeper (lamEnv X scope s.heap.objs.size f c')) → PE (lamCx X A outer s H E scope f c') body (t E)) (hg : Gl X "_law_error" := by rfl) :
    PE X (.Call (.Name "_law_error" p) [.Lambda params body scope lpos] [] pos) (tLam [(Pt, X.env.qual ++ "<lambda>")] (TTerr CI CM) t) := by
  obtain ⟨g, fd, F, hm⟩ := Hh
  obtain ⟨oc, od, kV, doc, pm, an, cdv, ct, osl, rfl, lk, hcg⟩ := F.ex
  exact pe_lamcall hg hm F.kp lk hcg (F.binds fun _ _ _ _ _ _ us hl => match us, hl with | [_], _ => rfl) scErr rfl (.inl rfl) (err_gives T gI gM gF hs) TB hcode (by simp) (fun p hp _ => by
    have e : p = (Pt, X.env.qual ++ "<lambda>") := by simpa using hp
    rw [e]) (hr.mono hj) L hdef hbind hbody
/-! ### law(script) -/
abbrev sLaw : Stmt := topS 48
abbrev nLaw : List Str := ["_law_script", "_law_cup_here", "_law_turn", "_law_rows_here", "_law_folds_here", "_law_due", "_law_odd", "_law_words"]
theorem scLaw : FnScope nLaw ["_law_script"] (defScope sLaw) := ⟨rfl, rfl, rfl, by decide +kernel, rfl, by decide +kernel, by decide +kernel⟩
def qLaw : Str := (envOfC "law" (defScope sLaw) 0 0 .none).qual ++ "<lambda>"
def spLaw (K : PySem.W.Frag) (Pt : Addr) : Sp := fun vs H Q _ => ∃ (a : Addr) (ns : List Int), vs = [.ref a] ∧ SqL K H a (ns.map V.int) ∧ ns.length ≤ 999 ∧ Tabs [(Pt, qLaw)] H ∧ ∀ H', Q (.bl true) H'
/-- what is no row -/
theorem odd_rows {H : Hp} {l t1 t2 t3 : Addr} (h0 : H l = some (.lst [.int 0])) (h1 : H t1 = some (.tup [.bl true])) (h2 : H t2 = some (.tup [.int 1000001])) (h3 : H t3 = some (.tup (List.replicate 13 (.int 0)))) :
    ∀ x ∈ [V.non, .ref l, .ref t1, .ref t2, .ref t3, .int 0], Row H x false := by
  intro x hx
  simp only [List.mem_cons, List.not_mem_nil, or_false] at hx
  rcases hx with rfl | rfl | rfl | rfl | rfl | rfl
  · exact .inr ⟨.inl rfl, rfl⟩
  · exact .inr ⟨.inr (.inr ⟨l, _, rfl, h0⟩), rfl⟩
  · exact .inl ⟨t1, _, rfl, h1, fun y hy => .inr ⟨true, by simpa using hy⟩, by decide, rfl⟩
  · exact .inl ⟨t2, _, rfl, h2, fun y hy => .inl ⟨1000001, by simpa using hy⟩, by show 1 ≤ 1000; decide, rfl⟩
  · exact .inl ⟨t3, _, rfl, h3, fun y hy => .inl ⟨0, (List.mem_replicate.mp hy).2⟩, by decide, rfl⟩
  · exact .inr ⟨.inr (.inl ⟨0, rfl⟩), rfl⟩
abbrev dSS (x y : Str) : PyData := .list [.str x, .str y]
theorem dp_ss {K : PySem.W.Frag} {H : Hp} {p : Addr} {x y : Str} (h : H p = some (.lst [.str x, .str y])) : Dp K H (.ref p) (dSS x y) := .lst (.inl (.inl h)) (.cons (.str x) (.cons (.str y) .nil))
section
variable {P : Program} {w : World} {K : PySem.W.Frag} {mg : Str → Option Value} {base : Heap} {CI CM CF : Addr}
/-- a def by what the written part says of it: its code object is known -/
theorem dfC {x : Str} {st : Stmt} {N ps : List Str} {k : Nat} {sp : Sp} {f cc : Addr} {oc kV doc pm ct : Value} {od an : Option Addr} {osl : Array (Option Value)}
    (lk : K.lookup f = some ⟨oc, od, .func (PySem.W.fnOf x x (defArgs st) (defBody st) (defScope st) .none kV doc pm an (.ref cc) ct), osl⟩) (hcd : PySem.W.codeIn K (.ref cc) x = true) (S : FnScope N ps (defScope st)) (len : ∀ vs H Q E, sp vs H Q E → vs.length = ps.length)
    (hbody : ∀ (A : Around) (outer : List Env) (s : Shared) (H : Hp) (vs : List V) (Q : VK) (E : XK), Room k (A.deeper (envOfC x (defScope st) s.heap.objs.size f (.ref cc))) → sp vs H Q E →
      ∃ t, PSs (cxOf CX0 P w K mg base N x (defScope st) f (.ref cc) A outer s H E).nox (defBody st) t ∧ t { nx := fun _ H' => Q .non H', rt := Q } (start N vs) H) :
    FnOk P w K mg base CX0 (k + 1) f (PySem.W.fnOf x x (defArgs st) (defBody st) (defScope st) .none kV doc pm an (.ref cc) ct) ps sp := by
  refine fn_of lk hcd S len fun A outer s H vs Q E hr hsp => ?_
  obtain ⟨t, h, q⟩ := hbody A outer s H vs Q E hr hsp
  exact ⟨t, h.nox, q⟩
theorem okLaw {f cc Pt : Addr} {oc kV doc pm ct : Value} {od an : Option Addr} {osl : Array (Option Value)}
    (lk : K.lookup f = some ⟨oc, od, .func (PySem.W.fnOf "law" "law" (defArgs sLaw) (defBody sLaw) (defScope sLaw) .none kV doc pm an (.ref cc) ct), osl⟩) (hcd : PySem.W.codeIn K (.ref cc) "law" = true) (B : Bi mg) (TB : TabB base mg cc Pt)
    (Hh : Has K mg "_law_error" sErr) (T : Tell K CI CM) (gI : mg "InvalidFolds" = some (.ref CI)) (gM : mg "TooMany" = some (.ref CM)) (gF : mg "FoldError" = some (.ref CF))
    (C : Df P w K mg base CX0 1 "_law_cup" (spCup K)) (SM : Df P w K mg base CX0 2 "_law_some" spSome) (SR : Df P w K mg base CX0 3 "_law_small_row" spSmall) (R : Df P w K mg base CX0 10 "_law_right" spRight)
    (I : Df P w K mg base (L2.CX P w) 6 "least_ink_row" (spInk CI CM)) (F : Df P w K mg base (L2.CX P w) 6 "fewest_folds" (spFewest CI CM)) :
    FnOk P w K mg base CX0 11 f (PySem.W.fnOf "law" "law" (defArgs sLaw) (defBody sLaw) (defScope sLaw) .none kV doc pm an (.ref cc) ct) ["_law_script"] (spLaw K Pt) := by
  refine dfC lk hcd scLaw (fun vs H Q E h => ?_) (fun A outer s H vs Q E hr h => ?_)
  · obtain ⟨a, ns, rfl, _⟩ := h
    rfl
  · obtain ⟨a, ns, rfl, hs, hlen, hT, q⟩ := h
    refine ⟨_, pss_cons (ps_set (i := 1) scLaw.nd rfl (.inl rfl) (cl C hr (pa_cons (pv 0) pa_nil)))
      (pss_cons (ps_for PassesOwn.never rfl (pi_range1 rfl B.range (pa_cons pe_int pa_nil)) (pg_name (i := 2) scLaw.nd rfl (.inl rfl))
        (pss_one (ps_if (pt_not (pt_val (cl R hr (pa_cons (cl SR hr (pa_cons (pv 1) (pa_cons (cl SM hr (pa_cons (pv 1) (pa_cons (pe_lst (pa_cons pe_int (pa_cons pe_int (pa_cons pe_int pa_nil)))) pa_nil))) pa_nil))) pa_nil)))) (pss_one (ps_ret pe_bl)) pss_nil)))
      (pss_cons (ps_set (i := 3) scLaw.nd rfl (.inl rfl) (mkL (pa_PS (mkP (mkT (pa_iP (pa_iP (pa_iP (pa_iP pa_i0)))) (by decide)) (mkT (pa_iP (pa_iP (pa_iP pa_i0))) (by decide))) (pa_PS (mkP (mkT (pa_iP (pa_iP pa_i0)) (by decide)) (mkT (pa_iP pa_i0) (by decide))) (pa_PS (mkP (mkT pa_i0 (by decide)) (mkT pa_i0 (by decide))) (pa_PS (mkP (mkT (pa_iP (pa_iP pa_i0)) (by decide)) (mkT (pa_iP (pa_iP pa_i0)) (by decide))) (pa_PS (mkP (mkT (pa_iP (pa_iP (pa_iP (pa_iP (pa_iP pa_i0))))) (by decide)) (mkT (pa_iP (pa_iN (pa_iN (pa_iP pa_i0)))) (by decide))) pa_P0))))) (by decide)))
      (pss_cons (ps_set (i := 3) scLaw.nd rfl (.inl rfl) (pe_op op_cat (pv 3) (mkL (pa_PS (mkP (mkT (pa_iP (pa_iP (pa_iP (pa_iP pa_i0)))) (by decide)) (mkT (pa_iP (pa_iP (pa_iP pa_i0))) (by decide))) (pa_PS (mkP (mkT (pa_iP (pa_iP (pa_iP (pa_iP pa_i0)))) (by decide)) (mkT (pa_iP (pa_iP pa_i0)) (by decide))) (pa_PS (mkP (mkT (pa_iP (pa_iP (pa_iP (pa_iP (pa_iP (pa_iP (pa_iP (pa_iP pa_i0)))))))) (by decide)) (mkT (pa_iP (pa_iP (pa_iP (pa_iP pa_i0)))) (by decide))) pa_P0))) (by decide))))
      (pss_cons (ps_set (i := 3) scLaw.nd rfl (.inl rfl) (pe_op op_cat (pv 3) (mkL (pa_PS (mkP (mkT (pa_iP (pa_iP (pa_iP pa_i0))) (by decide)) (mkT (pa_iP (pa_iP (pa_iP pa_i0))) (by decide))) (pa_PS (mkP (mkT (pa_iP (pa_iP (pa_iP pa_i0))) (by decide)) (mkT (pa_iP (pa_iN (pa_iP pa_i0))) (by decide))) (pa_PS (mkP (mkT (pa_iP (pa_iP (pa_iP (pa_iP pa_i0)))) (by decide)) (mkT (pa_iP (pa_iP (pa_iP (pa_iP pa_i0)))) (by decide))) (pa_PS (mkP (mkT (pa_iP (pa_iP (pa_iP (pa_iP (pa_iP (pa_iP pa_i0)))))) (by decide)) (mkT (pa_iP (pa_iN (pa_iN (pa_iP pa_i0)))) (by decide))) pa_P0)))) (by decide))))
      (pss_cons (ps_for PassesOwn.never rfl (pi_list (pv 3)) (pg_tup rfl (pgs_cons (pg_name (i := 4) scLaw.nd rfl (.inl rfl)) (pgs_cons (pg_name (i := 5) scLaw.nd rfl (.inl rfl)) pgs_nil)))
        (pss_one (ps_if (PW.pt (pw_or (pt_cmpR (op_neD hr.units) (clX I hr passL (pa_cons (pv 4) pa_nil)) (pv 5) (nomark _))
          (pw_or (pt_cmpR op_ne (clX F hr passL (pa_cons (pv 4) pa_nil)) (pe_callB call_len_seq (by rfl) B.len PySem.boot_len (pa_cons (pv 5) pa_nil)) (nomark _))
          (pw_or1 (PW.pt (pw_and (pt_cmpR (op_neD hr.units) (pv 4) (pe_tup pa_nil) (nomark _)) (pw_and1 (pt_not (pt_val (cl R hr (pa_cons (pv 4) pa_nil)))))))))))
          (pss_one (ps_ret pe_bl)) pss_nil)))
      (pss_cons (ps_if (PW.pt (pw_or (pt_cmpR op_ne (clX F hr passL (pa_cons (mkT (pa_iP (pa_iP (pa_iP (pa_iP (pa_iP (pa_iP (pa_iP (pa_iP pa_i0)))))))) (by decide)) pa_nil)) pe_int (nomark _)) (pw_or1 (pt_cmpR (op_neD hr.units) (clX I hr passL (pa_cons (mkT (pa_iP (pa_iP (pa_iP (pa_iP (pa_iN (pa_iN (pa_iN pa_i0))))))) (by decide)) pa_nil)) (mkT (pa_iP (pa_iN (pa_iN (pa_iN (pa_iN (pa_iN (pa_iN pa_i0))))))) (by decide)) (nomark _)))))
          (pss_one (ps_ret pe_bl)) pss_nil)
      (pss_cons (ps_for PassesOwn.never rfl (pi_tup (pe_tup (pa_cons pe_non (pa_cons (pe_lst (pa_cons pe_int pa_nil)) (pa_cons (pe_tup (pa_cons pe_bl pa_nil)) (pa_cons (pe_tup (pa_cons (pe_op op_add (pe_op op_pow pe_int pe_int) pe_int) pa_nil))
          (pa_cons (pe_op op_repT (pe_tup (pa_cons pe_int pa_nil)) pe_int) (pa_cons pe_int pa_nil)))))))) (pg_name (i := 6) scLaw.nd rfl (.inr rfl))
        (pss_cons (ps_set (i := 7) scLaw.nd rfl (.inl rfl) (pe_lst (pa_cons (lamE (t := fun E => tCall (spFewest CI CM) [] E (tCons (tVar 6) tNil)) Hh T gI gM gF B.str TB rfl hr (by decide) (lamS_by (by show lamSB (defScope sLaw) _ = true; decide +kernel)) rfl (fun _ _ _ _ _ => rfl)
          (fun _ _ _ _ _ _ _ hr' => clX F hr' (passes_call (takes_of rfl rfl rfl rfl) fun _ _ _ _ h => h) (pa_cons (pv 6) pa_nil))) pa_nil)))
        (pss_cons (ps_expr (pe_bm PySem.F.plainAttrs_list PySem.F.slot_list_append PySem.F.type_list_append mt_append (pv 7) (pa_cons (lamE (t := fun E => tCall (spInk CI CM) [] E (tCons (tVar 6) tNil)) Hh T gI gM gF B.str TB rfl hr (by decide) (lamS_by (by show lamSB (defScope sLaw) _ = true; decide +kernel)) rfl (fun _ _ _ _ _ => rfl)
          (fun _ _ _ _ _ _ _ hr' => clX I hr' (passes_call (takes_of rfl rfl rfl rfl) fun _ _ _ _ h => h) (pa_cons (pv 6) pa_nil))) pa_nil)))
        (pss_one (ps_if (pt_cmpR (op_neD hr.units) (pv 7) (pe_op op_rep (pe_lst (pa_cons pe_str pa_nil)) pe_int) (nomark _)) (pss_one (ps_ret pe_bl)) pss_nil)))))
      (pss_cons (ps_set (i := 7) scLaw.nd rfl (.inl rfl) (pe_lst (pa_cons (lamE (t := fun E => tCall (spFewest CI CM) [] E (tCons (tOp (rRepT K) (tTup (tCons (tC (.int 0)) tNil)) (tC (.int 9))) tNil)) Hh T gI gM gF B.str TB rfl hr (by decide) (lamS_by (by show lamSB (defScope sLaw) _ = true; decide +kernel)) rfl (fun _ _ _ _ _ => rfl)
          (fun _ _ _ _ _ _ _ hr' => clX F hr' (passes_call (takes_of rfl rfl rfl rfl) fun _ _ _ _ h => h) (pa_cons (pe_op (r := rRepT K) op_repT (pe_tup (pa_cons pe_int pa_nil)) pe_int) pa_nil))) pa_nil)))
      (pss_cons (ps_expr (pe_bm PySem.F.plainAttrs_list PySem.F.slot_list_append PySem.F.type_list_append mt_append (pv 7) (pa_cons (lamE (t := fun E => tCall (spInk CI CM) [] E (tCons (tOp (rRepT K) (tTup (tCons (tC (.int 0)) tNil)) (tC (.int 9))) tNil)) Hh T gI gM gF B.str TB rfl hr (by decide) (lamS_by (by show lamSB (defScope sLaw) _ = true; decide +kernel)) rfl (fun _ _ _ _ _ => rfl)
          (fun _ _ _ _ _ _ _ hr' => clX I hr' (passes_call (takes_of rfl rfl rfl rfl) fun _ _ _ _ h => h) (pa_cons (pe_op (r := rRepT K) op_repT (pe_tup (pa_cons pe_int pa_nil)) pe_int) pa_nil))) pa_nil)))
      (pss_one (ps_ret (pe_and (pe_cmpR (op_eqD hr.units) (pv 7) (pe_op op_rep (pe_lst (pa_cons pe_str pa_nil)) pe_int) (nomark _))
        (pe_one (pe_cmpR (op_eqD hr.units) (clX I hr passL (pa_cons (pe_op op_repT (pe_tup (pa_cons (pe_op op_pow pe_int pe_int) pa_nil)) pe_int) pa_nil)) (pe_tup (pa_cons (pe_op op_pow pe_int pe_int) pa_nil)) (nomark _))))))))))))))), ?_⟩
    -- the cup
    refine ⟨.ref a, rfl, a, ns, rfl, hs, hlen, fun H1 c s1 c1 => ?_⟩
    have hT1 : Tabs [(Pt, qLaw)] H1 := hT.ext s1
    -- small rows
    refine ⟨3, rfl, by decide, by decide, for_range (n := 3) (fun i σ H' => Tabs [(Pt, qLaw)] H' ∧ Cup H' c ∧ ∃ z, σ = [some (.ref a), some (.ref c), z, none, none, none, none, none]) ⟨hT1, c1, none, rfl⟩ ?_ ?_⟩
    · rintro i σ H2 hi ⟨hT2, c2, z, rfl⟩
      refine ⟨.ref c, rfl, .ref c, rfl, (by show 3 ≤ sizeLine; decide), fun p np => ?_⟩
      have pc : p ≠ c := fun e => by
        obtain ⟨_, _, h, _⟩ := c2
        rw [e, h] at np
        cases np
      refine ⟨c, p, [6, 9, 12], rfl, upd_same, pc, by simp, by decide, c2.keep (put0 np), fun x a3 b3 hx hab => ?_⟩
      have hx12 : 0 ≤ x ∧ x ≤ 12 := by
        simp at hx
        omega
      have k3 : But c H2 (upd (upd H2 p (.lst ([6, 9, 12].map V.int))) c (.lst [.int a3, .int b3])) := (But.of (put0 np)).trans But.up
      refine ⟨c, x, rfl, hx12.1, hx12.2, ⟨a3, b3, upd_same, hab⟩, fun H4 t row k4 c4 ht hrow => ?_⟩
      obtain ⟨n, a5, b5, K5⟩ := small_asked hrow hx12.2
      refine ⟨t, row, n, a5, b5, rfl, ht, K5, fun H5 s5 => ⟨true, rfl, iteF ⟨Tabs.but c2 ((k3.trans k4).trans (But.of s5)) hT2, c4.keep s5, _, rfl⟩⟩⟩
    rintro σ H2 ⟨hT2, c2, z2, rfl⟩
    -- the rows of the text
    intro p1 H3 s3 l3
    refine ⟨.ref p1, rfl, fun p2 H4 s4 l4 => ?_⟩
    obtain ⟨w1, e1, q1⟩ := l3.keep s4
    obtain ⟨w2, e2, q2⟩ := l4
    refine ⟨p1, p2, w1, w2, rfl, rfl, e1, e2, by rw [q1.length, q2.length]; decide, fun p3 n3 => ?_⟩
    have l5 : LP (upd H4 p3 (.lst (w1 ++ w2))) p3 (rows1 ++ rows2) := LP.cat (put0 n3) e1 q1 e2 q2 upd_same
    have s5 : Same H2 (upd H4 p3 (.lst (w1 ++ w2))) := put (s3.trans s4) n3
    show gName 3 (.ref p3) _ (upd H4 p3 (.lst (w1 ++ w2))) _
    generalize upd H4 p3 (.lst (w1 ++ w2)) = H5 at l5 s5
    refine ⟨.ref p3, rfl, fun p6 H6 s6 l6 => ?_⟩
    obtain ⟨w3, e3, q3⟩ := l5.keep s6
    obtain ⟨w4, e4, q4⟩ := l6
    refine ⟨p3, p6, w3, w4, rfl, rfl, e3, e4, by rw [q3.length, q4.length]; decide, fun p7 n7 => ?_⟩
    have l7 : LP (upd H6 p7 (.lst (w3 ++ w4))) p7 rows12 := LP.cat (put0 n7) e3 q3 e4 q4 upd_same
    have s7 : Same H2 (upd H6 p7 (.lst (w3 ++ w4))) := put (s5.trans s6) n7
    show gName 3 (.ref p7) _ (upd H6 p7 (.lst (w3 ++ w4))) _
    generalize upd H6 p7 (.lst (w3 ++ w4)) = H7 at l7 s7
    obtain ⟨ws, hw, pr⟩ := l7
    refine ⟨.ref p7, rfl, p7, rfl, ⟨_, sl hw⟩, for_list (xs := ws) (fun i σ H' => Same H7 H' ∧ ∃ y4 y5, σ = [some (.ref a), some (.ref c), z2, some (.ref p7), y4, y5, none, none]) ⟨Same.refl _, none, none, rfl⟩ (fun i σ H' _ ⟨sm, _⟩ => sl (sm _ _ hw)) ?_ ?_⟩
    · rintro i x σ H8 hx ⟨s8, y4, y5, rfl⟩
      have hi : i < rows12.length := by
        rw [← pr.length]
        exact (List.getElem?_eq_some_iff.mp hx).1
      obtain ⟨pt, u, v, rfl, hpt, hu, hv⟩ := paired_at pr hx (List.getElem?_eq_getElem hi)
      have ok := rows_ok _ (List.getElem_mem hi)
      generalize rows12[i] = z at hu hv ok
      have hu8 := s8 _ _ hu
      have hv8 := s8 _ _ hv
      refine ⟨pt, _, rfl, sq (s8 _ _ hpt), rfl, _, _, rfl, _, _, rfl, rfl, ?_⟩
      rcases ok with ⟨ez1, ez2⟩ | ⟨n, a5, b5, T5, K5⟩
      · rw [ez1] at hu8
        rw [ez2] at hv8
        have ask : ∀ {E : XK} {ok : Addr → List Int → Prop}, ok u [] → ∀ H', Same H8 H' → Ask CI CM H' (.ref u) E ok := fun h H' s => .inl ⟨u, [], rfl, s _ _ hu8, by decide, (fun _ h => by cases h), h⟩
        refine ⟨.ref u, rfl, .ref u, rfl, ask (.inl ⟨rfl, fun H9 p9 s9 h9 => ?_⟩) H8 (Same.refl _)⟩
        refine ⟨.ref v, rfl, dT [], dT [], dp_tup h9, dp_tup (s9 _ _ hv8), dT_shaped _, dT_shaped _, _, rfl, ?_⟩
        rw [dT_eqv]
        refine ifN (fun c => absurd rfl c) (fun _ => ?_)
        refine ⟨.ref u, rfl, .ref u, rfl, ask (.inl ⟨rfl, fun HA sA => ?_⟩) H9 s9⟩
        refine ⟨.ref v, rfl, v, _, rfl, .inr (sq (sA _ _ (s9 _ _ hv8))), rfl, _, rfl, ifN (fun c => absurd rfl c) (fun _ => ?_)⟩
        refine ⟨.ref u, rfl, by decide, fun pB nB => ⟨dT [], dT [], dp_tup (put0 nB _ _ (sA _ _ (s9 _ _ hu8))), dp_tup (ns := []) upd_same, dT_shaped _, dT_shaped _, _, rfl, ?_⟩⟩
        rw [dT_eqv]
        refine ifN (fun c => absurd rfl c) (fun _ => ?_)
        exact iteF ⟨s8.trans (s9.trans (put sA nB)), _, _, rfl⟩
      · have ask : ∀ {E : XK} {ok : Addr → List Int → Prop}, ok u z.1 → ∀ H', Same H8 H' → Ask CI CM H' (.ref u) E ok := fun h H' s => .inl ⟨u, z.1, rfl, s _ _ hu8, T5.len, T5.near, h⟩
        refine ⟨.ref u, rfl, .ref u, rfl, ask (.inr ⟨T5.ne, n, a5, b5, T5.fair, T5.some, T5.fst, T5.lst, fun l hl H9 p9 s9 h9 => ?_⟩) H8 (Same.refl _)⟩
        have el : l = z.2 := hl.one T5.min
        subst el
        refine ⟨.ref v, rfl, dT z.2, dT z.2, dp_tup h9, dp_tup (s9 _ _ hv8), dT_shaped _, dT_shaped _, _, rfl, ?_⟩
        rw [dT_eqv]
        refine ifN (fun c => absurd rfl c) (fun _ => ?_)
        refine ⟨.ref u, rfl, .ref u, rfl, ask (.inr ⟨T5.ne, n, T5.fair, fun HA sA => ?_⟩) H9 s9⟩
        refine ⟨.ref v, rfl, v, _, rfl, .inr (sq (sA _ _ (s9 _ _ hv8))), rfl, _, rfl, ?_⟩
        rw [List.length_map, T5.many]
        refine ifN (fun c => absurd rfl c) (fun _ => ?_)
        refine ⟨.ref u, rfl, by decide, fun pB nB => ⟨dT z.1, dT [], dp_tup (put0 nB _ _ (sA _ _ (s9 _ _ hu8))), dp_tup (ns := []) upd_same, dT_shaped _, dT_shaped _, _, rfl, ?_⟩⟩
        rw [dT_eqv]
        refine ifN (fun _ => ?_) (fun c => absurd c T5.ne)
        exact ⟨.ref u, rfl, u, z.1, n, a5, b5, rfl, put0 nB _ _ (sA _ _ (s9 _ _ hu8)), K5, fun HC sC => ⟨true, rfl, iteF ⟨s8.trans (s9.trans ((put sA nB).trans sC)), _, _, rfl⟩⟩⟩
    rintro σ H8 ⟨s8, y4, y5, rfl⟩
    have hT8 : Tabs [(Pt, qLaw)] H8 := (hT2.ext s7).ext s8
    -- rows with many steps
    intro p9 H9 s9 h9
    refine ⟨.ref p9, rfl, .inl ⟨p9, _, rfl, h9, by decide, near_of (by decide), .inr ⟨by simp, 7, wide_fair, fun HA sA => ⟨rfl, _, rfl, ifN (fun c => absurd rfl c) (fun _ => ?_)⟩⟩⟩⟩
    intro pB HB sB hB
    refine ⟨.ref pB, rfl, .inl ⟨pB, _, rfl, hB, far_told.len, far_told.near, .inr ⟨far_told.ne, 6, 9, -54, far_told.fair, far_told.some, far_told.fst, far_told.lst, fun l hl HC pC sC hC => ?_⟩⟩⟩
    intro pD HD sD hD
    have el : l = [9, -23, -39, -47, -51, -53, -54] := hl.one far_told.min
    subst el
    refine ⟨dT [9, -23, -39, -47, -51, -53, -54], dT [9, -23, -39, -47, -51, -53, -54], dp_tup (sD _ _ hC), dp_tup hD, dT_shaped _, dT_shaped _, _, rfl, ?_⟩
    rw [dT_eqv]
    refine ifN (fun c => absurd rfl c) (fun _ => ?_)
    have hTD : Tabs [(Pt, qLaw)] HD := hT8.ext (s9.trans (sA.trans (sB.trans (sC.trans sD))))
    -- what is no row
    refine ⟨(by show 1 ≤ sizeLine; decide), fun l0 n0 => ⟨(by show 1 ≤ sizeLine; decide), fun t1 n1 => ⟨10, 6, rfl, rfl, ⟨by decide, by decide, by decide⟩, _, 1, rfl, rfl, (by show 1 ≤ sizeLine; decide), fun t2 n2 => ⟨(by show 1 ≤ sizeLine; decide), fun q0 nq =>
      ⟨q0, 13, _, rfl, rfl, sq upd_same, by simp, by decide, by decide, (by show 1 ≤ 1000; decide), fun t3 n3 => ⟨(by show 6 ≤ sizeLine; decide), fun pt npt => ?_⟩⟩⟩⟩⟩⟩
    have kE : ∃ HE : Hp, HE = upd (upd (upd (upd (upd (upd HD l0 (.lst [.int 0])) t1 (.tup [.bl true])) t2 (.tup [.int ((10 : Int) ^ (6 : Int).toNat + 1)])) q0 (.tup [.int 0])) t3 (.tup (List.replicate (13 : Int).toNat [V.int 0]).flatten)) pt (.tup [V.non, .ref l0, .ref t1, .ref t2, .ref t3, .int 0]) := ⟨_, rfl⟩
    obtain ⟨HE, eHE⟩ := kE
    have sE : Same HD HE := by
      rw [eHE]
      exact put (put (put (put (put (put0 n0) n1) n2) nq) n3) npt
    have g0 : HE l0 = some (.lst [.int 0]) := by
      rw [eHE]
      exact put0 npt _ _ (put0 n3 _ _ (put0 nq _ _ (put0 n2 _ _ (put0 n1 _ _ upd_same))))
    have g1 : HE t1 = some (.tup [.bl true]) := by
      rw [eHE]
      exact put0 npt _ _ (put0 n3 _ _ (put0 nq _ _ (put0 n2 _ _ upd_same)))
    have g2 : HE t2 = some (.tup [.int 1000001]) := by
      rw [eHE]
      exact put0 npt _ _ (put0 n3 _ _ (put0 nq _ _ upd_same))
    have g3 : HE t3 = some (.tup (List.replicate 13 (.int 0))) := by
      rw [eHE]
      exact put0 npt _ _ upd_same
    have gp : HE pt = some (.tup [V.non, .ref l0, .ref t1, .ref t2, .ref t3, .int 0]) := by
      rw [eHE]
      exact upd_same
    have hTE := hTD.ext sE
    have bad : ∀ {H' : Hp}, ExtN HE H' → ∀ x ∈ [V.non, .ref l0, .ref t1, .ref t2, .ref t3, .int 0], Row H' x false := fun e => odd_rows (extN_lst e g0) (extN_tup e g1) (extN_tup e g2) (extN_tup e g3)
    refine ⟨pt, rfl, ?_⟩
    show (∃ xs, SqT K (upd (upd (upd (upd (upd (upd HD l0 (.lst [.int 0])) t1 (.tup [.bl true])) t2 (.tup [.int ((10 : Int) ^ (6 : Int).toNat + 1)])) q0 (.tup [.int 0])) t3 (.tup (List.replicate (13 : Int).toNat [V.int 0]).flatten)) pt (.tup [V.non, .ref l0, .ref t1, .ref t2, .ref t3, .int 0])) pt xs) ∧ _
    rw [← eHE]
    refine ⟨⟨_, sq gp⟩, for_tup (xs := [V.non, .ref l0, .ref t1, .ref t2, .ref t3, .int 0]) (fun i σ H' => ExtN HE H' ∧ Tabs [(Pt, qLaw)] H' ∧ ∃ z6 z7, σ = [some (.ref a), some (.ref c), z2, some (.ref p7), y4, y5, z6, z7])
      ?_ (fun i σ H' _ ⟨e, _⟩ => sq (extN_tup e gp)) ?_ ?_⟩
    · exact ⟨ExtN.refl _, hTE, none, none, rfl⟩
    · rintro i x σ H1 hx ⟨e, hT, z6, z7, rfl⟩
      have hm := List.mem_of_getElem? hx
      -- [_law_error(lambda: fewest_folds(odd))]
      refine ⟨hT, fun HF eF tF => ⟨x, rfl, x, rfl, .inr (.inl ⟨bad (e.trans eF) x hm, fun HG sG => .inl ⟨rfl, (by show 1 ≤ sizeLine; decide), fun pw nw => ?_⟩⟩)⟩⟩
      have eG := (e.trans eF).trans (ExtN.of sG)
      have tG := (tF.ext sG).ext (put0 (o := .lst [V.str "folds"]) nw)
      refine ⟨.ref pw, rfl, .inl ⟨rfl, _, sl upd_same⟩, tG, fun HI eI tI => ⟨x, rfl, x, rfl, .inr (.inl ⟨bad ((extN_put eG nw eG).trans eI) x hm, fun HJ sJ => .inl ⟨rfl, pw, _, _, rfl, rfl, sJ _ _ (extN_lst eI upd_same), (by show 1 < sizeLine; decide), ?_⟩⟩)⟩⟩
      have hpw : HJ pw = some (.lst [V.str "folds"]) := sJ _ _ (extN_lst eI upd_same)
      have eJ : ExtN HE HJ := ((extN_put eG nw eG).trans eI).trans (ExtN.of sJ)
      have tJ : Tabs [(Pt, qLaw)] (upd HJ pw (.lst [V.str "folds", V.str "folds"])) := tabs_lst (tI.ext sJ) hpw
      have eK : ExtN HE (upd HJ pw (.lst [V.str "folds", V.str "folds"])) := extN_put eG nw eJ
      refine ⟨.ref pw, rfl, (by show 1 ≤ sizeLine; decide), fun p5 n5 => ⟨p5, 2, _, rfl, rfl, upd_same, by decide, by decide, by decide, fun p6 n6 => ?_⟩⟩
      refine ⟨dSS "folds" "folds", dSS "folds" "folds", dp_ss (put0 n6 _ _ (put0 n5 _ _ upd_same)), dp_ss upd_same, by decide +kernel, by decide +kernel, _, rfl, ?_⟩
      rw [show PyData.eqv (dSS "folds" "folds") (dSS "folds" "folds") = true from by decide +kernel]
      exact iteF ⟨(eK.trans (ExtN.of (put0 n5))).trans (ExtN.of (put0 n6)), (tJ.ext (put0 n5)).ext (put0 n6), _, _, rfl⟩
    · rintro σ H1 ⟨e, hT, z6, z7, rfl⟩
      refine ⟨hT, fun HF eF tF => ⟨(by show 1 ≤ sizeLine; decide), fun r0 nr0 => ⟨r0, 9, _, rfl, rfl, sq upd_same, by simp, by decide, by decide, by decide, fun r1 nr1 => ⟨.ref r1, rfl, .inr (.inr ⟨r1, List.replicate 9 0, rfl, upd_same, by decide, by decide, near_of (by decide), fun HG sG d nd =>
        .inr ⟨rfl, d, rfl, upd_same, (by show 1 ≤ sizeLine; decide), fun pw nw => ?_⟩⟩)⟩⟩⟩⟩
      have tG := ((((tF.ext (put0 (o := .tup [V.int 0]) nr0)).ext (put0 (o := .tup (List.replicate (9 : Int).toNat [V.int 0]).flatten) nr1)).ext sG).ext (put0 (o := .xd [(("limit" : Str), V.int 8)]) nd)).ext (put0 (o := .lst [V.str "many8"]) nw)
      refine ⟨.ref pw, rfl, .inl ⟨rfl, _, sl upd_same⟩, tG, fun HI eI tI => ⟨(by show 1 ≤ sizeLine; decide), fun r2 nr2 => ⟨r2, 9, _, rfl, rfl, sq upd_same, by simp, by decide, by decide, by decide, fun r3 nr3 => ⟨.ref r3, rfl, .inr (.inr ⟨r3, List.replicate 9 0, rfl, upd_same, by decide, by decide, near_of (by decide), fun HJ sJ d2 nd2 =>
        .inr ⟨rfl, d2, rfl, upd_same, pw, _, _, rfl, rfl, put0 nd2 _ _ (sJ _ _ (put0 nr3 _ _ (put0 nr2 _ _ (extN_lst eI upd_same)))), (by show 1 < sizeLine; decide), ?_⟩⟩)⟩⟩⟩⟩
      refine ⟨.ref pw, rfl, (by show 1 ≤ sizeLine; decide), fun p5 n5 => ⟨p5, 2, _, rfl, rfl, upd_same, by decide, by decide, by decide, fun p6 n6 => ?_⟩⟩
      refine ⟨dSS "many8" "many8", dSS "many8" "many8", dp_ss (put0 n6 _ _ (put0 n5 _ _ upd_same)), dp_ss upd_same, by decide +kernel, by decide +kernel, ?_⟩
      rw [show PyData.eqv (dSS "many8" "many8") (dSS "many8" "many8") = true from by decide +kernel]
      refine ⟨true, rfl, iteT ⟨10, 6, rfl, rfl, ⟨by decide, by decide, by decide⟩, (by show 1 ≤ sizeLine; decide), fun r4 nr4 => ⟨r4, 8, _, rfl, rfl, sq upd_same, by simp, by decide, by decide, (by show 1 ≤ 1000; decide), fun r5 nr5 => ?_⟩⟩⟩
      refine ⟨.ref r5, rfl, .inl ⟨r5, List.replicate 8 1000000, rfl, upd_same, flat_told.len, flat_told.near, .inr ⟨flat_told.ne, 0, 1000000, 1000000, flat_told.fair, flat_told.some, flat_told.fst, flat_told.lst, fun l hl HK pK sK hK => ?_⟩⟩⟩
      have el : l = [1000000] := hl.one flat_told.min
      subst el
      refine ⟨10, 6, rfl, rfl, ⟨by decide, by decide, by decide⟩, (by show 1 ≤ sizeLine; decide), fun r6 nr6 => ⟨dT [1000000], dT [1000000], dp_tup (put0 nr6 _ _ hK), dp_tup (ns := [1000000]) upd_same, dT_shaped _, dT_shaped _, ?_⟩⟩
      rw [dT_eqv, decide_eq_true rfl]
      exact q _
end
end Kd

/-! All defs together. -/
namespace Kd
open PySem PySem.Spec PyProof.Rows L2 Kr RZ LamX
/-- the end, with what the head says of the loose names -/
theorem walk_ofTsX {l : PySem.W.OpenLaw} {n k : Nat} {q : Program} {loose : List Str} {XP : (Str → Option Value) → Heap → Prop} {YP : World → Heap → Prop} {d : DefRec} {K : Params → PySem.W.Frag} {CX : World → CXT} {x : Str}
    (hn : l.most = some n) (hn2 : n ≤ sizeLine) (hdf : d.params.defaults = []) (hr : Room k callerA) (hY : ∀ (w : World) (h : Heap), YP w h → (K w.params).In h)
    (F : ∀ (w : World) (mg : Str → Option Value) (fa : Addr) (h : Heap), XP mg h → YP w h → (K w.params).In h → h.Ns mainGlobals mg → mg d.name = some (.ref fa) → LawAtS l w (K w.params) (CX w) k n x mg fa h)
    (hCX : ∀ (w : World) (H : Hp) (s : Shared) (e : Value) (s' : Shared), CX w [] H s (fun _ _ _ => False) e s' → False) :
    PySem.W.WalkO q loose XP YP l.row.toRowW d [] (fun f vs => PySem.call f vs) := by
  refine Att.attach_callB hn hdf fun w s₀ s₁ mg mb fa o pm cd doc a vs ns G Y ho hd hcd hmg hobj hints hlen hbits hg => ?_
  have KX := hY w _ Y
  obtain ⟨fd, cs, sp, hT, nT, C, hb, hsp, hF⟩ := F w mg fa _ G.X Y KX G.T.g hmg
  exact law_callTs KX G.T.g G.T.b G.T.builtins G.T.nolimit hg hT nT C G.T.bmain hobj hints (Nat.le_trans hlen hn2) hr hF hb (fun H hH hS => hsp H a ns hlen hbits hH hS) fun H e s' => hCX w H s₁ e s'
theorem loose_int {p : Program} {mg : Str → Option Value} {h : Heap} {x : Str} {n : Int} (X : PySem.W.XL p [(x, PySem.W.WData.int n)] mg h) : ∃ u, mg x = some u ∧ RelV (.int n) u := by
  obtain ⟨v, hv, r⟩ := X.2.val (x, PySem.W.WData.int n) (by simp)
  refine ⟨v, hv, ?_⟩
  cases r with
  | int i t => exact ⟨t, rfl⟩
theorem law_at {l : PySem.W.OpenLaw} {w : World} {K : PySem.W.Frag} {mg : Str → Option Value} {fa : Addr} {h : Heap} (X : K.In h) (G : h.Ns mainGlobals mg) (hfa : mg "law" = some (.ref fa)) (cr : ∃ u, mg "CREASE" = some u ∧ RelV (.int 1000000) u)
    {f7 : Addr} {oc7 kV7 dc7 pm7 cd7 ct7 : Value} {od7 an7 : Option Addr} {sl7 : Array (Option Value)}
    {f8 : Addr} {oc8 kV8 dc8 pm8 cd8 ct8 : Value} {od8 an8 : Option Addr} {sl8 : Array (Option Value)}
    {f9 : Addr} {oc9 kV9 dc9 pm9 cd9 ct9 : Value} {od9 an9 : Option Addr} {sl9 : Array (Option Value)}
    {f10 : Addr} {oc10 kV10 dc10 pm10 cd10 ct10 : Value} {od10 an10 : Option Addr} {sl10 : Array (Option Value)}
    {f11 : Addr} {oc11 kV11 dc11 pm11 cd11 ct11 : Value} {od11 an11 : Option Addr} {sl11 : Array (Option Value)}
    {f13 : Addr} {oc13 kV13 dc13 pm13 cd13 ct13 : Value} {od13 an13 : Option Addr} {sl13 : Array (Option Value)}
    {f16 : Addr} {oc16 kV16 dc16 pm16 cd16 ct16 : Value} {od16 an16 : Option Addr} {sl16 : Array (Option Value)}
    {f17 : Addr} {oc17 kV17 dc17 pm17 cd17 ct17 : Value} {od17 an17 : Option Addr} {sl17 : Array (Option Value)}
    {f18 : Addr} {oc18 kV18 dc18 pm18 cd18 ct18 : Value} {od18 an18 : Option Addr} {sl18 : Array (Option Value)}
    {f19 : Addr} {oc19 kV19 dc19 pm19 cd19 ct19 : Value} {od19 an19 : Option Addr} {sl19 : Array (Option Value)}
    {f20 : Addr} {oc20 kV20 dc20 pm20 cd20 ct20 : Value} {od20 an20 : Option Addr} {sl20 : Array (Option Value)}
    {f23 : Addr} {oc23 kV23 dc23 pm23 cd23 ct23 : Value} {od23 an23 : Option Addr} {sl23 : Array (Option Value)}
    {f24 : Addr} {oc24 kV24 dc24 pm24 cd24 ct24 : Value} {od24 an24 : Option Addr} {sl24 : Array (Option Value)}
    {f25 : Addr} {oc25 kV25 dc25 pm25 cd25 ct25 : Value} {od25 an25 : Option Addr} {sl25 : Array (Option Value)}
    {f26 : Addr} {oc26 kV26 dc26 pm26 cd26 ct26 : Value} {od26 an26 : Option Addr} {sl26 : Array (Option Value)}
    {f27 : Addr} {oc27 kV27 dc27 pm27 cd27 ct27 : Value} {od27 an27 : Option Addr} {sl27 : Array (Option Value)}
    {f28 : Addr} {oc28 kV28 dc28 pm28 cd28 ct28 : Value} {od28 an28 : Option Addr} {sl28 : Array (Option Value)}
    {f29 : Addr} {oc29 kV29 dc29 pm29 cd29 ct29 : Value} {od29 an29 : Option Addr} {sl29 : Array (Option Value)}
    {f30 : Addr} {oc30 kV30 dc30 pm30 cd30 ct30 : Value} {od30 an30 : Option Addr} {sl30 : Array (Option Value)}
    {f31 : Addr} {oc31 kV31 dc31 pm31 cd31 ct31 : Value} {od31 an31 : Option Addr} {sl31 : Array (Option Value)}
    {f32 : Addr} {oc32 kV32 dc32 pm32 cd32 ct32 : Value} {od32 an32 : Option Addr} {sl32 : Array (Option Value)}
    {f34 : Addr} {oc34 kV34 dc34 pm34 cd34 ct34 : Value} {od34 an34 : Option Addr} {sl34 : Array (Option Value)}
    {f35 : Addr} {oc35 kV35 dc35 pm35 cd35 ct35 : Value} {od35 an35 : Option Addr} {sl35 : Array (Option Value)}
    {f36 : Addr} {oc36 kV36 dc36 pm36 cd36 ct36 : Value} {od36 an36 : Option Addr} {sl36 : Array (Option Value)}
    {f40 : Addr} {oc40 kV40 dc40 pm40 cd40 ct40 : Value} {od40 an40 : Option Addr} {sl40 : Array (Option Value)}
    {f41 : Addr} {oc41 kV41 dc41 pm41 cd41 ct41 : Value} {od41 an41 : Option Addr} {sl41 : Array (Option Value)}
    {f42 : Addr} {oc42 kV42 dc42 pm42 cd42 ct42 : Value} {od42 an42 : Option Addr} {sl42 : Array (Option Value)}
    {f43 : Addr} {oc43 kV43 dc43 pm43 cd43 ct43 : Value} {od43 an43 : Option Addr} {sl43 : Array (Option Value)}
    {f44 : Addr} {oc44 kV44 dc44 pm44 cd44 ct44 : Value} {od44 an44 : Option Addr} {sl44 : Array (Option Value)}
    {f45 : Addr} {oc45 kV45 dc45 pm45 cd45 ct45 : Value} {od45 an45 : Option Addr} {sl45 : Array (Option Value)}
    {f46 : Addr} {oc46 kV46 dc46 pm46 cd46 ct46 : Value} {od46 an46 : Option Addr} {sl46 : Array (Option Value)}
    {f47 : Addr} {oc47 kV47 dc47 pm47 cd47 ct47 : Value} {od47 an47 : Option Addr} {sl47 : Array (Option Value)}
    {f48 cc Pt : Addr} {oc48 kV48 dc48 pm48 ct48 : Value} {od48 an48 : Option Addr} {sl48 : Array (Option Value)}
    {CI CM CF fI : Addr} {nm q : Str} {N : Addr} {bs bm : List Value} {sn : List Str} {sub : List Value} {ab : Bool} {col : Option Bool} {dd : Option Addr} {q0 q1 q2 q3 q5 : Option Value} {ocI docI pmI ctI clc : Value} {odI anI cld dcf : Option Addr} {cda ccl0 : Addr} {slI csl ccs : Array (Option Value)} {clf : Value} {vsf : Array Value} {file : Str} {tf : Tok}
    {tkFOLDS_strips : Tok}
    {tkFOLDS_inkedplaces : Tok}
    {tkSTEPS : Tok}
    (a7 : PySem.W.nsIn K mainGlobals "is_whole" = some (some (.ref f7)))
    (l7 : K.lookup f7 = some ⟨oc7, od7, .func (PySem.W.fnOf "is_whole" "is_whole" (defArgs sWhole) (defBody sWhole) (defScope sWhole) .none kV7 dc7 pm7 an7 cd7 ct7), sl7⟩)
    (c7 : PySem.W.codeIn K cd7 "is_whole" = true)
    (k7 : PySem.W.keepIn K (.ref f7) = true)
    (a8 : PySem.W.nsIn K mainGlobals "is_tuple_of" = some (some (.ref f8)))
    (l8 : K.lookup f8 = some ⟨oc8, od8, .func (PySem.W.fnOf "is_tuple_of" "is_tuple_of" (defArgs sTupleOf) (defBody sTupleOf) (defScope sTupleOf) .none kV8 dc8 pm8 an8 cd8 ct8), sl8⟩)
    (c8 : PySem.W.codeIn K cd8 "is_tuple_of" = true)
    (k8 : PySem.W.keepIn K (.ref f8) = true)
    (a9 : PySem.W.nsIn K mainGlobals "fits_crease" = some (some (.ref f9)))
    (l9 : K.lookup f9 = some ⟨oc9, od9, .func (PySem.W.fnOf "fits_crease" "fits_crease" (defArgs sCrease) (defBody sCrease) (defScope sCrease) .none kV9 dc9 pm9 an9 cd9 ct9), sl9⟩)
    (c9 : PySem.W.codeIn K cd9 "fits_crease" = true)
    (k9 : PySem.W.keepIn K (.ref f9) = true)
    (a10 : PySem.W.nsIn K mainGlobals "fits_folds" = some (some (.ref f10)))
    (l10 : K.lookup f10 = some ⟨oc10, od10, .func (PySem.W.fnOf "fits_folds" "fits_folds" (defArgs sFits) (defBody sFits) (defScope sFits) .none kV10 dc10 pm10 an10 cd10 ct10), sl10⟩)
    (c10 : PySem.W.codeIn K cd10 "fits_folds" = true)
    (k10 : PySem.W.keepIn K (.ref f10) = true)
    (a11 : PySem.W.nsIn K mainGlobals "need_folds" = some (some (.ref f11)))
    (l11 : K.lookup f11 = some ⟨oc11, od11, .func (PySem.W.fnOf "need_folds" "need_folds" (defArgs sNeed) (defBody sNeed) (defScope sNeed) .none kV11 dc11 pm11 an11 cd11 ct11), sl11⟩)
    (c11 : PySem.W.codeIn K cd11 "need_folds" = true)
    (k11 : PySem.W.keepIn K (.ref f11) = true)
    (a13 : PySem.W.nsIn K mainGlobals "steps_in" = some (some (.ref f13)))
    (l13 : K.lookup f13 = some ⟨oc13, od13, .func (PySem.W.fnOf "steps_in" "steps_in" (defArgs sSteps) (defBody sSteps) (defScope sSteps) .none kV13 dc13 pm13 an13 cd13 ct13), sl13⟩)
    (c13 : PySem.W.codeIn K cd13 "steps_in" = true)
    (k13 : PySem.W.keepIn K (.ref f13) = true)
    (a16 : PySem.W.nsIn K mainGlobals "all_sums" = some (some (.ref f16)))
    (l16 : K.lookup f16 = some ⟨oc16, od16, .func (PySem.W.fnOf "all_sums" "all_sums" (defArgs sAll) (defBody sAll) (defScope sAll) .none kV16 dc16 pm16 an16 cd16 ct16), sl16⟩)
    (c16 : PySem.W.codeIn K cd16 "all_sums" = true)
    (k16 : PySem.W.keepIn K (.ref f16) = true)
    (a17 : PySem.W.nsIn K mainGlobals "sums_in" = some (some (.ref f17)))
    (l17 : K.lookup f17 = some ⟨oc17, od17, .func (PySem.W.fnOf "sums_in" "sums_in" (defArgs sSums) (defBody sSums) (defScope sSums) .none kV17 dc17 pm17 an17 cd17 ct17), sl17⟩)
    (c17 : PySem.W.codeIn K cd17 "sums_in" = true)
    (k17 : PySem.W.keepIn K (.ref f17) = true)
    (a18 : PySem.W.nsIn K mainGlobals "are_alike" = some (some (.ref f18)))
    (l18 : K.lookup f18 = some ⟨oc18, od18, .func (PySem.W.fnOf "are_alike" "are_alike" (defArgs sAlike) (defBody sAlike) (defScope sAlike) .none kV18 dc18 pm18 an18 cd18 ct18), sl18⟩)
    (c18 : PySem.W.codeIn K cd18 "are_alike" = true)
    (k18 : PySem.W.keepIn K (.ref f18) = true)
    (a19 : PySem.W.nsIn K mainGlobals "need_few_folds" = some (some (.ref f19)))
    (l19 : K.lookup f19 = some ⟨oc19, od19, .func (PySem.W.fnOf "need_few_folds" "need_few_folds" (defArgs sFew) (defBody sFew) (defScope sFew) .none kV19 dc19 pm19 an19 cd19 ct19), sl19⟩)
    (c19 : PySem.W.codeIn K cd19 "need_few_folds" = true)
    (k19 : PySem.W.keepIn K (.ref f19) = true)
    (a20 : PySem.W.nsIn K mainGlobals "alike_by_places" = some (some (.ref f20)))
    (l20 : K.lookup f20 = some ⟨oc20, od20, .func (PySem.W.fnOf "alike_by_places" "alike_by_places" (defArgs sBy) (defBody sBy) (defScope sBy) .none kV20 dc20 pm20 an20 cd20 ct20), sl20⟩)
    (c20 : PySem.W.codeIn K cd20 "alike_by_places" = true)
    (k20 : PySem.W.keepIn K (.ref f20) = true)
    (a23 : PySem.W.nsIn K mainGlobals "grown" = some (some (.ref f23)))
    (l23 : K.lookup f23 = some ⟨oc23, od23, .func (PySem.W.fnOf "grown" "grown" (defArgs sGrown) (defBody sGrown) (defScope sGrown) .none kV23 dc23 pm23 an23 cd23 ct23), sl23⟩)
    (c23 : PySem.W.codeIn K cd23 "grown" = true)
    (k23 : PySem.W.keepIn K (.ref f23) = true)
    (a24 : PySem.W.nsIn K mainGlobals "can_reach" = some (some (.ref f24)))
    (l24 : K.lookup f24 = some ⟨oc24, od24, .func (PySem.W.fnOf "can_reach" "can_reach" (defArgs sCan) (defBody sCan) (defScope sCan) .none kV24 dc24 pm24 an24 cd24 ct24), sl24⟩)
    (c24 : PySem.W.codeIn K cd24 "can_reach" = true)
    (k24 : PySem.W.keepIn K (.ref f24) = true)
    (a25 : PySem.W.nsIn K mainGlobals "steps_behind" = some (some (.ref f25)))
    (l25 : K.lookup f25 = some ⟨oc25, od25, .func (PySem.W.fnOf "steps_behind" "steps_behind" (defArgs sBehind) (defBody sBehind) (defScope sBehind) .none kV25 dc25 pm25 an25 cd25 ct25), sl25⟩)
    (c25 : PySem.W.codeIn K cd25 "steps_behind" = true)
    (k25 : PySem.W.keepIn K (.ref f25) = true)
    (a26 : PySem.W.nsIn K mainGlobals "longer_on" = some (some (.ref f26)))
    (l26 : K.lookup f26 = some ⟨oc26, od26, .func (PySem.W.fnOf "longer_on" "longer_on" (defArgs sLonger) (defBody sLonger) (defScope sLonger) .none kV26 dc26 pm26 an26 cd26 ct26), sl26⟩)
    (c26 : PySem.W.codeIn K cd26 "longer_on" = true)
    (k26 : PySem.W.keepIn K (.ref f26) = true)
    (a27 : PySem.W.nsIn K mainGlobals "tuples_of" = some (some (.ref f27)))
    (l27 : K.lookup f27 = some ⟨oc27, od27, .func (PySem.W.fnOf "tuples_of" "tuples_of" (defArgs sTuples) (defBody sTuples) (defScope sTuples) .none kV27 dc27 pm27 an27 cd27 ct27), sl27⟩)
    (c27 : PySem.W.codeIn K cd27 "tuples_of" = true)
    (k27 : PySem.W.keepIn K (.ref f27) = true)
    (a28 : PySem.W.nsIn K mainGlobals "shortest_to" = some (some (.ref f28)))
    (l28 : K.lookup f28 = some ⟨oc28, od28, .func (PySem.W.fnOf "shortest_to" "shortest_to" (defArgs sShort) (defBody sShort) (defScope sShort) .none kV28 dc28 pm28 an28 cd28 ct28), sl28⟩)
    (c28 : PySem.W.codeIn K cd28 "shortest_to" = true)
    (k28 : PySem.W.keepIn K (.ref f28) = true)
    (a29 : PySem.W.nsIn K mainGlobals "goal_of" = some (some (.ref f29)))
    (l29 : K.lookup f29 = some ⟨oc29, od29, .func (PySem.W.fnOf "goal_of" "goal_of" (defArgs sGoal) (defBody sGoal) (defScope sGoal) .none kV29 dc29 pm29 an29 cd29 ct29), sl29⟩)
    (c29 : PySem.W.codeIn K cd29 "goal_of" = true)
    (k29 : PySem.W.keepIn K (.ref f29) = true)
    (a30 : PySem.W.nsIn K mainGlobals "least_with" = some (some (.ref f30)))
    (l30 : K.lookup f30 = some ⟨oc30, od30, .func (PySem.W.fnOf "least_with" "least_with" (defArgs sLeast) (defBody sLeast) (defScope sLeast) .none kV30 dc30 pm30 an30 cd30 ct30), sl30⟩)
    (c30 : PySem.W.codeIn K cd30 "least_with" = true)
    (k30 : PySem.W.keepIn K (.ref f30) = true)
    (a31 : PySem.W.nsIn K mainGlobals "fewest_folds" = some (some (.ref f31)))
    (l31 : K.lookup f31 = some ⟨oc31, od31, .func (PySem.W.fnOf "fewest_folds" "fewest_folds" (defArgs sFewest) (defBody sFewest) (defScope sFewest) .none kV31 dc31 pm31 an31 cd31 ct31), sl31⟩)
    (c31 : PySem.W.codeIn K cd31 "fewest_folds" = true)
    (k31 : PySem.W.keepIn K (.ref f31) = true)
    (a32 : PySem.W.nsIn K mainGlobals "least_ink_row" = some (some (.ref f32)))
    (l32 : K.lookup f32 = some ⟨oc32, od32, .func (PySem.W.fnOf "least_ink_row" "least_ink_row" (defArgs sInk) (defBody sInk) (defScope sInk) .none kV32 dc32 pm32 an32 cd32 ct32), sl32⟩)
    (c32 : PySem.W.codeIn K cd32 "least_ink_row" = true)
    (k32 : PySem.W.keepIn K (.ref f32) = true)
    (a34 : PySem.W.nsIn K mainGlobals "_law_cup" = some (some (.ref f34)))
    (l34 : K.lookup f34 = some ⟨oc34, od34, .func (PySem.W.fnOf "_law_cup" "_law_cup" (defArgs sCup) (defBody sCup) (defScope sCup) .none kV34 dc34 pm34 an34 cd34 ct34), sl34⟩)
    (c34 : PySem.W.codeIn K cd34 "_law_cup" = true)
    (k34 : PySem.W.keepIn K (.ref f34) = true)
    (a35 : PySem.W.nsIn K mainGlobals "_law_roll" = some (some (.ref f35)))
    (l35 : K.lookup f35 = some ⟨oc35, od35, .func (PySem.W.fnOf "_law_roll" "_law_roll" (defArgs sRoll) (defBody sRoll) (defScope sRoll) .none kV35 dc35 pm35 an35 cd35 ct35), sl35⟩)
    (c35 : PySem.W.codeIn K cd35 "_law_roll" = true)
    (k35 : PySem.W.keepIn K (.ref f35) = true)
    (a36 : PySem.W.nsIn K mainGlobals "_law_some" = some (some (.ref f36)))
    (l36 : K.lookup f36 = some ⟨oc36, od36, .func (PySem.W.fnOf "_law_some" "_law_some" (defArgs sSome) (defBody sSome) (defScope sSome) .none kV36 dc36 pm36 an36 cd36 ct36), sl36⟩)
    (c36 : PySem.W.codeIn K cd36 "_law_some" = true)
    (k36 : PySem.W.keepIn K (.ref f36) = true)
    (a40 : PySem.W.nsIn K mainGlobals "_law_small_row" = some (some (.ref f40)))
    (l40 : K.lookup f40 = some ⟨oc40, od40, .func (PySem.W.fnOf "_law_small_row" "_law_small_row" (defArgs sSmall) (defBody sSmall) (defScope sSmall) .none kV40 dc40 pm40 an40 cd40 ct40), sl40⟩)
    (c40 : PySem.W.codeIn K cd40 "_law_small_row" = true)
    (k40 : PySem.W.keepIn K (.ref f40) = true)
    (a41 : PySem.W.nsIn K mainGlobals "_law_parts" = some (some (.ref f41)))
    (l41 : K.lookup f41 = some ⟨oc41, od41, .func (PySem.W.fnOf "_law_parts" "_law_parts" (defArgs sParts) (defBody sParts) (defScope sParts) .none kV41 dc41 pm41 an41 cd41 ct41), sl41⟩)
    (c41 : PySem.W.codeIn K cd41 "_law_parts" = true)
    (k41 : PySem.W.keepIn K (.ref f41) = true)
    (a42 : PySem.W.nsIn K mainGlobals "_law_sums" = some (some (.ref f42)))
    (l42 : K.lookup f42 = some ⟨oc42, od42, .func (PySem.W.fnOf "_law_sums" "_law_sums" (defArgs sLSums) (defBody sLSums) (defScope sLSums) .none kV42 dc42 pm42 an42 cd42 ct42), sl42⟩)
    (c42 : PySem.W.codeIn K cd42 "_law_sums" = true)
    (k42 : PySem.W.keepIn K (.ref f42) = true)
    (a43 : PySem.W.nsIn K mainGlobals "_law_steps" = some (some (.ref f43)))
    (l43 : K.lookup f43 = some ⟨oc43, od43, .func (PySem.W.fnOf "_law_steps" "_law_steps" (defArgs sLSteps) (defBody sLSteps) (defScope sLSteps) .none kV43 dc43 pm43 an43 cd43 ct43), sl43⟩)
    (c43 : PySem.W.codeIn K cd43 "_law_steps" = true)
    (k43 : PySem.W.keepIn K (.ref f43) = true)
    (a44 : PySem.W.nsIn K mainGlobals "_law_error" = some (some (.ref f44)))
    (l44 : K.lookup f44 = some ⟨oc44, od44, .func (PySem.W.fnOf "_law_error" "_law_error" (defArgs sErr) (defBody sErr) (defScope sErr) .none kV44 dc44 pm44 an44 cd44 ct44), sl44⟩)
    (c44 : PySem.W.codeIn K cd44 "_law_error" = true)
    (k44 : PySem.W.keepIn K (.ref f44) = true)
    (a45 : PySem.W.nsIn K mainGlobals "_law_rows" = some (some (.ref f45)))
    (l45 : K.lookup f45 = some ⟨oc45, od45, .func (PySem.W.fnOf "_law_rows" "_law_rows" (defArgs sRows) (defBody sRows) (defScope sRows) .none kV45 dc45 pm45 an45 cd45 ct45), sl45⟩)
    (c45 : PySem.W.codeIn K cd45 "_law_rows" = true)
    (k45 : PySem.W.keepIn K (.ref f45) = true)
    (a46 : PySem.W.nsIn K mainGlobals "_law_best" = some (some (.ref f46)))
    (l46 : K.lookup f46 = some ⟨oc46, od46, .func (PySem.W.fnOf "_law_best" "_law_best" (defArgs sBest) (defBody sBest) (defScope sBest) .none kV46 dc46 pm46 an46 cd46 ct46), sl46⟩)
    (c46 : PySem.W.codeIn K cd46 "_law_best" = true)
    (k46 : PySem.W.keepIn K (.ref f46) = true)
    (a47 : PySem.W.nsIn K mainGlobals "_law_right" = some (some (.ref f47)))
    (l47 : K.lookup f47 = some ⟨oc47, od47, .func (PySem.W.fnOf "_law_right" "_law_right" (defArgs sRight) (defBody sRight) (defScope sRight) .none kV47 dc47 pm47 an47 cd47 ct47), sl47⟩)
    (c47 : PySem.W.codeIn K cd47 "_law_right" = true)
    (k47 : PySem.W.keepIn K (.ref f47) = true)
    (a48 : PySem.W.nsIn K mainGlobals "law" = some (some (.ref f48)))
    (l48 : K.lookup f48 = some ⟨oc48, od48, .func (PySem.W.fnOf "law" "law" (defArgs sLaw) (defBody sLaw) (defScope sLaw) .none kV48 dc48 pm48 an48 (.ref cc) ct48), sl48⟩)
    (c48 : PySem.W.codeIn K (.ref cc) "law" = true)
    (gI : PySem.W.nsIn K mainGlobals "InvalidFolds" = some (some (.ref CI)))
    (gM : PySem.W.nsIn K mainGlobals "TooMany" = some (some (.ref CM)))
    (gF : PySem.W.nsIn K mainGlobals "FoldError" = some (some (.ref CF)))
    (xI : PySem.W.excIn K CI [.type "ValueError", .type "Exception", .type "BaseException", .type "object"] "ValueError.__new__" = true)
    (kI : PySem.W.keepIn K (.ref CI) = true)
    (bI : PySem.W.subIn K (.ref CI) (.type "BaseException") = some true)
    (tI : PySem.W.typeIn K (.ref CI) = some (.type "type"))
    (xM : K.lookup CM = some (excClassObj nm q CM N bs bm true sn sub ab col dd q0 q1 q2 q3 q5 "ValueError.__new__"))
    (rM : PySem.HandSPX.refsVE bm = true)
    (saM : PySem.W.findIn K (.ref CM) "__setattr__" = some (some (.builtin "object.__setattr__")))
    (noM : PySem.W.findIn K (.ref CM) "limit" = some none)
    (iM : PySem.W.findIn K (.ref CM) "__init__" = some (some (.ref fI)))
    (tfM : PySem.W.typeIn K (.ref fI) = some (.type "function"))
    (kM : PySem.W.keepIn K (.ref CM) = true)
    (bM : PySem.W.subIn K (.ref CM) (.type "BaseException") = some true)
    (vM : PySem.W.subIn K (.ref CM) (.type "ValueError") = some true)
    (tM : PySem.W.typeIn K (.ref CM) = some (.type "type"))
    (mM : PySem.W.mroIn K CM (.ref CM) = some true)
    (suM : PySem.W.ks_superIn K CM CM "__init__" = some (some (.builtin "ValueError.__init__")))
    (opM : PySem.W.nsIn K PySem.cStatics "thirdparty.any" = some none)
    (spM : PySem.W.nsIn K mainGlobals "super" = some none)
    (topM : (l.prog.main.scope.names.lookup ("super" : Str)).isSome = false)
    (lfM : K.lookup fI = some ⟨ocI, odI, .func (PySem.W.ksFn "__init__" "TooMany.__init__" Kx.iA Kx.iB Kx.iS .none .none docI pmI anI (.ref cda) ctI ccl0), slI⟩)
    (cfM : PySem.W.codeIn K (.ref cda) "TooMany.__init__" = true)
    (lcM : K.lookup cda = some ⟨clf, dcf, .fields vsf, ccs⟩)
    (fiM : vsf[2]? = some (.str file tf))
    (feM : ((l.prog.main.file : Str) == file) = true)
    (ceM : K.lookup ccl0 = some ⟨clc, cld, .cell (some (.ref CM)), csl⟩)
    (gaM : PySem.W.findIn K (.ref CM) "__getattribute__" = some (some (.builtin "BaseException.__getattribute__")))
    (ggM : PySem.W.findIn K (.ref CM) "__getattr__" = some none)
    (hdM : PySem.W.hasDictIn K CM = true)
    (eii : PySem.W.exmOne K (.ref CI) (.ref CI) = some true)
    (emi : PySem.W.exmOne K (.ref CM) (.ref CI) = some false)
    (emm : PySem.W.exmOne K (.ref CM) (.ref CM) = some true)
    (b_isi : PySem.W.nsIn K mainGlobals "isinstance" = some none)
    (b_int : PySem.W.nsIn K mainGlobals "int" = some none)
    (b_bool : PySem.W.nsIn K mainGlobals "bool" = some none)
    (b_tuple : PySem.W.nsIn K mainGlobals "tuple" = some none)
    (b_len : PySem.W.nsIn K mainGlobals "len" = some none)
    (b_all : PySem.W.nsIn K mainGlobals "all" = some none)
    (b_zip : PySem.W.nsIn K mainGlobals "zip" = some none)
    (b_abs : PySem.W.nsIn K mainGlobals "abs" = some none)
    (b_sorted : PySem.W.nsIn K mainGlobals "sorted" = some none)
    (b_set : PySem.W.nsIn K mainGlobals "set" = some none)
    (b_range : PySem.W.nsIn K mainGlobals "range" = some none)
    (b_dict : PySem.W.nsIn K mainGlobals "dict" = some none)
    (b_min : PySem.W.nsIn K mainGlobals "min" = some none)
    (b_enumerate : PySem.W.nsIn K mainGlobals "enumerate" = some none)
    (b_list : PySem.W.nsIn K mainGlobals "list" = some none)
    (b_str : PySem.W.nsIn K mainGlobals "str" = some none)
    (v_FOLDS_strips : PySem.W.nsIn K mainGlobals "FOLDS_strips" = some (some (.int 12 tkFOLDS_strips)))
    (v_FOLDS_inkedplaces : PySem.W.nsIn K mainGlobals "FOLDS_inkedplaces" = some (some (.int 8 tkFOLDS_inkedplaces)))
    (v_STEPS : PySem.W.nsIn K mainGlobals "STEPS" = some (some (.int 7 tkSTEPS)))
    (tab : h.get? Pt = some { cls := .none, data := .fields #[] })
    (ntab : K.lookup Pt = none)
    (hdc : PySem.W.codeHdIn K cc Pt = true) :
    LawAtS l w K CX0 11 63 "_law_script" mg fa h := by
  obtain rfl : fa = f48 := by
    have e := hfa.symm.trans (PySem.W.mg_of X G a48)
    cases e
    rfl
  have B : Bi mg := ⟨PySem.W.mg_none_of X G b_isi, PySem.W.mg_none_of X G b_int, PySem.W.mg_none_of X G b_bool, PySem.W.mg_none_of X G b_tuple, PySem.W.mg_none_of X G b_len, PySem.W.mg_none_of X G b_all, PySem.W.mg_none_of X G b_zip, PySem.W.mg_none_of X G b_abs, PySem.W.mg_none_of X G b_sorted, PySem.W.mg_none_of X G b_set, PySem.W.mg_none_of X G b_range, PySem.W.mg_none_of X G b_dict, PySem.W.mg_none_of X G b_min, PySem.W.mg_none_of X G b_enumerate, PySem.W.mg_none_of X G b_list, PySem.W.mg_none_of X G b_str⟩
  have H7 : Has K mg "is_whole" sWhole := ⟨_, _, fun_mk l7 c7 k7, PySem.W.mg_of X G a7⟩
  have H8 : Has K mg "is_tuple_of" sTupleOf := ⟨_, _, fun_mk l8 c8 k8, PySem.W.mg_of X G a8⟩
  have H9 : Has K mg "fits_crease" sCrease := ⟨_, _, fun_mk l9 c9 k9, PySem.W.mg_of X G a9⟩
  have H10 : Has K mg "fits_folds" sFits := ⟨_, _, fun_mk l10 c10 k10, PySem.W.mg_of X G a10⟩
  have H11 : Has K mg "need_folds" sNeed := ⟨_, _, fun_mk l11 c11 k11, PySem.W.mg_of X G a11⟩
  have H13 : Has K mg "steps_in" sSteps := ⟨_, _, fun_mk l13 c13 k13, PySem.W.mg_of X G a13⟩
  have H16 : Has K mg "all_sums" sAll := ⟨_, _, fun_mk l16 c16 k16, PySem.W.mg_of X G a16⟩
  have H17 : Has K mg "sums_in" sSums := ⟨_, _, fun_mk l17 c17 k17, PySem.W.mg_of X G a17⟩
  have H18 : Has K mg "are_alike" sAlike := ⟨_, _, fun_mk l18 c18 k18, PySem.W.mg_of X G a18⟩
  have H19 : Has K mg "need_few_folds" sFew := ⟨_, _, fun_mk l19 c19 k19, PySem.W.mg_of X G a19⟩
  have H20 : Has K mg "alike_by_places" sBy := ⟨_, _, fun_mk l20 c20 k20, PySem.W.mg_of X G a20⟩
  have H23 : Has K mg "grown" sGrown := ⟨_, _, fun_mk l23 c23 k23, PySem.W.mg_of X G a23⟩
  have H24 : Has K mg "can_reach" sCan := ⟨_, _, fun_mk l24 c24 k24, PySem.W.mg_of X G a24⟩
  have H25 : Has K mg "steps_behind" sBehind := ⟨_, _, fun_mk l25 c25 k25, PySem.W.mg_of X G a25⟩
  have H26 : Has K mg "longer_on" sLonger := ⟨_, _, fun_mk l26 c26 k26, PySem.W.mg_of X G a26⟩
  have H27 : Has K mg "tuples_of" sTuples := ⟨_, _, fun_mk l27 c27 k27, PySem.W.mg_of X G a27⟩
  have H28 : Has K mg "shortest_to" sShort := ⟨_, _, fun_mk l28 c28 k28, PySem.W.mg_of X G a28⟩
  have H29 : Has K mg "goal_of" sGoal := ⟨_, _, fun_mk l29 c29 k29, PySem.W.mg_of X G a29⟩
  have H30 : Has K mg "least_with" sLeast := ⟨_, _, fun_mk l30 c30 k30, PySem.W.mg_of X G a30⟩
  have H31 : Has K mg "fewest_folds" sFewest := ⟨_, _, fun_mk l31 c31 k31, PySem.W.mg_of X G a31⟩
  have H32 : Has K mg "least_ink_row" sInk := ⟨_, _, fun_mk l32 c32 k32, PySem.W.mg_of X G a32⟩
  have H34 : Has K mg "_law_cup" sCup := ⟨_, _, fun_mk l34 c34 k34, PySem.W.mg_of X G a34⟩
  have H35 : Has K mg "_law_roll" sRoll := ⟨_, _, fun_mk l35 c35 k35, PySem.W.mg_of X G a35⟩
  have H36 : Has K mg "_law_some" sSome := ⟨_, _, fun_mk l36 c36 k36, PySem.W.mg_of X G a36⟩
  have H40 : Has K mg "_law_small_row" sSmall := ⟨_, _, fun_mk l40 c40 k40, PySem.W.mg_of X G a40⟩
  have H41 : Has K mg "_law_parts" sParts := ⟨_, _, fun_mk l41 c41 k41, PySem.W.mg_of X G a41⟩
  have H42 : Has K mg "_law_sums" sLSums := ⟨_, _, fun_mk l42 c42 k42, PySem.W.mg_of X G a42⟩
  have H43 : Has K mg "_law_steps" sLSteps := ⟨_, _, fun_mk l43 c43 k43, PySem.W.mg_of X G a43⟩
  have H44 : Has K mg "_law_error" sErr := ⟨_, _, fun_mk l44 c44 k44, PySem.W.mg_of X G a44⟩
  have H45 : Has K mg "_law_rows" sRows := ⟨_, _, fun_mk l45 c45 k45, PySem.W.mg_of X G a45⟩
  have H46 : Has K mg "_law_best" sBest := ⟨_, _, fun_mk l46 c46 k46, PySem.W.mg_of X G a46⟩
  have H47 : Has K mg "_law_right" sRight := ⟨_, _, fun_mk l47 c47 k47, PySem.W.mg_of X G a47⟩
  have V_FOLDS_strips : ∃ u, mg "FOLDS_strips" = some u ∧ RelV (.int 12) u := ⟨_, PySem.W.mg_of X G v_FOLDS_strips, ⟨_, rfl⟩⟩
  have V_FOLDS_inkedplaces : ∃ u, mg "FOLDS_inkedplaces" = some u ∧ RelV (.int 8) u := ⟨_, PySem.W.mg_of X G v_FOLDS_inkedplaces, ⟨_, rfl⟩⟩
  have V_STEPS : ∃ u, mg "STEPS" = some u ∧ RelV (.int 7) u := ⟨_, PySem.W.mg_of X G v_STEPS, ⟨_, rfl⟩⟩
  have Tm : Kx.Txt l.prog K mg CM fI := ⟨⟨nm, q, N, bs, bm, sn, sub, ab, col, dd, q0, q1, q2, q3, q5, xM, rM⟩, saM, noM, iM, tfM, kM, bM, vM, tM, mM, suM, opM, PySem.W.mg_none_of X G spM, topM,
    ocI, odI, docI, pmI, anI, cda, ccl0, ctI, slI, lfM, cfM, ⟨clf, dcf, vsf, ccs, file, tf, lcM, fiM, feM⟩, clc, cld, csl, ceM⟩
  have E : Er l.prog K mg CI CM fI := { gI := PySem.W.mg_of X G gI, xI := xI, kI := kI, bI := bI, tI := tI, gM := PySem.W.mg_of X G gM, tm := Tm }
  have T : Tell K CI CM := { ii := eii, mi := emi, mm := emm, xf := ⟨gaM, ggM, bM, hdM⟩, no := noM }
  refine ⟨PySem.W.fnOf "law" "law" (defArgs sLaw) (defBody sLaw) (defScope sLaw) .none kV48 dc48 pm48 an48 (.ref cc) ct48, [(cc, Pt)], spLaw K Pt, fun p hp => ?_, fun p hp => ?_, fun p hp => ?_, fun s u => ?_, fun H a ns hlen _ hT hS => ?_, fun base KB GB TB => ?_⟩
  rotate_left 5
  · have d7 : Df l.prog w K mg base CX0 1 "is_whole" spWhole := dWhole H7 B
    have d8 : Df l.prog w K mg base CX0 1 "is_tuple_of" spTupleOf := dTupleOf H8 B
    have d9 : Df l.prog w K mg base CX0 2 "fits_crease" spCrease := dCrease H9 B cr d7
    have d10 : Df l.prog w K mg base CX0 3 "fits_folds" spFits := dFits H10 B V_FOLDS_strips d8 d9
    have d11 : Df l.prog w K mg base (L2.CX l.prog w) 4 "need_folds" (spNeed CI) := dNeed H11 E d10
    have d19 : Df l.prog w K mg base (L2.CX l.prog w) 2 "need_few_folds" (spFew CM) := dFew H19 B E V_FOLDS_inkedplaces
    have d13 : Df l.prog w K mg base CX0 1 "steps_in" spSteps := dSteps H13 B
    have d16 : Df l.prog w K mg base CX0 1 "all_sums" spAll := dAll H16 B
    have d17 : Df l.prog w K mg base CX0 2 "sums_in" spSums := dSums H17 B d13 d16
    have d18 : Df l.prog w K mg base CX0 3 "are_alike" spAlike := dAlike H18 d17
    have d20 : Df l.prog w K mg base CX0 5 "alike_by_places" spBy := dBy H20 d11 d18
    have d23 : Df l.prog w K mg base CX0 1 "grown" spGrown := dGrown H23 B
    have d24 : Df l.prog w K mg base CX0 1 "can_reach" spCan := dCan H24 B
    have d25 : Df l.prog w K mg base CX0 2 "steps_behind" spBehind := dBehind H25 B d24
    have d26 : Df l.prog w K mg base CX0 3 "longer_on" spLonger := dLonger H26 B d23 d25
    have d27 : Df l.prog w K mg base CX0 4 "tuples_of" spTuples := dTuples H27 B d26
    have d28 : Df l.prog w K mg base CX0 5 "shortest_to" spShort := dShort H28 B d27
    have d29 : Df l.prog w K mg base CX0 3 "goal_of" spGoal := dGoal H29 B d17
    have d30 : Df l.prog w K mg base CX0 2 "least_with" spLeast := dLeast H30 B d16
    have d31 : Df l.prog w K mg base (L2.CX l.prog w) 6 "fewest_folds" (spFewest CI CM) := dFewest H31 B V_STEPS d11 d19 d29 d28
    have d32 : Df l.prog w K mg base (L2.CX l.prog w) 6 "least_ink_row" (spInk CI CM) := dInk H32 B V_STEPS d11 d19 d29 d28 d30
    have d34 : Df l.prog w K mg base CX0 1 "_law_cup" (spCup K) := dCup H34 B
    have d35 : Df l.prog w K mg base CX0 1 "_law_roll" spRoll := dRoll H35 B
    have d36 : Df l.prog w K mg base CX0 2 "_law_some" spSome := dSome H36 B d35
    have d40 : Df l.prog w K mg base CX0 3 "_law_small_row" spSmall := dSmall H40 B d35 d36
    have d41 : Df l.prog w K mg base CX0 8 "_law_parts" (spParts 7) := dParts H41 B 7 (Nat.le_refl _)
    have d42 : Df l.prog w K mg base CX0 1 "_law_sums" spLSums := dLSums H42 B
    have d43 : Df l.prog w K mg base CX0 1 "_law_steps" spLSteps := dLSteps H43 B
    have d45 : Df l.prog w K mg base CX0 8 "_law_rows" (spRowsTo 7) := dRows H45 B 7 (Nat.le_refl _)
    have d46 : Df l.prog w K mg base CX0 9 "_law_best" spBest := dBest H46 B d42 d43 d41 d45
    have d47 : Df l.prog w K mg base CX0 10 "_law_right" spRight := dRight H47 B d46 d32 d31 d20
    exact okLaw l48 c48 B (TB (cc, Pt) (by simp)) H44 T (PySem.W.mg_of X G gI) (PySem.W.mg_of X G gM) (PySem.W.mg_of X G gF) d34 d36 d40 d47 d32 d31
  · obtain rfl : p = (cc, Pt) := by simpa using hp
    exact tab
  · obtain rfl : p = (cc, Pt) := by simpa using hp
    exact ntab
  · obtain rfl : p = (cc, Pt) := by simpa using hp
    exact PySem.W.codeHd_of_K X hdc
  · exact .of_eq rfl
  · refine ⟨a, ns, rfl, hS, by omega, fun p hp => ?_, fun _ => rfl⟩
    obtain rfl : p = (Pt, qLaw) := by simpa using hp
    exact .nil (hT (cc, Pt) (by simp))
end Kd

open PySem PySem.W PyProof.Rows
set_option maxRecDepth 100000 in
set_option maxHeartbeats 0 in
theorem PySem.Challenge.cw_wetfolds_k41_whole_shortest_rows_by_plac_holds : PySem.Challenge.rw_wetfolds_k41_whole_shortest_rows_by_plac.Holds := by
  w_on; o_law; k_head; (case hw => w_witness2)
  k_fill
  refine Kd.walk_ofTsX (l := PySem.Challenge.rw_wetfolds_k41_whole_shortest_rows_by_plac) (n := 63) (k := 11) (CX := fun _ => L2.CX0) (x := "_law_script") rfl (by decide) rfl ⟨rfl, by decide, by decide⟩ (fun w h Y => PySem.W.km_in_of Y) ?F (fun _ _ _ _ _ z => z)
  case F =>
    intro w mg fa h XP Y KX G hmg
    have hT8 := PySem.W.km_tabs_of Y
    refine' Kd.law_at KX G hmg (Kd.loose_int XP) ?a7 ?l7 ?c7 ?k7 ?a8 ?l8 ?c8 ?k8 ?a9 ?l9 ?c9 ?k9 ?a10 ?l10 ?c10 ?k10 ?a11 ?l11 ?c11 ?k11 ?a13 ?l13 ?c13 ?k13 ?a16 ?l16 ?c16 ?k16 ?a17 ?l17 ?c17 ?k17 ?a18 ?l18 ?c18 ?k18 ?a19 ?l19 ?c19 ?k19 ?a20 ?l20 ?c20 ?k20 ?a23 ?l23 ?c23 ?k23 ?a24 ?l24 ?c24 ?k24 ?a25 ?l25 ?c25 ?k25 ?a26 ?l26 ?c26 ?k26 ?a27 ?l27 ?c27 ?k27 ?a28 ?l28 ?c28 ?k28 ?a29 ?l29 ?c29 ?k29 ?a30 ?l30 ?c30 ?k30 ?a31 ?l31 ?c31 ?k31 ?a32 ?l32 ?c32 ?k32 ?a34 ?l34 ?c34 ?k34 ?a35 ?l35 ?c35 ?k35 ?a36 ?l36 ?c36 ?k36 ?a40 ?l40 ?c40 ?k40 ?a41 ?l41 ?c41 ?k41 ?a42 ?l42 ?c42 ?k42 ?a43 ?l43 ?c43 ?k43 ?a44 ?l44 ?c44 ?k44 ?a45 ?l45 ?c45 ?k45 ?a46 ?l46 ?c46 ?k46 ?a47 ?l47 ?c47 ?k47 ?a48 ?l48 ?c48 ?gI ?gM ?gF ?xI ?kI ?bI ?tI ?xM ?rM ?saM ?noM ?iM ?tfM ?kM ?bM ?vM ?tM ?mM ?suM ?opM ?spM ?topM ?lfM ?cfM ?lcM ?fiM ?feM ?ceM ?gaM ?ggM ?hdM ?eii ?emi ?emm ?b_isi ?b_int ?b_bool ?b_tuple ?b_len ?b_all ?b_zip ?b_abs ?b_sorted ?b_set ?b_range ?b_dict ?b_min ?b_enumerate ?b_list ?b_str ?v_FOLDS_strips ?v_FOLDS_inkedplaces ?v_STEPS ?tab ?ntab ?hdc
    (case a7 => k_is)
    (case l7 => k_is)
    (case c7 => k_is)
    (case k7 => k_is)
    (case a8 => k_is)
    (case l8 => k_is)
    (case c8 => k_is)
    (case k8 => k_is)
    (case a9 => k_is)
    (case l9 => k_is)
    (case c9 => k_is)
    (case k9 => k_is)
    (case a10 => k_is)
    (case l10 => k_is)
    (case c10 => k_is)
    (case k10 => k_is)
    (case a11 => k_is)
    (case l11 => k_is)
    (case c11 => k_is)
    (case k11 => k_is)
    (case a13 => k_is)
    (case l13 => k_is)
    (case c13 => k_is)
    (case k13 => k_is)
    (case a16 => k_is)
    (case l16 => k_is)
    (case c16 => k_is)
    (case k16 => k_is)
    (case a17 => k_is)
    (case l17 => k_is)
    (case c17 => k_is)
    (case k17 => k_is)
    (case a18 => k_is)
    (case l18 => k_is)
    (case c18 => k_is)
    (case k18 => k_is)
    (case a19 => k_is)
    (case l19 => k_is)
    (case c19 => k_is)
    (case k19 => k_is)
    (case a20 => k_is)
    (case l20 => k_is)
    (case c20 => k_is)
    (case k20 => k_is)
    (case a23 => k_is)
    (case l23 => k_is)
    (case c23 => k_is)
    (case k23 => k_is)
    (case a24 => k_is)
    (case l24 => k_is)
    (case c24 => k_is)
    (case k24 => k_is)
    (case a25 => k_is)
    (case l25 => k_is)
    (case c25 => k_is)
    (case k25 => k_is)
    (case a26 => k_is)
    (case l26 => k_is)
    (case c26 => k_is)
    (case k26 => k_is)
    (case a27 => k_is)
    (case l27 => k_is)
    (case c27 => k_is)
    (case k27 => k_is)
    (case a28 => k_is)
    (case l28 => k_is)
    (case c28 => k_is)
    (case k28 => k_is)
    (case a29 => k_is)
    (case l29 => k_is)
    (case c29 => k_is)
    (case k29 => k_is)
    (case a30 => k_is)
    (case l30 => k_is)
    (case c30 => k_is)
    (case k30 => k_is)
    (case a31 => k_is)
    (case l31 => k_is)
    (case c31 => k_is)
    (case k31 => k_is)
    (case a32 => k_is)
    (case l32 => k_is)
    (case c32 => k_is)
    (case k32 => k_is)
    (case a34 => k_is)
    (case l34 => k_is)
    (case c34 => k_is)
    (case k34 => k_is)
    (case a35 => k_is)
    (case l35 => k_is)
    (case c35 => k_is)
    (case k35 => k_is)
    (case a36 => k_is)
    (case l36 => k_is)
    (case c36 => k_is)
    (case k36 => k_is)
    (case a40 => k_is)
    (case l40 => k_is)
    (case c40 => k_is)
    (case k40 => k_is)
    (case a41 => k_is)
    (case l41 => k_is)
    (case c41 => k_is)
    (case k41 => k_is)
    (case a42 => k_is)
    (case l42 => k_is)
    (case c42 => k_is)
    (case k42 => k_is)
    (case a43 => k_is)
    (case l43 => k_is)
    (case c43 => k_is)
    (case k43 => k_is)
    (case a44 => k_is)
    (case l44 => k_is)
    (case c44 => k_is)
    (case k44 => k_is)
    (case a45 => k_is)
    (case l45 => k_is)
    (case c45 => k_is)
    (case k45 => k_is)
    (case a46 => k_is)
    (case l46 => k_is)
    (case c46 => k_is)
    (case k46 => k_is)
    (case a47 => k_is)
    (case l47 => k_is)
    (case c47 => k_is)
    (case k47 => k_is)
    (case a48 => k_is)
    (case l48 => k_is)
    (case c48 => k_is)
    (case gI => k_is)
    (case gM => k_is)
    (case gF => k_is)
    (case xI => kernel_rfl)
    (case kI => k_is)
    (case bI => k_is)
    (case tI => k_is)
    (case xM => k_is)
    (case rM => first | rfl | kernel_rfl | decide +kernel)
    (case saM => k_is)
    (case noM => k_is)
    (case iM => k_is)
    (case tfM => k_is)
    (case kM => k_is)
    (case bM => k_is)
    (case vM => k_is)
    (case tM => k_is)
    (case mM => k_is)
    (case suM => kernel_rfl)
    (case opM => k_is)
    (case spM => k_is)
    (case topM => rfl)
    (case lfM => k_is)
    (case cfM => k_is)
    (case lcM => k_is)
    (case fiM => rfl)
    (case feM => first | rfl | kernel_rfl | decide +kernel)
    (case ceM => k_is)
    (case gaM => k_is)
    (case ggM => k_is)
    (case hdM => k_is)
    (case eii => kernel_rfl)
    (case emi => kernel_rfl)
    (case emm => kernel_rfl)
    (case b_isi => k_is)
    (case b_int => k_is)
    (case b_bool => k_is)
    (case b_tuple => k_is)
    (case b_len => k_is)
    (case b_all => k_is)
    (case b_zip => k_is)
    (case b_abs => k_is)
    (case b_sorted => k_is)
    (case b_set => k_is)
    (case b_range => k_is)
    (case b_dict => k_is)
    (case b_min => k_is)
    (case b_enumerate => k_is)
    (case b_list => k_is)
    (case b_str => k_is)
    (case v_FOLDS_strips => k_is)
    (case v_FOLDS_inkedplaces => k_is)
    (case v_STEPS => k_is)
    (case tab => exact hT8 _ (by k_mem))
    (case ntab => kernel_rfl)
    (case hdc => kernel_rfl)
