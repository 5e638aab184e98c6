import PyProof.Rows.All
import Wide.All
import OpenK.AllK
import Wide.FinOn
import PySem.Challenge.RW_xm0740_01

set_option Elab.async false
set_option autoImplicit false
set_option maxRecDepth 100000
set_option maxHeartbeats 8000000
set_option linter.unusedVariables false
set_option pp.deepTerms.threshold 12

/-! ===== Plain ===== -/
namespace Mine

section
variable {α : Type}

def mrg (lt : α → α → Bool) : List α → List α → List α
  | [], ys => ys
  | x :: xs, [] => x :: xs
  | x :: xs, y :: ys => if lt y x then y :: mrg lt (x :: xs) ys else x :: mrg lt xs (y :: ys)
termination_by xs ys => xs.length + ys.length

def ins (lt : α → α → Bool) (x : α) : List α → List α
  | [] => [x]
  | y :: ys => if lt y x then y :: ins lt x ys else x :: y :: ys

def srt (lt : α → α → Bool) : List α → List α
  | [] => []
  | x :: xs => ins lt x (srt lt xs)

structure Wk (lt : α → α → Bool) : Prop where
  irr : ∀ x, lt x x = false
  tr : ∀ x y z, lt x y = true → lt y z = true → lt x z = true
  nt : ∀ x y z, lt x y = false → lt y z = false → lt x z = false

theorem mrg_nil (lt : α → α → Bool) (ys : List α) : mrg lt [] ys = ys := by unfold mrg; rfl
theorem mrg_nil_r (lt : α → α → Bool) (xs : List α) : mrg lt xs [] = xs := by cases xs <;> (unfold mrg; rfl)
theorem mrg_cc (lt : α → α → Bool) (x y : α) (xs ys : List α) : mrg lt (x :: xs) (y :: ys) = if lt y x then y :: mrg lt (x :: xs) ys else x :: mrg lt xs (y :: ys) := by
  rw [mrg]

theorem mrg_length (lt : α → α → Bool) : ∀ (n : Nat) (xs ys : List α), xs.length + ys.length ≤ n → (mrg lt xs ys).length = xs.length + ys.length
  | n, [], ys, _ => by rw [mrg_nil]; simp
  | n, x :: xs, [], _ => by rw [mrg_nil_r]; simp
  | 0, x :: xs, y :: ys, h => by simp at h
  | n + 1, x :: xs, y :: ys, h => by
    rw [mrg_cc]
    simp only [List.length_cons] at h
    split
    · rw [List.length_cons, mrg_length lt n (x :: xs) ys (by simp only [List.length_cons]; omega)]; simp only [List.length_cons]; omega
    · rw [List.length_cons, mrg_length lt n xs (y :: ys) (by simp only [List.length_cons]; omega)]; simp only [List.length_cons]; omega

theorem mrg_len (lt : α → α → Bool) (xs ys : List α) : (mrg lt xs ys).length = xs.length + ys.length := mrg_length lt _ xs ys (Nat.le_refl _)

theorem mrg_mem (lt : α → α → Bool) : ∀ (n : Nat) (xs ys : List α), xs.length + ys.length ≤ n → ∀ v, v ∈ mrg lt xs ys → v ∈ xs ∨ v ∈ ys
  | n, [], ys, _, v, h => by rw [mrg_nil] at h; exact .inr h
  | n, x :: xs, [], _, v, h => by rw [mrg_nil_r] at h; exact .inl h
  | 0, x :: xs, y :: ys, h, _, _ => by simp at h
  | n + 1, x :: xs, y :: ys, h, v, hv => by
    rw [mrg_cc] at hv
    simp only [List.length_cons] at h
    split at hv
    · rcases List.mem_cons.mp hv with rfl | hv
      · exact .inr (.head _)
      · rcases mrg_mem lt n (x :: xs) ys (by simp only [List.length_cons]; omega) v hv with q | q
        · exact .inl q
        · exact .inr (.tail _ q)
    · rcases List.mem_cons.mp hv with rfl | hv
      · exact .inl (.head _)
      · rcases mrg_mem lt n xs (y :: ys) (by simp only [List.length_cons]; omega) v hv with q | q
        · exact .inl (.tail _ q)
        · exact .inr q

theorem mrg_sub {lt : α → α → Bool} {xs ys : List α} {v : α} (h : v ∈ mrg lt xs ys) : v ∈ xs ∨ v ∈ ys := mrg_mem lt _ xs ys (Nat.le_refl _) v h

theorem ins_length (lt : α → α → Bool) (x : α) : ∀ ys : List α, (ins lt x ys).length = ys.length + 1
  | [] => rfl
  | y :: ys => by
    unfold ins
    split
    · simp only [List.length_cons, ins_length lt x ys]
    · rfl
theorem srt_length (lt : α → α → Bool) : ∀ xs : List α, (srt lt xs).length = xs.length
  | [] => rfl
  | x :: xs => by rw [srt, ins_length, srt_length lt xs]; rfl
theorem ins_mem (lt : α → α → Bool) (x : α) : ∀ (ys : List α) (v : α), v ∈ ins lt x ys ↔ v = x ∨ v ∈ ys
  | [], v => by simp [ins]
  | y :: ys, v => by
    unfold ins
    split
    · simp only [List.mem_cons, ins_mem lt x ys]; constructor
      · rintro (h | h | h) <;> simp [h]
      · rintro (h | h | h) <;> simp [h]
    · simp
theorem srt_mem (lt : α → α → Bool) : ∀ (xs : List α) (v : α), v ∈ srt lt xs ↔ v ∈ xs
  | [], v => by simp [srt]
  | x :: xs, v => by rw [srt, ins_mem, srt_mem lt xs, List.mem_cons]

theorem mrg_one (lt : α → α → Bool) (x : α) : ∀ zs : List α, mrg lt [x] zs = ins lt x zs
  | [] => by rw [mrg_nil_r]; rfl
  | z :: zs => by
    rw [mrg_cc, ins, mrg_one lt x zs, mrg_nil]

theorem mrg_ins {lt : α → α → Bool} (W : Wk lt) (x : α) : ∀ (n : Nat) (ys zs : List α), ys.length + zs.length ≤ n → mrg lt (ins lt x ys) zs = ins lt x (mrg lt ys zs)
  | n, [], zs, _ => by rw [mrg_nil]; exact mrg_one lt x zs
  | n, y :: ys, [], _ => by rw [mrg_nil_r, mrg_nil_r]
  | 0, y :: ys, z :: zs, h => by simp at h
  | n + 1, y :: ys, z :: zs, h => by
    simp only [List.length_cons] at h
    have i1 := mrg_ins W x n (y :: ys) zs (by simp only [List.length_cons]; omega)
    have i2 := mrg_ins W x n ys (z :: zs) (by simp only [List.length_cons]; omega)
    rw [mrg_cc]
    cases hyx : lt y x with
    | true =>
      have e : ins lt x (y :: ys) = y :: ins lt x ys := by rw [ins, hyx]; rfl
      rw [e] at i1 ⊢
      rw [mrg_cc]
      cases hzy : lt z y with
      | true =>
        have hzx := W.tr _ _ _ hzy hyx
        simp only [if_true, i1]
        rw [ins, hzx]; rfl
      | false =>
        simp only [Bool.false_eq_true, if_false, i2]
        rw [ins, hyx]; rfl
    | false =>
      have e : ins lt x (y :: ys) = x :: y :: ys := by rw [ins, hyx]; rfl
      rw [e] at i1 ⊢
      rw [mrg_cc]
      cases hzy : lt z y with
      | true =>
        cases hzx : lt z x with
        | true => simp only [if_true, i1]; rw [ins, hzx]; rfl
        | false =>
          simp only [if_true, Bool.false_eq_true, if_false]
          rw [ins, hzx, mrg_cc, hzy]; rfl
      | false =>
        have hzx := W.nt _ _ _ hzy hyx
        simp only [hzx, Bool.false_eq_true, if_false]
        rw [ins, hyx, mrg_cc, hzy]; rfl

theorem mrg_srt {lt : α → α → Bool} (W : Wk lt) : ∀ (a b : List α), mrg lt (srt lt a) (srt lt b) = srt lt (a ++ b)
  | [], b => by rw [srt, mrg_nil]; rfl
  | x :: a, b => by
    rw [srt, mrg_ins W x _ _ _ (Nat.le_refl _), mrg_srt W a b]; rfl

def Sd (lt : α → α → Bool) : List α → Prop := List.Pairwise fun x y => lt y x = false

theorem ins_sd {lt : α → α → Bool} (W : Wk lt) (x : α) : ∀ {ys : List α}, Sd lt ys → Sd lt (ins lt x ys)
  | [], _ => List.pairwise_singleton _ _
  | y :: ys, h => by
    obtain ⟨h1, h2⟩ := List.pairwise_cons.mp h
    unfold ins
    split
    · rename_i hyx
      refine List.pairwise_cons.mpr ⟨fun v hv => ?_, ins_sd W x h2⟩
      rcases (ins_mem lt x ys v).mp hv with rfl | hv
      · cases q : lt v y with
        | false => rfl
        | true => have := W.tr _ _ _ q hyx; rw [W.irr] at this; cases this
      · exact h1 v hv
    · rename_i hyx
      have hyx : lt y x = false := by simpa using hyx
      refine List.pairwise_cons.mpr ⟨fun v hv => ?_, h⟩
      rcases List.mem_cons.mp hv with rfl | hv
      · exact hyx
      · exact W.nt _ _ _ (h1 v hv) hyx
theorem srt_sd {lt : α → α → Bool} (W : Wk lt) : ∀ xs : List α, Sd lt (srt lt xs)
  | [] => List.Pairwise.nil
  | x :: xs => ins_sd W x (srt_sd W xs)
theorem srt_of_sd {lt : α → α → Bool} : ∀ {xs : List α}, Sd lt xs → srt lt xs = xs
  | [], _ => rfl
  | x :: xs, h => by
    obtain ⟨h1, h2⟩ := List.pairwise_cons.mp h
    rw [srt, srt_of_sd h2]
    cases xs with
    | nil => rfl
    | cons y ys => rw [ins, h1 y (.head _)]; rfl
theorem srt_srt {lt : α → α → Bool} (W : Wk lt) (xs : List α) : srt lt (srt lt xs) = srt lt xs := srt_of_sd (srt_sd W xs)

/-- the passes of the sorter -/
def pairUp (f : α → α → α) : List α → List α
  | a :: b :: r => f a b :: pairUp f r
  | r => r
theorem pairUp_length (f : α → α → α) : ∀ (n : Nat) (l : List α), l.length ≤ n → (pairUp f l).length = (l.length + 1) / 2
  | _, [], _ => by simp [pairUp]
  | _, [_], _ => by simp [pairUp]
  | 0, _ :: _ :: _, h => by simp at h
  | n + 1, a :: b :: r, h => by
    simp only [List.length_cons] at h
    rw [pairUp, List.length_cons, pairUp_length f n r (by omega)]
    simp only [List.length_cons]; omega
theorem pairUp_map {β : Type} {f : α → α → α} {g : β → β → β} {φ : β → α} (h : ∀ a b, f (φ a) (φ b) = φ (g a b)) : ∀ (n : Nat) (l : List β), l.length ≤ n → pairUp f (l.map φ) = (pairUp g l).map φ
  | _, [], _ => rfl
  | _, [_], _ => rfl
  | 0, _ :: _ :: _, h' => by simp at h'
  | n + 1, a :: b :: r, h' => by
    simp only [List.length_cons] at h'
    simp only [List.map_cons, pairUp, h]
    rw [pairUp_map h n r (by omega)]
theorem pairUp_flatten : ∀ (n : Nat) (l : List (List α)), l.length ≤ n → (pairUp (· ++ ·) l).flatten = l.flatten
  | _, [], _ => rfl
  | _, [_], _ => rfl
  | 0, _ :: _ :: _, h' => by simp at h'
  | n + 1, a :: b :: r, h' => by
    simp only [List.length_cons] at h'
    simp only [pairUp, List.flatten_cons, List.append_assoc]
    rw [pairUp_flatten n r (by omega)]
theorem pairUp_take2 (f : α → α → α) : ∀ (i : Nat) (l : List α) (a b : α), l[2 * i]? = some a → l[2 * i + 1]? = some b →
    pairUp f (l.take (2 * (i + 1))) = pairUp f (l.take (2 * i)) ++ [f a b]
  | 0, x :: y :: r, a, b, h1, h2 => by
    simp at h1 h2; subst h1; subst h2
    simp [pairUp]
  | 0, [], a, b, h1, h2 => by simp at h1
  | 0, [x], a, b, h1, h2 => by simp at h2
  | i + 1, [], a, b, h1, h2 => by simp at h1
  | i + 1, [x], a, b, h1, h2 => by
    rw [List.getElem?_eq_none (by simp only [List.length_cons, List.length_nil]; omega)] at h1; cases h1
  | i + 1, x :: y :: r, a, b, h1, h2 => by
    have e1 : 2 * (i + 1) = 2 * i + 1 + 1 := by omega
    have e2 : 2 * (i + 1 + 1) = 2 * (i + 1) + 1 + 1 := by omega
    have e3 : 2 * (i + 1) + 1 = (2 * i + 1) + 1 + 1 := by omega
    rw [e1] at h1
    rw [e3] at h2
    simp only [List.getElem?_cons_succ] at h1 h2
    rw [e2, e1]
    simp only [List.take_succ_cons, pairUp]
    have := pairUp_take2 f i r a b h1 h2
    have e4 : 2 * (i + 1) = 2 * i + 1 + 1 := by omega
    rw [e4] at this
    rw [this]; rfl
theorem pairUp_even (f : α → α → α) : ∀ (k : Nat) (l : List α) (a : α), l.length = 2 * k → pairUp f (l ++ [a]) = pairUp f l ++ [a]
  | 0, [], a, _ => rfl
  | 0, _ :: _, a, h => by simp at h
  | k + 1, [], a, h => by simp at h
  | k + 1, [x], a, h => by simp only [List.length_cons, List.length_nil] at h; omega
  | k + 1, x :: y :: r, a, h => by
    simp only [List.length_cons] at h
    simp only [List.cons_append, pairUp]
    rw [pairUp_even f k r a (by omega)]

/-- counting -/
def bef (lt : α → α → Bool) (rows : List α) (d : α) (i j : Nat) : Bool :=
  lt (rows.getD i d) (rows.getD j d) || (!lt (rows.getD j d) (rows.getD i d) && decide (i < j))
def cnt (lt : α → α → Bool) (rows : List α) (d : α) (j : Nat) : Nat → Nat
  | 0 => 0
  | m + 1 => cnt lt rows d j m + if bef lt rows d m j then 1 else 0
def rk (lt : α → α → Bool) (rows : List α) (d : α) (j : Nat) : Nat := cnt lt rows d j rows.length

theorem cnt_zero (lt : α → α → Bool) (x : α) (xs : List α) (d : α) : ∀ m, cnt lt (x :: xs) d 0 (m + 1) = (if lt x x then 1 else 0) + ((List.range m).filter fun i => lt (xs.getD i d) x).length
  | 0 => by simp [cnt, bef]
  | m + 1 => by
    rw [cnt, cnt_zero lt x xs d m, List.range_succ, List.filter_append]
    simp only [bef, List.getD_cons_succ, List.getD_cons_zero, Nat.not_lt_zero, decide_false, Bool.and_false, Bool.or_false, List.length_append, List.filter_cons, List.filter_nil]
    cases lt (xs.getD m d) x <;> simp <;> omega
theorem cnt_succ (lt : α → α → Bool) (x : α) (xs : List α) (d : α) (j : Nat) : ∀ m, cnt lt (x :: xs) d (j + 1) (m + 1) = (if lt x (xs.getD j d) || !lt (xs.getD j d) x then 1 else 0) + cnt lt xs d j m
  | 0 => by simp [cnt, bef]
  | m + 1 => by
    rw [cnt, cnt_succ lt x xs d j m, cnt]
    have : bef lt (x :: xs) d (m + 1) (j + 1) = bef lt xs d m j := by
      simp [bef]
    rw [this]; omega

theorem ins_split {lt : α → α → Bool} (W : Wk lt) (x : α) : ∀ {s : List α}, Sd lt s → ∃ a b, s = a ++ b ∧ ins lt x s = a ++ x :: b ∧ (∀ v ∈ a, lt v x = true) ∧ (∀ v ∈ b, lt v x = false)
  | [], _ => ⟨[], [], rfl, rfl, (fun _ h => by cases h), (fun _ h => by cases h)⟩
  | y :: ys, h => by
    obtain ⟨h1, h2⟩ := List.pairwise_cons.mp h
    cases q : lt y x with
    | true =>
      obtain ⟨a, b, e1, e2, k1, k2⟩ := ins_split W x h2
      refine ⟨y :: a, b, by rw [e1]; rfl, ?_, ?_, k2⟩
      · rw [ins, q]; simp [e2]
      · intro v hv
        rcases List.mem_cons.mp hv with rfl | hv
        · exact q
        · exact k1 v hv
    | false =>
      refine ⟨[], y :: ys, rfl, ?_, (fun _ h => by cases h), fun v hv => ?_⟩
      · rw [ins, q]; rfl
      · rcases List.mem_cons.mp hv with rfl | hv
        · exact q
        · exact W.nt _ _ _ (h1 v hv) q

theorem filter_range (p : α → Bool) (d : α) : ∀ xs : List α, ((List.range xs.length).filter fun i => p (xs.getD i d)).length = (xs.filter p).length := by
  intro xs
  have e : xs = (List.range xs.length).map fun i => xs.getD i d := by
    apply List.ext_getElem
    · simp
    · intro i h1 h2
      simp [List.getD, h1]
  conv => rhs; rw [e]
  rw [List.filter_map, List.length_map]; rfl

theorem ins_count (lt : α → α → Bool) (x : α) (p : α → Bool) : ∀ s : List α, ((ins lt x s).filter p).length = ((x :: s).filter p).length
  | [] => rfl
  | y :: ys => by
    unfold ins
    split
    · have := ins_count lt x p ys
      simp only [List.filter_cons] at this ⊢
      split <;> split at this <;> simp_all
    · rfl
theorem srt_count (lt : α → α → Bool) (p : α → Bool) : ∀ xs : List α, ((srt lt xs).filter p).length = (xs.filter p).length
  | [] => rfl
  | x :: xs => by
    rw [srt, ins_count]
    simp only [List.filter_cons]
    split <;> simp [srt_count lt p xs]

theorem rk_main {lt : α → α → Bool} (W : Wk lt) (d : α) : ∀ (rows : List α),
    (∀ j, j < rows.length → rk lt rows d j < rows.length ∧ (srt lt rows)[rk lt rows d j]? = some (rows.getD j d)) ∧ (∀ q, q < rows.length → ∃ j, j < rows.length ∧ rk lt rows d j = q)
  | [] => ⟨fun j h => by simp at h, fun q h => by simp at h⟩
  | x :: xs => by
    obtain ⟨ihA, ihB⟩ := rk_main W d xs
    obtain ⟨a, b, e1, e2, k1, k2⟩ := ins_split W x (srt_sd W xs)
    have hp : rk lt (x :: xs) d 0 = a.length := by
      unfold rk
      rw [List.length_cons, cnt_zero, W.irr, filter_range (fun v => lt v x) d xs, ← srt_count lt, e1, List.filter_append]
      rw [List.filter_eq_self.mpr (fun v hv => k1 v hv), List.filter_eq_nil_iff.mpr (fun v hv => by rw [k2 v hv]; exact Bool.false_ne_true)]
      simp
    have hs : ∀ j, j < xs.length → rk lt (x :: xs) d (j + 1) = (if lt (xs.getD j d) x then 0 else 1) + rk lt xs d j := by
      intro j _
      unfold rk
      rw [List.length_cons, cnt_succ]
      congr 1
      cases q : lt (xs.getD j d) x with
      | true =>
        cases q' : lt x (xs.getD j d) with
        | true => have := W.tr _ _ _ q q'; rw [W.irr] at this; cases this
        | false => rfl
      | false => simp
    have hlen : a.length + b.length = xs.length := by rw [← List.length_append, ← e1, srt_length]
    have hat : ∀ j, j < xs.length → (lt (xs.getD j d) x = true → rk lt xs d j < a.length) ∧ (lt (xs.getD j d) x = false → a.length ≤ rk lt xs d j) := by
      intro j hj
      obtain ⟨h1, h2⟩ := ihA j hj
      rw [e1] at h2
      constructor
      · intro q
        refine Nat.lt_of_not_le fun hle => ?_
        rw [List.getElem?_append_right hle] at h2
        have := k2 _ (List.mem_of_getElem? h2)
        rw [this] at q; cases q
      · intro q
        refine Nat.le_of_not_lt fun hlt => ?_
        rw [List.getElem?_append_left hlt] at h2
        have := k1 _ (List.mem_of_getElem? h2)
        rw [this] at q; cases q
    have hsrt : srt lt (x :: xs) = a ++ x :: b := by rw [srt]; exact e2
    constructor
    · intro j hj
      cases j with
      | zero =>
        rw [hp, hsrt]
        refine ⟨by simp only [List.length_cons]; omega, ?_⟩
        rw [List.getElem?_append_right (Nat.le_refl _)]; simp
      | succ j =>
        have hj' : j < xs.length := by simpa using hj
        obtain ⟨h1, h2⟩ := ihA j hj'
        rw [hs j hj', hsrt, List.getD_cons_succ]
        rw [e1] at h2
        obtain ⟨q1, q2⟩ := hat j hj'
        cases q : lt (xs.getD j d) x with
        | true =>
          have hlt := q1 q
          simp only [if_true, Nat.zero_add]
          refine ⟨by simp only [List.length_cons]; omega, ?_⟩
          rw [List.getElem?_append_left hlt] at h2 ⊢
          exact h2
        | false =>
          have hle := q2 q
          simp only [Bool.false_eq_true, if_false]
          refine ⟨by simp only [List.length_cons]; omega, ?_⟩
          rw [List.getElem?_append_right hle] at h2
          rw [List.getElem?_append_right (by omega)]
          have : 1 + rk lt xs d j - a.length = (rk lt xs d j - a.length) + 1 := by omega
          rw [this, List.getElem?_cons_succ]; exact h2
    · intro q hq
      simp only [List.length_cons] at hq
      by_cases c1 : q < a.length
      · obtain ⟨j, hj, hr⟩ := ihB q (by omega)
        refine ⟨j + 1, by simp only [List.length_cons]; omega, ?_⟩
        rw [hs j hj, hr]
        cases q0 : lt (xs.getD j d) x with
        | true => simp
        | false => have := (hat j hj).2 q0; omega
      · by_cases c2 : q = a.length
        · exact ⟨0, by simp only [List.length_cons]; omega, by rw [hp, c2]⟩
        · obtain ⟨j, hj, hr⟩ := ihB (q - 1) (by omega)
          refine ⟨j + 1, by simp only [List.length_cons]; omega, ?_⟩
          rw [hs j hj, hr]
          cases q0 : lt (xs.getD j d) x with
          | true => have := (hat j hj).1 q0; omega
          | false => simp only [Bool.false_eq_true, if_false]; omega

/-- what the counting loop's invariant gives at its end -/
theorem counted_end {lt : α → α → Bool} (W : Wk lt) (d : α) {rows found : List α} (hl : found.length = rows.length)
    (h : ∀ j, j < rows.length → found[rk lt rows d j]? = (srt lt rows)[rk lt rows d j]?) : found = srt lt rows := by
  apply List.ext_getElem?
  intro q
  by_cases hq : q < rows.length
  · obtain ⟨j, hj, rfl⟩ := (rk_main W d rows).2 q hq
    exact h j hj
  · rw [List.getElem?_eq_none (by omega), List.getElem?_eq_none (by rw [srt_length]; omega)]
theorem counted_step {lt : α → α → Bool} (W : Wk lt) (d : α) {rows found : List α} {k : Nat} (hl : found.length = rows.length) (hk : k < rows.length)
    (h : ∀ j, j < k → found[rk lt rows d j]? = (srt lt rows)[rk lt rows d j]?) :
    ∀ j, j < k + 1 → (found.set (rk lt rows d k) (rows.getD k d))[rk lt rows d j]? = (srt lt rows)[rk lt rows d j]? := by
  intro j hj
  obtain ⟨h1, h2⟩ := (rk_main W d rows).1 k hk
  rw [List.getElem?_set]
  by_cases e : rk lt rows d k = rk lt rows d j
  · rw [if_pos e, if_pos (by omega), ← e, h2]
  · rw [if_neg e]
    refine h j ?_
    rcases Nat.lt_or_ge j k with q | q
    · exact q
    · have : j = k := by omega
      subst this; exact absurd rfl e
end
end Mine

/-! ===== Ops ===== -/
namespace Mine
open PySem PySem.Calls PyProof.Rows PySem.SeqAt
open PySem.Builtin

/-! bytes in order -/
theorem ord_irr : ∀ a : List UInt8, Bytes.order a a = .eq
  | [] => rfl
  | x :: a => by
    unfold Bytes.order
    rw [if_neg (UInt8.lt_irrefl x), if_neg (UInt8.lt_irrefl x)]
    exact ord_irr a
theorem ord_eq : ∀ {a b : List UInt8}, Bytes.order a b = .eq → a = b := by
  intro a b h
  have := PySem.W.order_eq a b
  rw [h] at this
  exact beq_iff_eq.mp this.symm
theorem ord_lt_tr : ∀ {a b c : List UInt8}, Bytes.order a b = .lt → Bytes.order b c = .lt → Bytes.order a c = .lt
  | [], [], _, h, _ => by cases h
  | [], _ :: _, [], _, h => by cases h
  | [], _ :: _, _ :: _, _, _ => rfl
  | _ :: _, [], _, h, _ => by cases h
  | _ :: _, _ :: _, [], _, h => by cases h
  | x :: a, y :: b, z :: c, h1, h2 => by
    unfold Bytes.order at h1 h2 ⊢
    by_cases xy : x < y
    · by_cases yz : y < z
      · rw [if_pos (UInt8.lt_trans xy yz)]
      · rw [if_neg yz] at h2
        by_cases zy : y > z
        · rw [if_pos zy] at h2; cases h2
        · have e : y = z := UInt8.le_antisymm (UInt8.not_lt.mp zy) (UInt8.not_lt.mp yz)
          subst e
          rw [if_pos xy]
    · rw [if_neg xy] at h1
      by_cases yx : x > y
      · rw [if_pos yx] at h1; cases h1
      · have e : x = y := UInt8.le_antisymm (UInt8.not_lt.mp yx) (UInt8.not_lt.mp xy)
        subst e
        rw [if_neg xy] at h1
        by_cases xz : x < z
        · rw [if_pos xz]
        · rw [if_neg xz] at h2 ⊢
          by_cases zx : x > z
          · rw [if_pos zx] at h2; cases h2
          · rw [if_neg zx] at h2 ⊢
            exact ord_lt_tr h1 h2
theorem ord_tot : ∀ (a b : List UInt8), Bytes.order a b = .lt ∨ a = b ∨ Bytes.order b a = .lt
  | [], [] => .inr (.inl rfl)
  | [], _ :: _ => .inl rfl
  | _ :: _, [] => .inr (.inr rfl)
  | x :: a, y :: b => by
    unfold Bytes.order
    by_cases xy : x < y
    · rw [if_pos xy]; exact .inl rfl
    · by_cases yx : y < x
      · exact .inr (.inr (if_pos yx))
      · have e : x = y := UInt8.le_antisymm (UInt8.not_lt.mp yx) (UInt8.not_lt.mp xy)
        subst e
        rw [if_neg xy, if_neg xy, if_neg xy, if_neg xy]
        rcases ord_tot a b with h | h | h
        · exact .inl h
        · exact .inr (.inl (by rw [h]))
        · exact .inr (.inr h)

abbrev Key := List UInt8 × Int
def klt (a b : Key) : Bool := if a.1 == b.1 then (if a.2 == b.2 then false else decide (a.2 < b.2)) else Bytes.order a.1 b.1 == .lt

theorem klt_iff (a b : Key) : klt a b = true ↔ (Bytes.order a.1 b.1 = .lt ∨ (a.1 = b.1 ∧ a.2 < b.2)) := by
  unfold klt
  by_cases h : a.1 = b.1
  · rw [if_pos (beq_iff_eq.mpr h)]
    have : Bytes.order a.1 b.1 = .eq := by rw [h]; exact ord_irr _
    by_cases h2 : a.2 = b.2
    · rw [if_pos (beq_iff_eq.mpr h2)]
      simp only [Bool.false_eq_true, false_iff, this, h2, Int.lt_irrefl, and_false, or_false]
      intro q; cases q
    · rw [if_neg (fun q => h2 (beq_iff_eq.mp q)), this]
      simp only [decide_eq_true_eq, h, true_and]
      exact ⟨.inr, fun q => q.elim (fun e => by cases e) id⟩
  · rw [if_neg (fun q => h (beq_iff_eq.mp q))]
    simp [h]
theorem klt_irr (a : Key) : klt a a = false := by
  cases q : klt a a with
  | false => rfl
  | true =>
    rcases (klt_iff a a).mp q with h | ⟨_, h⟩
    · rw [ord_irr] at h; cases h
    · exact absurd h (Int.lt_irrefl _)
theorem klt_tr (a b c : Key) (h1 : klt a b = true) (h2 : klt b c = true) : klt a c = true := by
  rw [klt_iff] at *
  rcases h1 with h1 | ⟨e1, h1⟩ <;> rcases h2 with h2 | ⟨e2, h2⟩
  · exact .inl (ord_lt_tr h1 h2)
  · exact .inl (e2 ▸ h1)
  · exact .inl (e1 ▸ h2)
  · exact .inr ⟨e1.trans e2, Int.lt_trans h1 h2⟩
theorem klt_tot (a b : Key) (h : klt a b = false) : a = b ∨ klt b a = true := by
  have n : ¬ klt a b = true := by rw [h]; exact Bool.false_ne_true
  rw [klt_iff] at n
  rcases ord_tot a.1 b.1 with q | q | q
  · exact absurd (.inl q) n
  · rcases Int.lt_trichotomy a.2 b.2 with r | r | r
    · exact absurd (.inr ⟨q, r⟩) n
    · exact .inl (Prod.ext q r)
    · exact .inr ((klt_iff b a).mpr (.inr ⟨q.symm, r⟩))
  · exact .inr ((klt_iff b a).mpr (.inl q))
theorem klt_nt (a b c : Key) (h1 : klt a b = false) (h2 : klt b c = false) : klt a c = false := by
  cases q : klt a c with
  | false => rfl
  | true =>
    rcases klt_tot a b h1 with e | h1
    · subst e; rw [q] at h2; cases h2
    · rcases klt_tot b c h2 with e | h2
      · subst e; rw [klt_tr _ _ _ h1 q] at h2; cases h2
      · have := klt_tr _ _ _ (klt_tr _ _ _ h2 h1) q
        rw [klt_irr] at this; cases this

theorem klt_wk (κ : Value → Key) : Wk fun x y => klt (κ x) (κ y) := ⟨fun _ => klt_irr _, fun _ _ _ => klt_tr _ _ _, fun _ _ _ => klt_nt _ _ _⟩
theorem klt_eqv (a b : Key) : (!klt a b && !klt b a) = decide (a = b) := by
  cases h1 : klt a b with
  | true =>
    have : a ≠ b := fun e => by subst e; rw [klt_irr] at h1; cases h1
    simp [this]
  | false =>
    rcases klt_tot a b h1 with e | h2
    · subst e; simp [h1]
    · have : a ≠ b := fun e => by subst e; rw [klt_irr] at h2; cases h2
      simp [h2, this]

/-! bytes: < -/
theorem slot_b_lt : Slot "bytes" (cmpInfo .Lt).2.1 "bytes.__lt__" :=
  .of (owner := "bytes") (n := "__lt__") (by rw [typeLookup_type, builtinLookup_eq_fast]; kernel_rfl) (by decide +kernel) (by decide +kernel) (by decide +kernel)
    (by first | exact .inl (by decide +kernel) | exact .inr (by decide +kernel)) (by rw [isSubtype_type]; kernel_rfl)
theorem entry_b_lt : entryFor table "bytes.__lt__" = some Builtin.«bytes.__lt__» := entryFor_of_tree (by kernel_rfl)
theorem args_b_lt (a b : Value) : argsOk "bytes.__lt__" ⟨[a, b], []⟩ := by
  unfold argsOk; rw [signature?_of (id := "bytes.__lt__") (n := ['_', '_', 't', 'l', '_', '_']) (o := ['s', 'e', 't', 'y', 'b']) (by kernel_rfl) PySem.W.FB.owner_bytes]; kernel_rfl
theorem gives_b_lt (b c : Array UInt8) (t u : Tok) : Gives («bytes.__lt__» ⟨[.bytes b t, .bytes c u], []⟩) (.val (.bool (Bytes.order b.toList c.toList == .lt))) := by
  refine .of_wp fun M A E s Q hq => ?_
  show wpAny M A (isInstance (.bytes c u) (.type "bytes") >>= fun r => _) _ E s
  refine wpAny_bind (wpAny_isInstance (PySem.W.typeIs_bytes s c u) F.sub_bytes_bytes ?_)
  exact wpAny_pure ⟨_, rfl, hq⟩

section
variable {prog : Program} {w : World} {A : Around} {E : Value → Shared → Prop} {s : Shared} {b c : Array UInt8} {t u : Tok}
theorem rc_lt_bytes {Q : Value → Shared → Prop} (h : Q (.bool (Bytes.order b.toList c.toList == .lt)) s) : wpAny (model prog w) A (richCompare .Lt (.bytes b t) (.bytes c u)) Q E s :=
  richCompare_gives (op := .Lt) (PySem.W.typeIs_bytes s b t) (PySem.W.typeIs_bytes s c u) slot_b_lt entry_b_lt (args_b_lt _ _) (gives_b_lt b c t u) (fun e => nomatch e) h
theorem rc_lt_int {i j : Int} {Q : Value → Shared → Prop} (h : Q (.bool (decide (i < j))) s) : wpAny (model prog w) A (richCompare .Lt (.int i t) (.int j u)) Q E s := PyProof.Rows.lt_int h
end

theorem eqAt_bytes {A : Around} {s : Shared} (b c : Array UInt8) (t u : Tok) : EqAt A s (.bytes b t) (.bytes c u) (b.toList == c.toList) := fun prog w E Q hq => by
  unfold eqBool
  refine wpAny_holding ?_
  refine wpAny_ite_split (fun hab => ?_) (fun _ => ?_)
  · have e : b = c := by have := eq_of_beq hab; injection this
    subst e
    rw [beq_self_eq_true] at hq
    exact wpAny_bind (wpAny_rule (wpAny_pure hq))
  · exact wpAny_bind (show wpAny _ _ (richCompare .Eq _ _) _ _ _ from PySem.W.eq_bytes (wpAny_truthy_bool hq))
theorem eqAt_int {A : Around} {s : Shared} (i j : Int) (t u : Tok) : EqAt A s (.int i t) (.int j u) (i == j) := fun prog w E Q hq => by
  unfold eqBool
  refine wpAny_holding ?_
  refine wpAny_ite_split (fun hab => ?_) (fun _ => ?_)
  · have e : i = j := by have := eq_of_beq hab; injection this
    subst e
    rw [beq_self_eq_true] at hq
    exact wpAny_bind (wpAny_rule (wpAny_pure hq))
  · exact wpAny_bind (show wpAny _ _ (richCompare .Eq _ _) _ _ _ from PyProof.Rows.eq_int (wpAny_truthy_bool hq))

/-! two pairs: < and == -/
def pairOf (k : Key) (t u : Tok) : Array Value := #[.bytes k.1.toArray t, .int k.2 u]

theorem tuple_lt (l b : Addr) (k k' : Key) (t u t' u' : Tok) (n n2 : Nat) (dd dd2 : Option Addr) (sl sl2 : Array (Option Value)) :
    Meets (Builtin.«tuple.__lt__» ⟨[.ref l, .ref b], []⟩)
      (fun A R s => s.heap.get? l = some { cls := .type "tuple", dict := dd, data := .seq (pairOf k t u) n, slots := sl } ∧ s.heap.get? b = some { cls := .type "tuple", dict := dd2, data := .seq (pairOf k' t' u') n2, slots := sl2 } ∧
        R (.ok (.ret (.bool (klt k k')))) s) :=
  .of_wp fun prog w A R s h => by
    obtain ⟨hl, hb, h⟩ := h
    show wpAny _ _ (isInstance (.ref b) (.type "tuple") >>= _) _ _ s
    refine wpAny_bind (wpAny_isInstance (T := "tuple") ⟨_, hb, rfl⟩ F.sub_tuple_tuple ?_)
    simp only [Bool.not_true, Bool.false_eq_true, if_false]
    refine wpAny_bind (wpAny_tupleItemsOf hl rfl ?_)
    refine wpAny_bind (wpAny_tupleItemsOf hb rfl ?_)
    show wpAny _ _ (forIn [(Value.bytes k.1.toArray t, Value.bytes k'.1.toArray t'), (Value.int k.2 u, Value.int k'.2 u')] _ _ >>= _) _ _ s
    refine wpAny_bind ?_
    rw [List.forIn_cons]
    refine wpAny_bind (wpAny_bind (eqAt_bytes _ _ _ _ _ _ _ _ ?_))
    unfold klt at h
    by_cases e1 : k.1 = k'.1
    · have q1 : (k.1.toArray.toList == k'.1.toArray.toList) = true := by simp [e1]
      rw [q1]
      rw [if_pos (beq_iff_eq.mpr e1)] at h
      simp only [Bool.not_true, Bool.false_eq_true, if_false]
      refine wpAny_pure ?_
      dsimp only
      rw [List.forIn_cons]
      refine wpAny_bind (wpAny_bind (eqAt_int _ _ _ _ _ _ _ _ ?_))
      by_cases e2 : k.2 = k'.2
      · have q2 : (k.2 == k'.2) = true := by simp [e2]
        rw [q2] at h ⊢
        rw [if_pos rfl] at h
        simp only [Bool.not_true, Bool.false_eq_true, if_false]
        refine wpAny_pure ?_
        dsimp only
        rw [List.forIn_nil]
        refine wpAny_pure ?_
        exact wpAny_pure ⟨_, rfl, h⟩
      · have q2 : (k.2 == k'.2) = false := by simp [e2]
        rw [q2] at h ⊢
        simp only [Bool.false_eq_true, if_false] at h
        simp only [Bool.not_false, if_true]
        refine wpAny_bind (wpAny_rule ?_)
        refine wpAny_bind (rc_lt_int ?_)
        exact wpAny_bind (wpAny_pure (wpAny_pure (wpAny_pure (wpAny_pure ⟨_, rfl, h⟩))))
    · have q1 : (k.1.toArray.toList == k'.1.toArray.toList) = false := by simp [e1]
      rw [q1]
      rw [if_neg (fun q => e1 (beq_iff_eq.mp q))] at h
      simp only [Bool.not_false, if_true]
      refine wpAny_bind (wpAny_rule ?_)
      refine wpAny_bind (rc_lt_bytes ?_)
      exact wpAny_bind (wpAny_pure (wpAny_pure (wpAny_pure (wpAny_pure ⟨_, rfl, h⟩))))

section
variable {prog : Program} {w : World} {A : Around} {E : Value → Shared → Prop} {s : Shared}
theorem lt_pairs {l b : Addr} {k k' : Key} {t u t' u' : Tok} {Q : Value → Shared → Prop} (hl : s.heap.IsTuple l (pairOf k t u)) (hb : s.heap.IsTuple b (pairOf k' t' u')) (hu : A.units < cLine)
    (h : Q (.bool (klt k k')) s) : wpAny (model prog w) A (compareOp .Lt (.ref l) (.ref b)) Q E s := by
  obtain ⟨⟨cls, dd, data, sl⟩, ho, hc, n, hd⟩ := id hl
  obtain ⟨⟨cls2, dd2, data2, sl2⟩, ho2, hc2, n2, hd2⟩ := id hb
  simp only at hc hd hc2 hd2
  subst hc hd hc2 hd2
  show wpAny (model prog w) A (richCompare .Lt (.ref l) (.ref b)) Q E s
  exact richCompare_meets_room (op := .Lt) ⟨_, ho, rfl⟩ ⟨_, ho2, rfl⟩ F.slot_tuple_lt F.entry_tuple_lt (F.args_tuple_lt_2 _ _) (tuple_lt l b k k' t u t' u' n n2 dd dd2 sl sl2)
    ⟨ho, ho2, show Value.bool (klt k k') ≠ Value.notImplemented ∧ Q (.bool (klt k k')) s from ⟨(fun x => nomatch x), h⟩⟩ hu
theorem eq_pairs {l b : Addr} {k k' : Key} {t u t' u' : Tok} {Q : Value → Shared → Prop} (hl : s.heap.IsTuple l (pairOf k t u)) (hb : s.heap.IsTuple b (pairOf k' t' u')) (hu : A.units < cLine)
    (h : Q (.bool (decide (k = k'))) s) : wpAny (model prog w) A (compareOp .Eq (.ref l) (.ref b)) Q E s := by
  refine eq_tupleAt (e := fun j => if j = 0 then k.1 == k'.1 else k.2 == k'.2) hl hb hu ?_ ?_
  · intro j h1 h2
    match j, h1 with
    | 0, _ => exact eqAt_bytes _ _ _ _
    | 1, _ => exact eqAt_int _ _ _ _
    | j + 2, h1 => simp [pairOf] at h1; omega
  · have : ((List.range (min (pairOf k t u).size (pairOf k' t' u').size)).all (fun j => if j = 0 then k.1 == k'.1 else k.2 == k'.2) && (pairOf k t u).size == (pairOf k' t' u').size) = decide (k = k') := by
      show ((List.range 2).all (fun j => if j = 0 then k.1 == k'.1 else k.2 == k'.2) && (2 == 2)) = _
      obtain ⟨k1, k2⟩ := k
      obtain ⟨k1', k2'⟩ := k'
      simp only [List.range, List.range.loop, List.all_cons, List.all_nil]
      by_cases a : k1 = k1' <;> by_cases b : k2 = k2' <;> simp [a, b]
    rw [this]; exact h
/-- two lists of the very same objects -/
theorem ne_same {l b : Addr} {items : Array Value} {Q : Value → Shared → Prop} (hl : s.heap.IsList l items) (hb : s.heap.IsList b items) (hu : A.units < cLine)
    (h : Q (.bool false) s) : wpAny (model prog w) A (compareOp .NotEq (.ref l) (.ref b)) Q E s := by
  refine RcNeAt.lists (e := fun _ => true) hl hb rfl hu (fun j h1 h2 => EqAt.same _) prog w E Q ?_
  have : (!(List.range items.size).all fun _ => true) = false := by simp
  rw [this]; exact h
theorem eq_same {l b : Addr} {items : Array Value} {Q : Value → Shared → Prop} (hl : s.heap.IsList l items) (hb : s.heap.IsList b items) (hu : A.units < cLine)
    (h : Q (.bool true) s) : wpAny (model prog w) A (compareOp .Eq (.ref l) (.ref b)) Q E s := by
  refine eq_listAt (e := fun _ => true) hl hb rfl hu (fun j h1 h2 => EqAt.same _) ?_
  have : ((List.range items.size).all fun _ => true) = true := by simp
  rw [this]; exact h
end
end Mine

/-! ===== Base ===== -/
namespace Mine
open PySem PySem.Calls PyProof.Rows

/-! the frame: what is kept (K), the locals at L and what they hold -/
structure Fk (K : Addr → Obj → Prop) (L : Addr) (h : Heap) (bs : List (Str × Value)) : Prop where
  ns : ∃ m, h.Ns L m ∧ ∀ x v, bs.lookup x = some v → m x = some v
  keep : ∀ b o, K b o → h.get? b = some o
  off : ∀ o, ¬ K L o

def Nw (K : Addr → Obj → Prop) (L : Addr) (h : Heap) (news : List (Addr × Obj)) : Prop :=
  ∀ p ∈ news, h.get? p.1 = some p.2 ∧ p.1 ≠ L ∧ ∀ o, ¬ K p.1 o

section
variable {K : Addr → Obj → Prop} {L : Addr} {h h' : Heap} {bs bs' : List (Str × Value)} {news : List (Addr × Obj)}

theorem Fk.get (F : Fk K L h bs) : ∃ o, h.get? L = some o := let ⟨_, ⟨o, _, _, e, _⟩, _⟩ := F.ns; ⟨o, e⟩
theorem Fk.lt (F : Fk K L h bs) : L < h.objs.size := let ⟨_, e⟩ := F.get; Heap.lt_size e
theorem Fk.fresh (F : Fk K L h bs) (o : Obj) : ¬ K h.objs.size o := fun e => absurd (Heap.lt_size (F.keep _ _ e)) (Nat.lt_irrefl _)
theorem Fk.stays (F : Fk K L h bs) (hk : ∀ b o, h.get? b = some o → h'.get? b = some o) : Fk K L h' bs :=
  ⟨let ⟨m, hn, hm⟩ := F.ns; ⟨m, hn.keeps hk, hm⟩, fun b o e => hk b o (F.keep b o e), F.off⟩
theorem Fk.but (F : Fk K L h bs) {V : Addr} (hL : L ≠ V) (hV : ∀ o, ¬ K V o) (hk : ∀ b o, b ≠ V → h.get? b = some o → h'.get? b = some o) : Fk K L h' bs :=
  ⟨let ⟨m, hn, hm⟩ := F.ns; ⟨m, hn.at' fun o e => hk _ o hL e, hm⟩, fun b o e => hk b o (fun q => hV o (q ▸ e)) (F.keep b o e), F.off⟩
theorem Fk.push (F : Fk K L h bs) (o : Obj) : Fk K L (h.push o) bs := F.stays fun _ _ e => Heap.get?_push_of_some o e
theorem Fk.weak (F : Fk K L h bs) (hw : ∀ p ∈ bs', bs.lookup p.1 = some p.2) : Fk K L h bs' := by
  obtain ⟨m, hn, hm⟩ := F.ns
  refine ⟨⟨m, hn, fun x v e => ?_⟩, F.keep, F.off⟩
  refine hm x v ?_
  have : ∀ l : List (Str × Value), (∀ p ∈ l, bs.lookup p.1 = some p.2) → l.lookup x = some v → bs.lookup x = some v := by
    intro l
    induction l with
    | nil => intro _ e; cases e
    | cons p r ih =>
      intro hp e
      obtain ⟨y, u⟩ := p
      rw [List.lookup_cons] at e
      split at e
      · rename_i q
        have hy : x = y := by simpa using q
        have := hp (y, u) (.head _)
        rw [hy]; rw [← Option.some.inj e]; exact this
      · exact ih (fun p hp' => hp p (.tail _ hp')) e
  exact this bs' hw e
theorem Fk.trans {K' : Addr → Obj → Prop} {bs₀ : List (Str × Value)} (F₀ : Fk K L h bs₀) (F : Fk K' L h' bs) (hK : ∀ b o, b ≠ L → K b o → K' b o) : Fk K L h' bs :=
  ⟨F.ns, fun b o e => F.keep b o (hK b o (fun q => F₀.off o (q ▸ e)) e), F₀.off⟩
theorem Fk.re {K' : Addr → Obj → Prop} (F : Fk K L h bs) (h1 : ∀ b o, K' b o → h.get? b = some o) (h2 : ∀ o, ¬ K' L o) : Fk K' L h bs := ⟨F.ns, h1, h2⟩

theorem Nw.nil : Nw K L h [] := fun _ hp => nomatch hp
theorem Nw.stays (N : Nw K L h news) (hk : ∀ b o, h.get? b = some o → h'.get? b = some o) : Nw K L h' news := fun p hp => ⟨hk _ _ (N p hp).1, (N p hp).2⟩
theorem Nw.push (N : Nw K L h news) (o : Obj) : Nw K L (h.push o) news := N.stays fun _ _ e => Heap.get?_push_of_some o e
theorem Nw.pushed (F : Fk K L h bs) (N : Nw K L h news) (o : Obj) (hf : o.isFreed = false := by rfl) : Nw K L (h.push o) ((h.objs.size, o) :: news) := by
  intro p hp
  rcases List.mem_cons.mp hp with rfl | hp
  · exact ⟨Heap.get?_push_size _ hf, Nat.ne_of_gt F.lt, F.fresh⟩
  · exact N.push o p hp
theorem Nw.lt (N : Nw K L h news) : ∀ p ∈ news, p.1 < h.objs.size := fun p hp => Heap.lt_size (N p hp).1
theorem Nw.sub {news' : List (Addr × Obj)} (N : Nw K L h news) (hs : ∀ p ∈ news', p ∈ news) : Nw K L h news' := fun p hp => N p (hs p hp)
theorem Nw.same (N : Nw K L h news) (hs : Heap.SameBut L h h') : Nw K L h' news := fun p hp => ⟨(hs.2 p.1 (N p hp).2.1).trans (N p hp).1, (N p hp).2⟩
theorem Nw.but (N : Nw K L h news) {V : Addr} (hV : ∀ p ∈ news, p.1 ≠ V) (hk : ∀ b o, b ≠ V → h.get? b = some o → h'.get? b = some o) : Nw K L h' news :=
  fun p hp => ⟨hk _ _ (hV p hp) (N p hp).1, (N p hp).2⟩
theorem Nw.cons {a : Addr} {o : Obj} (h1 : h.get? a = some o) (h2 : a ≠ L) (h3 : ∀ o', ¬ K a o') (N : Nw K L h news) : Nw K L h ((a, o) :: news) := by
  intro p hp
  rcases List.mem_cons.mp hp with rfl | hp
  · exact ⟨h1, h2, h3⟩
  · exact N p hp

theorem Fk.put {x : Str} {v : Value} (F : Fk K L h bs) {m : Str → Option Value} (hm : ∀ x v, bs.lookup x = some v → m x = some v)
    (hn : h'.Ns L (fun y => if y = x then some v else m y)) (hs : Heap.SameBut L h h') : Fk K L h' ((x, v) :: bs) := by
  refine ⟨⟨_, hn, fun y u e => ?_⟩, fun b o e => (hs.2 b fun q => F.off o (q ▸ e)).trans (F.keep b o e), F.off⟩
  rw [List.lookup_cons] at e
  split at e
  · rename_i q
    have : y = x := by simpa using q
    rw [if_pos this]; exact e
  · rename_i q
    have : y ≠ x := by simpa using q
    rw [if_neg this]; exact hm y u e
end

section
variable {M : Model} {A : Around} {E : Value → Shared → Prop} {s : Shared} {name : Str} {scope : Scope} {L a : Addr} {cd : Value} {K : Addr → Obj → Prop} {bs : List (Str × Value)} {news : List (Addr × Obj)}

theorem ldF {x : Str} {pos : Pos} {v : Value} {Q : Value → Shared → Prop} (F : Fk K L s.heap bs) (hv : bs.lookup x = some v) (h : Q v s)
    (hk : scope.kind = .function := by rfl) (hl : (envOf name scope L a cd).kindOf x = some .local := by rfl)
    (hd : (x == ("__debug__" : Str)) = false := by decide) :
    wpAny M A (eval (.Name x pos) (envOf name scope L a cd)) Q E s :=
  let ⟨_, hn, hm⟩ := F.ns
  wpAny_Name (wpAny_loadName_local hk hl hn (hm x v hv) h) hd
theorem ldnF {x : Str} {v : Value} {Q : Value → Shared → Prop} (F : Fk K L s.heap bs) (hv : bs.lookup x = some v) (h : Q v s)
    (hk : scope.kind = .function := by rfl) (hl : (envOf name scope L a cd).kindOf x = some .local := by rfl) :
    wpAny M A (loadName (envOf name scope L a cd) x) Q E s :=
  let ⟨_, hn, hm⟩ := F.ns
  wpAny_loadName_local hk hl hn (hm x v hv) h
theorem stF {x : Str} {v : Value} {Q : Unit → Shared → Prop} (F : Fk K L s.heap bs) (N : Nw K L s.heap news)
    (h : ∀ h', Fk K L h' ((x, v) :: bs) → Nw K L h' news → Heap.SameBut L s.heap h' → Q () { s with heap := h', toks := s.toks + 1 })
    (hk : scope.kind = .function := by rfl) (hl : (envOf name scope L a cd).kindOf x = some .local := by rfl) :
    wpAny M A (storeName (envOf name scope L a cd) x v) Q E s :=
  let ⟨_, hn, hm⟩ := F.ns
  wpAny_storeName_local hl hn (fun h' hn' hs => h h' (F.put hm hn' hs) (N.same hs) hs)
    (by show (scope.kind == .class || (scope.kind == .module && L != mainGlobals)) = false; rw [hk]; rfl)
theorem ldG {x : Str} {pos : Pos} {v : Value} {mg : Str → Option Value} {Q : Value → Shared → Prop} (hg : s.heap.Ns mainGlobals mg) (hb : mg x = some v) (h : Q v s)
    (hk : scope.kind = .function := by rfl) (hx : (envOf name scope L a cd).kindOf x = some .globalImplicit := by rfl) (hd : (x == ("__debug__" : Str)) = false := by decide) :
    wpAny M A (eval (.Name x pos) (envOf name scope L a cd)) Q E s :=
  Calls.Name_function_global hk hx (Calls.loadGlobal_global (env := envOf name scope L a cd) hg hb h) hd
theorem ldB {x : Str} {pos : Pos} {v : Value} {mg mb : Str → Option Value} {Q : Value → Shared → Prop} (hg : s.heap.Ns mainGlobals mg) (hmiss : mg x = none) (hb : s.heap.Ns builtinsNs mb) (hv : mb x = some v) (h : Q v s)
    (hk : scope.kind = .function := by rfl) (hx : (envOf name scope L a cd).kindOf x = some .globalImplicit := by rfl) (hd : (x == ("__debug__" : Str)) = false := by decide) :
    wpAny M A (eval (.Name x pos) (envOf name scope L a cd)) Q E s :=
  Calls.Name_function_global hk hx (Calls.loadGlobal_builtin (env := envOf name scope L a cd) hg hmiss hb hv h) hd
end

/-! the globals -/
def theBuiltins : List (Str × Value) := [("len", .builtin "len"), ("range", .type "range"), ("min", .builtin "min"), ("max", .builtin "max"), ("int", .type "int"), ("bytes", .type "bytes"), ("list", .type "list")]

def theNames : List Str := ["merged", "merge_sorted", "_law_pool", "_law_take", "_law_one", "_law_rows", "_law_counted", "_law_right"]
structure FnAt (mg : Str → Option Value) (h : Heap) (name : Str) (params : Arguments) (body : List Stmt) (scope : Scope) (a : Addr) : Prop where
  named : mg name = some (.ref a)
  at_ : ∃ o pm code doc, h.get? a = some o ∧ o.data = .func (docDef name params body scope pm code doc) ∧ h.CodeRec code name

structure Gl (p : Program) (mg mb : Str → Option Value) (h : Heap) : Prop where
  g : h.Ns mainGlobals mg
  b : h.Ns builtinsNs mb
  lim : h.NoLimit
  bi : ∀ x v, theBuiltins.lookup x = some v → mg x = none ∧ mb x = some v
  fn : ∀ name params body scope, p.theDef name = some (params, body, scope) → name ∈ theNames → ∃ a, FnAt mg h name params body scope a

theorem Gl.keeps {p : Program} {mg mb : Str → Option Value} {h h' : Heap} (G : Gl p mg mb h) (hk : ∀ b o, h.get? b = some o → h'.get? b = some o) : Gl p mg mb h' :=
  ⟨G.g.keeps hk, G.b.keeps hk, G.lim.keeps hk, G.bi, fun n ps bd sc e ne => let ⟨a, f⟩ := G.fn n ps bd sc e ne; ⟨a, f.named, let ⟨o, pm, cd, dc, h1, h2, h3⟩ := f.at_; ⟨o, pm, cd, dc, hk _ _ h1, h2, h3.keeps hk⟩⟩⟩

/-- the globals stand wherever K is kept -/
def GK (p : Program) (mg mb : Str → Option Value) (K : Addr → Obj → Prop) : Prop := ∀ h : Heap, (∀ b o, K b o → h.get? b = some o) → Gl p mg mb h
theorem Gl.gk {p : Program} {mg mb : Str → Option Value} {h : Heap} (G : Gl p mg mb h) : GK p mg mb (fun b o => h.get? b = some o) := fun _ hk => G.keeps hk
theorem GK.up {p : Program} {mg mb : Str → Option Value} {K K' : Addr → Obj → Prop} (G : GK p mg mb K) (hK : ∀ b o, K b o → K' b o) : GK p mg mb K' := fun h hk => G h fun b o e => hk b o (hK b o e)

section
variable {M : Model} {A : Around} {E : Value → Shared → Prop} {s : Shared} {name : Str} {scope : Scope} {L a : Addr} {cd : Value} {K : Addr → Obj → Prop} {bs : List (Str × Value)} {p : Program} {mg mb : Str → Option Value}
theorem ldBi {x : Str} {pos : Pos} {v : Value} {Q : Value → Shared → Prop} (G : GK p mg mb K) (F : Fk K L s.heap bs) (hx : theBuiltins.lookup x = some v) (h : Q v s)
    (hk : scope.kind = .function := by rfl) (hl : (envOf name scope L a cd).kindOf x = some .globalImplicit := by rfl) (hd : (x == ("__debug__" : Str)) = false := by decide) :
    wpAny M A (eval (.Name x pos) (envOf name scope L a cd)) Q E s :=
  let g := G _ F.keep
  ldB g.g (g.bi x v hx).1 g.b (g.bi x v hx).2 h hk hl hd
theorem ldFn {x : Str} {pos : Pos} {f : Addr} {ps : Arguments} {bd : List Stmt} {sc : Scope} {Q : Value → Shared → Prop} (G : GK p mg mb K) (F : Fk K L s.heap bs) (hf : mg x = some (.ref f)) (h : Q (.ref f) s)
    (hk : scope.kind = .function := by rfl) (hl : (envOf name scope L a cd).kindOf x = some .globalImplicit := by rfl) (hd : (x == ("__debug__" : Str)) = false := by decide) :
    wpAny M A (eval (.Name x pos) (envOf name scope L a cd)) Q E s :=
  ldG (G _ F.keep).g hf h hk hl hd
end
theorem IsList.up {h h' : Heap} {l : Addr} {its : Array Value} (hl : h.IsList l its) (hk : ∀ b o, h.get? b = some o → h'.get? b = some o) : h'.IsList l its :=
  let ⟨o, e, r⟩ := hl; ⟨o, hk l o e, r⟩
theorem IsTuple.up {h h' : Heap} {l : Addr} {its : Array Value} (hl : h.IsTuple l its) (hk : ∀ b o, h.get? b = some o → h'.get? b = some o) : h'.IsTuple l its :=
  let ⟨o, e, r⟩ := hl; ⟨o, hk l o e, r⟩
def lobj (vs : List Value) (n : Nat) : Obj := { cls := .type "list", data := .seq vs.toArray n }
def tobj (vs : List Value) : Obj := { cls := .type "tuple", data := .seq vs.toArray }
theorem plainL_of {h : Heap} {a : Addr} {vs : List Value} {n : Nat} (e : h.get? a = some (lobj vs n)) : PlainL h a vs.toArray := ⟨_, n, e, rfl, rfl, rfl⟩
theorem isList_of {h : Heap} {a : Addr} {vs : List Value} {n : Nat} (e : h.get? a = some (lobj vs n)) : h.IsList a vs.toArray := (plainL_of e).isList
theorem isTuple_of {h : Heap} {a : Addr} {vs : List Value} (e : h.get? a = some (tobj vs)) : h.IsTuple a vs.toArray := ⟨_, e, rfl, 0, rfl⟩

/-- the room -/
structure Rm (A : Around) (d u : Nat) : Prop where
  hd : A.handled = none
  dp : A.depth + d < recursionLimit
  un : A.units + u < cLine
theorem Rm.deep {A : Around} {d u d' u' : Nat} (R : Rm A d u) (env : Env) (h1 : d' + 1 ≤ d) (h2 : u' + 3 ≤ u) : Rm (A.deeper env) d' u' :=
  ⟨R.hd, by have := R.dp; show A.depth + 1 + d' < _; omega, by have := R.un; show A.units + 3 + u' < _; omega⟩
theorem Rm.le {A : Around} {d u d' u' : Nat} (R : Rm A d u) (h1 : d' ≤ d) (h2 : u' ≤ u) : Rm A d' u' := ⟨R.hd, by have := R.dp; omega, by have := R.un; omega⟩
theorem Rm.in1 {A : Around} {d u d' u' : Nat} (R : Rm A d u) (h1 : d' ≤ d) (h2 : u' + 1 ≤ u) : Rm A.in1 d' u' := ⟨R.hd, by have := R.dp; show A.depth + d' < _; omega, by have := R.un; show A.units + 1 + u' < _; omega⟩
theorem Rm.u {A : Around} {d u : Nat} (R : Rm A d u) : A.units < cLine := by have := R.un; omega

section
variable {prog : Program} {w : World} {A : Around} {E : Value → Shared → Prop} {s : Shared}

/-- a call of a def that always hands back a value -/
theorem call_fn {p : Program} {mg mb : Str → Option Value} {d u : Nat} {name : Str} {params : Arguments} {body : List Stmt} {scope : Scope} {a : Addr} {args : List Value} {Q : Value → Shared → Prop}
    (R : Rm A (d + 1) (u + 3)) (G : Gl p mg mb s.heap) (f : FnAt mg s.heap name params body scope a)
    (hbind : ∀ pm cd doc, bindArgs (Calls.docDef name params body scope pm cd doc) ⟨args, []⟩ = pure ((params.args.map (·.arg)).zip args))
    (hloc : ∀ x ∈ (params.args.map (·.arg)).zip args, scope.names.lookup x.1 = some .local)
    (h : ∀ L h₁ tk cd, Fk (fun b o => s.heap.get? b = some o) L h₁ ((params.args.map (·.arg)).zip args).reverse → L = s.heap.objs.size → Rm (A.deeper (envOf name scope L a cd)) d u → (∀ b o, s.heap.get? b = some o → h₁.get? b = some o) →
      wpAny (model prog w) (A.deeper (envOf name scope L a cd)) (execs body (envOf name scope L a cd))
        (fun fl s' => ∃ v, fl = .ret v ∧ Q v s') (fun _ _ => False) { s with heap := h₁, toks := tk })
    (hco : scope.isCoroutine = false := by rfl) (hgen : scope.isGenerator = false := by rfl) (hk : scope.kind = .function := by rfl)
    (hcell : ∀ x ∈ scope.names, x.2 ≠ .cell := by decide) :
    wpAny (model prog w) A (call (.ref a) args) Q E s := by
  obtain ⟨o, pm, cd, doc, h1, h2, h3⟩ := f.at_
  refine wpAny_call (call_pos_ret (by have := R.dp; omega) h1 h2 G.lim h3 (hbind _ _ _) hloc (fun h₁ F => ?_) hco hgen hk hcell)
  refine wpAny_mono (h _ h₁ _ cd ⟨⟨_, F.ns, fun _ _ e => e⟩, F.keep, fun o e => absurd (Heap.lt_size e) (Nat.lt_irrefl _)⟩ rfl (R.deep _ (Nat.le_refl _) (Nat.le_refl _)) F.keep) (fun fl s' q => ?_) fun _ _ x => x
  obtain ⟨v, rfl, q⟩ := q
  exact q

theorem callWith_fn {mg : Str → Option Value} {env : Env} {pos : Pos} {name : Str} {params : Arguments} {body : List Stmt} {scope : Scope} {a : Addr} {e : Expr} {rest : List Expr} {Q : Value → Shared → Prop}
    (f : FnAt mg s.heap name params body scope a)
    (h : wpAny (model prog w) A (spliced (backTo pos (starEach (e :: rest) env))) (fun vs s₁ => (∀ b o, s.heap.get? b = some o → b = a → s₁.heap.get? b = some o) ∧ wpAny (model prog w) A (call (.ref a) vs) Q E s₁) E s)
    (he : starEach (e :: rest) env = (false, eval e env) :: starEach rest env := by rfl) :
    wpAny (model prog w) A (callWith pos (.ref a) [] (backTo pos (starEach (e :: rest) env)) []) Q E s := by
  obtain ⟨o, pm, cd, doc, h1, h2, h3⟩ := f.at_
  exact callWith_def h2 (wpAny_mono h (fun vs s₁ q => ⟨q.1 a o h1 rfl, q.2⟩) fun _ _ x => x) he
end

section
variable {prog : Program} {w : World} {A : Around} {s : Shared} {env : Env}
theorem while_ {test : Expr} {body : List Stmt} {pos : Pos} {Q : Flow → Shared → Prop} (I : Nat → Shared → Prop)
    (turn : ∀ n s, I n s → wpAny (model prog w) A (isTrue test env (eval test env)) (fun b s₂ =>
      if b = true then wpAny (model prog w) A (execs body env) (fun f s₃ => match f with
          | .next | .cont => ∃ m, m < n ∧ I m s₃
          | .brk => Q .next s₃
          | .ret v => Q (.ret v) s₃) (fun _ _ => False) s₂
      else Q .next s₂) (fun _ _ => False) s)
    (n : Nat) (h : I n s) : wpAny (model prog w) A (exec (.While test body [] pos) env) Q (fun _ _ => False) s := by
  refine wpAny_While ?_
  refine codeAny_whileLoop I (fun n s hI => ?_) n h
  refine wpAny_mono (turn n s hI) (fun b s₂ q => ?_) fun _ _ x => x.elim
  cases b with
  | true =>
    simp only [if_true] at q ⊢
    refine wpAny_mono q (fun f s₃ q => ?_) fun _ _ x => x.elim
    cases f <;> exact q
  | false =>
    simp only [Bool.false_eq_true, if_false] at q ⊢
    exact wpAny_execs_nil q
end

/-! a for over a range -/
section
variable {prog : Program} {w : World} {A : Around} {s : Shared} {name : Str} {scope : Scope} {L a : Addr} {cd : Value} {K : Addr → Obj → Prop} {bs : List (Str × Value)} {news : List (Addr × Obj)}

def TurnEnd (K : Addr → Obj → Prop) (L : Addr) (s : Shared) (it : Addr × Obj) (J : List (Str × Value) → List (Addr × Obj) → Prop) (s' : Shared) : Prop :=
  ∃ h' tk bs' news', s' = { s with heap := h', toks := tk } ∧ Fk K L h' bs' ∧ Nw K L h' (it :: news') ∧ (∀ p ∈ news', p.1 ≠ it.1) ∧ J bs' news'
def TurnPost (K : Addr → Obj → Prop) (L : Addr) (s : Shared) (it : Addr × Obj) (J : List (Str × Value) → List (Addr × Obj) → Prop) (Q : Flow → Shared → Prop) (f : Flow) (s' : Shared) : Prop :=
  match f with
  | .ret v => Q (.ret v) s'
  | .brk => False
  | _ => TurnEnd K L s it J s'

theorem for_range {x : Str} {px pos : Pos} {iter : Expr} {body : List Stmt} {Q : Flow → Shared → Prop} (J : Nat → List (Str × Value) → List (Addr × Obj) → Prop) (hh : A.handled = none)
    (h : wpAny (model prog w) A (eval iter (envOf name scope L a cd)) (fun xv s₁ => ∃ r lo hi st t u v, ∃ n : Nat, ∃ bs news, xv = .ref r ∧ IsRange s₁.heap r lo hi st t u v ∧ Builtin.Range.small lo hi st = true ∧ Builtin.Range.rangeSize lo hi st = (n : Int) ∧
      Fk K L s₁.heap bs ∧ Nw K L s₁.heap news ∧ J 0 bs news ∧
      (∀ (i : Nat) bs news h tk it, i < n → J i bs news → (∀ p ∈ news, p.1 ≠ it.1) → Fk K L h ((x, .int (lo + i * st) tk) :: bs) → Nw K L h (it :: news) →
        wpAny (model prog w) A (execs body (envOf name scope L a cd)) (TurnPost K L s₁ it (J (i + 1)) Q) (fun _ _ => False) { s₁ with heap := h, toks := tk + 1 + 1 }) ∧
      (∀ bs news h tk, J n bs news → Fk K L h bs → Nw K L h news → Q .next { s₁ with heap := h, toks := tk })) (fun _ _ => False) s)
    (hs : ∀ v, foldedSetIterable iter (envOf name scope L a cd) v = pure v := by intro _; rfl)
    (hk : scope.kind = .function := by rfl) (hl : (envOf name scope L a cd).kindOf x = some .local := by rfl) :
    wpAny (model prog w) A (exec (.For (.Name x px) iter body [] pos) (envOf name scope L a cd)) Q (fun _ _ => False) s := by
  refine wpAny_For (wpAny_mono h (fun xv s₁ q => ?_) fun _ _ e => e) hs
  obtain ⟨r, lo, hi, st, t, u, v, n, bs, news, rfl, hr, hsm, hsz, F, N, hJ, turn, done⟩ := q
  refine wpAny_pyIter_range hr hsm ?_
  have N1 := Nw.pushed F N { cls := .type "range_iterator", data := .fields #[rawInt lo, rawInt (Builtin.Range.rangeSize lo hi st), rawInt st] }
  have F1 := F.push { cls := .type "range_iterator", data := .fields #[rawInt lo, rawInt (Builtin.Range.rangeSize lo hi st), rawInt st] }
  rw [hsz] at N1 F1 ⊢
  generalize hI : s₁.heap.objs.size = I at N1 ⊢
  have hoff : ∀ p ∈ news, p.1 ≠ I := fun p hp e => absurd (N.lt p hp) (by rw [e, hI]; exact Nat.lt_irrefl _)
  have hp : ((envOf name scope L a cd).scope.kind == .class || ((envOf name scope L a cd).scope.kind == .module && (envOf name scope L a cd).locals != (envOf name scope L a cd).globals)) = false := by
    show (scope.kind == .class || (scope.kind == .module && L != mainGlobals)) = false; rw [hk]; rfl
  refine codeAny_forLoop (fun k s' => ∃ i : Nat, ∃ h' tk bs news, k = n - i ∧ i ≤ n ∧ s' = { s₁ with heap := h', toks := tk } ∧ Fk K L h' bs ∧
    Nw K L h' ((I, { cls := .type "range_iterator", data := .fields #[rawInt (lo + i * st), rawInt ((n : Int) - i), rawInt st] }) :: news) ∧ (∀ p ∈ news, p.1 ≠ I) ∧ J i bs news) ?_ n
    ⟨0, _, s₁.toks, bs, news, by omega, Nat.zero_le _, rfl, F1, by simpa using N1, hoff, hJ⟩
  rintro k s' ⟨i, h', tk, bs', news', rfl, hi', rfl, F', N', ho', hJ'⟩
  have hit := (N' _ (.head _)).1
  have hIL := (N' _ (.head _)).2.1
  have hIK := (N' _ (.head _)).2.2
  by_cases hlt : i < n
  · refine wpAny_pyNext_range_item (x := lo + i * st) (left := (n : Int) - i) (step := st) hit (by omega) fun h₂ hit₂ hs₂ => ?_
    have F₂ : Fk K L h₂ bs' := F'.but (Ne.symm hIL) hIK fun b o hb e => (hs₂.2 b hb).trans e
    have N₂ : Nw K L h₂ news' := (Nw.sub N' fun p hp => .tail _ hp).but ho' fun b o hb e => (hs₂.2 b hb).trans e
    have N₃ : Nw K L h₂ ((I, { cls := .type "range_iterator", data := .fields #[rawInt (lo + i * st + st), rawInt ((n : Int) - i - 1), rawInt st] }) :: news') := Nw.cons hit₂ hIL hIK N₂
    obtain ⟨m, hn, hm⟩ := F₂.ns
    refine wpAny_assign_Name (wpAny_storeName_local hl hn (fun h₃ hn₃ hs₃ => ?_) hp)
    have F₄ := F₂.put hm hn₃ hs₃
    have N₄ := N₃.same hs₃
    refine wpAny_mono (turn i bs' news' h₃ tk _ hlt hJ' ho' F₄ N₄) (fun f s₃ q => ?_) fun _ _ e => e.elim
    have fin : ∀ s₃, TurnEnd K L s₁ (I, { cls := .type "range_iterator", data := .fields #[rawInt (lo + i * st + st), rawInt ((n : Int) - i - 1), rawInt st] }) (J (i + 1)) s₃ →
        ∃ m, m < n - i ∧ ∃ i : Nat, ∃ h' tk bs news, m = n - i ∧ i ≤ n ∧ s₃ = { s₁ with heap := h', toks := tk } ∧ Fk K L h' bs ∧
          Nw K L h' ((I, { cls := .type "range_iterator", data := .fields #[rawInt (lo + i * st), rawInt ((n : Int) - i), rawInt st] }) :: news) ∧ (∀ p ∈ news, p.1 ≠ I) ∧ J i bs news := by
      rintro s₃ ⟨h₅, tk₅, bs₅, news₅, rfl, F₅, N₅, ho₅, hJ₅⟩
      refine ⟨n - (i + 1), by omega, i + 1, h₅, tk₅, bs₅, news₅, rfl, hlt, rfl, F₅, ?_, ho₅, hJ₅⟩
      have e1 : lo + ((i + 1 : Nat) : Int) * st = lo + i * st + st := by push_cast; rw [Int.add_mul, Int.one_mul, Int.add_assoc]
      have e2 : (n : Int) - ((i + 1 : Nat) : Int) = (n : Int) - i - 1 := by push_cast; omega
      rw [e1, e2]; exact N₅
    cases f with
    | ret v => exact q
    | brk => exact q.elim
    | next => exact fin _ q
    | cont => exact fin _ q
  · have hin : i = n := by omega
    subst hin
    refine wpAny_pyNext_range_end hh hit (by omega) fun h₂ he => wpAny_execs_nil ?_
    have F₂ : Fk K L h₂ bs' := F'.but (Ne.symm hIL) hIK fun b o hb e => he b o hb e
    have N₂ : Nw K L h₂ news' := (Nw.sub N' fun p hp => .tail _ hp).but ho' fun b o hb e => he b o hb e
    exact done bs' news' h₂ tk hJ' F₂ N₂
end
end Mine

/-! ===== m1body m2body m3body m4body m5body m6body m7body m8body ===== -/
namespace Mine
open PySem PySem.Calls PyProof.Rows
local macro_rules | `(tactic| walk_at "mine") => `(tactic| first
  | with_reducible refine wpAny_execs_cons ?_
  | with_reducible refine wpAny_execs_nil ?_
  | with_reducible refine wpAny_Return_some ?_
  | with_reducible refine wpAny_If ?_
  | with_reducible refine wpAny_Constant_int ?_
  | with_reducible refine PySem.W.Constant_bytes ?_
  | with_reducible refine wpAny_Constant_bool ?_
  | with_reducible refine wpAny_isTrue_BoolOp ?_
  | with_reducible refine wpAny_allTrue_And_cons ?_
  | with_reducible refine wpAny_allTrue_And_nil ?_
  | with_reducible refine wpAny_allTrue_Or_cons ?_
  | with_reducible refine wpAny_allTrue_Or_nil ?_
  | with_reducible refine wpAny_BinOp ?_
  | with_reducible refine Tuple_ ?_
  | with_reducible refine List_ ?_
  | with_reducible refine args_nil ?_
  | with_reducible refine wpAny_truthy_bool ?_
  | ((with_reducible show wpAny _ _ (exec (.Assign [.Name _ _] _ _) _) _ _ _); refine wpAny_Assign_Name ?_)
  | ((with_reducible show wpAny _ _ (exec (.AugAssign (.Name _ _) _ _ _) _) _ _ _); refine wpAny_AugAssign_Name ?_)
  | ((with_reducible show wpAny _ _ (eval (.Compare _ [_] [_] _) _) _ _ _); refine wpAny_Compare1 ?_)
  | ((with_reducible show wpAny _ _ (isTrue (.Compare _ [_] [_] _) _ _) _ _ _); refine wpAny_isTrue_Compare1 ?_)
  | ((with_reducible show wpAny _ _ (eval (.Subscript _ _ _) _) _ _ _); (fail_if_success (with_reducible show wpAny _ _ (eval (.Subscript _ (.Slice _ _ _ _) _) _) _ _ _)); refine Subscript_ ?_)
  | ((with_reducible show wpAny _ _ (spliced (backTo _ (starEach (_ :: _) _))) _ _ _); refine args_cons ?_)
  | ((with_reducible show wpAny _ _ (eval (.Call (.Name _ _) _ [] _) _) _ _ _); refine Call_ ?_)
  | ((with_reducible show wpAny _ _ (callWith _ (.builtin _) [] (backTo _ (starEach (_ :: _) _)) []) _ _ _); refine PyProof.Rows.callWith_builtin1 ?_)
  | ((with_reducible show wpAny _ _ (callWith _ (.type _) [] (backTo _ (starEach (_ :: _) _)) []) _ _ _); refine PyProof.Rows.callWith_type1 ?_))
local macro_rules | `(tactic| walk_at "name") => `(tactic| first
  | ((with_reducible show wpAny _ _ (eval (.Name _ _) _) _ _ _); refine ldF (by assumption) (by rfl) ?_)
  | ((with_reducible show wpAny _ _ (eval (.Name _ _) _) _ _ _); refine ldBi (by assumption) (by assumption) (by rfl) ?_)
  | ((with_reducible show wpAny _ _ (loadName _ _) _ _ _); refine ldnF (by assumption) (by rfl) ?_))
local macro_rules | `(tactic| walk_at "weak") => `(tactic| first
  | exact List.forall_mem_nil _
  | (refine List.forall_mem_cons.mpr ⟨?_, ?_⟩; (first | exact rfl | (refine Eq.trans rfl ?_; assumption)); walk_at "weak"))
local macro_rules | `(tactic| walk_at "go") => `(tactic| ((try dsimp only); repeat (first | walk_at "mine" | walk_at "name"); (try dsimp only)))
abbrev PW : Program := PySem.Challenge.pw_xm0740_01
def RowAt (h : Heap) (κ : Value → Key) (v : Value) : Prop := ∃ a t u x, v = .ref a ∧ h.IsTuple a #[.bytes (κ v).1.toArray t, .int (κ v).2 u, x]
def kl (κ : Value → Key) (x y : Value) : Bool := klt (κ x) (κ y)
theorem kl_wk (κ : Value → Key) : Wk (kl κ) := klt_wk κ
theorem RowAt.up {h h' : Heap} {κ : Value → Key} {v : Value} (r : RowAt h κ v) (hk : ∀ b o, h.get? b = some o → h'.get? b = some o) : RowAt h' κ v :=
  let ⟨a, t, u, x, e, i⟩ := r; ⟨a, t, u, x, e, IsTuple.up i hk⟩

section
variable {prog : Program} {w : World} {A : Around} {E : Value → Shared → Prop} {s : Shared}
theorem add_lists' {l b : Addr} {vs ws : List Value} {Q : Value → Shared → Prop} (hl : s.heap.IsList l vs.toArray) (hb : s.heap.IsList b ws.toArray)
    (h : Q (.ref s.heap.objs.size) { s with heap := s.heap.push (lobj (vs ++ ws) 0) }) (hsz : vs.length + ws.length ≤ sizeLine := by size_fits) :
    wpAny (model prog w) A (binaryOp .Add (.ref l) (.ref b)) Q E s := by
  obtain ⟨⟨cls, dd, data, sl⟩, ho, hc, n, hd⟩ := id hl
  obtain ⟨⟨cls2, dd2, data2, sl2⟩, ho2, hc2, n2, hd2⟩ := id hb
  simp only at hc hd hc2 hd2
  subst hc hd hc2 hd2
  have e : vs.toArray ++ ws.toArray = (vs ++ ws).toArray := by simp
  refine concat_meets ⟨_, ho, rfl⟩ ⟨_, ho2, rfl⟩ noFill_list_add seq_list_add PySem.F.slot_list_add PySem.F.entry_list_add (PySem.F.args_list_add_2 _ _) (list_addW l b vs.toArray ws.toArray n n2 dd dd2 sl sl2 (by simpa using hsz)) ⟨ho, ho2, ?_⟩
  rw [e]
  exact h
theorem item_ {value slice : Expr} {l : Addr} {vs : List Value} {k : Int} {t : Tok} {v : Value} {Q : Value → Shared → Prop} (hl : s.heap.IsList l vs.toArray) (h0 : 0 ≤ k) (h1 : vs.length ≤ 1000000) (hx : vs[k.toNat]? = some v) (h : Q v s)
    (hs : subscripted slice false (.ref l) (.int k t) = operate [.ref l, .int k t] (getItem (.ref l) (.int k t)) := by with_unfolding_all rfl) :
    wpAny (model prog w) A (subscriptTail value slice (.ref l) (.int k t)) Q E s := by
  have hlt := (List.getElem?_eq_some_iff.mp hx).1
  exact tail_any hl.typeIs slot_list_getitem.lookup (wpAny_getItem_list hl h0 (by omega) (by simpa using hx) h) hs
theorem key0_ {value slice : Expr} {κ : Value → Key} {v : Value} {i : Tok} {Q : Value → Shared → Prop} (hr : RowAt s.heap κ v) (h : ∀ t, Q (.bytes (κ v).1.toArray t) s)
    (hs : ∀ a, subscripted slice false (.ref a) (.int 0 i) = operate [.ref a, .int 0 i] (getItem (.ref a) (.int 0 i)) := by intro _; with_unfolding_all rfl) :
    wpAny (model prog w) A (subscriptTail value slice v (.int 0 i)) Q E s := by
  obtain ⟨a, t, u, x, rfl, hi⟩ := hr
  exact item_tupleT (l := [_, _, _]) hi (by decide) (by decide) (j := 0) rfl rfl (h t) (hs a)
theorem key1_ {value slice : Expr} {κ : Value → Key} {v : Value} {i : Tok} {Q : Value → Shared → Prop} (hr : RowAt s.heap κ v) (h : ∀ t, Q (.int (κ v).2 t) s)
    (hs : ∀ a, subscripted slice false (.ref a) (.int 1 i) = operate [.ref a, .int 1 i] (getItem (.ref a) (.int 1 i)) := by intro _; with_unfolding_all rfl) :
    wpAny (model prog w) A (subscriptTail value slice v (.int 1 i)) Q E s := by
  obtain ⟨a, t, u, x, rfl, hi⟩ := hr
  exact item_tupleT (l := [_, _, _]) hi (by decide) (by decide) (j := 1) rfl rfl (h u) (hs a)
end

section
variable {prog : Program} {w : World} {A : Around} {E : Value → Shared → Prop} {s : Shared} {env : Env}
theorem slice_ {value : Expr} {lower upper : Option Expr} {p pos : Pos} {Q : Value → Shared → Prop}
    (h : wpAny (model prog w) A (eval value env) (fun o s₁ => wpAny (model prog w) A (evalPart lower env) (fun vl s₂ => wpAny (model prog w) A (evalPart upper env) (fun vu s₃ =>
      ∃ (l : Addr) (vs : List Value) (lo hi : Option Int) (us : List Value), o = .ref l ∧ s₃.heap.IsList l vs.toArray ∧ vs.length ≤ 1000 ∧ IsPart vl lo ∧ IsPart vu hi ∧ slicePick vs.toArray lo hi none = us.toArray ∧
        ∀ h' Y, (∀ b o, s₃.heap.get? b = some o → h'.get? b = some o) → h'.get? Y = some (lobj us 0) → s₃.heap.get? Y = none → Q (.ref Y) { s₃ with heap := h' }) E s₂) E s₁) E s)
    (ht : ∀ o r, letTemporaryGo value o r = pure () := by intro _ _; rfl) :
    wpAny (model prog w) A (eval (.Subscript value (.Slice lower upper none p) pos) env) Q E s := by
  refine wpAny_Subscript_list_slice (wpAny_mono h (fun o s₁ h₁ => wpAny_mono h₁ (fun vl s₂ h₂ => wpAny_mono h₂ (fun vu s₃ h₃ => ?_) fun _ _ e => e) fun _ _ e => e) fun _ _ e => e) ht
  obtain ⟨l, vs, lo, hi, us, rfl, hl, hn, pl, pu, he, hQ⟩ := h₃
  refine ⟨l, _, lo, hi, rfl, hl, by rw [List.size_toArray]; exact Nat.le_trans hn (show 1000 ≤ sizeLine by decide), pl, pu, ?_⟩
  rw [he]
  refine hQ _ _ (fun b o e => Heap.get?_push_of_some _ (Heap.get?_push_of_some _ e)) ?_ ?_
  · have := Heap.get?_push_size (s₃.heap.push { cls := .type "slice", data := .fields #[vl, vu, .none] }) (o := lobj us 0) rfl
    rw [Heap.size_push] at this
    exact this
  · cases q : s₃.heap.get? (s₃.heap.objs.size + 1) with
    | none => rfl
    | some o => exact absurd (Heap.lt_size q) (Nat.not_lt.mpr (Nat.le_succ _))
end

section
variable {w : World} {A : Around} {E : Value → Shared → Prop} {s : Shared} {mg mb : Str → Option Value}
theorem merged_ {l r : Addr} {vs ws : List Value} {κ : Value → Key} {ps : Arguments} {bd : List Stmt} {sc : Scope} {a : Addr} {Q : Value → Shared → Prop}
    (R : Rm A 2 20) (G : Gl PW mg mb s.heap) (hdef : PW.theDef "merged" = some (ps, bd, sc)) (f : FnAt mg s.heap "merged" ps bd sc a)
    (hl : s.heap.IsList l vs.toArray) (hr : s.heap.IsList r ws.toArray) (rows : ∀ v, v ∈ vs ∨ v ∈ ws → RowAt s.heap κ v) (hsz : vs.length + ws.length ≤ 1000)
    (h : ∀ h' tk Y, (∀ b o, s.heap.get? b = some o → h'.get? b = some o) → h'.IsList Y (mrg (kl κ) vs ws).toArray → s.heap.get? Y = none → Q (.ref Y) { s with heap := h', toks := tk }) :
    wpAny (model PW w) A (call (.ref a) [.ref l, .ref r]) Q E s := by
  have e := (rfl : PW.theDef "merged" = some (_, _, _))
  rw [e] at hdef
  cases hdef
  clear e
  refine call_fn (d := 1) (u := 17) R G f (fun _ _ _ => rfl) (locs rfl) fun L h₁ tk cd F hL R' hk => ?_
  clear f
  have GG := G.gk
  generalize hA : A.deeper _ = A' at R' ⊢
  clear hA
  repeat (walk_at "mine")
  refine wpAny_newList ?_
  have N0 : Nw (fun b o => s.heap.get? b = some o) L h₁ [] := Nw.nil
  have F1 := F.push (lobj [] 0)
  have N1 := Nw.pushed F N0 (lobj [] 0)
  generalize hV : h₁.objs.size = V at N1
  dsimp only [lobj] at F1 N1
  dsimp only
  refine stF F1 N1 fun h2 F2 N2 _ => ?_
  dsimp only
  repeat (walk_at "mine")
  refine stF F2 N2 fun h3 F3 N3 _ => ?_
  dsimp only
  repeat (walk_at "mine")
  refine stF F3 N3 fun h4 F4 N4 _ => ?_
  dsimp only
  clear F3 N3 F2 N2 F1 N1 hV N0
  repeat (walk_at "mine")
  refine wpAny_mono (while_ (Q := fun f s' => f = .next ∧ ∃ (h' : Heap) (tk : Nat) (i j : Nat) (ti tj : Tok) (found : List Value) (n' : Nat), s' = { s with heap := h', toks := tk } ∧
    Fk (fun b o => s.heap.get? b = some o) L h' [("left", .ref l), ("right", .ref r), ("found", .ref V), ("at", .int i ti), ("to", .int j tj)] ∧ Nw (fun b o => s.heap.get? b = some o) L h' [(V, lobj found n')] ∧
    i ≤ vs.length ∧ j ≤ ws.length ∧ found.length = i + j ∧ found ++ vs.drop i ++ ws.drop j = mrg (kl κ) vs ws)
    (fun n s' => ∃ (h' : Heap) (tk : Nat) (i j : Nat) (ti tj : Tok) (found : List Value) (n' : Nat), s' = { s with heap := h', toks := tk } ∧
    Fk (fun b o => s.heap.get? b = some o) L h' [("left", .ref l), ("right", .ref r), ("found", .ref V), ("at", .int i ti), ("to", .int j tj)] ∧ Nw (fun b o => s.heap.get? b = some o) L h' [(V, lobj found n')] ∧
    i ≤ vs.length ∧ j ≤ ws.length ∧ found.length = i + j ∧ found ++ mrg (kl κ) (vs.drop i) (ws.drop j) = mrg (kl κ) vs ws ∧ n = (vs.length - i) + (ws.length - j)) ?_ (vs.length + ws.length)
    ⟨h4, _, 0, 0, _, _, [], 0, rfl, F4.weak (by walk_at "weak"), N4, Nat.zero_le _, Nat.zero_le _, rfl, by simp, by simp⟩) (fun f s' q => ?_) fun _ _ x => x
  · rintro n s' ⟨h', tk', i, j, ti, tj, found, n', rfl, F', N', hi, hj, hfl, hm, rfl⟩
    clear F4 N4
    have hV := (N' _ (.head _)).1
    have hVL := (N' _ (.head _)).2.1
    have hVK := (N' _ (.head _)).2.2
    repeat (first | walk_at "mine" | walk_at "name")
    refine len_list (IsList.up hl F'.keep) (by simp only [List.size_toArray]; omega) ?_
    refine lt_int ?_
    repeat (walk_at "mine")
    dsimp only
    refine split_bool (fun hc => ?_) (fun hc => ?_)
    · have hi' : i < vs.length := by simpa using hc
      clear hc
      repeat (first | walk_at "mine" | walk_at "name")
      refine len_list (IsList.up hr F'.keep) (by simp only [List.size_toArray]; omega) ?_
      refine lt_int ?_
      repeat (walk_at "mine")
      dsimp only
      refine split_bool (fun hc => ?_) (fun hc => ?_)
      · have hj' : j < ws.length := by simpa using hc
        clear hc
        repeat (first | walk_at "mine" | walk_at "name")
        simp only [if_true]
        repeat (first | walk_at "mine" | walk_at "name")
        have hwv : ws.toArray[((j : Int)).toNat]? = some ws[j] := by simp [hj']
        have rw_ : RowAt s.heap κ ws[j] := rows _ (.inr (List.getElem_mem hj'))
        have rv_ : RowAt s.heap κ vs[i] := rows _ (.inl (List.getElem_mem hi'))
        refine item_ (IsList.up hr F'.keep) (by omega) (by omega) (v := ws[j]) (by simp [hj']) ?_
        repeat (first | walk_at "mine" | walk_at "name")
        refine key0_ (RowAt.up rw_ F'.keep) fun t1 => ?_
        repeat (first | walk_at "mine" | walk_at "name")
        refine item_ (IsList.up hr F'.keep) (by omega) (by omega) (v := ws[j]) (by simp [hj']) ?_
        repeat (first | walk_at "mine" | walk_at "name")
        refine key1_ (RowAt.up rw_ F'.keep) fun t2 => ?_
        repeat (first | walk_at "mine" | walk_at "name")
        refine wpAny_newTuple ?_
        have F1 := F'.push (tobj [.bytes (κ ws[j]).1.toArray t1, .int (κ ws[j]).2 t2])
        have N1 := Nw.pushed F' N' (tobj [.bytes (κ ws[j]).1.toArray t1, .int (κ ws[j]).2 t2])
        dsimp only [tobj] at F1 N1
        repeat (first | walk_at "mine" | walk_at "name")
        refine item_ (IsList.up hl F1.keep) (by omega) (by omega) (v := vs[i]) (by simp [hi']) ?_
        repeat (first | walk_at "mine" | walk_at "name")
        refine key0_ (RowAt.up rv_ F1.keep) fun t3 => ?_
        repeat (first | walk_at "mine" | walk_at "name")
        refine item_ (IsList.up hl F1.keep) (by omega) (by omega) (v := vs[i]) (by simp [hi']) ?_
        repeat (first | walk_at "mine" | walk_at "name")
        refine key1_ (RowAt.up rv_ F1.keep) fun t4 => ?_
        repeat (first | walk_at "mine" | walk_at "name")
        refine wpAny_newTuple ?_
        have F2 := F1.push (tobj [.bytes (κ vs[i]).1.toArray t3, .int (κ vs[i]).2 t4])
        have N2 := Nw.pushed F1 N1 (tobj [.bytes (κ vs[i]).1.toArray t3, .int (κ vs[i]).2 t4])
        dsimp only [tobj] at F2 N2
        refine lt_pairs (k := κ ws[j]) (k' := κ vs[i]) ⟨_, (N2 _ (.tail _ (.head _))).1, rfl, 0, rfl⟩ ⟨_, (N2 _ (.head _)).1, rfl, 0, rfl⟩ R'.u ?_
        repeat (first | walk_at "mine" | walk_at "name")
        have N3 := Nw.sub N2 (news' := [(V, lobj found n')]) (fun p hp => .tail _ (.tail _ hp))
        clear N1 N2 F1
        refine split_bool (fun hc => ?_) (fun hc => ?_)
        · repeat (first | walk_at "mine" | walk_at "name")
          refine wpAny_Expr ?_
          refine wpAny_Call_append rfl rfl rfl rfl ?_
          repeat (first | walk_at "mine" | walk_at "name")
          refine ⟨V, _, rfl, plainL_of (N3 _ (.head _)).1, ?_⟩
          repeat (first | walk_at "mine" | walk_at "name")
          refine item_ (IsList.up hr F2.keep) (by omega) (by omega) (v := ws[j]) (by simp [hj']) ?_
          refine append_at (N3 _ (.head _)).1 (fun h5 hs5 ho5 => ?_) (by simp only [List.size_toArray]; exact Nat.le_trans (by omega : found.length ≤ 1000) (by decide))
          rw [List.push_toArray] at ho5
          have F5 := F2.but (Ne.symm hVL) hVK fun b o hb e => (hs5.2 b hb).trans e
          have N5 : Nw (fun b o => s.heap.get? b = some o) L h5 [(V, lobj (found ++ [ws[j]]) (n' + 1))] := Nw.cons ho5 hVL hVK Nw.nil
          dsimp only
          repeat (first | walk_at "mine" | walk_at "name")
          refine iadd_int ?_
          refine stF F5 N5 fun h6 F6 N6 _ => ?_
          dsimp only
          repeat (first | walk_at "mine" | walk_at "name")
          refine ⟨_, ?_, h6, _, i, j + 1, _, _, _, _, rfl, F6.weak (by walk_at "weak"), N6, hi, hj', ?_, ?_, rfl⟩
          · omega
          · simp [hfl]; omega
          · rw [← hm, List.drop_eq_getElem_cons hi', List.drop_eq_getElem_cons hj', mrg_cc]
            have : kl κ ws[j] vs[i] = true := hc
            rw [this]; simp
        · repeat (first | walk_at "mine" | walk_at "name")
          refine wpAny_Expr ?_
          refine wpAny_Call_append rfl rfl rfl rfl ?_
          repeat (first | walk_at "mine" | walk_at "name")
          refine ⟨V, _, rfl, plainL_of (N3 _ (.head _)).1, ?_⟩
          repeat (first | walk_at "mine" | walk_at "name")
          refine item_ (IsList.up hl F2.keep) (by omega) (by omega) (v := vs[i]) (by simp [hi']) ?_
          refine append_at (N3 _ (.head _)).1 (fun h5 hs5 ho5 => ?_) (by simp only [List.size_toArray]; exact Nat.le_trans (by omega : found.length ≤ 1000) (by decide))
          rw [List.push_toArray] at ho5
          have F5 := F2.but (Ne.symm hVL) hVK fun b o hb e => (hs5.2 b hb).trans e
          have N5 : Nw (fun b o => s.heap.get? b = some o) L h5 [(V, lobj (found ++ [vs[i]]) (n' + 1))] := Nw.cons ho5 hVL hVK Nw.nil
          dsimp only
          repeat (first | walk_at "mine" | walk_at "name")
          refine iadd_int ?_
          refine stF F5 N5 fun h6 F6 N6 _ => ?_
          dsimp only
          repeat (first | walk_at "mine" | walk_at "name")
          refine ⟨_, ?_, h6, _, i + 1, j, _, _, _, _, rfl, F6.weak (by walk_at "weak"), N6, hi', hj, ?_, ?_, rfl⟩
          · omega
          · simp [hfl]; omega
          · rw [← hm, List.drop_eq_getElem_cons hi', List.drop_eq_getElem_cons hj', mrg_cc]
            have : kl κ ws[j] vs[i] = false := hc
            rw [this]; simp
      · simp only [Bool.false_eq_true, if_false]
        have hj' : j = ws.length := by
          have : ¬ j < ws.length := by simpa using hc
          omega
        refine ⟨by first | rfl | trivial, h', _, i, j, _, _, found, n', rfl, F'.weak (by walk_at "weak"), N', hi, hj, hfl, ?_⟩
        rw [← hm, hj']; simp [mrg_nil_r]
    · simp only [Bool.false_eq_true, if_false]
      have hi' : i = vs.length := by
        have : ¬ i < vs.length := by simpa using hc
        omega
      refine ⟨by first | rfl | trivial, h', _, i, j, _, _, found, n', rfl, F'.weak (by walk_at "weak"), N', hi, hj, hfl, ?_⟩
      rw [← hm, hi']; simp [mrg_nil]
  · obtain ⟨rfl, h', tk', i, j, ti, tj, found, n', rfl, F', N', hi, hj, hfl, hm⟩ := q
    clear F4 N4
    dsimp only
    repeat (first | walk_at "mine" | walk_at "name")
    refine slice_ ?_
    repeat (first | walk_at "mine" | walk_at "name")
    refine wpAny_evalPart_some ?_
    repeat (first | walk_at "mine" | walk_at "name")
    refine wpAny_evalPart_none ?_
    refine ⟨l, vs, _, none, vs.drop i, rfl, IsList.up hl F'.keep, by omega, .int _ _, .none, by rw [slicePick_from'], fun h5 Y5 hk5 hY5 _ => ?_⟩
    have F5 := F'.stays hk5
    have hV5 := hk5 _ _ (N' _ (.head _)).1
    refine add_lists' (isList_of hV5) (isList_of hY5) ?_ (by simp only [List.length_drop]; exact Nat.le_trans (by omega) (show 1000 ≤ sizeLine by decide))
    have F6 := F5.push (lobj (found ++ vs.drop i) 0)
    have hk6 : ∀ b o, h5.get? b = some o → (h5.push (lobj (found ++ vs.drop i) 0)).get? b = some o := fun b o e => Heap.get?_push_of_some _ e
    have hY6 := Heap.get?_push_size h5 (o := lobj (found ++ vs.drop i) 0) rfl
    dsimp only at F6 hk6 hY6 ⊢
    refine slice_ ?_
    repeat (first | walk_at "mine" | walk_at "name")
    refine wpAny_evalPart_some ?_
    repeat (first | walk_at "mine" | walk_at "name")
    refine wpAny_evalPart_none ?_
    refine ⟨r, ws, _, none, ws.drop j, rfl, IsList.up hr F6.keep, by omega, .int _ _, .none, by rw [slicePick_from'], fun h7 Y7 hk7 hY7 _ => ?_⟩
    refine add_lists' (isList_of (hk7 _ _ hY6)) (isList_of hY7) ?_ (by simp only [List.length_drop, List.length_append]; exact Nat.le_trans (by omega) (show 1000 ≤ sizeLine by decide))
    have kk : ∀ b o, s.heap.get? b = some o → (h7.push (lobj (found ++ vs.drop i ++ ws.drop j) 0)).get? b = some o := fun b o e => Heap.get?_push_of_some _ (hk7 _ _ (F6.keep b o e))
    refine ⟨_, rfl, h _ _ _ kk ?_ ?_⟩
    · rw [← hm]; exact isList_of (Heap.get?_push_size h7 (o := lobj (found ++ vs.drop i ++ ws.drop j) 0) rfl)
    · cases q : s.heap.get? h7.objs.size with
      | none => rfl
      | some o => exact absurd (Heap.lt_size (hk7 _ _ (F6.keep _ _ q))) (Nat.lt_irrefl _)
end
theorem FnAt.keeps {mg : Str → Option Value} {h h' : Heap} {name : Str} {ps : Arguments} {bd : List Stmt} {sc : Scope} {a : Addr} (f : FnAt mg h name ps bd sc a) (hk : ∀ b o, h.get? b = some o → h'.get? b = some o) : FnAt mg h' name ps bd sc a :=
  ⟨f.named, let ⟨o, pm, cd, dc, h1, h2, h3⟩ := f.at_; ⟨o, pm, cd, dc, hk _ _ h1, h2, h3.keeps hk⟩⟩

/-- the i-th value is a list that holds the i-th of cs -/
def Chs (h : Heap) (ys : List Value) (cs : List (List Value)) : Prop := ys.length = cs.length ∧ ∀ (i : Nat) (c : List Value), cs[i]? = some c → ∃ T : Addr, ys[i]? = some (Value.ref T) ∧ h.IsList T c.toArray
theorem Chs.up {h h' : Heap} {ys : List Value} {cs : List (List Value)} (x : Chs h ys cs) (hk : ∀ b o, h.get? b = some o → h'.get? b = some o) : Chs h' ys cs :=
  ⟨x.1, fun i c e => let ⟨T, a, b⟩ := x.2 i c e; ⟨T, a, IsList.up b hk⟩⟩
theorem Chs.of_paired {h : Heap} : ∀ {vs ys : List Value}, Paired (fun v y => ∃ T, y = .ref T ∧ h.IsList T #[v]) vs ys → Chs h ys (vs.map fun v => [v])
  | _, _, .nil => ⟨rfl, fun i c e => by simp at e⟩
  | _, _, .cons (a := v) (l₁ := vs) h t => by
    obtain ⟨T, rfl, hl⟩ := h
    have r := Chs.of_paired t
    refine ⟨by simp only [List.length_cons, List.length_map]; have := r.1; rw [List.length_map] at this; omega, fun i c e => ?_⟩
    cases i with
    | zero => simp at e; subst e; exact ⟨T, rfl, hl⟩
    | succ i => simp only [List.map_cons, List.getElem?_cons_succ] at e ⊢; exact r.2 i c e
theorem isList_ne {h : Heap} {L T : Addr} {m : Str → Option Value} {its : Array Value} (hl : h.IsList T its) (hn : h.Ns L m) : T ≠ L := by
  rintro rfl
  obtain ⟨o, ho, _, n, hd⟩ := hl
  obtain ⟨o', es, ep, ho', hd', _⟩ := hn
  rw [ho] at ho'
  rw [← Option.some.inj ho', hd] at hd'
  cases hd'

section
variable {prog : Program} {w : World} {A : Around} {E : Value → Shared → Prop} {s : Shared} {env : Env}
/-- names = [elt for x in list], an elt that is a new list of one -/
theorem assign_comp {elt iter : Expr} {x y : Str} {px py : Pos} {scope : Scope} {cl : List (Str × Addr)} {pos spos : Pos} {Q : Flow → Shared → Prop} (hh : A.handled = none)
    (hsw : swapsWith (.ListComp elt [⟨.Name x px, iter, [], 0⟩] scope pos) (some (.Name y py)) spos.line env = pure true)
    (hclos : closureFor scope env = pure cl) (hcell : ∀ z ∈ scope.names, z.2 ≠ .cell) (hkind : scope.kind = .function)
    (hnames : ∀ z ∈ scope.names, z.2 = .local → scope.names.lookup z.1 = some .local) (hx : scope.names.lookup x = some .local)
    (hy : env.kindOf y = some .local) (hp : (env.scope.kind == .class || (env.scope.kind == .module && env.locals != env.globals)) = false)
    (h : wpAny (model prog w) A (eval iter env) (fun xv s₁ => ∃ l vs m, xv = .ref l ∧ s₁.heap.IsList l (List.toArray vs) ∧ vs.length ≤ 1000 ∧ s₁.heap.Ns env.locals m ∧
      (∀ C v s₃ m₃ E', v ∈ vs → s₃.heap.Ns C m₃ → m₃ x = some v →
        wpAny (model prog w) A (eval elt (compEnvC scope cl C env)) (fun y s₄ => (∃ T, y = .ref T ∧ s₃.heap.get? T = none ∧ s₄.heap.IsList T #[v]) ∧ Keeps s₃ s₄) E' s₃) ∧
      (∀ D h' tk ys, s₁.heap.get? D = none → h'.IsList D (List.toArray ys) → Paired (fun v y => ∃ T, y = .ref T ∧ h'.IsList T #[v]) vs ys →
        h'.Ns env.locals (fun z => if z = y then some (.ref D) else m z) → (∀ b o, b ≠ env.locals → s₁.heap.get? b = some o → h'.get? b = some o) → Q .next { s₁ with heap := h', toks := tk })) E s)
    (hs : ∀ x, foldedSetIterable iter env x = pure x := by intro _; rfl) :
    wpAny (model prog w) A (exec (.Assign [.Name y py] (.ListComp elt [⟨.Name x px, iter, [], 0⟩] scope pos) spos) env) Q E s := by
  rw [exec_Assign_Name_used _ _ _ _ hsw]
  refine wpAny_bind (wpAny_standAt (wpAny_bind ?_))
  show wpAny _ A (do let _ ← comprehension (.ListComp elt [⟨.Name x px, iter, [], 0⟩] scope pos) scope env _ (newList []) false (eval iter env) (some (assign (.Name y py) env))) _ _ s
  refine wpAny_bind (wpAny_mono (wpAny_comprehension_free (use := some (assign (.Name y py) env)) (Q := fun _ s' => Q .next s') rfl hs hclos hkind hnames
    (wpAny_mono h (fun xv s₁ h₁ => ?_) fun _ _ e => e)) (fun _ s' hq => wpAny_pure (wpAny_pure hq)) fun _ _ e => e)
  obtain ⟨l, vs, m, rfl, hl, hsz, hn, helt, hQ⟩ := h₁
  have hlt : l < s₁.heap.objs.size := let ⟨_, e, _⟩ := hl; Heap.lt_size e
  refine wpAny_pyIter_list hl ?_
  have hW := Walks.list (prog := prog) (w := w) (A := A) hh s₁.heap.objs.size l (Nat.ne_of_lt hlt) vs.toArray
  have hLs : env.locals < s₁.heap.objs.size := let ⟨_, _, _, e, _⟩ := hn; Heap.lt_size e
  have hLI : env.locals ≠ s₁.heap.objs.size := Nat.ne_of_lt hLs
  refine comp_block_walkCO (RR := fun acc C => compPost (model prog w) A E (some (assign (.Name y py) env)) (fun _ s' => Q .next s') acc C) hW (by rw [List.size_toArray]; exact Nat.le_trans hsz (show 1000 ≤ sizeLine by decide)) (fun _ => true) (fun v its => its = #[v])
    (fun i h st b hb => by obtain ⟨⟨o, ho, _⟩, _⟩ := st; rw [List.mem_singleton.mp hb]; exact ⟨o, ho⟩) hcell hkind hx ⟨⟨_, Heap.get?_push_size _ rfl, rfl, rfl⟩, hl.push _⟩ ?_ ⟨?_, ?_⟩ ?_
  · intro b hb
    have e : (s₁.heap.push { cls := .type "list_iterator", data := .fields #[.ref l, rawInt 0] }).objs.size = s₁.heap.objs.size + 1 := Heap.size_push ..
    show b < (s₁.heap.push _).objs.size
    rw [Heap.size_push]
    rcases List.mem_cons.mp hb with rfl | hb
    · exact Nat.lt_succ_self _
    · rw [List.mem_singleton.mp hb]; exact Nat.lt_succ_of_lt hlt
  · intro C i v s₃ m₃ E' hC hv hn₃ hm hk htk
    exact wpAny_pure ⟨rfl, s₃.heap, s₃.toks, rfl, fun _ _ e => e⟩
  · intro C i v s₃ m₃ E' hC hv _ hn₃ hm hk htk
    refine wpAny_mono (helt C v s₃ m₃ E' (by have := List.mem_of_getElem? (l := vs) (by simpa using hv); exact this) hn₃ hm) (fun y s₄ q => ?_) fun _ _ e => e
    obtain ⟨⟨T, rfl, h1, h2⟩, h3⟩ := q
    exact ⟨⟨T, _, rfl, h1, h2, rfl⟩, h3⟩
  · intro D C h' tk m' ys vs' hD hC hDC hnC hlD hplD hlen hP hF hnd hk
    have hD' : s₁.heap.get? D = none := by
      cases e : s₁.heap.get? D with
      | none => rfl
      | some o => rw [Heap.get?_push_of_some _ e] at hD; cases hD
    have hC' : s₁.heap.get? C = none := by
      cases e : s₁.heap.get? C with
      | none => rfl
      | some o => rw [Heap.get?_push_of_some _ e] at hC; cases hC
    have hk' : ∀ b o, s₁.heap.get? b = some o → h'.get? b = some o := fun b o e =>
      hk b o (fun q => absurd (Heap.lt_size e) (by rw [List.mem_singleton.mp q]; exact Nat.lt_irrefl _)) (Heap.get?_push_of_some _ e)
    have hLC : env.locals ≠ C := by rintro rfl; obtain ⟨o, _, _, ho, _⟩ := hn; rw [hC'] at ho; cases ho
    have hLD : env.locals ≠ D := by rintro rfl; obtain ⟨o, _, _, ho, _⟩ := hn; rw [hD'] at ho; cases ho
    have hvs : vs' = vs := by
      apply List.ext_getElem?
      intro i
      by_cases hi : i < vs.length
      · have hi' : i < vs'.length := by rw [hlen, List.size_toArray]; exact hi
        have := hP i _ (List.getElem?_eq_getElem hi')
        rw [List.getElem?_eq_getElem hi']
        simpa using this.symm
      · rw [List.getElem?_eq_none (l := vs) (by omega), List.getElem?_eq_none (l := vs') (by rw [hlen, List.size_toArray]; omega)]
    subst hvs
    show wpAny _ A (assign (.Name y py) env (.ref D)) _ _ _
    refine wpAny_assign_Name (wpAny_storeName_local hy (hn.at' fun o e => hk' _ o e) (fun h₂ hn₂ hs₂ => ?_) hp)
    refine ⟨m', hnC.sameBut hs₂ (Ne.symm hLC), fun h₃ hs₃ => ?_⟩
    have eys : ys.toList.toArray = ys := by simp
    refine hQ D h₃ _ ys.toList hD' (by rw [eys]; exact (hlD.extBut hs₂.extBut (Ne.symm hLD)).extBut hs₃.extBut hDC) ?_ (hn₂.sameBut hs₃ hLC) fun b o hbL e =>
      hs₃.extBut b o (by rintro rfl; rw [hC'] at e; cases e) (hs₂.extBut b o hbL (hk' b o e))
    have ef : vs'.filter (fun _ : Value => true) = vs' := List.filter_eq_self.mpr fun _ _ => rfl
    rw [ef] at hF
    refine hF.mono fun v y hy => ?_
    obtain ⟨T, its, rfl, h1, hTC, _, _, hlT, rfl⟩ := hy
    have hTL : T ≠ env.locals := by
      rintro rfl
      obtain ⟨o, _, _, ho, _⟩ := hn
      rw [Heap.get?_push_of_some _ ho] at h1; cases h1
    exact ⟨T, rfl, (hlT.extBut hs₂.extBut hTL).extBut hs₃.extBut hTC⟩
end
def LO (o : Obj) (vs : List Value) : Prop := o.cls = .type "list" ∧ ∃ n, o.data = .seq vs.toArray n
theorem LO.list {h : Heap} {a : Addr} {o : Obj} {vs : List Value} (x : LO o vs) (e : h.get? a = some o) : h.IsList a vs.toArray := ⟨o, e, x.1, x.2⟩
theorem LO.of {h : Heap} {a : Addr} {vs : List Value} (x : h.IsList a vs.toArray) : ∃ o, h.get? a = some o ∧ LO o vs := let ⟨o, e, c, d⟩ := x; ⟨o, e, c, d⟩

theorem small_of {lo hi st : Int} {n : Nat} (h1 : -1000 ≤ lo ∧ lo ≤ 10000) (h2 : -1000 ≤ hi ∧ hi ≤ 10000) (h3 : 0 < st ∧ st ≤ 1000) (hn : Builtin.Range.rangeSize lo hi st = (n : Int)) (h4 : n ≤ 10000) : Builtin.Range.small lo hi st = true := by
  unfold Builtin.Range.small
  rw [hn]
  have f : ∀ i : Int, -100000 ≤ i → i ≤ 100000 → Builtin.Range.rangeFitsLong i = true := fun i a b => by
    unfold Builtin.Range.rangeFitsLong
    simp only [Bool.and_eq_true, decide_eq_true_eq]
    omega
  rw [f lo (by omega) (by omega), f hi (by omega) (by omega), f st (by omega) (by omega), f n (by omega) (by omega), if_pos (by omega : st > 0), f (hi + (st - 1)) (by omega) (by omega)]
  simp
theorem size_two (k : Nat) : Builtin.Range.rangeSize 0 ((k : Int) - 1) 2 = ((k / 2 : Nat) : Int) := by
  unfold Builtin.Range.rangeSize
  rw [if_pos (by decide)]
  split
  · omega
  · omega
theorem size_one (k : Nat) : Builtin.Range.rangeSize 0 (k : Int) 1 = (k : Int) := by
  unfold Builtin.Range.rangeSize
  rw [if_pos (by decide)]
  split
  · omega
  · omega

/-- the lists that are new, tracked -/
def Trk (objs : List (Addr × Obj)) (ps : List Value) (ds : List (List Value)) : Prop :=
  ps.length = ds.length ∧ ∀ (i : Nat) (d : List Value), ds[i]? = some d → ∃ (T : Addr) (o : Obj), ps[i]? = some (Value.ref T) ∧ (T, o) ∈ objs ∧ LO o d
theorem Trk.nil : Trk [] [] [] := ⟨rfl, fun i d e => by simp at e⟩
theorem Trk.snoc {objs : List (Addr × Obj)} {ps : List Value} {ds : List (List Value)} {T : Addr} {o : Obj} {d : List Value} (x : Trk objs ps ds) (ho : LO o d) : Trk ((T, o) :: objs) (ps ++ [.ref T]) (ds ++ [d]) := by
  refine ⟨by simp [x.1], fun i d' e => ?_⟩
  by_cases hi : i < ds.length
  · rw [List.getElem?_append_left hi] at e
    obtain ⟨T', o', a, b, c⟩ := x.2 i d' e
    exact ⟨T', o', by rw [List.getElem?_append_left (by rw [x.1]; exact hi)]; exact a, .tail _ b, c⟩
  · rw [List.getElem?_append_right (by omega)] at e
    have h0 : i - ds.length = 0 := by
      refine Nat.eq_zero_of_not_pos fun hp => ?_
      rw [List.getElem?_eq_none (by simp only [List.length_cons, List.length_nil]; omega)] at e; cases e
    rw [h0] at e
    have : d' = d := by simpa using e.symm
    subst this
    refine ⟨T, o, ?_, .head _, ho⟩
    rw [List.getElem?_append_right (by rw [x.1]; omega), x.1, h0]; rfl
theorem Trk.add {objs : List (Addr × Obj)} {ps : List Value} {ds : List (List Value)} {T : Addr} {o : Obj} {d : List Value} (x : Trk objs ps ds) (hm : (T, o) ∈ objs) (ho : LO o d) : Trk objs (ps ++ [.ref T]) (ds ++ [d]) := by
  have := x.snoc (T := T) ho
  refine ⟨this.1, fun i d' e => ?_⟩
  obtain ⟨T', o', a, b, c⟩ := this.2 i d' e
  refine ⟨T', o', a, ?_, c⟩
  rcases List.mem_cons.mp b with q | q
  · rw [q]; exact hm
  · exact q
theorem Trk.chs {K : Addr → Obj → Prop} {L : Addr} {h : Heap} {objs : List (Addr × Obj)} {ps : List Value} {ds : List (List Value)} (x : Trk objs ps ds) (N : Nw K L h objs) : Chs h ps ds :=
  ⟨x.1, fun i d e => let ⟨T, _, a, b, c⟩ := x.2 i d e; ⟨T, a, c.list (N _ b).1⟩⟩

def KL (h : Heap) (L : Addr) : Addr → Obj → Prop := fun b o => h.get? b = some o ∧ b ≠ L
theorem Fk.listK {K₀ : Addr → Obj → Prop} {L : Addr} {h' hh : Heap} {bs₀ bb : List (Str × Value)} {T : Addr} {its : Array Value} (F' : Fk K₀ L h' bs₀) (x : h'.IsList T its) (FF : Fk (KL h' L) L hh bb) : hh.IsList T its := by
  obtain ⟨m, hn, _⟩ := F'.ns
  have q := isList_ne x hn
  obtain ⟨o, ho, r⟩ := x
  exact ⟨o, FF.keep _ _ ⟨ho, q⟩, r⟩
theorem Chs.snoc {h : Heap} {ys : List Value} {cs : List (List Value)} {T : Addr} {c : List Value} (x : Chs h ys cs) (hl : h.IsList T c.toArray) : Chs h (ys ++ [.ref T]) (cs ++ [c]) := by
  refine ⟨by simp [x.1], fun i d e => ?_⟩
  by_cases hi : i < cs.length
  · rw [List.getElem?_append_left hi] at e
    obtain ⟨T', a, b⟩ := x.2 i d e
    exact ⟨T', by rw [List.getElem?_append_left (by rw [x.1]; exact hi)]; exact a, b⟩
  · rw [List.getElem?_append_right (by omega)] at e
    have h0 : i - cs.length = 0 := by
      refine Nat.eq_zero_of_not_pos fun hp => ?_
      rw [List.getElem?_eq_none (by simp only [List.length_cons, List.length_nil]; omega)] at e; cases e
    rw [h0] at e
    have : d = c := by simpa using e.symm
    subst this
    exact ⟨T, by rw [List.getElem?_append_right (by rw [x.1]; omega), x.1, h0]; rfl, hl⟩
theorem flat_single {α : Type} : ∀ vs : List α, (vs.map fun v => [v]).flatten = vs
  | [] => rfl
  | v :: r => by rw [List.map_cons, List.flatten_cons, flat_single r]; rfl
theorem mem_len {α : Type} : ∀ {ch : List (List α)} {c : List α}, c ∈ ch → c.length ≤ ch.flatten.length ∧ ∀ v ∈ c, v ∈ ch.flatten
  | d :: ch, c, h => by
    rw [List.flatten_cons, List.length_append]
    rcases List.mem_cons.mp h with rfl | h
    · exact ⟨Nat.le_add_right _ _, fun v hv => List.mem_append_left _ hv⟩
    · have := mem_len h
      exact ⟨by omega, fun v hv => List.mem_append_right _ (this.2 v hv)⟩
theorem two_len {α : Type} : ∀ {ch : List (List α)} {i : Nat} {c d : List α}, ch[i]? = some c → ch[i + 1]? = some d → c.length + d.length ≤ ch.flatten.length
  | [], i, c, d, h, _ => by simp at h
  | e :: ch, 0, c, d, h1, h2 => by
    simp at h1 h2; subst h1
    have := (mem_len (List.mem_of_getElem? h2)).1
    rw [List.flatten_cons, List.length_append]; omega
  | e :: ch, i + 1, c, d, h1, h2 => by
    simp only [List.getElem?_cons_succ] at h1 h2
    have := two_len h1 h2
    rw [List.flatten_cons, List.length_append]; omega

section
variable {w : World} {A : Around} {E : Value → Shared → Prop} {s : Shared} {mg mb : Str → Option Value}
theorem merge_sorted_ {l : Addr} {vs : List Value} {κ : Value → Key} {ps : Arguments} {bd : List Stmt} {sc : Scope} {a : Addr} {Q : Value → Shared → Prop}
    (R : Rm A 4 40) (G : Gl PW mg mb s.heap) (hdef : PW.theDef "merge_sorted" = some (ps, bd, sc)) (f : FnAt mg s.heap "merge_sorted" ps bd sc a)
    (hl : s.heap.IsList l vs.toArray) (rows : ∀ v, v ∈ vs → RowAt s.heap κ v) (hsz : vs.length ≤ 500)
    (h : ∀ h' tk Y, (∀ b o, s.heap.get? b = some o → h'.get? b = some o) → h'.IsList Y (srt (kl κ) vs).toArray → Q (.ref Y) { s with heap := h', toks := tk }) :
    wpAny (model PW w) A (call (.ref a) [.ref l]) Q E s := by
  obtain ⟨aM, fM⟩ := G.fn "merged" _ _ _ rfl (by decide)
  have e := (rfl : PW.theDef "merge_sorted" = some (_, _, _))
  rw [e] at hdef
  cases hdef
  clear e
  refine call_fn (d := 3) (u := 37) R G f (fun _ _ _ => rfl) (locs rfl) fun L h₁ tk cd F hL R' hk => ?_
  clear f
  have GG := G.gk
  generalize hA : A.deeper _ = A' at R' ⊢
  clear hA
  repeat (walk_at "mine")
  refine assign_comp (cl := []) R'.hd rfl (closureFor_none (by decide)) (by decide) rfl (by decide) rfl rfl rfl ?_
  repeat (first | walk_at "mine" | walk_at "name")
  obtain ⟨m, hn, hm⟩ := F.ns
  refine ⟨l, vs, m, rfl, IsList.up hl F.keep, by omega, hn, ?_, ?_⟩
  · intro C v s₃ m₃ E' hv hn₃ hm₃
    repeat (walk_at "mine")
    refine wpAny_Name (wpAny_loadName_local rfl rfl hn₃ hm₃ ?_) (by decide)
    repeat (walk_at "mine")
    refine wpAny_newList ?_
    refine ⟨⟨_, rfl, ?_, ⟨_, Heap.get?_push_size _ rfl, rfl, 0, rfl⟩⟩, _, _, rfl, fun b o e => Heap.get?_push_of_some _ e⟩
    cases q : s₃.heap.get? s₃.heap.objs.size with
    | none => rfl
    | some o => exact absurd (Heap.lt_size q) (Nat.lt_irrefl _)
  intro U h2 tk2 ys hU0 hU hys hn2 hk2
  dsimp only
  have F2 : Fk (fun b o => s.heap.get? b = some o) L h2 [("rows", .ref l), ("runs", .ref U)] := by
    refine Fk.weak (bs := [("runs", .ref U), ("rows", .ref l)]) ⟨⟨_, hn2, fun x v e => ?_⟩, fun b o e => hk2 b o (fun q => F.off o (by have q' : b = L := q; rw [← q']; exact e)) (F.keep b o e), F.off⟩ (by walk_at "weak")
    rw [List.lookup_cons] at e
    split at e
    · rename_i q
      have : x = "runs" := by simpa using q
      rw [if_pos this]; exact e
    · rename_i q
      have : x ≠ "runs" := by simpa using q
      rw [if_neg this]; exact hm x v e
  have C2 := Chs.of_paired hys
  clear hys hU0 hn hm F hk2
  repeat (walk_at "mine")
  refine wpAny_mono (while_ (Q := fun f s' => f = .next ∧ ∃ (h' : Heap) (tk : Nat) (U : Addr) (ys : List Value) (ch : List (List Value)), s' = { s with heap := h', toks := tk } ∧
      Fk (fun b o => s.heap.get? b = some o) L h' [("rows", .ref l), ("runs", .ref U)] ∧ h'.IsList U ys.toArray ∧ Chs h' ys (ch.map (srt (kl κ))) ∧ ch.flatten = vs ∧ ch.length ≤ 1)
    (fun n s' => ∃ (h' : Heap) (tk : Nat) (U : Addr) (ys : List Value) (ch : List (List Value)), s' = { s with heap := h', toks := tk } ∧
      Fk (fun b o => s.heap.get? b = some o) L h' [("rows", .ref l), ("runs", .ref U)] ∧ h'.IsList U ys.toArray ∧ Chs h' ys (ch.map (srt (kl κ))) ∧ ch.flatten = vs ∧ ch.length ≤ 500 ∧ n = ch.length) ?_ vs.length
    ⟨h2, _, U, ys, vs.map fun v => [v], rfl, F2, hU, ?_, ?_, by rw [List.length_map]; exact hsz, by rw [List.length_map]⟩) (fun f s' q => ?_) fun _ _ x => x
  · rintro n s' ⟨h', tk', U', ys', ch, rfl, F', hU', hC', hfl, hcl, rfl⟩
    clear F2 C2 hU
    have hyl : ys'.length = ch.length := by rw [hC'.1, List.length_map]
    repeat (first | walk_at "mine" | walk_at "name")
    refine len_list hU' (by simp only [List.size_toArray]; omega) ?_
    repeat (first | walk_at "mine" | walk_at "name")
    refine gt_int ?_
    repeat (walk_at "mine")
    refine split_bool (fun hc => ?_) (fun hc => ?_)
    · have hgt : 1 < ch.length := by
        have : (1 : Int) < (ys'.toArray.size : Int) := by simpa using hc
        simp only [List.size_toArray] at this; omega
      clear hc
      simp only [if_true]
      have hne : ∀ b o, s.heap.get? b = some o → b ≠ L := fun b o e q => F'.off o (by rw [← q]; exact e)
      have F1 : Fk (KL h' L) L h' [("rows", .ref l), ("runs", .ref U')] := F'.re (fun b o e => e.1) (fun o e => e.2 rfl)
      have K01 : ∀ b o, s.heap.get? b = some o → KL h' L b o := fun b o e => ⟨F'.keep b o e, hne b o e⟩
      have GG1 : GK PW mg mb (KL h' L) := GG.up K01
      repeat (walk_at "mine")
      refine wpAny_newList ?_
      have F2 := F1.push (lobj [] 0)
      have N2 := Nw.pushed F1 Nw.nil (lobj [] 0)
      generalize hV : h'.objs.size = V at N2
      dsimp only [lobj] at F2 N2
      dsimp only
      refine stF F2 N2 fun h3 F3 N3 _ => ?_
      clear F2 N2 hV
      have hVL := (N3 _ (.head _)).2.1
      have hVK := (N3 _ (.head _)).2.2
      dsimp only
      repeat (walk_at "mine")
      refine wpAny_mono (for_range (K := KL h' L) (Q := fun f s' => f = .next ∧ ∃ (h : Heap) (tk : Nat) (ps : List Value) (n' : Nat) (objs : List (Addr × Obj)), s' = { s with heap := h, toks := tk } ∧
          Fk (KL h' L) L h [("rows", .ref l), ("runs", .ref U'), ("paired", .ref V)] ∧ Nw (KL h' L) L h ((V, lobj ps n') :: objs) ∧ (∀ p ∈ objs, p.1 ≠ V) ∧
          Trk objs ps (pairUp (mrg (kl κ)) ((ch.map (srt (kl κ))).take (2 * (ch.length / 2)))))
        (fun i bs news => bs = ([("rows", .ref l), ("runs", .ref U'), ("paired", .ref V)] : List (Str × Value)) ∧ ∃ (ps : List Value) (n' : Nat) (objs : List (Addr × Obj)), news = (V, lobj ps n') :: objs ∧ (∀ p ∈ objs, p.1 ≠ V) ∧
          Trk objs ps (pairUp (mrg (kl κ)) ((ch.map (srt (kl κ))).take (2 * i)))) R'.hd ?_) (fun f s' q => ?_) fun _ _ x => x
      · repeat (first | walk_at "mine" | walk_at "name")
        refine len_list (F'.listK hU' F3) (by simp only [List.size_toArray]; omega) ?_
        repeat (first | walk_at "mine" | walk_at "name")
        refine sub_int ?_
        repeat (first | walk_at "mine" | walk_at "name")
        have el : ((ys'.toArray.size : Nat) : Int) = (ch.length : Int) := by rw [List.size_toArray, hyl]
        rw [el]
        refine call_range_3 (by decide) ?_ (Or.inl (PyProof.noPylong_small (by omega)))
        have hk4 : ∀ o b o', h3.get? b = some o' → (h3.push o).get? b = some o' := fun o b o' e => Heap.get?_push_of_some o e
        refine ⟨_, _, _, _, _, _, _, ch.length / 2, _, [(V, lobj [] 0)], rfl, IsRange.new _ _ _ _ _ _ _, small_of (n := ch.length / 2) (by omega) (by omega) (by omega) (size_two _) (by omega), size_two _,
          (F3.stays (hk4 _)).weak (bs' := [("rows", .ref l), ("runs", .ref U'), ("paired", .ref V)]) (by walk_at "weak"), N3.stays (hk4 _), ⟨rfl, [], 0, [], rfl, fun _ hp => (by cases hp), ?_⟩, ?_, ?_⟩
        · simpa [pairUp] using Trk.nil
        · rintro i bs news h5 tk5 it hi ⟨rfl, ps, n', objs, rfl, hoV, hT⟩ hoff F5 N5
          clear F3 N3 hk4
          have hitV : V ≠ it.1 := hoff _ (.head _)
          obtain ⟨c1, e1⟩ : ∃ c, ch[2 * i]? = some c := ⟨_, List.getElem?_eq_getElem (by omega)⟩
          obtain ⟨c2, e2⟩ : ∃ c, ch[2 * i + 1]? = some c := ⟨_, List.getElem?_eq_getElem (by omega)⟩
          have f1 : (ch.map (srt (kl κ)))[2 * i]? = some (srt (kl κ) c1) := by rw [List.getElem?_map, e1]; rfl
          have f2 : (ch.map (srt (kl κ)))[2 * i + 1]? = some (srt (kl κ) c2) := by rw [List.getElem?_map, e2]; rfl
          obtain ⟨T1, g1, l1⟩ := hC'.2 _ _ f1
          obtain ⟨T2, g2, l2⟩ := hC'.2 _ _ f2
          have hlen2 : c1.length + c2.length ≤ 500 := by have := two_len e1 e2; rw [hfl] at this; omega
          repeat (walk_at "mine")
          refine wpAny_Expr ?_
          refine wpAny_Call_append rfl rfl rfl rfl ?_
          repeat (first | walk_at "mine" | walk_at "name")
          refine ⟨V, _, rfl, plainL_of (N5 _ (.tail _ (.head _))).1, ?_⟩
          repeat (walk_at "mine")
          refine ldFn (ps := default) (bd := []) (sc := default) GG1 F5 fM.named ?_
          refine callWith_fn (fM.keeps fun b o e => F5.keep b o (K01 b o e)) ?_
          repeat (first | walk_at "mine" | walk_at "name")
          refine item_ (F'.listK hU' F5) (by omega) (by omega) (v := .ref T1) (by rw [← g1]; congr 1; omega) ?_
          repeat (first | walk_at "mine" | walk_at "name")
          refine PyProof.Rows.add_int ?_
          refine item_ (F'.listK hU' F5) (by omega) (by omega) (v := .ref T2) (by rw [← g2]; congr 1; omega) ?_
          repeat (first | walk_at "mine" | walk_at "name")
          refine ⟨fun b o e _ => e, ?_⟩
          refine merged_ (κ := κ) (R'.le (by omega) (by omega)) (GG1 _ F5.keep) rfl (fM.keeps fun b o e => F5.keep b o (K01 b o e)) (F'.listK l1 F5) (F'.listK l2 F5) ?_ (by rw [srt_length, srt_length]; omega) ?_
          · intro v hv
            refine RowAt.up (rows v ?_) fun b o e => F5.keep b o (K01 b o e)
            rw [← hfl]
            rcases hv with hv | hv
            · exact (mem_len (List.mem_of_getElem? e1)).2 v ((srt_mem _ _ _).mp hv)
            · exact (mem_len (List.mem_of_getElem? e2)).2 v ((srt_mem _ _ _).mp hv)
          intro h6 tk6 Y hk6 hY hY0
          obtain ⟨oY, hoY, hLO⟩ := LO.of hY
          have F6 := F5.stays hk6
          have N6 := N5.stays hk6
          dsimp only at hk6 hY0
          have YV : Y ≠ V := fun q => by rw [q, (N5 _ (.tail _ (.head _))).1] at hY0; cases hY0
          have Yit : Y ≠ it.1 := fun q => by rw [q, (N5 _ (.head _)).1] at hY0; cases hY0
          have YL : Y ≠ L := fun q => by obtain ⟨o, ho⟩ := F5.get; rw [q, ho] at hY0; cases hY0
          have YK : ∀ o, ¬ KL h' L Y o := fun o q => by rw [F5.keep _ _ q] at hY0; cases hY0
          refine append_at (N6 _ (.tail _ (.head _))).1 (fun h7 hs7 ho7 => ?_) ?_
          · rw [List.push_toArray] at ho7
            have bt : ∀ b o, b ≠ V → h6.get? b = some o → h7.get? b = some o := fun b o hb e => (hs7.2 b hb).trans e
            have F7 := F6.but (Ne.symm hVL) hVK bt
            have No : Nw (KL h' L) L h7 objs := (Nw.sub N6 (fun p hp => .tail _ (.tail _ hp))).but hoV bt
            have Nit : Nw (KL h' L) L h7 [it] := (Nw.sub N6 (fun p hp => by rw [List.mem_singleton.mp hp]; exact .head _)).but (fun p hp => by rw [List.mem_singleton.mp hp]; exact Ne.symm hitV) bt
            dsimp only
            repeat (walk_at "mine")
            refine ⟨h7, _, _, (V, lobj (ps ++ [.ref Y]) (n' + 1)) :: (Y, oY) :: objs, rfl, F7.weak (bs' := [("rows", .ref l), ("runs", .ref U'), ("paired", .ref V)]) (by walk_at "weak"), ?_, ?_, rfl, _, _, _, rfl, ?_, ?_⟩
            · intro p hp
              rcases List.mem_cons.mp hp with rfl | hp
              · exact Nit _ (.head _)
              rcases List.mem_cons.mp hp with rfl | hp
              · exact ⟨ho7, hVL, hVK⟩
              rcases List.mem_cons.mp hp with rfl | hp
              · exact ⟨bt _ _ YV hoY, YL, YK⟩
              · exact No p hp
            · intro p hp
              rcases List.mem_cons.mp hp with rfl | hp
              · exact hitV
              rcases List.mem_cons.mp hp with rfl | hp
              · exact Yit
              · exact hoff p (.tail _ hp)
            · intro p hp
              rcases List.mem_cons.mp hp with rfl | hp
              · exact YV
              · exact hoV p hp
            · rw [pairUp_take2 _ _ _ _ _ f1 f2]
              exact hT.snoc hLO
          · have hpl : ps.length ≤ 1000 := by
              rw [hT.1, pairUp_length _ _ _ (Nat.le_refl _), List.length_take, List.length_map]; omega
            rw [List.size_toArray]; exact Nat.le_trans hpl (show 1000 ≤ sizeLine by decide)
        · rintro bs news h5 tk5 ⟨rfl, ps, n', objs, rfl, hoV, hT⟩ F5 N5
          exact ⟨rfl, h5, _, ps, n', objs, rfl, F5, N5, hoV, hT⟩
      · obtain ⟨rfl, h5, tk5, ps, n', objs, rfl, F5, N5, hoV, hT⟩ := q
        clear F3 N3
        dsimp only
        have bk : ∀ b o, s.heap.get? b = some o → h5.get? b = some o := fun b o e => F5.keep b o (K01 b o e)
        repeat (first | walk_at "mine" | walk_at "name")
        refine len_list (F'.listK hU' F5) (by simp only [List.size_toArray]; omega) ?_
        repeat (first | walk_at "mine" | walk_at "name")
        refine PyProof.Rows.mod_int (by decide) ?_
        repeat (first | walk_at "mine" | walk_at "name")
        refine PyProof.Rows.eq_int ?_
        repeat (walk_at "mine")
        have el : ((ys'.toArray.size : Nat) : Int) = (ch.length : Int) := by rw [List.size_toArray, hyl]
        rw [el]
        refine split_bool (fun hc => ?_) (fun hc => ?_)
        · have hodd : ch.length = 2 * (ch.length / 2) + 1 := by
            have := beq_iff_eq.mp hc
            rw [Int.fmod_eq_emod_of_nonneg _ (by decide)] at this
            omega
          obtain ⟨cl, el1⟩ : ∃ c, ch[ch.length - 1]? = some c := ⟨_, List.getElem?_eq_getElem (by omega)⟩
          have fl : (ch.map (srt (kl κ)))[ch.length - 1]? = some (srt (kl κ) cl) := by rw [List.getElem?_map, el1]; rfl
          obtain ⟨T1, g1, l1⟩ := hC'.2 _ _ fl
          repeat (walk_at "mine")
          refine wpAny_Expr ?_
          refine wpAny_Call_append rfl rfl rfl rfl ?_
          repeat (first | walk_at "mine" | walk_at "name")
          refine ⟨V, _, rfl, plainL_of (N5 _ (.head _)).1, ?_⟩
          repeat (first | walk_at "mine" | walk_at "name")
          refine wpAny_UnaryOp ?_
          repeat (walk_at "mine")
          refine neg_int ?_
          refine tail_any (F'.listK hU' F5).typeIs slot_list_getitem.lookup (wpAny_getItem_list_neg (x := .ref T1) (F'.listK hU' F5) (by decide) (by rw [el]; omega) (by decide) ?_ ?_) (by with_unfolding_all rfl)
          · rw [← g1]
            have e9 : (-1 + ((ys'.toArray.size : Nat) : Int)).toNat = ch.length - 1 := by rw [el]; omega
            rw [e9, List.getElem?_toArray]
          have hpl : ps.length ≤ 1000 := by
            rw [hT.1, pairUp_length _ _ _ (Nat.le_refl _), List.length_take, List.length_map]; omega
          refine append_at (N5 _ (.head _)).1 (fun h7 hs7 ho7 => ?_) (by rw [List.size_toArray]; exact Nat.le_trans hpl (show 1000 ≤ sizeLine by decide))
          rw [List.push_toArray] at ho7
          have bt : ∀ b o, b ≠ V → h5.get? b = some o → h7.get? b = some o := fun b o hb e => (hs7.2 b hb).trans e
          have F7 := F5.but (Ne.symm hVL) hVK bt
          have No : Nw (KL h' L) L h7 objs := (Nw.sub N5 (fun p hp => .tail _ hp)).but hoV bt
          have hVl : h7.IsList V (ps ++ [Value.ref T1]).toArray := isList_of (n := n' + 1) ho7
          have hCh : Chs h7 (ps ++ [.ref T1]) ((pairUp (· ++ ·) ch).map (srt (kl κ))) := by
            have e8 : (pairUp (· ++ ·) ch).map (srt (kl κ)) = pairUp (mrg (kl κ)) ((ch.map (srt (kl κ))).take (2 * (ch.length / 2))) ++ [srt (kl κ) cl] := by
              rw [← pairUp_map (fun a b => mrg_srt (kl_wk κ) a b) _ _ (Nat.le_refl _), ← pairUp_even _ (ch.length / 2) _ _ (by rw [List.length_take, List.length_map]; omega)]
              congr 1
              have e7 : 2 * (ch.length / 2) = ch.length - 1 := by omega
              rw [e7]
              apply List.ext_getElem?
              intro q
              by_cases hq : q < ch.length - 1
              · rw [List.getElem?_append_left (by rw [List.length_take, List.length_map]; omega), List.getElem?_take, if_pos hq]
              · rw [List.getElem?_append_right (by rw [List.length_take, List.length_map]; omega), List.length_take, List.length_map]
                by_cases hq2 : q = ch.length - 1
                · subst hq2
                  rw [fl]
                  have : ch.length - 1 - min (ch.length - 1) ch.length = 0 := by omega
                  rw [this]; rfl
                · rw [List.getElem?_eq_none (by rw [List.length_map]; omega), List.getElem?_eq_none (by simp only [List.length_cons, List.length_nil]; omega)]
            rw [e8]
            exact (hT.chs No).snoc (F'.listK l1 F7)
          dsimp only
          repeat (first | walk_at "mine" | walk_at "name")
          refine stF F7 (Nw.nil (h := h7)) fun h8 F8 _ hs8 => ?_
          dsimp only
          repeat (walk_at "mine")
          refine ⟨_, ?_, h8, _, V, ps ++ [Value.ref T1], pairUp (· ++ ·) ch, rfl, (F'.trans (F8.weak (bs' := [("rows", .ref l), ("runs", .ref V)]) (by walk_at "weak")) fun b o hb e => K01 b o e), ?_, ?_, ?_, ?_, rfl⟩
          · rw [pairUp_length _ _ _ (Nat.le_refl _)]; omega
          · exact hVl.at fun o e => (hs8.2 _ hVL).trans e
          · refine ⟨hCh.1, fun i c e => ?_⟩
            obtain ⟨T, a1, a2⟩ := hCh.2 i c e
            obtain ⟨m, hn, _⟩ := F7.ns
            exact ⟨T, a1, a2.at fun o e => (hs8.2 _ (isList_ne a2 hn)).trans e⟩
          · rw [pairUp_flatten _ _ (Nat.le_refl _), hfl]
          · rw [pairUp_length _ _ _ (Nat.le_refl _)]; omega
        · have heven : 2 * (ch.length / 2) = ch.length := by
            have : ¬ ((ch.length : Int).fmod 2 = 1) := by simpa using hc
            rw [Int.fmod_eq_emod_of_nonneg _ (by decide)] at this
            omega
          have F7 := F5
          have hVl : h5.IsList V ps.toArray := isList_of (n := n') (N5 _ (.head _)).1
          have hCh : Chs h5 ps ((pairUp (· ++ ·) ch).map (srt (kl κ))) := by
            have e8 : (pairUp (· ++ ·) ch).map (srt (kl κ)) = pairUp (mrg (kl κ)) ((ch.map (srt (kl κ))).take (2 * (ch.length / 2))) := by
              rw [← pairUp_map (fun a b => mrg_srt (kl_wk κ) a b) _ _ (Nat.le_refl _), heven, List.take_of_length_le (by rw [List.length_map]; exact Nat.le_refl _)]
            rw [e8]
            exact hT.chs (Nw.sub N5 (fun p hp => .tail _ hp))
          simp only [Bool.false_eq_true, if_false]
          repeat (walk_at "mine")
          dsimp only
          repeat (first | walk_at "mine" | walk_at "name")
          refine stF F7 (Nw.nil (h := h5)) fun h8 F8 _ hs8 => ?_
          dsimp only
          repeat (walk_at "mine")
          refine ⟨_, ?_, h8, _, V, ps, pairUp (· ++ ·) ch, rfl, (F'.trans (F8.weak (bs' := [("rows", .ref l), ("runs", .ref V)]) (by walk_at "weak")) fun b o hb e => K01 b o e), ?_, ?_, ?_, ?_, rfl⟩
          · rw [pairUp_length _ _ _ (Nat.le_refl _)]; omega
          · exact hVl.at fun o e => (hs8.2 _ hVL).trans e
          · refine ⟨hCh.1, fun i c e => ?_⟩
            obtain ⟨T, a1, a2⟩ := hCh.2 i c e
            obtain ⟨m, hn, _⟩ := F7.ns
            exact ⟨T, a1, a2.at fun o e => (hs8.2 _ (isList_ne a2 hn)).trans e⟩
          · rw [pairUp_flatten _ _ (Nat.le_refl _), hfl]
          · rw [pairUp_length _ _ _ (Nat.le_refl _)]; omega
    · have hle : ch.length ≤ 1 := by
        have : ¬ (1 : Int) < (ys'.toArray.size : Int) := by simpa using hc
        simp only [List.size_toArray] at this; omega
      exact ⟨rfl, h', _, U', ys', ch, rfl, F', hU', hC', hfl, hle⟩
  · have : (vs.map fun v => [v]).map (srt (kl κ)) = vs.map fun v => [v] := by
      rw [List.map_map]; rfl
    rw [this]; exact C2
  · exact flat_single vs
  · obtain ⟨rfl, h', tk', U', ys', ch, rfl, F', hU', hC', hfl, hle⟩ := q
    clear F2 C2 hU
    have hyl : ys'.length = ch.length := by rw [hC'.1, List.length_map]
    dsimp only
    repeat (walk_at "mine")
    refine wpAny_IfExp ?_
    refine isTrue_plain ?_
    repeat (first | walk_at "mine" | walk_at "name")
    refine wpAny_truthy_list hU' (by simp only [List.size_toArray]; omega) ?_
    dsimp only
    refine split_bool (fun hc => ?_) (fun hc => ?_)
    · have hpos : ch.length = 1 := by
        have : ys' ≠ [] := by simpa using hc
        have : 0 < ys'.length := List.length_pos_iff.mpr this
        omega
      obtain ⟨c, e1⟩ : ∃ c, ch[0]? = some c := ⟨_, List.getElem?_eq_getElem (by omega)⟩
      have f1 : (ch.map (srt (kl κ)))[0]? = some (srt (kl κ) c) := by rw [List.getElem?_map, e1]; rfl
      obtain ⟨T1, g1, l1⟩ := hC'.2 _ _ f1
      repeat (first | walk_at "mine" | walk_at "name")
      refine item_ hU' (by decide) (by omega) (v := .ref T1) g1 ?_
      dsimp only
      refine ⟨_, rfl, h _ _ _ F'.keep ?_⟩
      have ec : c = vs := by
        match ch, hpos with
        | [d], _ => simp at e1; subst e1; simpa using hfl
      rw [← ec]; exact l1
    · have hnil : ch = [] := by
        have : ys' = [] := by simpa using hc
        rw [this] at hyl
        exact List.length_eq_zero_iff.mp hyl.symm
      have hv : vs = [] := by rw [← hfl, hnil]; rfl
      repeat (first | walk_at "mine" | walk_at "name")
      refine wpAny_newList ?_
      dsimp only
      refine ⟨_, rfl, h _ _ _ (fun b o e => Heap.get?_push_of_some _ (F'.keep b o e)) ?_⟩
      rw [hv]
      exact isList_of (n := 0) (vs := []) (Heap.get?_push_size _ rfl)
end
theorem flat_rep {α : Type} (t : α) : ∀ k : Nat, (List.replicate k [t]).flatten = List.replicate k t
  | 0 => rfl
  | k + 1 => by rw [List.replicate_succ, List.flatten_cons, flat_rep t k, List.replicate_succ]; rfl
section
variable {prog : Program} {w : World} {A : Around} {E : Value → Shared → Prop} {s : Shared}
theorem mul_list' {l : Addr} {vs : List Value} {k : Nat} {x : Int} {u : Tok} {Q : Value → Shared → Prop} (hl : s.heap.get? l = some (lobj vs k)) (h0 : 0 ≤ x) (hx : x ≤ 1000) (hsz : vs.length ≤ 1000)
    (h : Q (.ref s.heap.objs.size) { s with heap := s.heap.push (lobj (List.replicate x.toNat vs).flatten 0) }) :
    wpAny (model prog w) A (binaryOp .Mult (.ref l) (.int x u)) Q E s := by
  have hm : vs.length * x.toNat ≤ 1000 * 1000 := Nat.mul_le_mul hsz (by omega)
  have e := PyProof.Rows.listMul_foldl_if vs.toArray x.toNat
  refine wpAny_binaryOp_repeat_ref (T := "list") (U := "int") (by decide) ⟨_, hl, rfl⟩ (fun s' => typeIs_int s' x u) noFill_list_mul F.fills_int_mul F.slot_int_rmul repeat_list F.slot_int_index.lookup
    (call_meets F.slot_int_rmul (typeIs_int s x u) F.entry_int_rmul (F.args_int_rmul_2 _ _) (int___rmul___int_list x u l vs.toArray k)
      ⟨hl, rfl, ⟨_, hl, rfl⟩, call_meets F.slot_list_mul ⟨_, hl, rfl⟩ F.entry_list_mul (F.args_list_mul_2 _ _)
        (AutoListH.list___mul___list_int_3 l vs.toArray k x u (by simp [Builtin.List.listFitsIndex]; omega) (by rw [List.size_toArray]; omega) (by simp [Builtin.List.listTooLong, sizeLine]; omega))
        ⟨hl, ?_⟩⟩)
  rw [e]
  exact h
theorem newTupleF {K : Addr → Obj → Prop} {L : Addr} {bs : List (Str × Value)} {news : List (Addr × Obj)} {vs : List Value} {Q : Value → Shared → Prop} (F : Fk K L s.heap bs) (N : Nw K L s.heap news)
    (h : ∀ h' T, Fk K L h' bs → Nw K L h' ((T, tobj vs) :: news) → (∀ b o, s.heap.get? b = some o → h'.get? b = some o) → s.heap.get? T = none → Q (.ref T) { s with heap := h' }) (hsz : vs.length ≤ 1000 := by (simp only [List.length_cons, List.length_nil]; omega)) :
    wpAny (model prog w) A (newTuple vs) Q E s :=
  wpAny_newTuple (hsz := Nat.le_trans hsz (show 1000 ≤ sizeLine by decide)) (h _ _ (F.push _) (Nw.pushed F N (tobj vs)) (fun _ _ e => Heap.get?_push_of_some _ e) (by
    cases q : s.heap.get? s.heap.objs.size with
    | none => rfl
    | some o => exact absurd (Heap.lt_size q) (Nat.lt_irrefl _)))
theorem newListF {K : Addr → Obj → Prop} {L : Addr} {bs : List (Str × Value)} {news : List (Addr × Obj)} {vs : List Value} {Q : Value → Shared → Prop} (F : Fk K L s.heap bs) (N : Nw K L s.heap news)
    (h : ∀ h' T, Fk K L h' bs → Nw K L h' ((T, lobj vs 0) :: news) → (∀ b o, s.heap.get? b = some o → h'.get? b = some o) → s.heap.get? T = none → Q (.ref T) { s with heap := h' }) (hsz : vs.length ≤ 1000 := by (simp only [List.length_cons, List.length_nil]; omega)) :
    wpAny (model prog w) A (newList vs) Q E s :=
  wpAny_newList (hsz := Nat.le_trans hsz (show 1000 ≤ sizeLine by decide)) (h _ _ (F.push _) (Nw.pushed F N (lobj vs 0)) (fun _ _ e => Heap.get?_push_of_some _ e) (by
    cases q : s.heap.get? s.heap.objs.size with
    | none => rfl
    | some o => exact absurd (Heap.lt_size q) (Nat.lt_irrefl _)))
end
section
variable {prog : Program} {w : World} {A : Around} {E : Value → Shared → Prop} {s : Shared} {env : Env}
/-- two names at once; the machine stores the second one first -/
theorem assign2_ {x y : Str} {px py tpos pos : Pos} {k : Nat} {value : Expr} {Q : Flow → Shared → Prop} (hh : A.handled = none)
    (h : wpAny (model prog w) A (eval value env) (fun v s₁ => ∃ T v1 v2, v = .ref T ∧ s₁.heap.IsTuple T #[v1, v2] ∧ ∀ h', (∀ b o, s₁.heap.get? b = some o → h'.get? b = some o) →
      wpAny (model prog w) A (storeName env y v2) (fun _ s₂ => wpAny (model prog w) A (storeName env x v1) (fun _ => Q .next) E s₂) E { s₁ with heap := h' }) E s)
    (hs : swapsWithSole [.Tuple [.Name x px, .Name y py] k tpos] value pos.line env = pure false := by rfl)
    (hw : swappedStores [.Tuple [.Name x px, .Name y py] k tpos] value env = pure (some [x, y]) := by rfl) :
    wpAny (model prog w) A (exec (.Assign [.Tuple [.Name x px, .Name y py] k tpos] value pos) env) Q E s := by
  refine Assign_Tuple_swapped (names := [x, y]) (wpAny_mono h (fun v s₁ q => ?_) fun _ _ e => e) hs hw
  obtain ⟨T, v1, v2, rfl, ht, hQ⟩ := q
  refine wpAny_unpackItems_tuple (items := #[v1, v2]) hh ht fun h' hx => ?_
  show wpAny _ _ (assignInOrder [bindName env y, bindName env x] [v2, v1]) _ _ _
  refine wpAny_assignInOrder_more (wpAny_bindName (wpAny_mono (hQ h' fun b o e => hx b o (Nat.ne_of_lt (Heap.lt_size e)) e) (fun _ s₂ q => ?_) fun _ _ e => e))
  exact wpAny_assignInOrder_more (wpAny_bindName (wpAny_mono q (fun _ s₃ q => wpAny_assignInOrder_none q) fun _ _ e => e))
end
section
variable {w : World} {A : Around} {E : Value → Shared → Prop} {s : Shared} {mg mb : Str → Option Value}
theorem counted_ {l : Addr} {vs : List Value} {κ : Value → Key} {ps : Arguments} {bd : List Stmt} {sc : Scope} {a : Addr} {Q : Value → Shared → Prop}
    (R : Rm A 2 40) (G : Gl PW mg mb s.heap) (hdef : PW.theDef "_law_counted" = some (ps, bd, sc)) (f : FnAt mg s.heap "_law_counted" ps bd sc a)
    (hl : s.heap.IsList l vs.toArray) (rows : ∀ v, v ∈ vs → RowAt s.heap κ v) (hsz : vs.length ≤ 500)
    (h : ∀ h' tk Y, (∀ b o, s.heap.get? b = some o → h'.get? b = some o) → h'.IsList Y (srt (kl κ) vs).toArray → Q (.ref Y) { s with heap := h', toks := tk }) :
    wpAny (model PW w) A (call (.ref a) [.ref l]) Q E s := by
  have e := (rfl : PW.theDef "_law_counted" = some (_, _, _))
  rw [e] at hdef
  cases hdef
  clear e
  refine call_fn (d := 1) (u := 37) R G f (fun _ _ _ => rfl) (locs rfl) fun L h₁ tk cd F hL R' hk => ?_
  clear f
  have GG := G.gk
  generalize hA : A.deeper _ = A' at R' ⊢
  clear hA
  repeat (walk_at "mine")
  refine newTupleF F Nw.nil fun h2 T0 F2 N2 _ _ => ?_
  dsimp only
  repeat (walk_at "mine")
  refine newListF F2 N2 fun h3 T1 F3 N3 _ _ => ?_
  dsimp only
  repeat (first | walk_at "mine" | walk_at "name")
  refine len_list (IsList.up hl F3.keep) (by simp only [List.size_toArray]; omega) ?_
  refine mul_list' (N3 _ (.head _)).1 (by omega) (by simp only [List.size_toArray]; omega) (by simp only [List.length_cons, List.length_nil]; omega) ?_
  have F4 := F3.push (lobj (List.replicate ((vs.toArray.size : Nat) : Int).toNat [Value.ref T0]).flatten 0)
  have N4 := Nw.pushed F3 (Nw.nil) (lobj (List.replicate ((vs.toArray.size : Nat) : Int).toNat [Value.ref T0]).flatten 0)
  generalize hV : h3.objs.size = V at N4
  clear F2 N2 N3
  dsimp only at F4 N4 ⊢
  refine stF F4 N4 fun h5 F5 N5 _ => ?_
  clear F4 N4 F3 hV F
  have hf0 : (List.replicate ((vs.toArray.size : Nat) : Int).toNat [Value.ref T0]).flatten.length = vs.length := by
    rw [flat_rep, List.length_replicate]; simp
  generalize (List.replicate ((vs.toArray.size : Nat) : Int).toNat [Value.ref T0]).flatten = found0 at N5 hf0
  dsimp only
  repeat (walk_at "mine")
  have hl5 : ∀ {hh : Heap} {bb : List (Str × Value)}, Fk (fun b o => s.heap.get? b = some o) L hh bb → hh.IsList l vs.toArray := fun FF => IsList.up hl FF.keep
  have hVL := (N5 _ (.head _)).2.1
  have hVK := (N5 _ (.head _)).2.2
  refine wpAny_mono (for_range (K := fun b o => s.heap.get? b = some o) (Q := fun f s' => f = .next ∧ ∃ (h : Heap) (tk : Nat) (o : Obj) (found : List Value), s' = { s with heap := h, toks := tk } ∧
      Fk (fun b o => s.heap.get? b = some o) L h [("rows", .ref l), ("found", .ref V)] ∧ Nw (fun b o => s.heap.get? b = some o) L h [(V, o)] ∧ LO o found ∧ found.length = vs.length ∧
      ∀ j, j < vs.length → found[rk (kl κ) vs .none j]? = (srt (kl κ) vs)[rk (kl κ) vs .none j]?)
    (fun i bs news => bs = ([("rows", .ref l), ("found", .ref V)] : List (Str × Value)) ∧ ∃ (o : Obj) (found : List Value), news = [(V, o)] ∧ LO o found ∧ found.length = vs.length ∧
      ∀ j, j < i → found[rk (kl κ) vs .none j]? = (srt (kl κ) vs)[rk (kl κ) vs .none j]?) R'.hd ?_) (fun f s' q => ?_) fun _ _ x => x
  · repeat (first | walk_at "mine" | walk_at "name")
    refine len_list (hl5 F5) (by simp only [List.size_toArray]; omega) ?_
    repeat (first | walk_at "mine" | walk_at "name")
    have el : ((vs.toArray.size : Nat) : Int) = (vs.length : Int) := by rw [List.size_toArray]
    rw [el]
    refine call_range_1 ?_
    have hk6 : ∀ o b o', h5.get? b = some o' → (h5.push o).get? b = some o' := fun o b o' e => Heap.get?_push_of_some o e
    refine ⟨_, _, _, _, _, _, _, vs.length, _, [(V, lobj found0 0)], rfl, IsRange.new _ _ _ _ _ _ _, small_of (n := vs.length) (by omega) (by omega) (by omega) (size_one _) (by omega), size_one _,
      (F5.stays (hk6 _)).weak (bs' := [("rows", .ref l), ("found", .ref V)]) (by walk_at "weak"), N5.stays (hk6 _), ⟨rfl, _, found0, rfl, ⟨rfl, 0, rfl⟩, hf0, fun j hj => absurd hj (Nat.not_lt_zero _)⟩, ?_, ?_⟩
    · rintro i bs news h6 tk6 it hi ⟨rfl, o, found, rfl, hLO, hfl, hfj⟩ hoff F6 N6
      clear F5 N5 hk6
      have hitV : V ≠ it.1 := hoff _ (.head _)
      have hoff' : ∀ o' : Obj, ∀ p ∈ ([(V, o')] : List (Addr × Obj)), p.1 ≠ it.1 := fun o' p hp => by rw [List.mem_singleton.mp hp]; exact hitV
      have e0 : (0 : Int) + (i : Int) * 1 = (i : Int) := by omega
      rw [e0] at F6
      dsimp only
      repeat (walk_at "mine")
      refine stF F6 N6 fun h7 F7 N7 _ => ?_
      dsimp only
      repeat (walk_at "mine")
      have hvi : vs[i]? = some vs[i] := List.getElem?_eq_getElem hi
      have rvi : RowAt s.heap κ vs[i] := rows _ (List.getElem_mem hi)
      refine wpAny_mono (for_range (K := fun b o => s.heap.get? b = some o) (Q := fun f s' => f = .next ∧ ∃ (h : Heap) (tk : Nat) (tp : Tok), s' = { s with heap := h, toks := tk } ∧
          Fk (fun b o => s.heap.get? b = some o) L h [("rows", .ref l), ("found", .ref V), ("at", .int i tk6), ("place", .int (rk (kl κ) vs .none i : Nat) tp)] ∧ Nw (fun b o => s.heap.get? b = some o) L h [it, (V, o)])
        (fun j bs news => ∃ tp : Tok, bs = ([("rows", .ref l), ("found", .ref V), ("at", .int i tk6), ("place", .int (cnt (kl κ) vs .none i j : Nat) tp)] : List (Str × Value)) ∧ news = [it, (V, o)]) R'.hd ?_) (fun f s' q => ?_) fun _ _ x => x
      · repeat (first | walk_at "mine" | walk_at "name")
        refine len_list (hl5 F7) (by simp only [List.size_toArray]; omega) ?_
        repeat (first | walk_at "mine" | walk_at "name")
        rw [el]
        refine call_range_1 ?_
        have hk8 : ∀ o b o', h7.get? b = some o' → (h7.push o).get? b = some o' := fun o b o' e => Heap.get?_push_of_some o e
        refine ⟨_, _, _, _, _, _, _, vs.length, _, [it, (V, o)], rfl, IsRange.new _ _ _ _ _ _ _, small_of (n := vs.length) (by omega) (by omega) (by omega) (size_one _) (by omega), size_one _,
          (F7.stays (hk8 _)).weak (bs' := [("rows", .ref l), ("found", .ref V), ("at", .int i tk6), ("place", .int (cnt (kl κ) vs .none i 0 : Nat) _)]) (by walk_at "weak"), N7.stays (hk8 _), ⟨_, rfl, rfl⟩, ?_, ?_⟩
        · rintro j bs news h8 tk8 it2 hj ⟨tp, rfl, rfl⟩ hoff2 F8 N8
          clear F6 N6 F7 N7 hk8
          have e1 : (0 : Int) + (j : Int) * 1 = (j : Int) := by omega
          rw [e1] at F8
          dsimp only
          have hvj : vs[j]? = some vs[j] := List.getElem?_eq_getElem hj
          have rvj : RowAt s.heap κ vs[j] := rows _ (List.getElem_mem hj)
          repeat (walk_at "mine")
          refine assign2_ R'.hd ?_
          repeat (first | walk_at "mine" | walk_at "name")
          refine item_ (hl5 F8) (by omega) (by omega) (v := vs[j]) (by simp [hj]) ?_
          repeat (first | walk_at "mine" | walk_at "name")
          refine key0_ (RowAt.up rvj F8.keep) fun t1 => ?_
          repeat (first | walk_at "mine" | walk_at "name")
          refine item_ (hl5 F8) (by omega) (by omega) (v := vs[j]) (by simp [hj]) ?_
          repeat (first | walk_at "mine" | walk_at "name")
          refine key1_ (RowAt.up rvj F8.keep) fun t2 => ?_
          repeat (first | walk_at "mine" | walk_at "name")
          refine newTupleF F8 N8 fun h9 T1 F9 N9 _ _ => ?_
          dsimp only
          clear F8 N8
          repeat (first | walk_at "mine" | walk_at "name")
          refine item_ (hl5 F9) (by omega) (by omega) (v := vs[i]) (by simp [hi]) ?_
          repeat (first | walk_at "mine" | walk_at "name")
          refine key0_ (RowAt.up rvi F9.keep) fun t3 => ?_
          repeat (first | walk_at "mine" | walk_at "name")
          refine item_ (hl5 F9) (by omega) (by omega) (v := vs[i]) (by simp [hi]) ?_
          repeat (first | walk_at "mine" | walk_at "name")
          refine key1_ (RowAt.up rvi F9.keep) fun t4 => ?_
          repeat (first | walk_at "mine" | walk_at "name")
          refine newTupleF F9 N9 fun h10 T2 F10 N10 _ _ => ?_
          dsimp only
          clear F9 N9
          repeat (first | walk_at "mine" | walk_at "name")
          refine newTupleF F10 N10 fun h11 T3 F11 N11 _ _ => ?_
          dsimp only
          clear F10 N10
          refine ⟨T3, _, _, rfl, isTuple_of (N11 _ (.head _)).1, fun h12 kx => ?_⟩
          have F12 := F11.stays kx
          have N12 := (Nw.sub N11 (fun p hp => List.mem_cons_of_mem _ hp)).stays kx
          clear F11 N11 kx
          refine stF F12 N12 fun h13 F13 N13 _ => ?_
          clear F12 N12
          refine stF F13 N13 fun h14 F14 N14 _ => ?_
          clear F13 N13
          dsimp only
          have b1 := isTuple_of (N14 _ (.tail _ (.head _))).1
          have b2 := isTuple_of (N14 _ (.head _)).1
          have N15 := Nw.sub N14 (news' := [it2, it, (V, o)]) (fun p hp => .tail _ (.tail _ hp))
          clear N14
          have F15 := F14.weak (bs' := [("one", .ref T1), ("two", .ref T2), ("other", .int j tk8), ("rows", .ref l), ("found", .ref V), ("at", .int i tk6), ("place", .int (cnt (kl κ) vs .none i j : Nat) tp)]) (by walk_at "weak")
          clear F14
          refine wpAny_execs_cons ?_
          refine wpAny_If ?_
          have gi : vs.getD i .none = vs[i] := by simp [List.getD, hi]
          have gj : vs.getD j .none = vs[j] := by simp [List.getD, hj]
          refine wpAny_mono (Q := fun b s' => b = bef (kl κ) vs .none j i ∧ ∃ tk, s' = { s with heap := h14, toks := tk }) ?_ (fun b s' q => ?_) fun _ _ x => x
          · repeat (first | walk_at "mine" | walk_at "name")
            refine lt_pairs (k := κ vs[j]) (k' := κ vs[i]) b1 b2 R'.u ?_
            repeat (walk_at "mine")
            refine split_bool (fun hc => ?_) (fun hc => ?_)
            · refine ⟨?_, _, rfl⟩
              unfold bef
              rw [gi, gj]
              have : kl κ vs[j] vs[i] = true := hc
              rw [this]; rfl
            · repeat (first | walk_at "mine" | walk_at "name")
              refine eq_pairs (k := κ vs[j]) (k' := κ vs[i]) b1 b2 R'.u ?_
              repeat (walk_at "mine")
              have heqv := klt_eqv (κ vs[j]) (κ vs[i])
              rw [hc] at heqv
              have hbe : bef (kl κ) vs .none j i = (decide (κ vs[j] = κ vs[i]) && decide (j < i)) := by
                unfold bef
                rw [gi, gj]
                have : kl κ vs[j] vs[i] = false := hc
                rw [this, ← heqv]; rfl
              rw [hbe]
              refine split_bool (fun hc2 => ?_) (fun hc2 => ?_)
              · repeat (first | walk_at "mine" | walk_at "name")
                refine lt_int ?_
                repeat (walk_at "mine")
                rw [hc2]
                have hji : decide ((j : Int) < (i : Int)) = decide (j < i) := by simp
                rw [hji]
                refine split_bool (fun hc3 => ?_) (fun hc3 => ?_)
                · rw [hc3]
                  repeat (walk_at "mine")
                  exact ⟨rfl, _, rfl⟩
                · rw [hc3]
                  simp only [Bool.false_eq_true, if_false]
                  repeat (walk_at "mine")
                  exact ⟨rfl, _, rfl⟩
              · rw [hc2]
                simp only [Bool.false_eq_true, if_false]
                repeat (walk_at "mine")
                exact ⟨rfl, _, rfl⟩
          · obtain ⟨rfl, tk9, rfl⟩ := q
            refine split_bool (fun hc => ?_) (fun hc => ?_)
            · repeat (first | walk_at "mine" | walk_at "name")
              refine PyProof.Rows.add_int ?_
              refine stF F15 N15 fun h16 F16 N16 _ => ?_
              dsimp only
              repeat (walk_at "mine")
              have ec : cnt (kl κ) vs .none i (j + 1) = cnt (kl κ) vs .none i j + 1 := by rw [cnt, hc]; rfl
              refine ⟨h16, _, [("rows", .ref l), ("found", .ref V), ("at", .int i tk6), ("place", .int (cnt (kl κ) vs .none i (j + 1) : Nat) _)], [it, (V, o)], rfl, (by rw [ec]; exact F16.weak (by walk_at "weak")), N16, hoff2, _, rfl, rfl⟩
            · repeat (walk_at "mine")
              have ec : cnt (kl κ) vs .none i (j + 1) = cnt (kl κ) vs .none i j := by rw [cnt, hc]; rfl
              refine ⟨h14, _, [("rows", .ref l), ("found", .ref V), ("at", .int i tk6), ("place", .int (cnt (kl κ) vs .none i (j + 1) : Nat) tp)], [it, (V, o)], rfl, ?_, N15, hoff2, _, rfl, rfl⟩
              rw [ec]
              exact F15.weak (by walk_at "weak")
        · rintro bs news h8 tk8 ⟨tp, rfl, rfl⟩ F8 N8
          exact ⟨rfl, h8, _, tp, rfl, F8, N8⟩
      · obtain ⟨rfl, h8, tk8, tp, rfl, F8, N8⟩ := q
        clear F6 N6 F7 N7
        obtain ⟨hr1, hr2⟩ := (rk_main (kl_wk κ) .none vs).1 i hi
        have gi : vs.getD i .none = vs[i] := by simp [List.getD, hi]
        dsimp only
        repeat (walk_at "mine")
        refine wpAny_Assign_Subscript ?_
        repeat (first | walk_at "mine" | walk_at "name")
        refine item_ (hl5 F8) (by omega) (by omega) (v := vs[i]) (by simp [hi]) ?_
        repeat (first | walk_at "mine" | walk_at "name")
        refine wpAny_setItem_list (hLO.list (N8 _ (.tail _ (.head _))).1) (by omega) (by omega) (by simp only [List.size_toArray]; omega) fun h9 hI9 hs9 => ?_
        have bt : ∀ b o, b ≠ V → h8.get? b = some o → h9.get? b = some o := fun b o hb e => (hs9.2 b hb).trans e
        have F9 := F8.but (Ne.symm hVL) hVK bt
        have Nit : Nw (fun b o => s.heap.get? b = some o) L h9 [it] := (Nw.sub N8 (fun p hp => by rw [List.mem_singleton.mp hp]; exact .head _)).but (fun p hp => by rw [List.mem_singleton.mp hp]; exact Ne.symm hitV) bt
        have ei : found.toArray.setIfInBounds ((rk (kl κ) vs .none i : Nat) : Int).toNat vs[i] = (found.set (rk (kl κ) vs .none i) vs[i]).toArray := by simp
        rw [ei] at hI9
        obtain ⟨o9, ho9, hLO9⟩ := LO.of hI9
        repeat (walk_at "mine")
        refine ⟨h9, _, _, [(V, o9)], rfl, F9.weak (by walk_at "weak"), ?_, hoff' o9, rfl, o9, _, rfl, hLO9, by rw [List.length_set, hfl], ?_⟩
        · intro p hp
          rcases List.mem_cons.mp hp with rfl | hp
          · exact Nit _ (.head _)
          · rw [List.mem_singleton.mp hp]; exact ⟨ho9, hVL, hVK⟩
        · have := counted_step (kl_wk κ) .none hfl hi hfj
          rw [gi] at this; exact this
    · rintro bs news h6 tk6 ⟨rfl, o, found, rfl, hLO, hfl, hfj⟩ F6 N6
      exact ⟨rfl, h6, _, o, found, rfl, F6, N6, hLO, hfl, hfj⟩
  · obtain ⟨rfl, h6, tk6, o, found, rfl, F6, N6, hLO, hfl, hfj⟩ := q
    clear F5 N5
    dsimp only
    repeat (first | walk_at "mine" | walk_at "name")
    refine ⟨_, rfl, h _ _ _ F6.keep ?_⟩
    rw [← counted_end (kl_wk κ) .none hfl hfj]
    exact hLO.list (N6 _ (.head _)).1
end
theorem int_no_bytes : typeLookup (.type "int") "__bytes__" = pure none := by rw [typeLookup_type, builtinLookup_eq_fast]; kernel_rfl
section
variable {prog : Program} {w : World} {A : Around} {E : Value → Shared → Prop} {s : Shared}
theorem bytes_one_new {t : Tok} {Q : Value → Shared → Prop} (hQ : ∀ t' k, Q (.bytes #[0] t') { s with toks := k }) :
    codeAny (model prog w) A (.call (.builtin "bytes.__new__") ⟨[.type "bytes", .int 1 t], []⟩) (wants Q E) s := by
  refine codeAny_of_tree ?_
  show wpAny _ A.in1 (do checkBuiltinCall "bytes.__new__" ⟨[.type "bytes", .int 1 t], []⟩; again (.builtin "bytes.__new__" ⟨[.type "bytes", .int 1 t], []⟩)) _ _ s
  refine wpAny_bind (wpAny_of_eq (F.bm_newCall _) (wpAny_pure ⟨plainId_quiet F.bm_plain _, codeAny_builtin F.bm_entry ?_⟩))
  rw [Around.under_plainId F.bm_plain _]
  unfold Builtin.«bytes.__new__»
  refine wpAny_bind (wpAny_of_eq (a := true) rfl ?_)
  refine bm_if_false rfl ?_
  refine wpAny_bind (wpAny_of_eq F.bm_sub ?_)
  refine bm_if_false rfl ?_
  refine wpAny_bind (wpAny_of_eq (F.bm_bind _) ?_)
  refine wpAny_bind (wpAny_of_eq (a := ()) rfl ?_)
  refine wpAny_bind (wpAny_of_eq (a := ()) rfl ?_)
  refine bm_if_false rfl ?_
  refine wpAny_bind (wpAny_specialOf (typeIs_int s 1 t) int_no_bytes ?_)
  refine wpAny_bind (wpAny_bind (wpAny_of_eq (a := none) rfl (wpAny_pure ?_)))
  refine bm_if_false rfl ?_
  refine wpAny_bind (wpAny_specialOf (typeIs_int s 1 t) F.slot_int_index.lookup ?_)
  refine bm_if_false rfl ?_
  refine wpAny_bind (wpAny_attempt (wpAny_of_eq (rfl : asIndex (.int 1 t) = pure 1) ?_))
  (try dsimp only)
  rw [if_neg (show ¬ ((!Builtin.Bytes.fitsIndex 1) = true) by decide), if_neg (show ¬ ((1 : Int) < 0) by decide), if_neg (show ¬ ((1 : Int) > 2 ^ 63 - 34) by decide), if_neg (show ¬ (Builtin.Bytes.tooLong (Int.toNat 1) = true) by decide)]
  refine wpAny_bind (wpAny_rule ?_)
  refine wpAny_bind (wpAny_mkBytes ?_ (by decide))
  show wpAny _ _ (if (Value.type "bytes" == Value.type "bytes") = true then _ else _) _ _ _
  refine bm_if_true (by decide) ?_
  exact wpAny_pure (hQ _ _)
theorem bytes_one {t : Tok} {Q : Value → Shared → Prop} (hQ : ∀ t' k, Q (.bytes #[0] t') { s with toks := k }) : wpAny (model prog w) A (call (.type "bytes") [.int 1 t]) Q E s := by
  refine callType_codes (Q₁ := fun obj s₁ => s₁.TypeIs obj "bytes" ∧ Q obj s₁) F.bm_called (F.bm_typeCall _) F.entry_object_init
    (bytes_one_new fun t' k => ⟨PySem.W.typeIs_bytes _ _ _, hQ t' k⟩) fun obj s₁ h₁ => ?_
  exact ⟨h₁.1, F.args_object_init_2 obj _, object_init_meets F.bm_called.init.lookup F.bm_called.made (by decide) prog w A.in1 _ s₁ ⟨h₁.1, rfl, h₁.2⟩⟩
end

/-! what stands when a list is changed -/
theorem Ns_ne_list {h : Heap} {T L : Addr} {m : Str → Option Value} {its : Array Value} (hn : h.Ns L m) (hl : h.IsList T its) : L ≠ T := fun q => isList_ne hl hn q.symm
theorem Ns.but {h h' : Heap} {L S : Addr} {m : Str → Option Value} {its : Array Value} (hn : h.Ns L m) (hl : h.IsList S its) (hk : ∀ b o, b ≠ S → h.get? b = some o → h'.get? b = some o) : h'.Ns L m :=
  hn.at' fun o e => hk L o (Ns_ne_list hn hl) e
theorem Gl.but {p : Program} {mg mb : Str → Option Value} {h h' : Heap} {S : Addr} {its : Array Value} (G : Gl p mg mb h) (hl : h.IsList S its) (hk : ∀ b o, b ≠ S → h.get? b = some o → h'.get? b = some o) : Gl p mg mb h' := by
  have ne : ∀ b o, h.get? b = some o → (∀ its n, o.data ≠ .seq its n) → b ≠ S := fun b o e hd q => by
    obtain ⟨oS, hS, _, n, hdS⟩ := hl
    rw [q, hS] at e
    exact hd _ _ (by rw [← Option.some.inj e]; exact hdS)
  refine ⟨Ns.but G.g hl hk, Ns.but G.b hl hk, ?_, G.bi, fun n ps bd sc e hne => ?_⟩
  · obtain ⟨mc, h1, h2⟩ := G.lim
    exact ⟨mc, Ns.but h1 hl hk, h2⟩
  · obtain ⟨a, f⟩ := G.fn n ps bd sc e hne
    obtain ⟨o, pm, cd, dc, h1, h2, c, oc, vs, t, e1, e2, e3, e4⟩ := f.at_
    exact ⟨a, f.named, o, pm, cd, dc, hk a o (ne a o h1 fun its n q => by rw [h2] at q; cases q) h1, h2, c, oc, vs, t, e1, hk c oc (ne c oc e2 fun its n q => by rw [e3] at q; cases q) e2, e3, e4⟩
theorem FnAt.but {mg : Str → Option Value} {h h' : Heap} {S : Addr} {its : Array Value} {name : Str} {ps : Arguments} {bd : List Stmt} {sc : Scope} {a : Addr} (f : FnAt mg h name ps bd sc a) (hl : h.IsList S its) (hk : ∀ b o, b ≠ S → h.get? b = some o → h'.get? b = some o) : FnAt mg h' name ps bd sc a := by
  have ne : ∀ b o, h.get? b = some o → (∀ its n, o.data ≠ .seq its n) → b ≠ S := fun b o e hd q => by
    obtain ⟨oS, hS, _, n, hdS⟩ := hl
    rw [q, hS] at e
    exact hd _ _ (by rw [← Option.some.inj e]; exact hdS)
  obtain ⟨o, pm, cd, dc, h1, h2, c, oc, vs, t, e1, e2, e3, e4⟩ := f.at_
  exact ⟨f.named, o, pm, cd, dc, hk a o (ne a o h1 fun its n q => by rw [h2] at q; cases q) h1, h2, c, oc, vs, t, e1, hk c oc (ne c oc e2 fun its n q => by rw [e3] at q; cases q) e2, e3, e4⟩

/-- the source of draws: two ints -/
def SrcAt (h : Heap) (S : Addr) : Prop := ∃ (p q : Int) (tp tq : Tok), h.IsList S [Value.int p tp, Value.int q tq].toArray ∧ 0 ≤ q ∧ q < 2147483647
theorem SrcAt.at {h h' : Heap} {S : Addr} (x : SrcAt h S) (e : ∀ o, h.get? S = some o → h'.get? S = some o) : SrcAt h' S :=
  let ⟨p, q, tp, tq, l, r⟩ := x; ⟨p, q, tp, tq, l.at e, r⟩

section
variable {w : World} {A : Around} {E : Value → Shared → Prop} {s : Shared} {mg mb : Str → Option Value}
theorem take_ {S : Addr} {top : Int} {tt : Tok} {ps : Arguments} {bd : List Stmt} {sc : Scope} {a : Addr} {Q : Value → Shared → Prop}
    (R : Rm A 2 20) (G : Gl PW mg mb s.heap) (hdef : PW.theDef "_law_take" = some (ps, bd, sc)) (f : FnAt mg s.heap "_law_take" ps bd sc a)
    (hS : SrcAt s.heap S) (ht : 0 < top) (ht2 : top ≤ 1000)
    (h : ∀ h' tk d td, (∀ b o, b ≠ S → s.heap.get? b = some o → h'.get? b = some o) → SrcAt h' S → 0 ≤ d → d < top → Q (.int d td) { s with heap := h', toks := tk }) :
    wpAny (model PW w) A (call (.ref a) [.ref S, .int top tt]) Q E s := by
  obtain ⟨p, q, tp, tq, hl, hq0, hq1⟩ := hS
  have e := (rfl : PW.theDef "_law_take" = some (_, _, _))
  rw [e] at hdef
  cases hdef
  clear e
  refine call_fn (d := 1) (u := 17) R G f (fun _ _ _ => rfl) (locs rfl) fun L h₁ tk cd F hL R' hk => ?_
  clear f
  have hSlt : S < s.heap.objs.size := let ⟨_, e, _⟩ := hl; Heap.lt_size e
  have hLS : L ≠ S := by rw [hL]; exact Nat.ne_of_gt hSlt
  have F0 : Fk (KL s.heap S) L h₁ _ := F.re (fun b o e => F.keep b o e.1) (fun o e => F.off o e.1)
  have hl0 := IsList.up hl hk
  have GG : GK PW mg mb (KL s.heap S) := fun hh kk => G.but hl fun b o hb e => kk b o ⟨e, hb⟩
  have hSK : ∀ o, ¬ KL s.heap S S o := fun o e => e.2 rfl
  clear F
  generalize hA : A.deeper _ = A' at R' ⊢
  clear hA
  refine wpAny_execs_cons ?_
  refine wpAny_If ?_
  repeat (first | walk_at "mine" | walk_at "name")
  refine item_ hl0 (by decide) (by simp) (v := .int p tp) rfl ?_
  repeat (first | walk_at "mine" | walk_at "name")
  refine gt_int ?_
  repeat (walk_at "mine")
  refine split_bool (fun hc => ?_) (fun hc => ?_)
  · have hp0 : 0 < p := by simpa using hc
    repeat (first | walk_at "mine" | walk_at "name")
    refine item_ hl0 (by decide) (by simp) (v := .int p tp) rfl ?_
    repeat (first | walk_at "mine" | walk_at "name")
    refine call_int_int ?_
    repeat (first | walk_at "mine" | walk_at "name")
    refine PyProof.Rows.mod_int (by omega) ?_
    refine stF F0 Nw.nil fun h2 F2 _ hs2 => ?_
    have hl2 : h2.IsList S [Value.int p tp, Value.int q tq].toArray := hl0.at fun o e => (hs2.2 S (Ne.symm hLS)).trans e
    (try dsimp only)
    repeat (walk_at "mine")
    refine wpAny_Assign_Subscript ?_
    repeat (first | walk_at "mine" | walk_at "name")
    refine item_ hl2 (by decide) (by simp) (v := .int p tp) rfl ?_
    repeat (first | walk_at "mine" | walk_at "name")
    refine PyProof.Rows.floordiv_int (by omega) ?_ (Or.inl (PyProof.noPylong_small (by omega)))
    repeat (first | walk_at "mine" | walk_at "name")
    refine wpAny_setItem_list hl2 (by decide) (by decide) (by simp) fun h3 hI3 hs3 => ?_
    have F3 := F2.but hLS hSK fun b o hb e => (hs3.2 b hb).trans e
    repeat (first | walk_at "mine" | walk_at "name")
    refine ⟨_, rfl, h _ _ _ _ (fun b o hb e => F3.keep b o ⟨e, hb⟩) ⟨_, q, _, tq, hI3, hq0, hq1⟩ ?_ ?_⟩
    · rw [Int.fmod_eq_emod_of_nonneg _ (by omega)]; exact Int.emod_nonneg _ (by omega)
    · rw [Int.fmod_eq_emod_of_nonneg _ (by omega)]; exact Int.emod_lt_of_pos _ ht
  · simp only [Bool.false_eq_true, if_false]
    repeat (walk_at "mine")
    refine wpAny_Assign_Subscript ?_
    repeat (first | walk_at "mine" | walk_at "name")
    refine item_ hl0 (by decide) (by simp) (v := .int q tq) rfl ?_
    repeat (first | walk_at "mine" | walk_at "name")
    refine PyProof.Rows.mul_int ?_ (IntMulOk.of_right (by decide))
    repeat (first | walk_at "mine" | walk_at "name")
    refine PyProof.Rows.add_int ?_
    walk_at "go"
    refine call_int_int ?_
    repeat (first | walk_at "mine" | walk_at "name")
    refine PyProof.Rows.mod_int (by decide) ?_
    repeat (first | walk_at "mine" | walk_at "name")
    refine wpAny_setItem_list hl0 (by decide) (by decide) (by simp) fun h3 hI3 hs3 => ?_
    have F3 := F0.but hLS hSK fun b o hb e => (hs3.2 b hb).trans e
    have q0 : 0 ≤ (q * 39373 + 7).fmod 2147483647 := by rw [Int.fmod_eq_emod_of_nonneg _ (by omega)]; exact Int.emod_nonneg _ (by omega)
    have q1 : (q * 39373 + 7).fmod 2147483647 < 2147483647 := by rw [Int.fmod_eq_emod_of_nonneg _ (by omega)]; exact Int.emod_lt_of_pos _ (by omega)
    generalize (q * 39373 + 7).fmod 2147483647 = q2 at hI3 q0 q1
    dsimp only at hI3 ⊢
    have hl3 : h3.IsList S ([Value.int p tp, Value.int q2 _] : List Value).toArray := hI3
    repeat (first | walk_at "mine" | walk_at "name")
    refine item_ hl3 (by decide) (by simp) (v := .int q2 _) rfl ?_
    repeat (first | walk_at "mine" | walk_at "name")
    refine item_ hl3 (by decide) (by simp) (v := .int q2 _) rfl ?_
    refine PyProof.Rows.mul_int ?_ (IntMulOk.of_right ?_)
    · walk_at "go"
      refine call_int_int ?_
      walk_at "go"
      refine PyProof.Rows.mod_int (by decide) ?_
      repeat (first | walk_at "mine" | walk_at "name")
      refine PyProof.Rows.floordiv_int (by decide) ?_ (Or.inl (PyProof.noPylong_small (by decide)))
      walk_at "go"
      refine call_int_int ?_
      walk_at "go"
      refine PyProof.Rows.mod_int (by omega) ?_
      refine ⟨_, rfl, h _ _ _ _ (fun b o hb e => F3.keep b o ⟨e, hb⟩) ⟨p, q2, _, _, hl3, q0, q1⟩ ?_ ?_⟩
      · rw [Int.fmod_eq_emod_of_nonneg _ (by omega)]; exact Int.emod_nonneg _ (by omega)
      · rw [Int.fmod_eq_emod_of_nonneg _ (by omega)]; exact Int.emod_lt_of_pos _ ht
    · exact intBits_le_64 (by omega) (by omega)
end
theorem FnAt.kl {mg : Str → Option Value} {h : Heap} {S : Addr} {its : Array Value} {name : Str} {ps : Arguments} {bd : List Stmt} {sc : Scope} {a : Addr} (f : FnAt mg h name ps bd sc a) (hl : h.IsList S its) : ∀ hh : Heap, (∀ b o, KL h S b o → hh.get? b = some o) → FnAt mg hh name ps bd sc a :=
  fun _ kk => f.but hl fun b o hb e => kk b o ⟨e, hb⟩
theorem Gl.kl {p : Program} {mg mb : Str → Option Value} {h : Heap} {S : Addr} {its : Array Value} (G : Gl p mg mb h) (hl : h.IsList S its) : GK p mg mb (KL h S) := fun _ kk => G.but hl fun b o hb e => kk b o ⟨e, hb⟩

section
variable {w : World} {A : Around} {E : Value → Shared → Prop} {s : Shared} {mg mb : Str → Option Value}
theorem one_ {S T : Addr} {vs : List Value} {ps : Arguments} {bd : List Stmt} {sc : Scope} {a : Addr} {Q : Value → Shared → Prop}
    (R : Rm A 4 40) (G : Gl PW mg mb s.heap) (hdef : PW.theDef "_law_one" = some (ps, bd, sc)) (f : FnAt mg s.heap "_law_one" ps bd sc a)
    (hS : SrcAt s.heap S) (hT : s.heap.IsList T vs.toArray) (hTS : T ≠ S) (h0 : 0 < vs.length) (h1 : vs.length ≤ 100)
    (h : ∀ h' tk v, (∀ b o, b ≠ S → s.heap.get? b = some o → h'.get? b = some o) → SrcAt h' S → v ∈ vs → Q v { s with heap := h', toks := tk }) :
    wpAny (model PW w) A (call (.ref a) [.ref S, .ref T]) Q E s := by
  obtain ⟨aT, fT⟩ := G.fn "_law_take" _ _ _ rfl (by decide)
  have hS' := hS
  obtain ⟨p, q, tp, tq, hl, hq0, hq1⟩ := hS
  have e := (rfl : PW.theDef "_law_one" = some (_, _, _))
  rw [e] at hdef
  cases hdef
  clear e
  refine call_fn (d := 3) (u := 37) R G f (fun _ _ _ => rfl) (locs rfl) fun L h₁ tk cd F hL R' hk => ?_
  clear f
  have hSlt : S < s.heap.objs.size := let ⟨_, e, _⟩ := hl; Heap.lt_size e
  have hLS : L ≠ S := by rw [hL]; exact Nat.ne_of_gt hSlt
  have F0 : Fk (KL s.heap S) L h₁ _ := F.re (fun b o e => F.keep b o e.1) (fun o e => F.off o e.1)
  have GG := G.kl hl
  have fT' := fT.kl hl
  have hSK : ∀ o, ¬ KL s.heap S S o := fun o e => e.2 rfl
  have hS1 : SrcAt h₁ S := hS'.at fun o e => hk S o e
  have hT1 : ∀ {hh : Heap} {bb : List (Str × Value)}, Fk (KL s.heap S) L hh bb → hh.IsList T vs.toArray := fun FF => hT.at fun o e => FF.keep T o ⟨e, hTS⟩
  clear F
  generalize hA : A.deeper _ = A' at R' ⊢
  clear hA
  walk_at "go"
  refine ldFn (ps := default) (bd := []) (sc := default) GG F0 fT.named ?_
  refine callWith_fn (fT' _ F0.keep) ?_
  walk_at "go"
  refine len_list (hT1 F0) (by simp only [List.size_toArray]; omega) ?_
  walk_at "go"
  refine ⟨fun b o e _ => e, ?_⟩
  refine take_ (R'.le (by omega) (by omega)) (GG _ F0.keep) rfl (fT' _ F0.keep) hS1 (by simp only [List.size_toArray]; omega) (by simp only [List.size_toArray]; omega) fun h2 tk2 d td hk2 hS2 hd0 hd1 => ?_
  have F2 := F0.but hLS hSK hk2
  simp only [List.size_toArray] at hd1
  (try dsimp only)
  have hd : d.toNat < vs.length := by omega
  refine item_ (hT1 F2) hd0 (by omega) (v := vs[d.toNat]) (by simp [hd]) ?_
  exact ⟨_, rfl, h _ _ _ (fun b o hb e => F2.keep b o ⟨e, hb⟩) hS2 (List.getElem_mem hd)⟩
end
/-- a row: bytes, an int, a thing -/
def RowOk (h : Heap) (v : Value) : Prop := ∃ (a : Addr) (b : Array UInt8) (i : Int) (t u : Tok) (x : Value), v = .ref a ∧ h.IsTuple a #[.bytes b t, .int i u, x]
def keyOf (h : Heap) (v : Value) : Key := match v with
  | .ref a => (match h.get? a with
    | some o => (match o.data with
      | .seq its _ => (match its.toList with
        | .bytes b _ :: .int i _ :: _ => (b.toList, i)
        | _ => ([], 0))
      | _ => ([], 0))
    | none => ([], 0))
  | _ => ([], 0)
theorem RowOk.at {h : Heap} {v : Value} (r : RowOk h v) : RowAt h (keyOf h) v := by
  obtain ⟨a, b, i, t, u, x, rfl, hi⟩ := r
  obtain ⟨o, ho, hc, n, hd⟩ := id hi
  have : keyOf h (.ref a) = (b.toList, i) := by
    unfold keyOf
    simp only [ho, hd]
  refine ⟨a, t, u, x, rfl, ?_⟩
  rw [this]
  simpa using hi
theorem RowOk.up {h h' : Heap} {v : Value} (r : RowOk h v) (hk : ∀ b o, h.get? b = some o → h'.get? b = some o) : RowOk h' v :=
  let ⟨a, b, i, t, u, x, e, q⟩ := r; ⟨a, b, i, t, u, x, e, IsTuple.up q hk⟩

def SrcO (o : Obj) : Prop := ∃ (p q : Int) (tp tq : Tok), LO o [Value.int p tp, Value.int q tq] ∧ 0 ≤ q ∧ q < 2147483647
theorem SrcO.at {h : Heap} {S : Addr} {o : Obj} (x : SrcO o) (e : h.get? S = some o) : SrcAt h S := let ⟨p, q, tp, tq, l, r⟩ := x; ⟨p, q, tp, tq, l.list e, r⟩
theorem SrcAt.o {h : Heap} {S : Addr} (x : SrcAt h S) : ∃ o, h.get? S = some o ∧ SrcO o := let ⟨p, q, tp, tq, l, r⟩ := x; let ⟨o, e, lo⟩ := LO.of l; ⟨o, e, p, q, tp, tq, lo, r⟩

def RowIn (objs : List (Addr × Obj)) (v : Value) : Prop := ∃ (a : Addr) (b : Array UInt8) (i : Int) (t u : Tok) (x : Value), v = .ref a ∧ (a, tobj [.bytes b t, .int i u, x]) ∈ objs
theorem RowIn.ok {K : Addr → Obj → Prop} {L : Addr} {h : Heap} {objs : List (Addr × Obj)} {v : Value} (r : RowIn objs v) (N : Nw K L h objs) : RowOk h v :=
  let ⟨a, b, i, t, u, x, e, m⟩ := r; ⟨a, b, i, t, u, x, e, isTuple_of (N _ m).1⟩
theorem RowIn.more {objs : List (Addr × Obj)} {p : Addr × Obj} {v : Value} (r : RowIn objs v) : RowIn (p :: objs) v := let ⟨a, b, i, t, u, x, e, m⟩ := r; ⟨a, b, i, t, u, x, e, .tail _ m⟩

section
variable {w : World} {A : Around} {E : Value → Shared → Prop} {s : Shared} {mg mb : Str → Option Value}
theorem rows_ {S : Addr} {ps : Arguments} {bd : List Stmt} {sc : Scope} {a : Addr} {Q : Value → Shared → Prop}
    (R : Rm A 6 60) (G : Gl PW mg mb s.heap) (hdef : PW.theDef "_law_rows" = some (ps, bd, sc)) (f : FnAt mg s.heap "_law_rows" ps bd sc a)
    (hS : SrcAt s.heap S)
    (h : ∀ h' tk X vs, (∀ b o, b ≠ S → s.heap.get? b = some o → h'.get? b = some o) → SrcAt h' S → h'.IsList X (List.toArray vs) → s.heap.get? X = none → vs.length ≤ 9 → (∀ v ∈ vs, RowOk h' v) → Q (.ref X) { s with heap := h', toks := tk }) :
    wpAny (model PW w) A (call (.ref a) [.ref S]) Q E s := by
  obtain ⟨aT, fT⟩ := G.fn "_law_take" _ _ _ rfl (by decide)
  obtain ⟨aO, fO⟩ := G.fn "_law_one" _ _ _ rfl (by decide)
  have hS' := hS
  obtain ⟨p, q, tp, tq, hl, hq0, hq1⟩ := hS
  have e := (rfl : PW.theDef "_law_rows" = some (_, _, _))
  rw [e] at hdef
  cases hdef
  clear e
  refine call_fn (d := 5) (u := 57) R G f (fun _ _ _ => rfl) (locs rfl) fun L h₁ tk cd F hL R' hk => ?_
  clear f
  have hSlt : S < s.heap.objs.size := let ⟨_, e, _⟩ := hl; Heap.lt_size e
  have hLS : L ≠ S := by rw [hL]; exact Nat.ne_of_gt hSlt
  have F0 : Fk (KL s.heap S) L h₁ _ := F.re (fun b o e => F.keep b o e.1) (fun o e => F.off o e.1)
  have GG := G.kl hl
  have fT' := fT.kl hl
  have fO' := fO.kl hl
  have hSK : ∀ o, ¬ KL s.heap S S o := fun o e => e.2 rfl
  have hS1 : SrcAt h₁ S := hS'.at fun o e => hk S o e
  clear F
  generalize hA : A.deeper _ = A' at R' ⊢
  clear hA
  walk_at "go"
  obtain ⟨oS, hoS, hSO⟩ := hS1.o
  refine newListF F0 (Nw.cons (a := S) hoS (Ne.symm hLS) hSK Nw.nil) fun h2 V F2 N2 _ hV0 => ?_
  have hVS : V ≠ S := fun q => by rw [q, hoS] at hV0; cases hV0
  (try dsimp only)
  refine stF F2 N2 fun h3 F3 N3 _ => ?_
  have hVL := (N3 _ (.head _)).2.1
  have hVK := (N3 _ (.head _)).2.2
  clear F2 N2 hV0
  (try dsimp only)
  walk_at "go"
  refine wpAny_mono (for_range (K := KL s.heap S) (Q := fun f s' => f = .next ∧ ∃ (h : Heap) (tk : Nat) (oS : Obj) (found : List Value) (n : Nat) (objs : List (Addr × Obj)), s' = { s with heap := h, toks := tk } ∧
      Fk (KL s.heap S) L h [("source", .ref S), ("found", .ref V)] ∧ Nw (KL s.heap S) L h ((S, oS) :: (V, lobj found n) :: objs) ∧ SrcO oS ∧ found.length ≤ 9 ∧ ∀ v ∈ found, RowIn objs v)
    (fun i bs news => (∀ p ∈ ([("source", .ref S), ("found", .ref V)] : List (Str × Value)), bs.lookup p.1 = some p.2) ∧ ∃ (oS : Obj) (found : List Value) (n : Nat) (objs : List (Addr × Obj)), news = (S, oS) :: (V, lobj found n) :: objs ∧ SrcO oS ∧ found.length = i ∧
      (∀ p ∈ objs, p.1 ≠ S ∧ p.1 ≠ V) ∧ ∀ v ∈ found, RowIn objs v) R'.hd ?_) (fun f s' q => ?_) fun _ _ x => x
  · walk_at "go"
    refine ldFn (ps := default) (bd := []) (sc := default) GG F3 fT.named ?_
    refine callWith_fn (fT' _ F3.keep) ?_
    walk_at "go"
    refine ⟨fun b o e _ => e, ?_⟩
    refine take_ (R'.le (by omega) (by omega)) (GG _ F3.keep) rfl (fT' _ F3.keep) (hSO.at (N3 _ (.tail _ (.head _))).1) (by decide) (by decide) fun h4 tk4 d td hk4 hS4 hd0 hd1 => ?_
    dsimp only at hk4
    have F4 := F3.but hLS hSK hk4
    have N4 : Nw (KL s.heap S) L h4 [(V, lobj [] 0)] := (Nw.sub N3 (fun p hp => by rw [List.mem_singleton.mp hp]; exact .head _)).but (fun p hp => by rw [List.mem_singleton.mp hp]; exact hVS) hk4
    clear F3 N3
    obtain ⟨oS4, hoS4, hSO4⟩ := hS4.o
    have N5 := Nw.cons (a := S) hoS4 (Ne.symm hLS) hSK N4
    clear N4
    walk_at "go"
    refine call_range_1 ?_
    have hk6 : ∀ o b o', h4.get? b = some o' → (h4.push o).get? b = some o' := fun o b o' e => Heap.get?_push_of_some o e
    obtain ⟨n, rfl⟩ := Int.eq_ofNat_of_zero_le hd0
    refine ⟨_, _, _, _, _, _, _, n, _, [(S, oS4), (V, lobj [] 0)], rfl, IsRange.new _ _ _ _ _ _ _, small_of (n := n) (by omega) (by omega) (by omega) (size_one _) (by omega), size_one _,
      F4.stays (hk6 _), N5.stays (hk6 _), ⟨by walk_at "weak", oS4, [], 0, [], rfl, hSO4, rfl, fun _ hp => (by cases hp), fun _ hp => (by cases hp)⟩, ?_, ?_⟩
    · rintro i bs news h7 tk7 it hi ⟨hbs, oS7, found, nf, objs, rfl, hSO7, hfl, hob, hrow⟩ hoff F7 N7
      clear F4 N5 hk6 hk4
      have hitS : S ≠ it.1 := hoff _ (.head _)
      have hitV : V ≠ it.1 := hoff _ (.tail _ (.head _))
      have hitO : ∀ p ∈ objs, p.1 ≠ it.1 := fun p hp => hoff p (.tail _ (.tail _ hp))
      have F8 : Fk (KL s.heap S) L h7 [("turn", .int (0 + (i : Int) * 1) tk7), ("source", .ref S), ("found", .ref V)] := F7.weak (by
        refine List.forall_mem_cons.mpr ⟨rfl, List.forall_mem_cons.mpr ⟨?_, List.forall_mem_cons.mpr ⟨?_, List.forall_mem_nil _⟩⟩⟩
        · exact hbs _ (.head _)
        · exact hbs _ (.tail _ (.head _)))
      clear F7
      have e0 : (0 : Int) + (i : Int) * 1 = (i : Int) := by omega
      rw [e0] at F8
      walk_at "go"
      refine ldFn (ps := default) (bd := []) (sc := default) GG F8 fO.named ?_
      refine callWith_fn (fO' _ F8.keep) ?_
      walk_at "go"
      refine bytes_one fun t1 k1 => ?_
      walk_at "go"
      (try dsimp only)
      refine newListF F8 N7 fun h9 T F9 N9 hk9 hT0 => ?_
      dsimp only at hk9 hT0
      have hTS : T ≠ S := fun q => by rw [q, (N7 _ (.tail _ (.head _))).1] at hT0; cases hT0
      clear F8 N7
      walk_at "go"
      refine ⟨fun b o e _ => hk9 b o e, ?_⟩
      refine one_ (R'.le (by omega) (by omega)) (GG _ F9.keep) rfl (fO' _ F9.keep) (hSO7.at (N9 _ (.tail _ (.tail _ (.head _)))).1) (isList_of (N9 _ (.head _)).1) hTS (by simp) (by simp) fun h10 tk10 key hk10 hS10 hkey => ?_
      obtain ⟨kb, kt, rfl⟩ : ∃ b t, key = .bytes b t := by
        simp only [List.mem_cons, List.not_mem_nil, or_false] at hkey
        rcases hkey with rfl | rfl | rfl | rfl | rfl | rfl <;> exact ⟨_, _, rfl⟩
      clear hkey hT0
      dsimp only at hk10 ⊢
      have F10 := F9.but hLS hSK hk10
      have N10 : Nw (KL s.heap S) L h10 (it :: (V, lobj found nf) :: objs) := (Nw.sub (news' := it :: (V, lobj found nf) :: objs) N9 (fun p hp => by
        rcases List.mem_cons.mp hp with rfl | hp
        · exact .tail _ (.head _)
        · exact .tail _ (.tail _ (.tail _ hp)))).but (fun p hp => by
          rcases List.mem_cons.mp hp with rfl | hp
          · exact Ne.symm hitS
          rcases List.mem_cons.mp hp with rfl | hp
          · exact hVS
          · exact (hob p hp).1) hk10
      clear F9 N9
      refine stF F10 N10 fun h11 F11 N11 hs11 => ?_
      have hS11 : SrcAt h11 S := hS10.at fun o e => (hs11.2 S (Ne.symm hLS)).trans e
      clear F10 N10
      (try dsimp only)
      walk_at "go"
      refine wpAny_Expr ?_
      refine wpAny_Call_append rfl rfl rfl rfl ?_
      walk_at "go"
      refine ⟨V, _, rfl, plainL_of (N11 _ (.tail _ (.head _))).1, ?_⟩
      walk_at "go"
      refine ldFn (ps := default) (bd := []) (sc := default) GG F11 fT.named ?_
      refine callWith_fn (fT' _ F11.keep) ?_
      walk_at "go"
      refine ⟨fun b o e _ => e, ?_⟩
      refine take_ (R'.le (by omega) (by omega)) (GG _ F11.keep) rfl (fT' _ F11.keep) hS11 (by decide) (by decide) fun h12 tk12 d td hk12 hS12 hd0 hd1 => ?_
      dsimp only at hk12
      have F12 := F11.but hLS hSK hk12
      have N12 : Nw (KL s.heap S) L h12 (it :: (V, lobj found nf) :: objs) := N11.but (fun p hp => by
          rcases List.mem_cons.mp hp with rfl | hp
          · exact Ne.symm hitS
          rcases List.mem_cons.mp hp with rfl | hp
          · exact hVS
          · exact (hob p hp).1) hk12
      obtain ⟨oS12, hoS12, hSO12⟩ := hS12.o
      have N13 := Nw.cons (a := S) hoS12 (Ne.symm hLS) hSK N12
      clear F11 N11 N12 hS11 hS12 hk12
      walk_at "go"
      refine newListF F12 N13 fun h14 T2 F14 N14 hk14 _ => ?_
      clear F12 N13
      dsimp only at hk14 ⊢
      walk_at "go"
      refine call_bytes_ints (isList_of (N14 _ (.head _)).1) (.cons (i : Int) _ .nil) (fun n hn => by rw [List.mem_singleton.mp hn]; omega) (by simp [sizeLine]) R'.hd fun h15 t15 k15 hk15 => ?_
      have F15 := F14.stays hk15
      have N15 := (Nw.sub N14 (fun p hp => List.mem_cons_of_mem _ hp)).stays hk15
      clear F14 N14 hk14
      (try dsimp only)
      walk_at "go"
      refine newTupleF F15 N15 fun h16 T3 F16 N16 _ hT3 => ?_
      dsimp only at hT3
      have hT3S : T3 ≠ S := fun q => by rw [q, (N15 _ (.head _)).1] at hT3; cases hT3
      have hT3V : T3 ≠ V := fun q => by rw [q, (N15 _ (.tail _ (.tail _ (.head _)))).1] at hT3; cases hT3
      have hT3I : T3 ≠ it.1 := fun q => by rw [q, (N15 _ (.tail _ (.head _))).1] at hT3; cases hT3
      clear F15 N15
      refine append_at (N16 _ (.tail _ (.tail _ (.tail _ (.head _))))).1 (fun h17 hs17 ho17 => ?_) (by rw [List.size_toArray]; exact Nat.le_trans (by omega : found.length ≤ 1000) (show 1000 ≤ sizeLine by decide))
      rw [List.push_toArray] at ho17
      have bt : ∀ b o, b ≠ V → h16.get? b = some o → h17.get? b = some o := fun b o hb e => (hs17.2 b hb).trans e
      have F17 := F16.but (Ne.symm hVL) hVK bt
      (try dsimp only)
      walk_at "go"
      refine ⟨h17, _, _, (S, oS12) :: (V, lobj (found ++ [.ref T3]) (nf + 1)) :: (T3, tobj [.bytes kb kt, .int d td, .bytes (byteArr [(i : Int)]) t15]) :: objs, rfl, F17, ?_, ?_, by walk_at "weak", oS12, _, _, _, rfl, hSO12, by simp [hfl], ?_, ?_⟩
      · intro p hp
        rcases List.mem_cons.mp hp with rfl | hp
        · exact ⟨bt _ _ (Ne.symm hitV) (N16 _ (.tail _ (.tail _ (.head _)))).1, (N16 _ (.tail _ (.tail _ (.head _)))).2⟩
        rcases List.mem_cons.mp hp with rfl | hp
        · exact ⟨bt _ _ (Ne.symm hVS) (N16 _ (.tail _ (.head _))).1, (N16 _ (.tail _ (.head _))).2⟩
        rcases List.mem_cons.mp hp with rfl | hp
        · exact ⟨ho17, hVL, hVK⟩
        rcases List.mem_cons.mp hp with rfl | hp
        · exact ⟨bt _ _ hT3V (N16 _ (.head _)).1, (N16 _ (.head _)).2⟩
        · have := N16 p (.tail _ (.tail _ (.tail _ (.tail _ hp))))
          exact ⟨bt _ _ (hob p hp).2 this.1, this.2⟩
      · intro p hp
        rcases List.mem_cons.mp hp with rfl | hp
        · exact hitS
        rcases List.mem_cons.mp hp with rfl | hp
        · exact hitV
        rcases List.mem_cons.mp hp with rfl | hp
        · exact hT3I
        · exact hitO p hp
      · intro p hp
        rcases List.mem_cons.mp hp with rfl | hp
        · exact ⟨hT3S, hT3V⟩
        · exact hob p hp
      · intro v hv
        rcases List.mem_append.mp hv with hv | hv
        · exact (hrow v hv).more
        · rw [List.mem_singleton.mp hv]
          exact ⟨T3, kb, d, kt, td, _, rfl, .head _⟩
    · rintro bs news h7 tk7 ⟨hbs, oS7, found, nf, objs, rfl, hSO7, hfl, hob, hrow⟩ F7 N7
      exact ⟨rfl, h7, _, oS7, found, nf, objs, rfl, F7.weak hbs, N7, hSO7, by omega, hrow⟩
  · obtain ⟨rfl, h7, tk7, oS7, found, nf, objs, rfl, F7, N7, hSO7, hfl, hrow⟩ := q
    clear F3 N3
    (try dsimp only)
    walk_at "go"
    refine ⟨_, rfl, h _ _ _ found (fun b o hb e => F7.keep b o ⟨e, hb⟩) (hSO7.at (N7 _ (.head _)).1) (isList_of (N7 _ (.tail _ (.head _))).1) ?_ hfl fun v hv => (hrow v hv).ok (Nw.sub N7 fun p hp => .tail _ (.tail _ hp))⟩
    cases q : s.heap.get? V with
    | none => rfl
    | some o => exact absurd ⟨q, hVS⟩ (hVK o)
end
section
variable {prog : Program} {w : World} {A : Around} {E : Value → Shared → Prop} {s : Shared}
theorem max_ints {a b : Int} {t u : Tok} {Q : Value → Shared → Prop} (hh : A.handled = none) (h : ∀ h' tk m tm, (∀ c o, s.heap.get? c = some o → h'.get? c = some o) → m = max a b → Q (.int m tm) { s with heap := h', toks := tk }) :
    wpAny (model prog w) A (call (.builtin "max") [.int a t, .int b u]) Q E s := by
  refine max_two_ints hh fun h' tk hk => ?_
  split
  · exact h _ _ _ _ hk (by omega)
  · exact h _ _ _ _ hk (by omega)
theorem min_ints {a b : Int} {t u : Tok} {Q : Value → Shared → Prop} (hh : A.handled = none) (h : ∀ h' tk m tm, (∀ c o, s.heap.get? c = some o → h'.get? c = some o) → m = min a b → Q (.int m tm) { s with heap := h', toks := tk }) :
    wpAny (model prog w) A (call (.builtin "min") [.int a t, .int b u]) Q E s := by
  refine min_two_ints hh fun h' tk hk => ?_
  split
  · exact h _ _ _ _ hk (by omega)
  · exact h _ _ _ _ hk (by omega)
end
section
variable {w : World} {A : Around} {E : Value → Shared → Prop} {s : Shared} {mg mb : Str → Option Value}
theorem pool_ {l : Addr} {vs : List Value} {ns : List Int} {k : Int} {tk₀ : Tok} {ps : Arguments} {bd : List Stmt} {sc : Scope} {a : Addr} {Q : Value → Shared → Prop}
    (R : Rm A 2 20) (G : Gl PW mg mb s.heap) (hdef : PW.theDef "_law_pool" = some (ps, bd, sc)) (f : FnAt mg s.heap "_law_pool" ps bd sc a)
    (hl : s.heap.IsList l vs.toArray) (hi : IntsAre vs ns) (hn : vs.length ≤ 1000) (hk0 : 0 ≤ k) (hk1 : k ≤ 100)
    (h : ∀ h' tk Y, (∀ b o, s.heap.get? b = some o → h'.get? b = some o) → SrcAt h' Y → s.heap.get? Y = none → Q (.ref Y) { s with heap := h', toks := tk }) :
    wpAny (model PW w) A (call (.ref a) [.ref l, .int k tk₀]) Q E s := by
  have e := (rfl : PW.theDef "_law_pool" = some (_, _, _))
  rw [e] at hdef
  cases hdef
  clear e
  refine call_fn (d := 1) (u := 17) R G f (fun _ _ _ => rfl) (locs rfl) fun L h₁ tk cd F hL R' hk => ?_
  clear f
  have GG := G.gk
  generalize hA : A.deeper _ = A' at R' ⊢
  clear hA
  walk_at "go"
  refine stF F Nw.nil fun h2 F2 N2 _ => ?_
  (try dsimp only)
  refine wpAny_execs_cons ?_
  refine wpAny_mono (Q := fun f s' => f = .next ∧ ∃ (h : Heap) (tk : Nat) (c : Int) (tc : Tok), s' = { s with heap := h, toks := tk } ∧ Fk (fun b o => s.heap.get? b = some o) L h [("script", .ref l), ("k", .int k tk₀), ("cell", .int c tc)]) ?_ (fun f s' q => ?_) fun _ _ x => x
  · refine wpAny_If ?_
    walk_at "go"
    refine len_list (IsList.up hl F2.keep) (by simp only [List.size_toArray]; omega) ?_
    refine lt_int ?_
    walk_at "go"
    refine split_bool (fun hc => ?_) (fun hc => ?_)
    · have hlt : k.toNat < vs.length := by
        have : k < (vs.toArray.size : Int) := by simpa using hc
        simp only [List.size_toArray] at this; omega
      obtain ⟨t, hx⟩ := hi.get k.toNat (ns[k.toNat]'(by rw [← hi.length]; exact hlt)) (List.getElem?_eq_getElem _)
      walk_at "go"
      refine item_ (IsList.up hl F2.keep) hk0 (by omega) hx ?_
      refine stF F2 N2 fun h3 F3 N3 _ => ?_
      dsimp only
      walk_at "go"
      exact ⟨rfl, h3, _, _, _, rfl, F3.weak (by walk_at "weak")⟩
    · (try simp only [Bool.false_eq_true, if_false])
      walk_at "go"
      exact ⟨rfl, h2, _, _, _, rfl, F2.weak (by walk_at "weak")⟩
  obtain ⟨rfl, h3, tk3, c, tc, rfl, F3⟩ := q
  clear F2 N2 F
  (try dsimp only)
  walk_at "go"
  refine call_int_int ?_
  walk_at "go"
  refine wpAny_UnaryOp ?_
  walk_at "go"
  refine neg_int ?_
  walk_at "go"
  refine PyProof.Rows.sub_int ?_
  walk_at "go"
  refine call_int_int ?_
  walk_at "go"
  refine max_ints R'.hd fun h4 tk4 B tB hk4 _ => ?_
  have F4 := F3.stays hk4
  clear F3 hk4
  refine stF F4 Nw.nil fun h5 F5 N5 _ => ?_
  clear F4
  (try dsimp only)
  walk_at "go"
  refine call_int_int ?_
  walk_at "go"
  refine PyProof.Rows.mod_int (by decide) ?_
  walk_at "go"
  refine PyProof.Rows.mul_int ?_ (IntMulOk.of_left (by decide))
  walk_at "go"
  refine PyProof.Rows.mul_int ?_ (IntMulOk.of_right (intBits_le_64 (by omega) (by omega)))
  walk_at "go"
  refine PyProof.Rows.add_int ?_
  walk_at "go"
  refine PyProof.Rows.mul_int ?_ (IntMulOk.of_left (by decide))
  walk_at "go"
  refine PyProof.Rows.add_int ?_
  walk_at "go"
  refine PyProof.Rows.add_int ?_
  walk_at "go"
  refine PyProof.Rows.mul_int ?_ (IntMulOk.of_right (by decide))
  walk_at "go"
  refine call_int_int ?_
  walk_at "go"
  refine PyProof.Rows.mod_int (by decide) ?_
  generalize hq : Int.fmod _ 2147483647 = q
  have q0 : 0 ≤ q := by rw [← hq, Int.fmod_eq_emod_of_nonneg _ (by decide)]; exact Int.emod_nonneg _ (by decide)
  have q1 : q < 2147483647 := by rw [← hq, Int.fmod_eq_emod_of_nonneg _ (by decide)]; exact Int.emod_lt_of_pos _ (by decide)
  clear hq
  refine stF F5 N5 fun h6 F6 N6 _ => ?_
  clear F5 N5
  (try dsimp only)
  walk_at "go"
  refine PyProof.Rows.pow_int (by decide) (by decide) ?_
  walk_at "go"
  refine PyProof.Rows.ge_int ?_
  walk_at "go"
  refine call_int_bool ?_
  walk_at "go"
  refine PyProof.Rows.mul_int ?_ (IntMulOk.of_right (by split <;> decide))
  generalize B * _ = p
  walk_at "go"
  refine newListF F6 N6 fun h7 Y F7 N7 _ hY0 => ?_
  refine ⟨_, rfl, h _ _ _ F7.keep ⟨p, q, _, _, isList_of (N7 _ (.head _)).1, q0, q1⟩ ?_⟩
  cases e : s.heap.get? Y with
  | none => rfl
  | some o => dsimp only at hY0; rw [F6.keep _ _ e] at hY0; cases hY0
end
end Mine

/-! ===== m9body ===== -/
namespace Mine
open PySem PySem.Calls PyProof.Rows
local macro_rules | `(tactic| walk_at "mine") => `(tactic| first
  | with_reducible refine wpAny_execs_cons ?_
  | with_reducible refine wpAny_execs_nil ?_
  | with_reducible refine wpAny_Return_some ?_
  | with_reducible refine wpAny_If ?_
  | with_reducible refine wpAny_Constant_int ?_
  | with_reducible refine PySem.W.Constant_bytes ?_
  | with_reducible refine wpAny_Constant_bool ?_
  | with_reducible refine wpAny_isTrue_BoolOp ?_
  | with_reducible refine wpAny_allTrue_And_cons ?_
  | with_reducible refine wpAny_allTrue_And_nil ?_
  | with_reducible refine wpAny_allTrue_Or_cons ?_
  | with_reducible refine wpAny_allTrue_Or_nil ?_
  | with_reducible refine wpAny_BinOp ?_
  | with_reducible refine Tuple_ ?_
  | with_reducible refine List_ ?_
  | with_reducible refine args_nil ?_
  | with_reducible refine wpAny_truthy_bool ?_
  | ((with_reducible show wpAny _ _ (exec (.Assign [.Name _ _] _ _) _) _ _ _); refine wpAny_Assign_Name ?_)
  | ((with_reducible show wpAny _ _ (exec (.AugAssign (.Name _ _) _ _ _) _) _ _ _); refine wpAny_AugAssign_Name ?_)
  | ((with_reducible show wpAny _ _ (eval (.Compare _ [_] [_] _) _) _ _ _); refine wpAny_Compare1 ?_)
  | ((with_reducible show wpAny _ _ (isTrue (.Compare _ [_] [_] _) _ _) _ _ _); refine wpAny_isTrue_Compare1 ?_)
  | ((with_reducible show wpAny _ _ (eval (.Subscript _ _ _) _) _ _ _); (fail_if_success (with_reducible show wpAny _ _ (eval (.Subscript _ (.Slice _ _ _ _) _) _) _ _ _)); refine Subscript_ ?_)
  | ((with_reducible show wpAny _ _ (spliced (backTo _ (starEach (_ :: _) _))) _ _ _); refine args_cons ?_)
  | ((with_reducible show wpAny _ _ (eval (.Call (.Name _ _) _ [] _) _) _ _ _); refine Call_ ?_)
  | ((with_reducible show wpAny _ _ (callWith _ (.builtin _) [] (backTo _ (starEach (_ :: _) _)) []) _ _ _); refine PyProof.Rows.callWith_builtin1 ?_)
  | ((with_reducible show wpAny _ _ (callWith _ (.type _) [] (backTo _ (starEach (_ :: _) _)) []) _ _ _); refine PyProof.Rows.callWith_type1 ?_))
local macro_rules | `(tactic| walk_at "name") => `(tactic| first
  | ((with_reducible show wpAny _ _ (eval (.Name _ _) _) _ _ _); refine ldF (by assumption) (by rfl) ?_)
  | ((with_reducible show wpAny _ _ (eval (.Name _ _) _) _ _ _); refine ldBi (by assumption) (by assumption) (by rfl) ?_)
  | ((with_reducible show wpAny _ _ (loadName _ _) _ _ _); refine ldnF (by assumption) (by rfl) ?_))
local macro_rules | `(tactic| walk_at "weak") => `(tactic| first
  | exact List.forall_mem_nil _
  | (refine List.forall_mem_cons.mpr ⟨?_, ?_⟩; (first | exact rfl | (refine Eq.trans rfl ?_; assumption)); walk_at "weak"))
local macro_rules | `(tactic| walk_at "go") => `(tactic| ((try dsimp only); repeat (first | walk_at "mine" | walk_at "name"); (try dsimp only)))
theorem isTuple_ne {h : Heap} {L T : Addr} {m : Str → Option Value} {its : Array Value} (hl : h.IsTuple T its) (hn : h.Ns L m) : T ≠ L := by
  rintro rfl
  obtain ⟨o, ho, _, n, hd⟩ := hl
  obtain ⟨o', es, ep, ho', hd', _⟩ := hn
  rw [ho] at ho'
  rw [← Option.some.inj ho', hd] at hd'
  cases hd'
theorem tuple_ne_list {h : Heap} {S T : Addr} {its its' : Array Value} (hl : h.IsTuple T its) (hS : h.IsList S its') : T ≠ S := by
  rintro rfl
  obtain ⟨o, ho, hc, _⟩ := hl
  obtain ⟨o', ho', hc', _⟩ := hS
  rw [ho] at ho'
  rw [← Option.some.inj ho', hc] at hc'
  revert hc'; decide

/-- the state within _law_right -/
structure RS (K : Addr → Obj → Prop) (S L : Addr) (vs : List Value) (κ : Value → Key) (h : Heap) (bs : List (Str × Value)) (ls : List (Addr × List Value)) : Prop where
  F : Fk K L h bs
  src : SrcAt h S
  ls : ∀ p ∈ ls, h.IsList p.1 p.2.toArray ∧ ∀ v ∈ p.2, v ∈ vs
  rows : ∀ v ∈ vs, RowAt h κ v

section
variable {K : Addr → Obj → Prop} {S L : Addr} {vs : List Value} {κ : Value → Key} {h h' : Heap} {bs bs' : List (Str × Value)} {ls : List (Addr × List Value)}
theorem RS.stays (R : RS K S L vs κ h bs ls) (hk : ∀ b o, h.get? b = some o → h'.get? b = some o) : RS K S L vs κ h' bs ls :=
  ⟨R.F.stays hk, R.src.at fun o e => hk S o e, fun p hp => ⟨IsList.up (R.ls p hp).1 hk, (R.ls p hp).2⟩, fun v hv => (R.rows v hv).up hk⟩
theorem RS.add (R : RS K S L vs κ h bs ls) {Y : Addr} {us : List Value} (hY : h.IsList Y us.toArray) (hu : ∀ v ∈ us, v ∈ vs) : RS K S L vs κ h bs ((Y, us) :: ls) :=
  ⟨R.F, R.src, fun p hp => by
    rcases List.mem_cons.mp hp with rfl | hp
    · exact ⟨hY, hu⟩
    · exact R.ls p hp, R.rows⟩
theorem RS.weak (R : RS K S L vs κ h bs ls) (hw : ∀ p ∈ bs', bs.lookup p.1 = some p.2) : RS K S L vs κ h bs' ls := ⟨R.F.weak hw, R.src, R.ls, R.rows⟩
theorem RS.put (R : RS K S L vs κ h bs ls) (hLS : L ≠ S) (F : Fk K L h' bs') (hs : Heap.SameBut L h h') : RS K S L vs κ h' bs' ls := by
  obtain ⟨m, hn, _⟩ := R.F.ns
  refine ⟨F, R.src.at fun o e => (hs.2 S (Ne.symm hLS)).trans e, fun p hp => ⟨(R.ls p hp).1.at fun o e => (hs.2 _ (isList_ne (R.ls p hp).1 hn)).trans e, (R.ls p hp).2⟩, fun v hv => ?_⟩
  obtain ⟨a, t, u, x, e, i⟩ := R.rows v hv
  obtain ⟨o, ho, r⟩ := id i
  exact ⟨a, t, u, x, e, o, (hs.2 _ (isTuple_ne i hn)).trans ho, r⟩
theorem RS.ne (R : RS K S L vs κ h bs ls) {p : Addr × List Value} (hp : p ∈ ls) : p.1 ≠ S := by
  intro q
  obtain ⟨hl, hv⟩ := R.ls p hp
  obtain ⟨i, j, ti, tj, hS, _⟩ := R.src
  rw [q] at hl
  obtain ⟨o, ho, _, n, hd⟩ := hl
  obtain ⟨o', ho', _, n', hd'⟩ := hS
  rw [ho] at ho'
  rw [← Option.some.inj ho', hd] at hd'
  have e : p.2 = [Value.int i ti, Value.int j tj] := by
    have := (Data.seq.inj hd').1
    simpa using this
  have hm := hv (Value.int i ti) (by rw [e]; exact .head _)
  obtain ⟨a, t, u, x, ex, _⟩ := R.rows _ hm
  cases ex
theorem RS.took (R : RS K S L vs κ h bs ls) (hLS : L ≠ S) (hSK : ∀ o, ¬ K S o) (hk : ∀ b o, b ≠ S → h.get? b = some o → h'.get? b = some o) (hS : SrcAt h' S) : RS K S L vs κ h' bs ls := by
  refine ⟨R.F.but hLS hSK hk, hS, fun p hp => ⟨(R.ls p hp).1.at fun o e => hk _ o (R.ne hp) e, (R.ls p hp).2⟩, fun v hv => ?_⟩
  obtain ⟨a, t, u, x, e, i⟩ := R.rows v hv
  obtain ⟨q1, q2, tq1, tq2, hl, _⟩ := R.src
  obtain ⟨o, ho, r⟩ := id i
  exact ⟨a, t, u, x, e, o, hk a o (tuple_ne_list i hl) ho, r⟩
end

section
variable {w : World} {A : Around} {E : Value → Shared → Prop} {s : Shared} {mg mb : Str → Option Value} {K : Addr → Obj → Prop} {S L : Addr} {vs : List Value} {κ : Value → Key} {bs : List (Str × Value)} {ls : List (Addr × List Value)}

/-- a def, wherever K is kept -/
def FnK (mg : Str → Option Value) (K : Addr → Obj → Prop) (name : Str) (a : Addr) : Prop :=
  mg name = some (.ref a) ∧ ∃ ps bd sc, PW.theDef name = some (ps, bd, sc) ∧ (∀ hh : Heap, (∀ b o, K b o → hh.get? b = some o) → FnAt mg hh name ps bd sc a) ∧ ∃ o, ∀ hh : Heap, (∀ b o, K b o → hh.get? b = some o) → hh.get? a = some o

theorem callWith_fnK {env : Env} {pos : Pos} {name : Str} {a : Addr} {e : Expr} {rest : List Expr} {Q : Value → Shared → Prop} (f : FnK mg K name a) (hk : ∀ b o, K b o → s.heap.get? b = some o)
    (h : wpAny (model PW w) A (spliced (backTo pos (starEach (e :: rest) env))) (fun vs s₁ => (∀ b o, K b o → s₁.heap.get? b = some o) ∧ wpAny (model PW w) A (call (.ref a) vs) Q E s₁) E s)
    (he : starEach (e :: rest) env = (false, eval e env) :: starEach rest env := by rfl) :
    wpAny (model PW w) A (callWith pos (.ref a) [] (backTo pos (starEach (e :: rest) env)) []) Q E s := by
  obtain ⟨_, ps, bd, sc, hd, fa, o, ho⟩ := f
  obtain ⟨o', pm, cd, dc, h1, h2, h3⟩ := (fa _ hk).at_
  have : o' = o := by rw [ho _ hk] at h1; exact (Option.some.inj h1).symm
  subst this
  exact callWith_def h2 (wpAny_mono h (fun vs s₁ q => ⟨ho _ q.1, q.2⟩) fun _ _ x => x) he

theorem msort_ {X a : Addr} {us : List Value} {Q : Value → Shared → Prop} (R : RS K S L vs κ s.heap bs ls) (rm : Rm A 4 40) (G : GK PW mg mb K) (f : FnK mg K "merge_sorted" a) (hX : (X, us) ∈ ls) (hn : us.length ≤ 500)
    (h : ∀ h' tk Y, RS K S L vs κ h' bs ((Y, srt (kl κ) us) :: ls) → Q (.ref Y) { s with heap := h', toks := tk }) : wpAny (model PW w) A (call (.ref a) [.ref X]) Q E s := by
  obtain ⟨_, ps, bd, sc, hd, fa, _⟩ := f
  refine merge_sorted_ (κ := κ) rm (G _ R.F.keep) hd (fa _ R.F.keep) (R.ls _ hX).1 (fun v hv => R.rows v ((R.ls _ hX).2 v hv)) hn fun h' tk Y hk hY => ?_
  exact h h' tk Y ((R.stays hk).add hY fun v hv => (R.ls _ hX).2 v ((srt_mem _ _ _).mp hv))
theorem count_ {X a : Addr} {us : List Value} {Q : Value → Shared → Prop} (R : RS K S L vs κ s.heap bs ls) (rm : Rm A 2 40) (G : GK PW mg mb K) (f : FnK mg K "_law_counted" a) (hX : (X, us) ∈ ls) (hn : us.length ≤ 500)
    (h : ∀ h' tk Y, RS K S L vs κ h' bs ((Y, srt (kl κ) us) :: ls) → Q (.ref Y) { s with heap := h', toks := tk }) : wpAny (model PW w) A (call (.ref a) [.ref X]) Q E s := by
  obtain ⟨_, ps, bd, sc, hd, fa, _⟩ := f
  refine counted_ (κ := κ) rm (G _ R.F.keep) hd (fa _ R.F.keep) (R.ls _ hX).1 (fun v hv => R.rows v ((R.ls _ hX).2 v hv)) hn fun h' tk Y hk hY => ?_
  exact h h' tk Y ((R.stays hk).add hY fun v hv => (R.ls _ hX).2 v ((srt_mem _ _ _).mp hv))
theorem merge_ {X X' a : Addr} {us us' : List Value} {Q : Value → Shared → Prop} (R : RS K S L vs κ s.heap bs ls) (rm : Rm A 2 20) (G : GK PW mg mb K) (f : FnK mg K "merged" a) (hX : (X, srt (kl κ) us) ∈ ls) (hX' : (X', srt (kl κ) us') ∈ ls) (hn : us.length + us'.length ≤ 500)
    (h : ∀ h' tk Y, RS K S L vs κ h' bs ((Y, srt (kl κ) (us ++ us')) :: ls) → Q (.ref Y) { s with heap := h', toks := tk }) : wpAny (model PW w) A (call (.ref a) [.ref X, .ref X']) Q E s := by
  obtain ⟨_, ps, bd, sc, hd, fa, _⟩ := f
  refine merged_ (κ := κ) rm (G _ R.F.keep) hd (fa _ R.F.keep) (R.ls _ hX).1 (R.ls _ hX').1 (fun v hv => R.rows v (hv.elim ((R.ls _ hX).2 v) ((R.ls _ hX').2 v))) (by rw [srt_length, srt_length]; omega) fun h' tk Y hk hY _ => ?_
  rw [mrg_srt (kl_wk κ)] at hY
  refine h h' tk Y ((R.stays hk).add hY fun v hv => ?_)
  have hv' := (srt_mem _ _ _).mp hv
  rcases List.mem_append.mp hv' with q | q
  · exact (R.ls _ hX).2 v ((srt_mem _ _ _).mpr q)
  · exact (R.ls _ hX').2 v ((srt_mem _ _ _).mpr q)
theorem took_ {a : Addr} {top : Int} {tt : Tok} {Q : Value → Shared → Prop} (R : RS K S L vs κ s.heap bs ls) (hLS : L ≠ S) (hSK : ∀ o, ¬ K S o) (rm : Rm A 2 20) (G : GK PW mg mb K) (f : FnK mg K "_law_take" a) (h0 : 0 < top) (h1 : top ≤ 1000)
    (h : ∀ h' tk d td, RS K S L vs κ h' bs ls → 0 ≤ d → d < top → Q (.int d td) { s with heap := h', toks := tk }) : wpAny (model PW w) A (call (.ref a) [.ref S, .int top tt]) Q E s := by
  obtain ⟨_, ps, bd, sc, hd, fa, _⟩ := f
  exact take_ rm (G _ R.F.keep) hd (fa _ R.F.keep) R.src h0 h1 fun h' tk d td hk hS hd0 hd1 => h h' tk d td (R.took hLS hSK hk hS) hd0 hd1
theorem put_ {name : Str} {scope : Scope} {a : Addr} {cd : Value} {x : Str} {v : Value} {Q : Unit → Shared → Prop} (R : RS K S L vs κ s.heap bs ls) (hLS : L ≠ S)
    (h : ∀ h', RS K S L vs κ h' ((x, v) :: bs) ls → Q () { s with heap := h', toks := s.toks + 1 })
    (hk : scope.kind = .function := by rfl) (hl : (envOf name scope L a cd).kindOf x = some .local := by rfl) :
    wpAny (model PW w) A (storeName (envOf name scope L a cd) x v) Q E s :=
  stF R.F Nw.nil (fun h' F _ hs => h h' (R.put hLS F hs)) hk hl
theorem tup_ {us : List Value} {Q : Value → Shared → Prop} (R : RS K S L vs κ s.heap bs ls) (h : ∀ h' T, RS K S L vs κ h' bs ls → h'.IsTuple T us.toArray → Q (.ref T) { s with heap := h' }) (hn : us.length ≤ 1000 := by (simp only [List.length_cons, List.length_nil]; omega)) :
    wpAny (model PW w) A (newTuple us) Q E s :=
  newTupleF R.F Nw.nil (fun h' T _ N hk _ => h h' T (R.stays hk) (isTuple_of (N _ (.head _)).1)) hn
theorem copy_ {X : Addr} {us : List Value} {Q : Value → Shared → Prop} (R : RS K S L vs κ s.heap bs ls) (hX : (X, us) ∈ ls) (hn : us.length ≤ 500) (h : ∀ h' Y, RS K S L vs κ h' bs ((Y, us) :: ls) → Q (.ref Y) { s with heap := h' }) :
    wpAny (model PW w) A (call (.type "list") [.ref X]) Q E s := by
  obtain ⟨o, ho, hc, n, hd⟩ := (R.ls _ hX).1
  exact call_list_seq (hsz := by rw [List.size_toArray]; exact Nat.le_trans hn (show 500 ≤ sizeLine by decide)) X (.inl rfl) ho hc hd fun h' c' hk hD => h h' _ ((R.stays hk).add ⟨_, hD, rfl, c', rfl⟩ (R.ls _ hX).2)
end

theorem fnK_of {mg mb : Str → Option Value} {h : Heap} {S : Addr} {its : Array Value} (G : Gl PW mg mb h) (hS : h.IsList S its) {name : Str} {ps : Arguments} {bd : List Stmt} {sc : Scope} (hd : PW.theDef name = some (ps, bd, sc)) (hne : name ∈ theNames) :
    ∃ a, FnK mg (KL h S) name a := by
  obtain ⟨a, f⟩ := G.fn _ _ _ _ hd hne
  refine ⟨a, f.named, ps, bd, sc, hd, f.kl hS, ?_⟩
  obtain ⟨o, pm, cd, dc, h1, h2, _⟩ := f.at_
  refine ⟨o, fun hh kk => kk a o ⟨h1, fun q => ?_⟩⟩
  obtain ⟨oS, hoS, _, n, hdS⟩ := hS
  rw [q, hoS] at h1
  rw [← Option.some.inj h1, hdS] at h2
  cases h2
section
variable {prog : Program} {w : World} {A : Around} {E : Value → Shared → Prop} {s : Shared} {env : Env}
/-- three names at once; the machine stores the last one first -/
theorem assign3_ {x y z : Str} {px py pz tpos pos : Pos} {k : Nat} {value : Expr} {Q : Flow → Shared → Prop} (hh : A.handled = none)
    (h : wpAny (model prog w) A (eval value env) (fun v s₁ => ∃ T v1 v2 v3, v = .ref T ∧ s₁.heap.IsTuple T #[v1, v2, v3] ∧ ∀ h', (∀ b o, s₁.heap.get? b = some o → h'.get? b = some o) →
      wpAny (model prog w) A (storeName env z v3) (fun _ s₂ => wpAny (model prog w) A (storeName env y v2) (fun _ s₃ => wpAny (model prog w) A (storeName env x v1) (fun _ => Q .next) E s₃) E s₂) E { s₁ with heap := h' }) E s)
    (hs : swapsWithSole [.Tuple [.Name x px, .Name y py, .Name z pz] k tpos] value pos.line env = pure false := by rfl)
    (hw : swappedStores [.Tuple [.Name x px, .Name y py, .Name z pz] k tpos] value env = pure (some [x, y, z]) := by rfl) :
    wpAny (model prog w) A (exec (.Assign [.Tuple [.Name x px, .Name y py, .Name z pz] k tpos] value pos) env) Q E s := by
  refine Assign_Tuple_swapped (names := [x, y, z]) (wpAny_mono h (fun v s₁ q => ?_) fun _ _ e => e) hs hw
  obtain ⟨T, v1, v2, v3, rfl, ht, hQ⟩ := q
  refine wpAny_unpackItems_tuple (items := #[v1, v2, v3]) hh ht fun h' hx => ?_
  show wpAny _ _ (assignInOrder [bindName env z, bindName env y, bindName env x] [v3, v2, v1]) _ _ _
  refine wpAny_assignInOrder_more (wpAny_bindName (wpAny_mono (hQ h' fun b o e => hx b o (Nat.ne_of_lt (Heap.lt_size e)) e) (fun _ s₂ q => ?_) fun _ _ e => e))
  refine wpAny_assignInOrder_more (wpAny_bindName (wpAny_mono q (fun _ s₃ q => ?_) fun _ _ e => e))
  exact wpAny_assignInOrder_more (wpAny_bindName (wpAny_mono q (fun _ s₄ q => wpAny_assignInOrder_none q) fun _ _ e => e))
end

local macro_rules | `(tactic| walk_at "name") => `(tactic| first
  | ((with_reducible show wpAny _ _ (eval (.Name _ _) _) _ _ _); refine ldF (RS.F (by assumption)) (by rfl) ?_)
  | ((with_reducible show wpAny _ _ (eval (.Name _ _) _) _ _ _); refine ldBi (by assumption) (RS.F (by assumption)) (by rfl) ?_))
local macro_rules | `(tactic| walk_at "mem") => `(tactic| first | exact List.Mem.head _ | (refine List.Mem.tail _ ?_; walk_at "mem"))
section
variable {w : World} {A : Around} {E : Value → Shared → Prop} {s : Shared} {mg mb : Str → Option Value}
theorem right_ {S : Addr} {ps : Arguments} {bd : List Stmt} {sc : Scope} {a : Addr} {Q : Value → Shared → Prop}
    (R : Rm A 8 80) (G : Gl PW mg mb s.heap) (hdef : PW.theDef "_law_right" = some (ps, bd, sc)) (f : FnAt mg s.heap "_law_right" ps bd sc a)
    (hS : SrcAt s.heap S)
    (h : ∀ h' tk, (∀ b o, b ≠ S → s.heap.get? b = some o → h'.get? b = some o) → Q (.bool true) { s with heap := h', toks := tk }) :
    wpAny (model PW w) A (call (.ref a) [.ref S]) Q E s := by
  have hS' := hS
  obtain ⟨p, q, tp, tq, hl, hq0, hq1⟩ := hS
  obtain ⟨aT, fT⟩ := fnK_of G hl (name := "_law_take") rfl (by decide)
  obtain ⟨aR, fR⟩ := fnK_of G hl (name := "_law_rows") rfl (by decide)
  obtain ⟨aC, fC⟩ := fnK_of G hl (name := "_law_counted") rfl (by decide)
  obtain ⟨aM, fM⟩ := fnK_of G hl (name := "merged") rfl (by decide)
  obtain ⟨aS, fS⟩ := fnK_of G hl (name := "merge_sorted") rfl (by decide)
  have e := (rfl : PW.theDef "_law_right" = some (_, _, _))
  rw [e] at hdef
  cases hdef
  clear e
  refine call_fn (d := 7) (u := 77) R G f (fun _ _ _ => rfl) (locs rfl) fun L h₁ tk cd F hL R' hk => ?_
  clear f
  have hSlt : S < s.heap.objs.size := let ⟨_, e, _⟩ := hl; Heap.lt_size e
  have hLS : L ≠ S := by rw [hL]; exact Nat.ne_of_gt hSlt
  have F0 : Fk (KL s.heap S) L h₁ _ := F.re (fun b o e => F.keep b o e.1) (fun o e => F.off o e.1)
  have GG := G.kl hl
  have hSK : ∀ o, ¬ KL s.heap S S o := fun o e => e.2 rfl
  have hS1 : SrcAt h₁ S := hS'.at fun o e => hk S o e
  have hfin : ∀ h' : Heap, (∀ b o, KL s.heap S b o → h'.get? b = some o) → ∀ b o, b ≠ S → s.heap.get? b = some o → h'.get? b = some o := fun h' kk b o hb e => kk b o ⟨e, hb⟩
  generalize hK : KL s.heap S = K at F0 GG hSK hfin fT fR fC fM fS
  clear F hK hS' hl
  generalize hA : A.deeper _ = A' at R' ⊢
  clear hA
  walk_at "go"
  refine ldFn (ps := default) (bd := []) (sc := default) GG F0 fR.1 ?_
  refine callWith_fnK fR F0.keep ?_
  walk_at "go"
  refine ⟨F0.keep, ?_⟩
  obtain ⟨_, psR, bdR, scR, hdR, faR, _⟩ := fR
  refine rows_ (R'.le (by omega) (by omega)) (GG _ F0.keep) hdR (faR _ F0.keep) hS1 fun h2 tk2 X vs hk2 hS2 hX _ hn hrows => ?_
  have r2 : RS K S L vs (keyOf h2) h2 [("source", .ref S)] [(X, vs)] := ⟨F0.but hLS hSK hk2, hS2, fun p hp => by rw [List.mem_singleton.mp hp]; exact ⟨hX, fun _ hv => hv⟩, fun v hv => (hrows v hv).at⟩
  clear F0 hS1 hk2 hS2 hX hrows hdR faR
  generalize keyOf h2 = κ at r2
  refine put_ r2 hLS fun h3 r3 => ?_
  clear r2
  walk_at "go"
  -- kept, due = (list(rows), _law_counted(rows))
  refine assign2_ R'.hd ?_
  walk_at "go"
  refine copy_ r3 (by walk_at "mem") (by omega) fun h4 Y r4 => ?_
  clear r3
  walk_at "go"
  refine ldFn (ps := default) (bd := []) (sc := default) GG r4.F fC.1 ?_
  refine callWith_fnK fC r4.F.keep ?_
  walk_at "go"
  refine ⟨r4.F.keep, ?_⟩
  refine count_ r4 (R'.le (by omega) (by omega)) GG fC (by walk_at "mem") (by omega) fun h5 tk5 D r5 => ?_
  clear r4
  walk_at "go"
  refine tup_ r5 fun h6 T6 r6 hT6 => ?_
  clear r5
  refine ⟨T6, _, _, rfl, hT6, fun h7 hk7 => ?_⟩
  have r7 := r6.stays hk7
  clear r6 hT6 hk7
  refine put_ r7 hLS fun h8 r8 => ?_
  clear r7
  refine put_ r8 hLS fun h9 r9 => ?_
  clear r8
  -- if merge_sorted(rows) != due or rows != kept or merge_sorted(due) != due
  walk_at "go"
  refine ldFn (ps := default) (bd := []) (sc := default) GG r9.F fS.1 ?_
  refine callWith_fnK fS r9.F.keep ?_
  walk_at "go"
  refine ⟨r9.F.keep, ?_⟩
  refine msort_ r9 (R'.le (by omega) (by omega)) GG fS (by walk_at "mem") (by omega) fun h10 tk10 Z10 r10 => ?_
  clear r9
  walk_at "go"
  refine ne_same (r10.ls _ (.head _)).1 (r10.ls (D, _) (by walk_at "mem")).1 R'.u ?_
  walk_at "go"
  (try simp only [Bool.false_eq_true, if_false])
  walk_at "go"
  refine ne_same (r10.ls (X, vs) (by walk_at "mem")).1 (r10.ls (Y, vs) (by walk_at "mem")).1 R'.u ?_
  walk_at "go"
  (try simp only [Bool.false_eq_true, if_false])
  walk_at "go"
  refine ldFn (ps := default) (bd := []) (sc := default) GG r10.F fS.1 ?_
  refine callWith_fnK fS r10.F.keep ?_
  walk_at "go"
  refine ⟨r10.F.keep, ?_⟩
  refine msort_ r10 (R'.le (by omega) (by omega)) GG fS (X := D) (by walk_at "mem") (by rw [srt_length]; omega) fun h11 tk11 Z11 r11 => ?_
  clear r10
  rw [srt_srt (kl_wk κ)] at r11
  walk_at "go"
  refine ne_same (r11.ls _ (.head _)).1 (r11.ls (D, _) (by walk_at "mem")).1 R'.u ?_
  walk_at "go"
  (try simp only [Bool.false_eq_true, if_false])
  walk_at "go"
  (try simp only [Bool.false_eq_true, if_false])
  walk_at "go"
  -- first, second
  refine assign2_ R'.hd ?_
  walk_at "go"
  refine ldFn (ps := default) (bd := []) (sc := default) GG r11.F fT.1 ?_
  refine callWith_fnK fT r11.F.keep ?_
  walk_at "go"
  refine len_list (r11.ls (X, vs) (by walk_at "mem")).1 (by simp only [List.size_toArray]; omega) ?_
  walk_at "go"
  refine PyProof.Rows.add_int ?_
  walk_at "go"
  refine ⟨r11.F.keep, ?_⟩
  refine took_ r11 hLS hSK (R'.le (by omega) (by omega)) GG fT (by simp only [List.size_toArray]; omega) (by simp only [List.size_toArray]; omega) fun h12 tk12 d1 td1 r12 hd1 hd1' => ?_
  clear r11
  walk_at "go"
  refine ldFn (ps := default) (bd := []) (sc := default) GG r12.F fT.1 ?_
  refine callWith_fnK fT r12.F.keep ?_
  walk_at "go"
  refine len_list (r12.ls (X, vs) (by walk_at "mem")).1 (by simp only [List.size_toArray]; omega) ?_
  walk_at "go"
  refine PyProof.Rows.add_int ?_
  walk_at "go"
  refine ⟨r12.F.keep, ?_⟩
  refine took_ r12 hLS hSK (R'.le (by omega) (by omega)) GG fT (by simp only [List.size_toArray]; omega) (by simp only [List.size_toArray]; omega) fun h13 tk13 d2 td2 r13 hd2 hd2' => ?_
  clear r12
  simp only [List.size_toArray] at hd1' hd2'
  walk_at "go"
  refine tup_ r13 fun h14 T14 r14 hT14 => ?_
  clear r13
  refine ⟨T14, _, _, rfl, hT14, fun h15 hk15 => ?_⟩
  have r15 := r14.stays hk15
  clear r14 hT14 hk15
  refine put_ r15 hLS fun h16 r16 => ?_
  clear r15
  refine put_ r16 hLS fun h17 r17 => ?_
  clear r16
  -- low, high
  walk_at "go"
  refine assign2_ R'.hd ?_
  walk_at "go"
  refine min_ints R'.hd fun h18 tk18 m1 tm1 hk18 hm1 => ?_
  have r18 := r17.stays hk18
  clear r17 hk18
  walk_at "go"
  refine max_ints R'.hd fun h19 tk19 m2 tm2 hk19 hm2 => ?_
  have r19 := r18.stays hk19
  clear r18 hk19
  walk_at "go"
  refine tup_ r19 fun h20 T20 r20 hT20 => ?_
  clear r19
  refine ⟨T20, _, _, rfl, hT20, fun h21 hk21 => ?_⟩
  have r21 := r20.stays hk21
  clear r20 hT20 hk21
  refine put_ r21 hLS fun h22 r22 => ?_
  clear r21
  refine put_ r22 hLS fun h23 r23 => ?_
  clear r22
  obtain ⟨a, rfl⟩ := Int.eq_ofNat_of_zero_le (show 0 ≤ m1 by omega)
  obtain ⟨b, rfl⟩ := Int.eq_ofNat_of_zero_le (show 0 ≤ m2 by omega)
  have hab : a ≤ b := by omega
  have hbn : b ≤ vs.length := by omega
  clear hm1 hm2 hd1 hd1' hd2 hd2'
  have e1 : vs.take a ++ (vs.drop a).take (b - a) = vs.take b := by
    rw [← List.take_add]; congr 1; omega
  have e2 : (vs.drop a).take (b - a) ++ vs.drop b = vs.drop a := by
    have : vs.drop b = (vs.drop a).drop (b - a) := by rw [List.drop_drop]; congr 1; omega
    rw [this, List.take_append_drop]
  -- left, middle, right
  walk_at "go"
  refine assign3_ R'.hd ?_
  walk_at "go"
  refine ldFn (ps := default) (bd := []) (sc := default) GG r23.F fS.1 ?_
  refine callWith_fnK fS r23.F.keep ?_
  walk_at "go"
  refine slice_ ?_
  walk_at "go"
  refine wpAny_evalPart_none ?_
  (try dsimp only)
  refine wpAny_evalPart_some ?_
  walk_at "go"
  (try dsimp only)
  refine ⟨X, vs, _, _, vs.take a, rfl, (r23.ls (X, vs) (by walk_at "mem")).1, by omega, .none, .int _ _, by rw [slicePick_upto'], fun h24 Y24 hk hY _ => ?_⟩
  have r24 := (r23.stays hk).add (isList_of hY) (fun v hv => List.mem_of_mem_take hv)
  clear r23 hk hY
  walk_at "go"
  refine ⟨r24.F.keep, ?_⟩
  refine msort_ r24 (R'.le (by omega) (by omega)) GG fS (X := Y24) (by walk_at "mem") (by rw [List.length_take]; omega) fun h25 tk25 ZL r25 => ?_
  clear r24
  walk_at "go"
  refine ldFn (ps := default) (bd := []) (sc := default) GG r25.F fS.1 ?_
  refine callWith_fnK fS r25.F.keep ?_
  walk_at "go"
  refine slice_ ?_
  walk_at "go"
  refine wpAny_evalPart_some ?_
  walk_at "go"
  (try dsimp only)
  refine wpAny_evalPart_some ?_
  walk_at "go"
  (try dsimp only)
  refine ⟨X, vs, _, _, (vs.drop a).take (b - a), rfl, (r25.ls (X, vs) (by walk_at "mem")).1, by omega, .int _ _, .int _ _, by rw [slicePick_run _ _ _ (by rw [List.size_toArray]; exact hbn) hab], fun h26 Y26 hk hY _ => ?_⟩
  have r26 := (r25.stays hk).add (isList_of hY) (fun v hv => List.mem_of_mem_drop (List.mem_of_mem_take hv))
  clear r25 hk hY
  walk_at "go"
  refine ⟨r26.F.keep, ?_⟩
  refine msort_ r26 (R'.le (by omega) (by omega)) GG fS (X := Y26) (by walk_at "mem") (by rw [List.length_take, List.length_drop]; omega) fun h27 tk27 ZM r27 => ?_
  clear r26
  walk_at "go"
  refine ldFn (ps := default) (bd := []) (sc := default) GG r27.F fS.1 ?_
  refine callWith_fnK fS r27.F.keep ?_
  walk_at "go"
  refine slice_ ?_
  walk_at "go"
  refine wpAny_evalPart_some ?_
  walk_at "go"
  (try dsimp only)
  refine wpAny_evalPart_none ?_
  (try dsimp only)
  refine ⟨X, vs, _, _, vs.drop b, rfl, (r27.ls (X, vs) (by walk_at "mem")).1, by omega, .int _ _, .none, by rw [slicePick_from'], fun h28 Y28 hk hY _ => ?_⟩
  have r28 := (r27.stays hk).add (isList_of hY) (fun v hv => List.mem_of_mem_drop hv)
  clear r27 hk hY
  walk_at "go"
  refine ⟨r28.F.keep, ?_⟩
  refine msort_ r28 (R'.le (by omega) (by omega)) GG fS (X := Y28) (by walk_at "mem") (by rw [List.length_drop]; omega) fun h29 tk29 ZR r29 => ?_
  clear r28
  walk_at "go"
  refine tup_ r29 fun h30 T30 r30 hT30 => ?_
  clear r29
  refine ⟨T30, _, _, _, rfl, hT30, fun h31 hk31 => ?_⟩
  have r31 := r30.stays hk31
  clear r30 hT30 hk31
  refine put_ r31 hLS fun h32 r32 => ?_
  clear r31
  refine put_ r32 hLS fun h33 r33 => ?_
  clear r32
  refine put_ r33 hLS fun h34 r34 => ?_
  clear r33
  -- ahead, behind
  walk_at "go"
  refine assign2_ R'.hd ?_
  walk_at "go"
  refine ldFn (ps := default) (bd := []) (sc := default) GG r34.F fM.1 ?_
  refine callWith_fnK fM r34.F.keep ?_
  walk_at "go"
  refine ⟨r34.F.keep, ?_⟩
  refine merge_ r34 (R'.le (by omega) (by omega)) GG fM (X := ZL) (by walk_at "mem") (X' := ZM) (by walk_at "mem") (by rw [← List.length_append, e1, List.length_take]; omega) fun h35 tk35 ZA r35 => ?_
  clear r34
  rw [e1] at r35
  walk_at "go"
  refine ldFn (ps := default) (bd := []) (sc := default) GG r35.F fM.1 ?_
  refine callWith_fnK fM r35.F.keep ?_
  walk_at "go"
  refine ⟨r35.F.keep, ?_⟩
  refine merge_ r35 (R'.le (by omega) (by omega)) GG fM (X := ZM) (by walk_at "mem") (X' := ZR) (by walk_at "mem") (by rw [← List.length_append, e2, List.length_drop]; omega) fun h36 tk36 ZB r36 => ?_
  clear r35
  rw [e2] at r36
  walk_at "go"
  refine tup_ r36 fun h37 T37 r37 hT37 => ?_
  clear r36
  refine ⟨T37, _, _, rfl, hT37, fun h38 hk38 => ?_⟩
  have r38 := r37.stays hk38
  clear r37 hT37 hk38
  refine put_ r38 hLS fun h39 r39 => ?_
  clear r38
  refine put_ r39 hLS fun h40 r40 => ?_
  clear r39
  walk_at "go"
  refine ldFn (ps := default) (bd := []) (sc := default) GG r40.F fC.1 ?_
  refine callWith_fnK fC r40.F.keep ?_
  walk_at "go"
  refine slice_ ?_
  walk_at "go"
  refine wpAny_evalPart_none ?_
  (try dsimp only)
  refine wpAny_evalPart_some ?_
  walk_at "go"
  (try dsimp only)
  refine ⟨X, vs, _, _, vs.take b, rfl, (r40.ls (X, vs) (by walk_at "mem")).1, by omega, .none, .int _ _, by rw [slicePick_upto'], fun h41 Y41 hk hY _ => ?_⟩
  have r41 := (r40.stays hk).add (isList_of hY) (fun v hv => List.mem_of_mem_take hv)
  clear r40 hk hY
  walk_at "go"
  refine ⟨r41.F.keep, ?_⟩
  refine count_ r41 (R'.le (by omega) (by omega)) GG fC (X := Y41) (by walk_at "mem") (by rw [List.length_take]; omega) fun h42 tk42 Z42 r42 => ?_
  clear r41
  walk_at "go"
  refine ne_same (r42.ls (ZA, _) (by walk_at "mem")).1 (r42.ls (Z42, _) (by walk_at "mem")).1 R'.u ?_
  walk_at "go"
  (try simp only [Bool.false_eq_true, if_false])
  walk_at "go"
  refine ldFn (ps := default) (bd := []) (sc := default) GG r42.F fC.1 ?_
  refine callWith_fnK fC r42.F.keep ?_
  walk_at "go"
  refine slice_ ?_
  walk_at "go"
  refine wpAny_evalPart_some ?_
  walk_at "go"
  (try dsimp only)
  refine wpAny_evalPart_none ?_
  (try dsimp only)
  refine ⟨X, vs, _, _, vs.drop a, rfl, (r42.ls (X, vs) (by walk_at "mem")).1, by omega, .int _ _, .none, by rw [slicePick_from'], fun h43 Y43 hk hY _ => ?_⟩
  have r43 := (r42.stays hk).add (isList_of hY) (fun v hv => List.mem_of_mem_drop hv)
  clear r42 hk hY
  walk_at "go"
  refine ⟨r43.F.keep, ?_⟩
  refine count_ r43 (R'.le (by omega) (by omega)) GG fC (X := Y43) (by walk_at "mem") (by rw [List.length_drop]; omega) fun h44 tk44 Z44 r44 => ?_
  clear r43
  walk_at "go"
  refine ne_same (r44.ls (ZB, _) (by walk_at "mem")).1 (r44.ls (Z44, _) (by walk_at "mem")).1 R'.u ?_
  walk_at "go"
  (try simp only [Bool.false_eq_true, if_false])
  walk_at "go"
  (try simp only [Bool.false_eq_true, if_false])
  walk_at "go"
  refine ldFn (ps := default) (bd := []) (sc := default) GG r44.F fC.1 ?_
  refine callWith_fnK fC r44.F.keep ?_
  walk_at "go"
  refine slice_ ?_
  walk_at "go"
  refine wpAny_evalPart_none ?_
  (try dsimp only)
  refine wpAny_evalPart_some ?_
  walk_at "go"
  (try dsimp only)
  refine ⟨X, vs, _, _, vs.take a, rfl, (r44.ls (X, vs) (by walk_at "mem")).1, by omega, .none, .int _ _, by rw [slicePick_upto'], fun h45 Y45 hk hY _ => ?_⟩
  have r45 := (r44.stays hk).add (isList_of hY) (fun v hv => List.mem_of_mem_take hv)
  clear r44 hk hY
  walk_at "go"
  refine ⟨r45.F.keep, ?_⟩
  refine count_ r45 (R'.le (by omega) (by omega)) GG fC (X := Y45) (by walk_at "mem") (by rw [List.length_take]; omega) fun h46 tk46 Z46 r46 => ?_
  clear r45
  walk_at "go"
  refine ne_same (r46.ls (ZL, _) (by walk_at "mem")).1 (r46.ls (Z46, _) (by walk_at "mem")).1 R'.u ?_
  walk_at "go"
  (try simp only [Bool.false_eq_true, if_false])
  walk_at "go"
  refine ldFn (ps := default) (bd := []) (sc := default) GG r46.F fC.1 ?_
  refine callWith_fnK fC r46.F.keep ?_
  walk_at "go"
  refine slice_ ?_
  walk_at "go"
  refine wpAny_evalPart_some ?_
  walk_at "go"
  (try dsimp only)
  refine wpAny_evalPart_none ?_
  (try dsimp only)
  refine ⟨X, vs, _, _, vs.drop b, rfl, (r46.ls (X, vs) (by walk_at "mem")).1, by omega, .int _ _, .none, by rw [slicePick_from'], fun h47 Y47 hk hY _ => ?_⟩
  have r47 := (r46.stays hk).add (isList_of hY) (fun v hv => List.mem_of_mem_drop hv)
  clear r46 hk hY
  walk_at "go"
  refine ⟨r47.F.keep, ?_⟩
  refine count_ r47 (R'.le (by omega) (by omega)) GG fC (X := Y47) (by walk_at "mem") (by rw [List.length_drop]; omega) fun h48 tk48 Z48 r48 => ?_
  clear r47
  walk_at "go"
  refine ne_same (r48.ls (ZR, _) (by walk_at "mem")).1 (r48.ls (Z48, _) (by walk_at "mem")).1 R'.u ?_
  walk_at "go"
  (try simp only [Bool.false_eq_true, if_false])
  walk_at "go"
  (try simp only [Bool.false_eq_true, if_false])
  walk_at "go"
  refine BoolOp_and ?_
  walk_at "go"
  refine ldFn (ps := default) (bd := []) (sc := default) GG r48.F fM.1 ?_
  refine callWith_fnK fM r48.F.keep ?_
  walk_at "go"
  refine ⟨r48.F.keep, ?_⟩
  refine merge_ r48 (R'.le (by omega) (by omega)) GG fM (X := ZA) (by walk_at "mem") (X' := ZR) (by walk_at "mem") (by rw [← List.length_append, List.take_append_drop]; omega) fun h49 tk49 Z49 r49 => ?_
  clear r48
  rw [List.take_append_drop] at r49
  walk_at "go"
  refine eq_same (r49.ls (Z49, _) (by walk_at "mem")).1 (r49.ls (D, _) (by walk_at "mem")).1 R'.u ?_
  walk_at "go"
  (try simp only [if_true])
  refine BoolOp_one ?_
  walk_at "go"
  refine ldFn (ps := default) (bd := []) (sc := default) GG r49.F fM.1 ?_
  refine callWith_fnK fM r49.F.keep ?_
  walk_at "go"
  refine ⟨r49.F.keep, ?_⟩
  refine merge_ r49 (R'.le (by omega) (by omega)) GG fM (X := ZL) (by walk_at "mem") (X' := ZB) (by walk_at "mem") (by rw [← List.length_append, List.take_append_drop]; omega) fun h50 tk50 Z50 r50 => ?_
  clear r49
  rw [List.take_append_drop] at r50
  walk_at "go"
  refine eq_same (r50.ls (Z50, _) (by walk_at "mem")).1 (r50.ls (D, _) (by walk_at "mem")).1 R'.u ?_
  walk_at "go"
  exact ⟨_, rfl, h _ _ (hfin _ r50.F.keep)⟩
end
end Mine

/-! ===== m10body m11body ===== -/
namespace Mine
open PySem PySem.Calls PyProof.Rows
local macro_rules | `(tactic| walk_at "mine") => `(tactic| first
  | with_reducible refine wpAny_execs_cons ?_
  | with_reducible refine wpAny_execs_nil ?_
  | with_reducible refine wpAny_Return_some ?_
  | with_reducible refine wpAny_If ?_
  | with_reducible refine wpAny_Constant_int ?_
  | with_reducible refine PySem.W.Constant_bytes ?_
  | with_reducible refine wpAny_Constant_bool ?_
  | with_reducible refine wpAny_isTrue_BoolOp ?_
  | with_reducible refine wpAny_allTrue_And_cons ?_
  | with_reducible refine wpAny_allTrue_And_nil ?_
  | with_reducible refine wpAny_allTrue_Or_cons ?_
  | with_reducible refine wpAny_allTrue_Or_nil ?_
  | with_reducible refine wpAny_BinOp ?_
  | with_reducible refine Tuple_ ?_
  | with_reducible refine List_ ?_
  | with_reducible refine args_nil ?_
  | with_reducible refine wpAny_truthy_bool ?_
  | ((with_reducible show wpAny _ _ (exec (.Assign [.Name _ _] _ _) _) _ _ _); refine wpAny_Assign_Name ?_)
  | ((with_reducible show wpAny _ _ (exec (.AugAssign (.Name _ _) _ _ _) _) _ _ _); refine wpAny_AugAssign_Name ?_)
  | ((with_reducible show wpAny _ _ (eval (.Compare _ [_] [_] _) _) _ _ _); refine wpAny_Compare1 ?_)
  | ((with_reducible show wpAny _ _ (isTrue (.Compare _ [_] [_] _) _ _) _ _ _); refine wpAny_isTrue_Compare1 ?_)
  | ((with_reducible show wpAny _ _ (eval (.Subscript _ _ _) _) _ _ _); (fail_if_success (with_reducible show wpAny _ _ (eval (.Subscript _ (.Slice _ _ _ _) _) _) _ _ _)); refine Subscript_ ?_)
  | ((with_reducible show wpAny _ _ (spliced (backTo _ (starEach (_ :: _) _))) _ _ _); refine args_cons ?_)
  | ((with_reducible show wpAny _ _ (eval (.Call (.Name _ _) _ [] _) _) _ _ _); refine Call_ ?_)
  | ((with_reducible show wpAny _ _ (callWith _ (.builtin _) [] (backTo _ (starEach (_ :: _) _)) []) _ _ _); refine PyProof.Rows.callWith_builtin1 ?_)
  | ((with_reducible show wpAny _ _ (callWith _ (.type _) [] (backTo _ (starEach (_ :: _) _)) []) _ _ _); refine PyProof.Rows.callWith_type1 ?_))
local macro_rules | `(tactic| walk_at "name") => `(tactic| first
  | ((with_reducible show wpAny _ _ (eval (.Name _ _) _) _ _ _); refine ldF (by assumption) (by rfl) ?_)
  | ((with_reducible show wpAny _ _ (eval (.Name _ _) _) _ _ _); refine ldBi (by assumption) (by assumption) (by rfl) ?_)
  | ((with_reducible show wpAny _ _ (loadName _ _) _ _ _); refine ldnF (by assumption) (by rfl) ?_))
local macro_rules | `(tactic| walk_at "weak") => `(tactic| first
  | exact List.forall_mem_nil _
  | (refine List.forall_mem_cons.mpr ⟨?_, ?_⟩; (first | exact rfl | (refine Eq.trans rfl ?_; assumption)); walk_at "weak"))
local macro_rules | `(tactic| walk_at "go") => `(tactic| ((try dsimp only); repeat (first | walk_at "mine" | walk_at "name"); (try dsimp only)))
section
variable {prog : Program} {w : World} {A : Around} {E : Value → Shared → Prop} {s : Shared} {env : Env}
/-- two names at once, from a folded tuple: stored in order -/
theorem assign2n_ {x y : Str} {px py tpos pos : Pos} {k : Nat} {value : Expr} {Q : Flow → Shared → Prop} (hh : A.handled = none)
    (h : wpAny (model prog w) A (eval value env) (fun v s₁ => ∃ T v1 v2, v = .ref T ∧ s₁.heap.IsTuple T #[v1, v2] ∧ ∀ h', (∀ b o, s₁.heap.get? b = some o → h'.get? b = some o) →
      wpAny (model prog w) A (storeName env x v1) (fun _ s₂ => wpAny (model prog w) A (storeName env y v2) (fun _ => Q .next) E s₂) E { s₁ with heap := h' }) E s)
    (hs : swapsWithSole [.Tuple [.Name x px, .Name y py] k tpos] value pos.line env = pure false := by rfl)
    (hw : swappedStores [.Tuple [.Name x px, .Name y py] k tpos] value env = pure none := by rfl) :
    wpAny (model prog w) A (exec (.Assign [.Tuple [.Name x px, .Name y py] k tpos] value pos) env) Q E s := by
  refine Assign_Tuple (wpAny_mono h (fun v s₁ q => ?_) fun _ _ e => e) hs hw
  obtain ⟨T, v1, v2, rfl, ht, hQ⟩ := q
  refine wpAny_assign_Tuple hh ht rfl rfl fun h' hx => ?_
  show wpAny _ _ (assignInOrder [assign (.Name x px) env, assign (.Name y py) env] [v1, v2]) _ _ _
  refine wpAny_assignInOrder_more (wpAny_assign_Name (wpAny_mono (hQ h' fun b o e => hx b o (Nat.ne_of_lt (Heap.lt_size e)) e) (fun _ s₂ q => ?_) fun _ _ e => e))
  exact wpAny_assignInOrder_more (wpAny_assign_Name (wpAny_mono q (fun _ s₃ q => wpAny_assignInOrder_none q) fun _ _ e => e))
end

theorem keyOf_tobj {h : Heap} {T : Addr} {b : Array UInt8} {i : Int} {t u : Tok} {x : Value} (e : h.get? T = some (tobj [.bytes b t, .int i u, x])) : keyOf h (.ref T) = (b.toList, i) := by
  unfold keyOf
  simp only [e, tobj]
theorem rowOk_tobj {h : Heap} {T : Addr} {b : Array UInt8} {i : Int} {t u : Tok} {x : Value} (e : h.get? T = some (tobj [.bytes b t, .int i u, x])) : RowOk h (.ref T) := ⟨T, b, i, t, u, x, rfl, isTuple_of e⟩

section
variable {w : World} {A : Around} {s : Shared} {mg mb : Str → Option Value} {K : Addr → Obj → Prop} {L a : Addr} {cd : Value}
theorem law_ {l : Addr} {vs : List Value} {ns : List Int} {ps : Arguments} {bd : List Stmt} {sc : Scope}
    {aM aS aP aR : Addr} (R' : Rm A 12 120) (GG : GK PW mg mb K) (fM : FnK mg K "merged" aM) (fS : FnK mg K "merge_sorted" aS) (fP : FnK mg K "_law_pool" aP) (fR : FnK mg K "_law_right" aR) (hdef : PW.theDef "law" = some (ps, bd, sc))
    (F : Fk K L s.heap [("script", .ref l)]) (hl : ∀ hh : Heap, (∀ b o, K b o → hh.get? b = some o) → hh.IsList l vs.toArray) (hi : IntsAre vs ns) (hn : vs.length ≤ 63) :
    wpAny (model PW w) A (execs bd (envOf "law" sc L a cd)) (fun f s' => f = .ret (.bool true) ∧ ∃ h' tk, s' = { s with heap := h', toks := tk } ∧ Fk K L h' []) (fun _ _ => False) s := by
  have e := (rfl : PW.theDef "law" = some (_, _, _))
  rw [e] at hdef
  cases hdef
  clear e
  walk_at "go"
  refine assign2n_ R'.hd ?_
  walk_at "go"
  refine newTupleF F Nw.nil fun h2 T1 F2 N2 _ _ => ?_
  walk_at "go"
  refine newTupleF F2 N2 fun h3 T2 F3 N3 _ _ => ?_
  clear F2 N2
  walk_at "go"
  refine newTupleF F3 N3 fun h4 T3 F4 N4 _ _ => ?_
  clear F3 N3
  walk_at "go"
  refine ⟨T3, _, _, rfl, isTuple_of (N4 _ (.head _)).1, fun h5 hk5 => ?_⟩
  have F5 := F4.stays hk5
  have N5 := (Nw.sub N4 (fun p hp => List.mem_cons_of_mem _ hp)).stays hk5
  clear F4 N4 hk5
  refine stF F5 N5 fun h6 F6 N6 _ => ?_
  clear F5 N5
  refine stF F6 N6 fun h7 F7 N7 _ => ?_
  clear F6 N6
  have F8 := F7.weak (bs' := [("script", .ref l), ("one", .ref T1), ("two", .ref T2)]) (by walk_at "weak")
  clear F7
  have w1 : RowAt h7 (keyOf h7) (.ref T1) := (rowOk_tobj (N7 _ (.tail _ (.head _))).1).at
  have w2 : RowAt h7 (keyOf h7) (.ref T2) := (rowOk_tobj (N7 _ (.head _)).1).at
  have hlt : kl (keyOf h7) (.ref T2) (.ref T1) = false := by
    unfold kl
    rw [keyOf_tobj (N7 _ (.head _)).1, keyOf_tobj (N7 _ (.tail _ (.head _))).1]
    exact klt_irr _
  have hw : ∀ v, v ∈ [Value.ref T1, Value.ref T2] → RowAt h7 (keyOf h7) v := fun v hv => by
    rcases List.mem_cons.mp hv with rfl | hv
    · exact w1
    · rw [List.mem_singleton.mp hv]; exact w2
  have hm : mrg (kl (keyOf h7)) [Value.ref T1] [Value.ref T2] = [Value.ref T1, Value.ref T2] := by
    rw [mrg_cc, hlt, mrg_nil]; rfl
  have hs : srt (kl (keyOf h7)) [Value.ref T1, Value.ref T2] = [Value.ref T1, Value.ref T2] := by
    simp only [srt, ins, hlt]; rfl
  generalize keyOf h7 = κ at hw hm hs
  clear w1 w2 hlt
  have N8 := Nw.sub N7 (news' := []) (fun p hp => by cases hp)
  clear N7
  walk_at "go"
  refine ldFn (ps := default) (bd := []) (sc := default) GG F8 fM.1 ?_
  refine callWith_fnK fM F8.keep ?_
  walk_at "go"
  refine newListF F8 N8 fun h10 A1 F10 N10 hk10 _ => ?_
  walk_at "go"
  refine newListF F10 N10 fun h11 A2 F11 N11 hk11 _ => ?_
  dsimp only at hk10 hk11
  have hw11 : ∀ v, v ∈ [Value.ref T1, Value.ref T2] → RowAt h11 κ v := fun v hv => ((hw v hv).up hk10).up hk11
  clear F8 N8 F10 N10 hk10 hk11 hw
  walk_at "go"
  refine ⟨F11.keep, ?_⟩
  obtain ⟨_, psM, bdM, scM, hdM, faM, _⟩ := id fM
  refine merged_ (κ := κ) (vs := [.ref T1]) (ws := [.ref T2]) (R'.le (by omega) (by omega)) (GG _ F11.keep) hdM (faM _ F11.keep) (isList_of (N11 _ (.tail _ (.head _))).1) (isList_of (N11 _ (.head _)).1) (fun v hv => hw11 v (by simpa using hv)) (by simp) fun h12 tk12 Y12 hk12 hY12 _ => ?_
  rw [hm] at hY12
  have F12 := F11.stays hk12
  have hw12 : ∀ v, v ∈ [Value.ref T1, Value.ref T2] → RowAt h12 κ v := fun v hv => (hw11 v hv).up hk12
  clear F11 N11 hk12 hw11
  walk_at "go"
  refine newListF F12 Nw.nil fun h13 A3 F13 N13 hk13 _ => ?_
  refine ne_same (IsList.up hY12 hk13) (isList_of (N13 _ (.head _)).1) R'.u ?_
  have hw13 : ∀ v, v ∈ [Value.ref T1, Value.ref T2] → RowAt h13 κ v := fun v hv => (hw12 v hv).up hk13
  clear F12 N13 hk13 hw12 hY12
  walk_at "go"
  (try simp only [Bool.false_eq_true, if_false])
  walk_at "go"
  refine ldFn (ps := default) (bd := []) (sc := default) GG F13 fS.1 ?_
  refine callWith_fnK fS F13.keep ?_
  walk_at "go"
  refine newListF F13 Nw.nil fun h14 A4 F14 N14 hk14 _ => ?_
  have hw14 : ∀ v, v ∈ [Value.ref T1, Value.ref T2] → RowAt h14 κ v := fun v hv => (hw13 v hv).up hk14
  clear F13 hk14 hw13
  walk_at "go"
  refine ⟨F14.keep, ?_⟩
  obtain ⟨_, psS, bdS, scS, hdS, faS, _⟩ := id fS
  refine merge_sorted_ (κ := κ) (vs := [.ref T1, .ref T2]) (R'.le (by omega) (by omega)) (GG _ F14.keep) hdS (faS _ F14.keep) (isList_of (N14 _ (.head _)).1) hw14 (by simp) fun h15 tk15 Y15 hk15 hY15 => ?_
  rw [hs] at hY15
  have F15 := F14.stays hk15
  clear F14 N14 hk15 hw14
  walk_at "go"
  refine newListF F15 Nw.nil fun h16 A5 F16 N16 hk16 _ => ?_
  refine ne_same (IsList.up hY15 hk16) (isList_of (N16 _ (.head _)).1) R'.u ?_
  clear F15 N16 hk16 hY15
  walk_at "go"
  (try simp only [Bool.false_eq_true, if_false])
  walk_at "go"
  refine ldFn (ps := default) (bd := []) (sc := default) GG F16 fS.1 ?_
  refine callWith_fnK fS F16.keep ?_
  walk_at "go"
  refine newListF F16 Nw.nil fun h17 A6 F17 N17 hk17 _ => ?_
  clear F16 hk17
  walk_at "go"
  refine ⟨F17.keep, ?_⟩
  refine merge_sorted_ (κ := κ) (vs := []) (R'.le (by omega) (by omega)) (GG _ F17.keep) hdS (faS _ F17.keep) (isList_of (N17 _ (.head _)).1) (fun v hv => by cases hv) (by simp) fun h18 tk18 Y18 hk18 hY18 => ?_
  have F18 := F17.stays hk18
  clear F17 N17 hk18
  walk_at "go"
  refine newListF F18 Nw.nil fun h19 A7 F19 N19 hk19 _ => ?_
  refine ne_same (IsList.up hY18 hk19) (isList_of (vs := []) (N19 _ (.head _)).1) R'.u ?_
  clear F18 N19 hk19 hY18 hm hs
  walk_at "go"
  (try simp only [Bool.false_eq_true, if_false])
  walk_at "go"
  (try simp only [Bool.false_eq_true, if_false])
  walk_at "go"
  have F20 := F19.weak (bs' := [("script", .ref l)]) (by walk_at "weak")
  clear F19
  refine wpAny_mono (for_range (K := K) (Q := fun f s' => f = .next ∧ ∃ (h : Heap) (tk : Nat), s' = { s with heap := h, toks := tk } ∧ Fk K L h [])
    (fun _ bs news => bs.lookup ("script" : Str) = some (Value.ref l) ∧ news = []) R'.hd ?_) (fun f s' q => ?_) fun _ _ x => x
  · walk_at "go"
    refine len_list (hl _ F20.keep) (by simp only [List.size_toArray]; omega) ?_
    walk_at "go"
    refine min_ints R'.hd fun h21 tk21 m1 tm1 hk21 hm1 => ?_
    have F21 := F20.stays hk21
    clear F20 hk21
    walk_at "go"
    refine max_ints R'.hd fun h22 tk22 m2 tm2 hk22 hm2 => ?_
    have F22 := F21.stays hk22
    clear F21 hk22
    walk_at "go"
    refine call_range_1 ?_
    have hk23 : ∀ o b o', h22.get? b = some o' → (h22.push o).get? b = some o' := fun o b o' e => Heap.get?_push_of_some o e
    simp only [List.size_toArray] at hm1
    obtain ⟨n, rfl⟩ := Int.eq_ofNat_of_zero_le (show 0 ≤ m2 by omega)
    have hn2 : n ≤ 2 := by omega
    clear hm1 hm2
    refine ⟨_, _, _, _, _, _, _, n, _, [], rfl, IsRange.new _ _ _ _ _ _ _, small_of (n := n) (by omega) (by omega) (by omega) (size_one _) (by omega), size_one _,
      F22.stays (hk23 _), Nw.nil, ⟨rfl, rfl⟩, ?_, ?_⟩
    · rintro i bs news h24 tk24 it hi' ⟨hbs, rfl⟩ _ F24 N24
      clear F22 hk23
      have e0 : (0 : Int) + (i : Int) * 1 = (i : Int) := by omega
      rw [e0] at F24
      have F25 : Fk K L h24 [("k", .int (i : Int) tk24), ("script", .ref l)] := F24.weak (by
        refine List.forall_mem_cons.mpr ⟨rfl, List.forall_mem_cons.mpr ⟨?_, List.forall_mem_nil _⟩⟩
        exact hbs)
      clear F24 hbs
      refine wpAny_execs_cons ?_
      refine wpAny_If ?_
      refine wpAny_isTrue_Not ?_
      refine isTrue_plain ?_
      walk_at "go"
      refine ldFn (ps := default) (bd := []) (sc := default) GG F25 fR.1 ?_
      refine callWith_fnK fR F25.keep ?_
      walk_at "go"
      refine ldFn (ps := default) (bd := []) (sc := default) GG F25 fP.1 ?_
      refine callWith_fnK fP F25.keep ?_
      walk_at "go"
      refine ⟨F25.keep, ?_⟩
      obtain ⟨_, psP, bdP, scP, hdP, faP, _⟩ := id fP
      refine pool_ (R'.le (by omega) (by omega)) (GG _ F25.keep) hdP (faP _ F25.keep) (hl _ F25.keep) hi (by omega) (by omega) (by omega) fun h26 tk26 S hk26 hS26 hS0 => ?_
      have F26 := F25.stays hk26
      have N26 := N24.stays hk26
      dsimp only at hS0
      have hSK : ∀ o, ¬ K S o := fun o q => by rw [F25.keep _ _ q] at hS0; cases hS0
      have hSL : L ≠ S := fun q => by obtain ⟨o, ho⟩ := F25.get; rw [← q, ho] at hS0; cases hS0
      have hSI : it.1 ≠ S := fun q => by rw [← q, (N24 _ (.head _)).1] at hS0; cases hS0
      clear F25 N24 hk26 hS0
      walk_at "go"
      refine ⟨F26.keep, ?_⟩
      obtain ⟨_, psR, bdR, scR, hdR, faR, _⟩ := id fR
      refine right_ (R'.le (by omega) (by omega)) (GG _ F26.keep) hdR (faR _ F26.keep) hS26 fun h27 tk27 hk27 => ?_
      have F27 := F26.but hSL hSK hk27
      have N27 := N26.but (fun p hp => by rw [List.mem_singleton.mp hp]; exact hSI) hk27
      walk_at "go"
      (try simp only [Bool.not_true, Bool.false_eq_true, if_false])
      walk_at "go"
      exact ⟨h27, _, _, [], rfl, F27, N27, fun p hp => (by cases hp), rfl, rfl⟩
    · rintro bs news h24 tk24 ⟨hbs, rfl⟩ F24 _
      exact ⟨rfl, h24, _, rfl, F24.weak (by walk_at "weak")⟩
  · obtain ⟨rfl, h24, tk24, rfl, F24⟩ := q
    clear F20
    walk_at "go"
    exact ⟨rfl, h24, _, rfl, F24⟩
end
theorem fk_of {h₀ h : Heap} {L : Addr} {m : Str → Option Value} {bs : List (Str × Value)} (F : Fr h₀ L h m) (hL : L = h₀.objs.size) (hm : ∀ p ∈ bs, m p.1 = some p.2) : Fk (fun b o => h₀.get? b = some o) L h bs :=
  ⟨⟨m, F.ns, fun x v e => by
    have : ∀ l : List (Str × Value), (∀ p ∈ l, m p.1 = some p.2) → l.lookup x = some v → m x = some v := by
      intro l
      induction l with
      | nil => intro _ e; cases e
      | cons p r ih =>
        intro hp e
        obtain ⟨y, u⟩ := p
        rw [List.lookup_cons] at e
        split at e
        · rename_i q
          have hy : x = y := by simpa using q
          rw [hy, ← Option.some.inj e]; exact hp (y, u) (.head _)
        · exact ih (fun p hp' => hp p (.tail _ hp')) e
    exact this bs hm e⟩, F.keep, fun o e => absurd (Heap.lt_size e) (by rw [hL]; exact Nat.lt_irrefl _)⟩
theorem fr_of {h₀ h : Heap} {L : Addr} {bs : List (Str × Value)} (F : Fk (fun b o => h₀.get? b = some o) L h bs) (hL : h₀.objs.size ≤ L) : ∃ m, Fr h₀ L h m := let ⟨m, hn, _⟩ := F.ns; ⟨m, hn, F.keep, hL⟩

theorem gl_of {p : Program} {loose : List Str} {mean : ExcName → Option Value} {mg mb : Str → Option Value} {h : Heap} (T : Top p loose mean mg mb h)
    (hrec : ∀ name ∈ theNames, PW.theDef name = p.theDef name ∧ ∃ d ∈ recsOf p, d.name = name)
    (hbi : ∀ q ∈ theBuiltins, (q.1 ∉ startupNames ∧ q.1 ∉ loose ∧ q.1 ∉ (recsOf p).map (·.name) ∧ q.1 ∉ (litsOf p).map (·.1) ∧ q.1 ∉ (clssOf p loose).map (·.name)) ∧ q.1 ≠ "__name__" ∧ bootBuiltins q.1 = some q.2) : Gl PW mg mb h := by
  refine ⟨T.g, T.b, T.nolimit, fun x v e => ?_, fun name ps bd sc e hne => ?_⟩
  · have hm : (x, v) ∈ theBuiltins := by
      have : ∀ l : List (Str × Value), l.lookup x = some v → (x, v) ∈ l := by
        intro l
        induction l with
        | nil => intro e; cases e
        | cons p r ih =>
          intro e
          obtain ⟨y, u⟩ := p
          rw [List.lookup_cons] at e
          split at e
          · rename_i q
            have hy : x = y := by simpa using q
            rw [hy, ← Option.some.inj e]; exact .head _
          · exact .tail _ (ih e)
      exact this _ e
    obtain ⟨⟨h1, h2, h3, h4, h5⟩, h6, h7⟩ := hbi _ hm
    exact ⟨T.free x h1 h2 h3 h4 h5, (T.builtins x h6).trans h7⟩
  · obtain ⟨he, d, hd, rfl⟩ := hrec name hne
    obtain ⟨a, o, pm, code, doc, g1, g2, g3, g4⟩ := T.fn d hd
    have := (recsOf_ok d hd).1
    rw [he, this] at e
    cases e
    exact ⟨a, g1, o, pm, code, doc, g2, g3, g4⟩

theorem fnK_base {mg mb : Str → Option Value} {h : Heap} (G : Gl PW mg mb h) {name : Str} {ps : Arguments} {bd : List Stmt} {sc : Scope} (hd : PW.theDef name = some (ps, bd, sc)) (hne : name ∈ theNames) :
    ∃ a, FnK mg (fun b o => h.get? b = some o) name a := by
  obtain ⟨a, f⟩ := G.fn _ _ _ _ hd hne
  refine ⟨a, f.named, ps, bd, sc, hd, fun hh kk => f.keeps kk, ?_⟩
  obtain ⟨o, pm, cd, dc, h1, h2, _⟩ := f.at_
  exact ⟨o, fun hh kk => kk a o h1⟩

/-- law's frame over the globals -/
theorem law_run {w : World} {A : Around} {s : Shared} {h₀ : Heap} {mg mb : Str → Option Value} {L a : Addr} {cd : Value} {m : Str → Option Value} {l : Addr} {vs : List Value} {ns : List Int} {ps : Arguments} {bd : List Stmt} {sc : Scope}
    (R : Rm A 12 120) (G : Gl PW mg mb h₀) (hdef : PW.theDef "law" = some (ps, bd, sc)) (F : Fr h₀ L s.heap m) (hL : L = h₀.objs.size) (hm : m "script" = some (.ref l)) (hl : h₀.IsList l vs.toArray) (hi : IntsAre vs ns) (hn : ns.length ≤ 63) :
    wpAny (model PW w) A (execs bd (envOf "law" sc L a cd)) (fun f s' => f = .ret (.bool true) ∧ ∃ h' tk m', s' = { s with heap := h', toks := tk } ∧ Fr h₀ L h' m') (fun _ _ => False) s := by
  obtain ⟨aM, fM⟩ := fnK_base G (name := "merged") rfl (by decide)
  obtain ⟨aS, fS⟩ := fnK_base G (name := "merge_sorted") rfl (by decide)
  obtain ⟨aP, fP⟩ := fnK_base G (name := "_law_pool") rfl (by decide)
  obtain ⟨aR, fR⟩ := fnK_base G (name := "_law_right") rfl (by decide)
  have FF : Fk (fun b o => h₀.get? b = some o) L s.heap [("script", .ref l)] := fk_of F hL fun p hp => by rw [List.mem_singleton.mp hp]; exact hm
  refine wpAny_mono (law_ R G.gk fM fS fP fR hdef FF (fun hh kk => IsList.up hl kk) hi (by rw [hi.length]; exact hn)) (fun f s' q => ?_) fun _ _ x => x
  obtain ⟨rfl, h', tk, rfl, F'⟩ := q
  obtain ⟨m', F''⟩ := fr_of F' (by rw [hL]; exact Nat.le_refl _)
  exact ⟨rfl, h', tk, m', rfl, F''⟩
end Mine

/-! ===== the join ===== -/
namespace Mine
open PySem PySem.W PyProof.Rows
open_top hd for PySem.Challenge.rw_xm0740_01
end Mine

open PySem PySem.W PyProof.Rows
theorem PySem.Challenge.cw_xm0740_01_holds : PySem.Challenge.rw_xm0740_01.Holds := by
  exact Mine.hd (by
    k_go0
    rename Top _ _ _ _ _ _ => T
    rename Fr _ _ _ _ => F
    rename IntsAre _ _ => hI
    rename Heap.IsList _ _ _ => hL
    rename ¬ _ => hlen
    have G := Mine.gl_of T (by
      intro name hn
      simp only [Mine.theNames, List.mem_cons, List.not_mem_nil, or_false] at hn
      rcases hn with rfl | rfl | rfl | rfl | rfl | rfl | rfl | rfl
      · exact ⟨rfl, _, List.mem_of_getElem? (i := 0) rfl, rfl⟩
      · exact ⟨rfl, _, List.mem_of_getElem? (i := 1) rfl, rfl⟩
      · exact ⟨rfl, _, List.mem_of_getElem? (i := 2) rfl, rfl⟩
      · exact ⟨rfl, _, List.mem_of_getElem? (i := 3) rfl, rfl⟩
      · exact ⟨rfl, _, List.mem_of_getElem? (i := 4) rfl, rfl⟩
      · exact ⟨rfl, _, List.mem_of_getElem? (i := 5) rfl, rfl⟩
      · exact ⟨rfl, _, List.mem_of_getElem? (i := 6) rfl, rfl⟩
      · exact ⟨rfl, _, List.mem_of_getElem? (i := 7) rfl, rfl⟩) (by
      intro q hq
      simp only [Mine.theBuiltins, List.mem_cons, List.not_mem_nil, or_false] at hq
      rcases hq with rfl | rfl | rfl | rfl | rfl | rfl | rfl
      · exact ⟨⟨by decide +kernel, by decide +kernel, by decide +kernel, by decide +kernel, by decide +kernel⟩, by decide, by first | exact PySem.boot_len | (dsimp only; boot_fast)⟩
      · exact ⟨⟨by decide +kernel, by decide +kernel, by decide +kernel, by decide +kernel, by decide +kernel⟩, by decide, by dsimp only; first | boot_fast | decide +kernel⟩
      · exact ⟨⟨by decide +kernel, by decide +kernel, by decide +kernel, by decide +kernel, by decide +kernel⟩, by decide, by dsimp only; first | boot_fast | decide +kernel⟩
      · exact ⟨⟨by decide +kernel, by decide +kernel, by decide +kernel, by decide +kernel, by decide +kernel⟩, by decide, by dsimp only; first | boot_fast | decide +kernel⟩
      · exact ⟨⟨by decide +kernel, by decide +kernel, by decide +kernel, by decide +kernel, by decide +kernel⟩, by decide, by dsimp only; first | boot_fast | decide +kernel⟩
      · exact ⟨⟨by decide +kernel, by decide +kernel, by decide +kernel, by decide +kernel, by decide +kernel⟩, by decide, by dsimp only; first | boot_fast | decide +kernel⟩
      · exact ⟨⟨by decide +kernel, by decide +kernel, by decide +kernel, by decide +kernel, by decide +kernel⟩, by decide, by dsimp only; first | boot_fast | decide +kernel⟩)
    have X : Mine.PW.theDef "law" = some (_, _, _) := rfl
    have Y := fun w A s m a cd l vs ns R F hm hl hi hn => @Mine.law_run w A s _ _ _ _ a cd m l vs ns _ _ _ R G X F rfl hm hl hi hn
    have e1 : Mine.PW = PySem.Challenge.rw_xm0740_01.row.prog := rfl
    rw [← e1]
    dsimp only
    with_reducible refine wpAny_mono (Y _ _ _ _ _ _ _ _ _ ?R F ?hm hL hI ?hn) ?last ?ex
    case R =>
      refine ⟨rfl, ?_, ?_⟩
      · show callerA.depth + 1 + 12 < recursionLimit
        decide
      · show callerA.units + 3 + 120 < cLine
        decide
    case hm => rfl
    case hn => omega
    case ex =>
      intro _ _ x
      exact x.elim
    intro f s' q
    obtain ⟨rfl, h', tk, m', rfl, F'⟩ := q
    dsimp only
    wrow_close)
