import PyProof.Rows.All
import Wide.All
import OpenK.AllK
import Wide.FinOn
import HandS.ForMost
import HandS.ForExc
import HandS.TupMul
import HandS.TupAny
import HandS.Star
import HandS.Wide
import HandS.Conv
import HandS.Style
import HandS.IsInst
import HandS.Zip
import HandS.More
import HandS.Evl
import HandS.Defaults
import HandS.NoneIn
import HandS.RaiseMore
import HandS.Walk
import PyProof.ReprLen
import PySem.Challenge.RW_holdsfailsopen_k33_whole_zones_as_an_alg
set_option Elab.async false
set_option linter.all false
set_option maxRecDepth 100000
set_option maxHeartbeats 0
namespace Zn
abbrev FAR : Int := 1000000
/-- two finite bounds together: the integers added, reached if both are -/
def fadd (x y : Int) : Int := 2 * (x / 2 + y / 2) + x % 2 * (y % 2)
abbrev B := Option Int
def dec (x : Int) : B := if x = FAR then none else some x
def badd : B → B → B
  | some x, some y => some (fadd x y)
  | _, _ => none
def ble : B → B → Prop
  | _, none => True
  | none, some _ => False
  | some x, some y => x ≤ y
theorem mod2 (x : Int) : x % 2 = 0 ∨ x % 2 = 1 := by omega
theorem fadd_one (x : Int) : fadd x 1 = x := by
  unfold fadd
  rcases mod2 x with h | h <;> simp [h] <;> omega
theorem fadd_comm (x y : Int) : fadd x y = fadd y x := by
  unfold fadd
  rcases mod2 x with h | h <;> rcases mod2 y with h' | h' <;> simp [h, h'] <;> omega
theorem fadd_assoc (x y z : Int) : fadd (fadd x y) z = fadd x (fadd y z) := by
  have key : ∀ a b : Int, (fadd a b) / 2 = a / 2 + b / 2 ∧ (fadd a b) % 2 = a % 2 * (b % 2) := fun a b => by
    unfold fadd
    rcases mod2 a with h | h <;> rcases mod2 b with h' | h' <;> simp [h, h'] <;> omega
  have e1 := key x y
  have e2 := key y z
  unfold fadd at e1 e2 ⊢
  rw [e1.1, e1.2, e2.1, e2.2]
  rcases mod2 x with h | h <;> rcases mod2 y with h' | h' <;> rcases mod2 z with h'' | h'' <;> simp [h, h', h''] <;> omega
theorem fadd_mono {x x' y y' : Int} (h : x ≤ x') (h' : y ≤ y') : fadd x y ≤ fadd x' y' := by
  unfold fadd
  rcases mod2 x with a | a <;> rcases mod2 y with b | b <;> rcases mod2 x' with c | c <;> rcases mod2 y' with d | d <;> simp [a, b, c, d] <;> omega
theorem fadd_bd (x y : Int) : x + y - 1 ≤ fadd x y ∧ fadd x y ≤ x + y := by
  unfold fadd
  rcases mod2 x with a | a <;> rcases mod2 y with b | b <;> simp [a, b] <;> omega
theorem badd_one (x : B) : badd x (some 1) = x := by
  cases x with
  | none => rfl
  | some x => exact congrArg some (fadd_one x)
theorem badd_comm (x y : B) : badd x y = badd y x := by
  cases x <;> cases y <;> first | rfl | exact congrArg some (fadd_comm _ _)
theorem one_badd (x : B) : badd (some 1) x = x := by rw [badd_comm, badd_one]
theorem badd_assoc (x y z : B) : badd (badd x y) z = badd x (badd y z) := by
  cases x <;> cases y <;> cases z <;> first | rfl | exact congrArg some (fadd_assoc _ _ _)
theorem badd_none (x : B) : badd x none = none := by cases x <;> rfl
theorem none_badd (x : B) : badd none x = none := by cases x <;> rfl
theorem ble_refl (x : B) : ble x x := by
  cases x with
  | none => trivial
  | some x => exact Int.le_refl x
theorem ble_top (x : B) : ble x none := by cases x <;> trivial
theorem ble_trans {x y z : B} (h : ble x y) (h' : ble y z) : ble x z := by
  cases z with
  | none => exact ble_top x
  | some z =>
    cases y with
    | none => exact h'.elim
    | some y =>
      cases x with
      | none => exact h.elim
      | some x => exact Int.le_trans h h'
theorem ble_anti {x y : B} (h : ble x y) (h' : ble y x) : x = y := by
  cases x with
  | none => cases y with
    | none => rfl
    | some y => exact h.elim
  | some x => cases y with
    | none => exact h'.elim
    | some y => exact congrArg some (Int.le_antisymm h h')
theorem badd_mono {x x' y y' : B} (h : ble x x') (h' : ble y y') : ble (badd x y) (badd x' y') := by
  cases x' with
  | none => rw [none_badd]; exact ble_top _
  | some a => cases y' with
    | none => exact ble_top _
    | some b => cases x with
      | none => exact h.elim
      | some c => cases y with
        | none => exact h'.elim
        | some d => exact fadd_mono h h'
theorem ble_some {x : B} {b : Int} (h : ble x (some b)) : ∃ a, x = some a ∧ a ≤ b := by
  cases x with
  | none => exact h.elim
  | some a => exact ⟨a, rfl, h⟩
theorem dec_far {x : Int} (h : x = FAR) : dec x = none := if_pos h
theorem dec_fin {x : Int} (h : x ≠ FAR) : dec x = some x := if_neg h
theorem dec_inj {x y : Int} (h : dec x = dec y) : x = y := by
  unfold dec at h
  split at h <;> split at h
  · rename_i a b; rw [a, b]
  · cases h
  · cases h
  · exact Option.some.inj h
theorem dec_some {x a : Int} (h : dec x = some a) : x = a ∧ x ≠ FAR := by
  unfold dec at h
  split at h
  · cases h
  · rename_i k; exact ⟨Option.some.inj h, k⟩
/-- the program's sum -/
def sb (x y : Int) : Int := if x = FAR ∨ y = FAR then FAR else fadd x y
theorem dec_sb {x y : Int} (hx : x = FAR ∨ x ≤ 400000) (hy : y = FAR ∨ y ≤ 400000) : dec (sb x y) = badd (dec x) (dec y) := by
  unfold sb
  by_cases h1 : x = FAR
  · rw [if_pos (.inl h1), dec_far h1, none_badd]; rfl
  · by_cases h2 : y = FAR
    · rw [if_pos (.inr h2), dec_far h2, badd_none]; rfl
    · rw [if_neg (by simp only [not_or]; exact ⟨h1, h2⟩), dec_fin h1, dec_fin h2]
      have := fadd_bd x y
      exact dec_fin (by have : FAR = 1000000 := rfl; omega)
theorem lt_dec {x y : Int} (hx : x = FAR ∨ x ≤ 900000) (hy : y = FAR ∨ y ≤ 900000) : (x < y → ble (dec x) (dec y)) ∧ (¬ x < y → ble (dec y) (dec x)) := by
  have hF : FAR = 1000000 := rfl
  constructor
  · intro h
    by_cases h2 : y = FAR
    · rw [dec_far h2]; exact ble_top _
    · rw [dec_fin h2, dec_fin (by omega)]
      show x ≤ y
      omega
  · intro h
    by_cases h2 : x = FAR
    · rw [dec_far h2]; exact ble_top _
    · rw [dec_fin h2, dec_fin (by omega)]
      show y ≤ x
      omega
end Zn

namespace Zn
theorem fold_inv {α : Type} {f : α → Nat → α} {n : Nat} {P : Nat → α → Prop} {a : α} (h0 : P 0 a) (hs : ∀ i a, i < n → P i a → P (i + 1) (f a i)) : P n ((List.range n).foldl f a) := by
  have key : ∀ m, m ≤ n → P m ((List.range m).foldl f a) := by
    intro m
    induction m with
    | zero => intro _; exact h0
    | succ m ih =>
      intro hm
      rw [List.range_succ, List.foldl_append]
      exact hs m _ (by omega) (ih (by omega))
  exact key n (Nat.le_refl n)
theorem fold_succ {α : Type} {f : α → Nat → α} {n : Nat} {a : α} : (List.range (n + 1)).foldl f a = f ((List.range n).foldl f a) n := by
  rw [List.range_succ, List.foldl_append]
  rfl
def ent (n : Nat) (m : List Int) (i j : Nat) : Int := m.getD (i * n + j) 0
def M (n : Nat) (m : List Int) (i j : Nat) : B := dec (ent n m i j)
theorem ix_lt {n i j : Nat} (hi : i < n) (hj : j < n) : i * n + j < n * n := by
  have : (i + 1) * n ≤ n * n := Nat.mul_le_mul_right n hi
  rw [Nat.succ_mul] at this
  omega
theorem ix_inj {n i j a b : Nat} (hj : j < n) (hb : b < n) (h : i * n + j = a * n + b) : i = a ∧ j = b := by
  rcases Nat.lt_trichotomy i a with c | c | c
  · have : (i + 1) * n ≤ a * n := Nat.mul_le_mul_right n c
    rw [Nat.succ_mul] at this
    omega
  · subst c
    exact ⟨rfl, by omega⟩
  · have : (a + 1) * n ≤ i * n := Nat.mul_le_mul_right n c
    rw [Nat.succ_mul] at this
    omega
theorem ent_set {n i j a b : Nat} {m : List Int} {y : Int} (hl : m.length = n * n) (hi : i < n) (hj : j < n) (ha : a < n) (hb : b < n) :
    ent n (m.set (i * n + j) y) a b = if a = i ∧ b = j then y else ent n m a b := by
  unfold ent
  rw [List.getD_eq_getElem?_getD, List.getD_eq_getElem?_getD]
  by_cases h : a = i ∧ b = j
  · rw [if_pos h, h.1, h.2, List.getElem?_set_self (by rw [hl]; exact ix_lt hi hj)]
    rfl
  · rw [if_neg h, List.getElem?_set_ne]
    intro e
    obtain ⟨e1, e2⟩ := ix_inj hj hb e
    exact h ⟨e1.symm, e2.symm⟩
theorem ent_same {n i j : Nat} {m : List Int} {y : Int} (hl : m.length = n * n) (hi : i < n) (hj : j < n) : ent n (m.set (i * n + j) y) i j = y := by
  rw [ent_set hl hi hj hi hj, if_pos ⟨rfl, rfl⟩]
theorem ent_other {n i j a b : Nat} {m : List Int} {y : Int} (hl : m.length = n * n) (hi : i < n) (hj : j < n) (ha : a < n) (hb : b < n) (h : ¬ (a = i ∧ b = j)) : ent n (m.set (i * n + j) y) a b = ent n m a b := by
  rw [ent_set hl hi hj ha hb, if_neg h]
/-- lists with the same entries -/
theorem ext_ent {n : Nat} {m m' : List Int} (h1 : m.length = n * n) (h2 : m'.length = n * n) (h : ∀ i j, i < n → j < n → M n m i j = M n m' i j) : m = m' := by
  apply List.ext_getElem? 
  intro t
  by_cases ht : t < n * n
  · have hn : 0 < n := by
      rcases Nat.eq_zero_or_pos n with z | z
      · subst z; simp at ht
      · exact z
    have hi : t / n < n := Nat.div_lt_of_lt_mul ht
    have hj : t % n < n := Nat.mod_lt _ hn
    have e : t / n * n + t % n = t := by rw [Nat.mul_comm]; exact Nat.div_add_mod t n
    have q := dec_inj (h (t / n) (t % n) hi hj)
    unfold ent at q
    rw [e, List.getD_eq_getElem?_getD, List.getD_eq_getElem?_getD, List.getElem?_eq_getElem (by omega), List.getElem?_eq_getElem (by omega)] at q
    rw [List.getElem?_eq_getElem (by omega), List.getElem?_eq_getElem (by omega)]
    exact congrArg some q
  · rw [List.getElem?_eq_none (by omega), List.getElem?_eq_none (by omega)]
def stepF (n k i j : Nat) (m : List Int) : List Int :=
  if sb (ent n m i k) (ent n m k j) < ent n m i j then m.set (i * n + j) (sb (ent n m i k) (ent n m k j)) else m
def rowF (n k i : Nat) (m : List Int) : List Int := (List.range n).foldl (fun m j => stepF n k i j m) m
def phaseF (n k : Nat) (m : List Int) : List Int := (List.range n).foldl (fun m i => rowF n k i m) m
def fwF (n : Nat) (m : List Int) : List Int := (List.range n).foldl (fun m k => phaseF n k m) m
def Cap (V x : Int) : Prop := x = FAR ∨ x ≤ V
/-- entries are none, or not great -/
def Good (n : Nat) (V : Int) (m : List Int) : Prop := ∀ i j, i < n → j < n → Cap V (ent n m i j)
theorem Cap.mono {V W x : Int} (h : Cap V x) (w : V ≤ W) : Cap W x := by
  rcases h with h | h
  · exact .inl h
  · exact .inr (by omega)
def ClosedS (n : Nat) (S : Nat → Nat → B → Prop) : Prop := ∀ i j k b c, i < n → j < n → k < n → S i k b → S k j c → S i j (badd b c)
structure StepOk (n k i j : Nat) (m m' : List Int) : Prop where
  len : m'.length = n * n
  oth : ∀ a b, a < n → b < n → ¬ (a = i ∧ b = j) → ent n m' a b = ent n m a b
  val : ent n m' i j = ent n m i j ∨ (ent n m' i j = sb (ent n m i k) (ent n m k j) ∧ sb (ent n m i k) (ent n m k j) < ent n m i j)
  le1 : ble (M n m' i j) (M n m i j)
  le2 : ble (M n m' i j) (badd (M n m i k) (M n m k j))
  two : M n m' i j = M n m i j ∨ M n m' i j = badd (M n m i k) (M n m k j)
theorem step_ok {n k i j : Nat} {m : List Int} (hl : m.length = n * n) (hk : k < n) (hi : i < n) (hj : j < n) (g : Good n 400000 m) : StepOk n k i j m (stepF n k i j m) := by
  have e : dec (sb (ent n m i k) (ent n m k j)) = badd (M n m i k) (M n m k j) := dec_sb (g i k hi hk) (g k j hk hj)
  have hs : Cap 800000 (sb (ent n m i k) (ent n m k j)) := by
    unfold sb
    split
    · exact .inl rfl
    · rename_i h
      rw [not_or] at h
      have h1 := (g i k hi hk).resolve_left h.1
      have h2 := (g k j hk hj).resolve_left h.2
      have := fadd_bd (ent n m i k) (ent n m k j)
      exact .inr (by omega)
  have lt := lt_dec (hs.mono (by decide : (800000 : Int) ≤ 900000)) ((g i j hi hj).mono (by decide : (400000 : Int) ≤ 900000))
  unfold stepF
  by_cases h : sb (ent n m i k) (ent n m k j) < ent n m i j
  · rw [if_pos h]
    have z := ent_same (y := sb (ent n m i k) (ent n m k j)) hl hi hj
    have z' : M n (m.set (i * n + j) (sb (ent n m i k) (ent n m k j))) i j = badd (M n m i k) (M n m k j) := by
      unfold M
      rw [z]
      exact e
    refine ⟨by rw [List.length_set]; exact hl, fun a b ha hb ne => ent_other hl hi hj ha hb ne, .inr ⟨z, h⟩, ?_, ?_, .inr z'⟩
    · rw [z', ← e]
      exact lt.1 h
    · rw [z']
      exact ble_refl _
  · rw [if_neg h]
    refine ⟨hl, fun a b _ _ _ => rfl, .inl rfl, ble_refl _, ?_, .inl rfl⟩
    rw [← e]
    exact lt.2 h
/-- where the (a, b)-th entry was looked at, ahead of (i, j) -/
def Ahead (i j a b : Nat) : Prop := a < i ∨ (a = i ∧ b < j)
structure PhInv (n k : Nat) (V : Int) (m0 : List Int) (i j : Nat) (m : List Int) : Prop where
  len : m.length = n * n
  le0 : ∀ a b, a < n → b < n → ble (M n m a b) (M n m0 a b)
  sp : ∀ S, ClosedS n S → (∀ a b, a < n → b < n → S a b (M n m0 a b)) → ∀ a b, a < n → b < n → S a b (M n m a b)
  good : Good n (2 * V) m
  col : ∀ a, a < n → Cap V (ent n m a k) ∧ Cap V (ent n m k a)
  dia : M n m0 k k = some 1 → M n m k k = some 1 → (∀ a, a < n → M n m a k = M n m0 a k ∧ M n m k a = M n m0 k a) ∧
    (∀ a b, a < n → b < n → Ahead i j a b → ble (M n m a b) (badd (M n m0 a k) (M n m0 k b))) ∧
    ∀ a b, a < n → b < n → M n m a b = M n m0 a b ∨ M n m a b = badd (M n m0 a k) (M n m0 k b)
theorem ph_step {n k i j : Nat} {V : Int} {m0 m : List Int} (hV : 0 ≤ V ∧ V ≤ 200000) (hk : k < n) (hi : i < n) (hj : j < n) (h : PhInv n k V m0 i j m) : PhInv n k V m0 i (j + 1) (stepF n k i j m) := by
  have hF : FAR = 1000000 := rfl
  have S := step_ok h.len hk hi hj (fun a b ha hb => (h.good a b ha hb).mono (by omega))
  generalize stepF n k i j m = m' at S
  have oM : ∀ a b, a < n → b < n → ¬ (a = i ∧ b = j) → M n m' a b = M n m a b := fun a b ha hb ne => congrArg dec (S.oth a b ha hb ne)
  have cik := (h.col i hi).1
  have ckj := (h.col j hj).2
  refine ⟨S.len, fun a b ha hb => ?_, fun T hT hb0 a b ha hb => ?_, fun a b ha hb => ?_, fun a ha => ?_, fun hd0 hd => ?_⟩
  · by_cases e : a = i ∧ b = j
    · obtain ⟨rfl, rfl⟩ := e
      exact ble_trans S.le1 (h.le0 a b ha hb)
    · rw [oM a b ha hb e]
      exact h.le0 a b ha hb
  · have hm := h.sp T hT hb0
    by_cases e : a = i ∧ b = j
    · obtain ⟨rfl, rfl⟩ := e
      rcases S.two with q | q
      · rw [q]; exact hm a b ha hb
      · rw [q]; exact hT a b k _ _ ha hb hk (hm a k ha hk) (hm k b hk hb)
    · rw [oM a b ha hb e]
      exact hm a b ha hb
  · by_cases e : a = i ∧ b = j
    · obtain ⟨rfl, rfl⟩ := e
      rcases S.val with q | ⟨q, lt⟩
      · rw [q]; exact h.good a b ha hb
      · rw [q]
        unfold sb at lt ⊢
        split
        · exact .inl rfl
        · rename_i ne
          rw [not_or] at ne
          have h1 := cik.resolve_left ne.1
          have h2 := ckj.resolve_left ne.2
          have := fadd_bd (ent n m a k) (ent n m k b)
          exact .inr (by omega)
    · rw [S.oth a b ha hb e]
      exact h.good a b ha hb
  · have low : ∀ a b, a < n → b < n → Cap V (ent n m a b) → (a = i ∧ b = j → sb (ent n m i k) (ent n m k j) < ent n m i j → ent n m i j ≠ FAR) → Cap V (ent n m' a b) := fun a b ha hb c ne => by
      by_cases e : a = i ∧ b = j
      · have ne' := ne e
        obtain ⟨rfl, rfl⟩ := e
        rcases S.val with q | ⟨q, lt⟩
        · rw [q]; exact c
        · rw [q]
          have := c.resolve_left (ne' lt)
          exact .inr (by omega)
      · rw [S.oth a b ha hb e]
        exact c
    refine ⟨low a k ha hk (h.col a ha).1 fun e lt z => ?_, low k a hk ha (h.col a ha).2 fun e lt z => ?_⟩
    · obtain ⟨e1, e2⟩ := e
      rw [← e2] at z
      unfold sb at lt
      rw [if_pos (.inl z)] at lt
      have := h.good i j hi hj
      rw [← e2, z] at lt
      omega
    · obtain ⟨e1, e2⟩ := e
      rw [← e1] at z
      unfold sb at lt
      rw [if_pos (.inr z)] at lt
      rw [← e1, z] at lt
      omega
  · -- the own diagonal entry was 1 before, too
    have hdm : M n m k k = some 1 := by
      have l1 : ble (M n m' k k) (M n m k k) := by
        by_cases e : k = i ∧ k = j
        · obtain ⟨rfl, e2⟩ := e
          subst e2
          exact S.le1
        · rw [oM k k hk hk e]
          exact ble_refl _
      have l2 := h.le0 k k hk hk
      rw [hd0] at l2
      rw [hd] at l1
      exact ble_anti l2 l1
    obtain ⟨d1, d2, d3⟩ := h.dia hd0 hdm
    have same : ∀ a b, a < n → b < n → (b = k ∨ a = k) → M n m' a b = M n m a b := fun a b ha hb c => by
      by_cases e : a = i ∧ b = j
      · obtain ⟨rfl, rfl⟩ := e
        rcases S.two with q | q
        · exact q
        · rw [q]
          rcases c with rfl | rfl
          · rw [hdm, badd_one]
          · rw [hdm, one_badd]
      · exact oM a b ha hb e
    refine ⟨fun a ha => ⟨(same a k ha hk (.inl rfl)).trans (d1 a ha).1, (same k a hk ha (.inr rfl)).trans (d1 a ha).2⟩, fun a b ha hb ah => ?_, fun a b ha hb => ?_⟩
    · by_cases e : a = i ∧ b = j
      · obtain ⟨rfl, rfl⟩ := e
        have q := S.le2
        rw [(d1 a ha).1, (d1 b hb).2] at q
        exact q
      · rw [oM a b ha hb e]
        refine d2 a b ha hb ?_
        rcases ah with c | ⟨c1, c2⟩
        · exact .inl c
        · exact .inr ⟨c1, by omega⟩
    · by_cases e : a = i ∧ b = j
      · obtain ⟨rfl, rfl⟩ := e
        rcases S.two with q | q
        · rw [q]; exact d3 a b ha hb
        · rw [q, (d1 a ha).1, (d1 b hb).2]; exact .inr rfl
      · rw [oM a b ha hb e]
        exact d3 a b ha hb
theorem ph_next {n k i : Nat} {V : Int} {m0 m : List Int} (h : PhInv n k V m0 i n m) : PhInv n k V m0 (i + 1) 0 m :=
  ⟨h.len, h.le0, h.sp, h.good, h.col, fun hd0 hd => by
    obtain ⟨d1, d2, d3⟩ := h.dia hd0 hd
    refine ⟨d1, fun a b ha hb ah => d2 a b ha hb ?_, d3⟩
    rcases ah with c | ⟨_, c⟩
    · rcases Nat.lt_succ_iff_lt_or_eq.mp c with c | c
      · exact .inl c
      · exact .inr ⟨c, hb⟩
    · omega⟩
theorem phase_ok {n k : Nat} {V : Int} {m : List Int} (hV : 0 ≤ V ∧ V ≤ 200000) (hl : m.length = n * n) (hk : k < n) (g : Good n V m) : PhInv n k V m n 0 (phaseF n k m) := by
  refine fold_inv (P := fun i m' => PhInv n k V m i 0 m') ?_ fun i m' hi h => ph_next (fold_inv (P := fun j m'' => PhInv n k V m i j m'') h fun j m'' hj h' => ph_step hV hk hi hj h')
  refine ⟨hl, fun a b _ _ => ble_refl _, fun S _ h => h, fun a b ha hb => (g a b ha hb).mono (by omega), fun a ha => ⟨g a k ha hk, g k a hk ha⟩, fun _ _ => ⟨fun a ha => ⟨rfl, rfl⟩, fun a b ha hb ah => ?_, fun a b _ _ => .inl rfl⟩⟩
  rcases ah with c | ⟨_, c⟩ <;> omega
def Diag (n : Nat) (X : Nat → Nat → B) : Prop := ∀ i, i < n → X i i = some 1
def Tri (n : Nat) (X : Nat → Nat → B) : Prop := ∀ i j k, i < n → j < n → k < n → ble (X i j) (badd (X i k) (X k j))
structure FwInv (n : Nat) (V : Int) (m0 : List Int) (t : Nat) (m : List Int) : Prop where
  len : m.length = n * n
  le0 : ∀ a b, a < n → b < n → ble (M n m a b) (M n m0 a b)
  sp : ∀ S, ClosedS n S → (∀ a b, a < n → b < n → S a b (M n m0 a b)) → ∀ a b, a < n → b < n → S a b (M n m a b)
  good : Good n (2 ^ t * V) m
  tri : Diag n (M n m) → ∀ a b l, a < n → b < n → l < t → ble (M n m a b) (badd (M n m a l) (M n m l b))
theorem pow_cap {t : Nat} {V : Int} (ht : t ≤ 3) (hV : 0 ≤ V ∧ V ≤ 20000) : 0 ≤ 2 ^ t * V ∧ 2 ^ t * V ≤ 200000 := by
  have h : t = 0 ∨ t = 1 ∨ t = 2 ∨ t = 3 := by omega
  rcases h with rfl | rfl | rfl | rfl <;> constructor <;> omega
/-- the diagonal of a phase's matrix that is 1 behind it was 1 ahead of it -/
theorem diag_back {n : Nat} {X Y : Nat → Nat → B} (h : ∀ i, i < n → ble (X i i) (Y i i)) (h0 : ∀ i, i < n → ble (Y i i) (some 1)) (d : Diag n X) : Diag n Y := fun i hi => by
  have a := h i hi
  rw [d i hi] at a
  exact ble_anti (h0 i hi) a
theorem fw_step {n t : Nat} {V : Int} {m0 m : List Int} (hn : n ≤ 4) (hV : 0 ≤ V ∧ V ≤ 20000) (ht : t < n) (h0 : ∀ i, i < n → ble (M n m0 i i) (some 1)) (h : FwInv n V m0 t m) : FwInv n V m0 (t + 1) (phaseF n t m) := by
  have P := phase_ok (pow_cap (t := t) (by omega) hV) h.len ht h.good
  generalize phaseF n t m = m' at P
  refine ⟨P.len, fun a b ha hb => ble_trans (P.le0 a b ha hb) (h.le0 a b ha hb), fun S hS hb => P.sp S hS (h.sp S hS hb), ?_, fun hd => ?_⟩
  · have g := P.good
    rw [show 2 ^ (t + 1) * V = 2 * (2 ^ t * V) by rw [Int.pow_succ, Int.mul_comm (2 ^ t) 2, Int.mul_assoc]]
    exact g
  · have hd0 : Diag n (M n m) := diag_back (fun i hi => P.le0 i i hi hi) (fun i hi => ble_trans (h.le0 i i hi hi) (h0 i hi)) hd
    obtain ⟨d1, d2, d3⟩ := P.dia (hd0 t ht) (hd t ht)
    have T := h.tri hd0
    intro a b l ha hb hl
    have ln : l < n := by omega
    have le := fun a b ha hb => P.le0 a b ha hb
    have via := fun a b ha hb => d2 a b ha hb (Or.inl ha)
    rcases Nat.lt_succ_iff_lt_or_eq.mp hl with hl | rfl
    · -- an elder middle
      rcases d3 a l ha ln with q | q <;> rcases d3 l b ln hb with r | r <;> rw [q, r]
      · exact ble_trans (le a b ha hb) (T a b l ha hb hl)
      · -- M a l + (M l t + M t b)
        rw [← badd_assoc]
        exact ble_trans (via a b ha hb) (badd_mono (T a t l ha ht hl) (ble_refl _))
      · rw [badd_assoc]
        exact ble_trans (via a b ha hb) (badd_mono (ble_refl _) (T t b l ht hb hl))
      · -- M a t + M t l + M l t + M t b
        have z : ble (some 1) (badd (M n m t l) (M n m l t)) := by
          have := T t t l ht ht hl
          rw [hd0 t ht] at this
          exact this
        rw [badd_assoc, ← badd_assoc (M n m t l)]
        refine ble_trans (via a b ha hb) (badd_mono (ble_refl _) ?_)
        have := badd_mono z (ble_refl (M n m t b))
        rw [one_badd] at this
        exact this
    · rw [(d1 a ha).1, (d1 b hb).2]
      exact via a b ha hb
theorem fw_ok {n : Nat} {V : Int} {m : List Int} (hn : n ≤ 4) (hV : 0 ≤ V ∧ V ≤ 20000) (hl : m.length = n * n) (g : Good n V m) (h0 : ∀ i, i < n → ble (M n m i i) (some 1)) : FwInv n V m n (fwF n m) := by
  refine fold_inv (P := fun t m' => FwInv n V m t m') ?_ fun t m' ht h => fw_step hn hV ht h0 h
  refine ⟨hl, fun a b _ _ => ble_refl _, fun S _ h => h, ?_, fun _ a b l _ _ h => absurd h (Nat.not_lt_zero l)⟩
  rw [Int.pow_zero, Int.one_mul]
  exact g
end Zn

namespace Zn
def tightF (n : Nat) (m : List Int) : Option (List Int) :=
  if (List.range n).any (fun i => decide (ent n (fwF n m) i i < 1)) then none else some (fwF n m)
/-- a bound of one clock: which, from above, reached, the number -/
structure Gd where
  cl : Nat
  up : Bool
  le : Bool
  num : Nat
def Gd.val (g : Gd) : Int := (if g.up then 2 * (g.num : Int) else 2 * (0 - (g.num : Int))) + (if g.le then 1 else 0)
def Gd.p (g : Gd) : Nat := if g.up then 1 + g.cl else 0
def Gd.q (g : Gd) : Nat := if g.up then 0 else 1 + g.cl
def Gd.Ok (n : Nat) (g : Gd) : Prop := 1 + g.cl < n ∧ g.num ≤ 12
def putG (n : Nat) (m : List Int) (g : Gd) : List Int := m.set (g.p * n + g.q) (min (ent n m g.p g.q) g.val)
def putAll (n : Nat) (gs : List Gd) (m : List Int) : List Int := gs.foldl (putG n) m
def withF (n : Nat) (m : List Int) (gs : List Gd) : Option (List Int) := tightF n (putAll n gs m)
/-- what a square is made by: the elder square, the bounds of guards, and what follows of them -/
def Base (n : Nat) (Z : List Int) (gs : List Gd) (S : Nat → Nat → B → Prop) : Prop := ClosedS n S ∧ (∀ i j, i < n → j < n → S i j (M n Z i j)) ∧ ∀ g, g ∈ gs → S g.p g.q (some g.val)
structure MeetS (n : Nat) (Z : List Int) (gs : List Gd) (r : List Int) : Prop where
  len : r.length = n * n
  tri : Tri n (M n r)
  dia : Diag n (M n r)
  low : ∀ i j, i < n → j < n → ble (M n r i j) (M n Z i j)
  gds : ∀ g, g ∈ gs → ble (M n r g.p g.q) (some g.val)
  sp : ∀ S, Base n Z gs S → ∀ i j, i < n → j < n → S i j (M n r i j)
def MeetN (n : Nat) (Z : List Int) (gs : List Gd) : Prop := ∃ i, i < n ∧ ∃ a : Int, a < 1 ∧ ∀ S, Base n Z gs S → S i i (some a)
def Meet (n : Nat) (Z : List Int) (gs : List Gd) : Option (List Int) → Prop
  | none => MeetN n Z gs
  | some r => MeetS n Z gs r
/-- what lies above a tight square -/
def Over (n : Nat) (r : List Int) : Nat → Nat → B → Prop := fun i j b => ble (M n r i j) b
theorem over_closed {n : Nat} {r : List Int} (h : Tri n (M n r)) : ClosedS n (Over n r) := fun i j k _ _ hi hj hk hb hc => ble_trans (h i j k hi hj hk) (badd_mono hb hc)
theorem MeetS.over {n : Nat} {Z r : List Int} {gs : List Gd} (h : MeetS n Z gs r) : Base n Z gs (Over n r) := ⟨over_closed h.tri, h.low, h.gds⟩
theorem MeetN.no {n : Nat} {Z r : List Int} {gs : List Gd} (h : MeetN n Z gs) (d : Diag n (M n r)) (b : Base n Z gs (Over n r)) : False := by
  obtain ⟨i, hi, a, ha, q⟩ := h
  have z : ble (M n r i i) (some a) := q _ b
  rw [d i hi] at z
  have z : (1 : Int) ≤ a := z
  omega
theorem below_eq {n : Nat} {r s : List Int} (h1 : r.length = n * n) (h2 : s.length = n * n) (h : ∀ i j, i < n → j < n → ble (M n r i j) (M n s i j)) (h' : ∀ i j, i < n → j < n → ble (M n s i j) (M n r i j)) : r = s :=
  ext_ent h1 h2 fun i j hi hj => ble_anti (h i j hi hj) (h' i j hi hj)
/-- made by the same, they are the same -/
theorem meet_eq {n : Nat} {Z Y : List Int} {gs hs : List Gd} {a b : Option (List Int)} (ha : Meet n Z gs a) (hb : Meet n Y hs b) (hz : ∀ r, MeetS n Z gs r → Base n Y hs (Over n r)) (hy : ∀ r, MeetS n Y hs r → Base n Z gs (Over n r)) : a = b := by
  cases a with
  | none => cases b with
    | none => rfl
    | some s => exact (MeetN.no ha (MeetS.dia hb) (hy s hb)).elim
  | some r => cases b with
    | none => exact (MeetN.no hb (MeetS.dia ha) (hz r ha)).elim
    | some s => exact congrArg some (below_eq (MeetS.len ha) (MeetS.len hb) (MeetS.sp hb _ (hz r ha)) (MeetS.sp ha _ (hy s hb)))
theorem meet_perm {n : Nat} {Z : List Int} {gs hs : List Gd} {a b : Option (List Int)} (ha : Meet n Z gs a) (hb : Meet n Z hs b) (h : ∀ g, g ∈ gs ↔ g ∈ hs) : a = b :=
  meet_eq ha hb (fun r k => ⟨over_closed k.tri, k.low, fun g hg => k.gds g ((h g).mpr hg)⟩) (fun r k => ⟨over_closed k.tri, k.low, fun g hg => k.gds g ((h g).mp hg)⟩)
theorem Gd.Ok.p {n : Nat} {g : Gd} (h : g.Ok n) : g.p < n := by
  obtain ⟨h, _⟩ := h
  unfold Gd.p
  cases g.up
  · exact Nat.lt_of_le_of_lt (Nat.zero_le _) h
  · exact h
theorem Gd.Ok.q {n : Nat} {g : Gd} (h : g.Ok n) : g.q < n := by
  obtain ⟨h, _⟩ := h
  unfold Gd.q
  cases g.up
  · exact h
  · exact Nat.lt_of_le_of_lt (Nat.zero_le _) h
theorem meet_then {n : Nat} {Z r : List Int} {gs hs : List Gd} {a : Option (List Int)} (ok : ∀ g, g ∈ gs → g.Ok n) (h : MeetS n Z gs r) (k : Meet n r hs a) : Meet n Z (gs ++ hs) a := by
  have up : ∀ S, Base n Z (gs ++ hs) S → Base n r hs S := fun S b => ⟨b.1, h.sp S ⟨b.1, b.2.1, fun g hg => b.2.2 g (List.mem_append_left _ hg)⟩, fun g hg => b.2.2 g (List.mem_append_right _ hg)⟩
  cases a with
  | none =>
    obtain ⟨i, hi, x, hx, q⟩ := k
    exact ⟨i, hi, x, hx, fun S b => q S (up S b)⟩
  | some s =>
    have k : MeetS n r hs s := k
    refine ⟨k.len, k.tri, k.dia, fun i j hi hj => ble_trans (k.low i j hi hj) (h.low i j hi hj), fun g hg => ?_, fun S b => k.sp S (up S b)⟩
    rcases List.mem_append.mp hg with hg | hg
    · exact ble_trans (k.low _ _ (ok g hg).p (ok g hg).q) (h.gds g hg)
    · exact k.gds g hg
theorem meetN_more {n : Nat} {Z : List Int} {gs : List Gd} (hs : List Gd) (h : MeetN n Z gs) : MeetN n Z (gs ++ hs) := by
  obtain ⟨i, hi, x, hx, q⟩ := h
  exact ⟨i, hi, x, hx, fun S b => q S ⟨b.1, b.2.1, fun g hg => b.2.2 g (List.mem_append_left _ hg)⟩⟩
/-! ### the guards laid into the square -/
theorem dec_min {x y : Int} (hx : Cap 900000 x) (hy : y ≤ 900000) : ble (dec (min x y)) (dec x) ∧ ble (dec (min x y)) (some y) ∧ (dec (min x y) = dec x ∨ dec (min x y) = some y) := by
  have hF : FAR = 1000000 := rfl
  have ey : dec y = some y := dec_fin (by omega)
  by_cases h : x ≤ y
  · rw [Int.min_eq_left h]
    have hf : x ≠ FAR := by omega
    refine ⟨ble_refl _, ?_, .inl rfl⟩
    rw [dec_fin hf]
    exact h
  · rw [Int.min_eq_right (by omega)]
    refine ⟨?_, ?_, .inr ey⟩
    · rw [ey]
      by_cases hf : x = FAR
      · rw [dec_far hf]; trivial
      · rw [dec_fin hf]
        show y ≤ x
        omega
    · rw [ey]
      exact Int.le_refl y
theorem Gd.val_le {n : Nat} {g : Gd} (h : g.Ok n) : g.val ≤ 25 ∧ -24 ≤ g.val := by
  obtain ⟨_, h⟩ := h
  unfold Gd.val
  cases g.up <;> cases g.le <;> simp <;> omega
structure PutInv (n : Nat) (V : Int) (Z : List Int) (gs : List Gd) (m : List Int) : Prop where
  len : m.length = n * n
  good : Good n V m
  low : ∀ i j, i < n → j < n → ble (M n m i j) (M n Z i j)
  gds : ∀ g, g ∈ gs → ble (M n m g.p g.q) (some g.val)
  sp : ∀ S : Nat → Nat → B → Prop, (∀ i j, i < n → j < n → S i j (M n Z i j)) → (∀ g, g ∈ gs → S g.p g.q (some g.val)) → ∀ i j, i < n → j < n → S i j (M n m i j)
theorem put_one {n : Nat} {V : Int} {Z m : List Int} {gs : List Gd} {g : Gd} (hV : 25 ≤ V ∧ V ≤ 20000) (hok : ∀ g, g ∈ gs → g.Ok n) (hg : g.Ok n) (h : PutInv n V Z gs m) : PutInv n V Z (gs ++ [g]) (putG n m g) := by
  have hF : FAR = 1000000 := rfl
  have hp := hg.p
  have hq := hg.q
  have hv := (Gd.val_le hg).1
  have cur := h.good _ _ hp hq
  obtain ⟨d1, d2, d3⟩ := dec_min (x := ent n m g.p g.q) (y := g.val) (cur.mono (by omega)) (by omega)
  have same : ent n (putG n m g) g.p g.q = min (ent n m g.p g.q) g.val := ent_same h.len hp hq
  have oth : ∀ a b, a < n → b < n → ¬ (a = g.p ∧ b = g.q) → ent n (putG n m g) a b = ent n m a b := fun a b ha hb ne => ent_other h.len hp hq ha hb ne
  have le : ∀ a b, a < n → b < n → ble (M n (putG n m g) a b) (M n m a b) := fun a b ha hb => by
    by_cases e : a = g.p ∧ b = g.q
    · rw [e.1, e.2]
      show ble (dec _) _
      rw [same]
      exact d1
    · show ble (dec _) _
      rw [oth a b ha hb e]
      exact ble_refl _
  refine ⟨by unfold putG; rw [List.length_set]; exact h.len, fun a b ha hb => ?_, fun a b ha hb => ble_trans (le a b ha hb) (h.low a b ha hb), fun k hk => ?_, fun S b1 b2 a b ha hb => ?_⟩
  · by_cases e : a = g.p ∧ b = g.q
    · rw [e.1, e.2, same]
      by_cases c : ent n m g.p g.q ≤ g.val
      · rw [Int.min_eq_left c]; exact cur
      · rw [Int.min_eq_right (by omega)]; exact .inr (by omega)
    · rw [oth a b ha hb e]
      exact h.good a b ha hb
  · rcases List.mem_append.mp hk with hk | hk
    · exact ble_trans (le _ _ (hok k hk).p (hok k hk).q) (h.gds k hk)
    · rw [List.mem_singleton.mp hk]
      show ble (dec _) _
      rw [same]
      exact d2
  · have s0 := h.sp S b1 fun k hk => b2 k (List.mem_append_left _ hk)
    by_cases e : a = g.p ∧ b = g.q
    · rw [e.1, e.2]
      show S _ _ (dec _)
      rw [same]
      rcases d3 with q | q
      · rw [q]; exact s0 _ _ hp hq
      · rw [q]; exact b2 g (List.mem_append_right _ (List.mem_singleton.mpr rfl))
    · show S _ _ (dec _)
      rw [oth a b ha hb e]
      exact s0 a b ha hb
theorem put_all {n : Nat} {V : Int} {Z : List Int} (hV : 25 ≤ V ∧ V ≤ 20000) : ∀ (gs hs : List Gd) (m : List Int), (∀ g, g ∈ hs → g.Ok n) → (∀ g, g ∈ gs → g.Ok n) → PutInv n V Z hs m → PutInv n V Z (hs ++ gs) (putAll n gs m)
  | [], hs, m, _, _, h => by rw [List.append_nil]; exact h
  | g :: gs, hs, m, ok, ok', h => by
    have := put_all hV gs (hs ++ [g]) (putG n m g) (fun k hk => by
      rcases List.mem_append.mp hk with hk | hk
      · exact ok k hk
      · rw [List.mem_singleton.mp hk]; exact ok' g List.mem_cons_self) (fun k hk => ok' k (List.mem_cons_of_mem _ hk)) (put_one hV ok (ok' g List.mem_cons_self) h)
    rw [List.append_assoc] at this
    exact this
/-- a tight square of so many rows -/
structure Zone (n : Nat) (c : Nat) (m : List Int) : Prop where
  size : 2 ≤ n ∧ n ≤ 4
  len : m.length = n * n
  tri : Tri n (M n m)
  dia : Diag n (M n m)
  row : ∀ j, j < n → ∃ a, M n m 0 j = some a ∧ a ≤ 1 ∧ -(30 * (c : Int)) ≤ a
  top : ∀ i j a, i < n → j < n → M n m i j = some a → a ≤ 30 * (c : Int) + 1
theorem Zone.good {n c : Nat} {m : List Int} (h : Zone n c m) {V : Int} (hV : 30 * (c : Int) + 1 ≤ V) : Good n V m := fun i j hi hj => by
  by_cases e : ent n m i j = FAR
  · exact .inl e
  · have := h.top i j _ hi hj (dec_fin e)
    exact .inr (by omega)
theorem with_meet {n c : Nat} {Z : List Int} {gs : List Gd} (h : Zone n c Z) (hc : c ≤ 600) (ok : ∀ g, g ∈ gs → g.Ok n) : Meet n Z gs (withF n Z gs) := by
  have P := put_all (V := 20000) (Z := Z) (by omega) gs [] Z (fun _ h => absurd h List.not_mem_nil) ok ⟨h.len, h.good (by omega), fun _ _ _ _ => ble_refl _, fun _ h => absurd h List.not_mem_nil, fun S b _ => b⟩
  rw [List.nil_append] at P
  unfold withF
  generalize putAll n gs Z = m at P
  have F := fw_ok h.size.2 (by omega) P.len P.good fun i hi => by
    have q := P.low i i hi hi
    rw [h.dia i hi] at q
    exact q
  unfold tightF
  generalize fwF n m = r at F
  by_cases hn : (List.range n).any (fun i => decide (ent n r i i < 1)) = true
  · rw [if_pos hn]
    obtain ⟨i, hi, hlt⟩ := List.any_eq_true.mp hn
    have hi := List.mem_range.mp hi
    have hlt : ent n r i i < 1 := of_decide_eq_true hlt
    refine ⟨i, hi, ent n r i i, hlt, fun S b => ?_⟩
    have q := F.sp S b.1 (P.sp S b.2.1 b.2.2) i i hi hi
    have e : M n r i i = some (ent n r i i) := dec_fin (by have : FAR = 1000000 := rfl; omega)
    rw [e] at q
    exact q
  · rw [if_neg hn]
    have hd : Diag n (M n r) := fun i hi => by
      have q1 := F.le0 i i hi hi
      have q2 := P.low i i hi hi
      rw [h.dia i hi] at q2
      obtain ⟨a, e, ha⟩ := ble_some (ble_trans q1 q2)
      have e2 := (dec_some e).1
      have : ¬ ent n r i i < 1 := fun z => hn (List.any_eq_true.mpr ⟨i, List.mem_range.mpr hi, decide_eq_true z⟩)
      rw [e]
      exact congrArg some (by omega)
    exact ⟨F.len, fun i j k hi hj hk => F.tri hd i j k hi hj hk, hd, fun i j hi hj => ble_trans (F.le0 i j hi hj) (P.low i j hi hj), fun g hg => ble_trans (F.le0 _ _ (ok g hg).p (ok g hg).q) (P.gds g hg), fun S b => F.sp S b.1 (P.sp S b.2.1 b.2.2)⟩
end Zn

namespace Zn
theorem Zone.pos {n c : Nat} {m : List Int} (h : Zone n c m) : 0 < n := by have := h.size; omega
/-- from nought a bound is no greater than along any way -/
theorem MeetS.round {n : Nat} {Z r : List Int} {gs : List Gd} (h : MeetS n Z gs r) {i j : Nat} {x y : B} (hi : i < n) (hj : j < n) (h1 : ble (M n r i j) x) (h2 : ble (M n r j i) y) : ble (some 1) (badd x y) := by
  have q := h.tri i i j hi hi hj
  rw [h.dia i hi] at q
  exact ble_trans q (badd_mono h1 h2)
theorem badd_fin {x y : B} {a : Int} (h : badd x y = some a) : ∃ b c, x = some b ∧ y = some c ∧ a = fadd b c := by
  cases x with
  | none => rw [none_badd] at h; cases h
  | some b => cases y with
    | none => rw [badd_none] at h; cases h
    | some c => exact ⟨b, c, rfl, rfl, (Option.some.inj h).symm⟩
theorem with_zone {n c : Nat} {Z r : List Int} {gs : List Gd} (h : Zone n c Z) (ok : ∀ g, g ∈ gs → g.Ok n) (R : MeetS n Z gs r) : Zone n (c + 1) r := by
  have h0 := h.pos
  have one : M n Z 0 0 = some 1 := h.dia 0 h0
  refine ⟨h.size, R.len, R.tri, R.dia, fun j hj => ?_, fun i j a hi hj ha => ?_⟩
  · obtain ⟨z, hz, hz1, hz2⟩ := h.row j hj
    have up := R.low 0 j h0 hj
    rw [hz] at up
    obtain ⟨a, ea, la⟩ := ble_some up
    refine ⟨a, ea, by omega, ?_⟩
    -- what can be had at a row from nought: the elder bound, or a guard from below and then one
    let Pt : Nat → B → Prop := fun j x => x = M n Z 0 j ∨ ∃ g, g ∈ gs ∧ g.up = false ∧ x = badd (some g.val) (M n Z g.q j)
    have p0 : ∀ {g : Gd}, g.up = false → g.p = 0 := fun {g} e => by unfold Gd.p; rw [e]; rfl
    have q0 : ∀ {g : Gd}, g.up = true → g.q = 0 := fun {g} e => by unfold Gd.q; rw [e]; rfl
    have lowE : ∀ {i j : Nat}, i < n → j < n → ble (M n r i j) (M n Z i j) := fun {i j} hi hj => R.low i j hi hj
    have key : ∀ i j, i < n → j < n → ∀ x, Pt i x → ∃ y, Pt j y ∧ ble y (badd x (M n r i j)) := by
      refine R.sp (fun i j b => ∀ x, Pt i x → ∃ y, Pt j y ∧ ble y (badd x b)) ⟨fun i j k b c' hi hj hk hb hc x hx => ?_, fun i j hi hj x hx => ?_, fun g hg x hx => ?_⟩
      · obtain ⟨y, hy, l1⟩ := hb x hx
        obtain ⟨w, hw, l2⟩ := hc y hy
        refine ⟨w, hw, ?_⟩
        rw [← badd_assoc]
        exact ble_trans l2 (badd_mono l1 (ble_refl _))
      · rcases hx with rfl | ⟨g, hg, gu, rfl⟩
        · exact ⟨_, .inl rfl, h.tri 0 j i h0 hj hi⟩
        · refine ⟨_, .inr ⟨g, hg, gu, rfl⟩, ?_⟩
          rw [badd_assoc]
          exact badd_mono (ble_refl _) (h.tri g.q j i (ok g hg).q hj hi)
      · have gp := (ok g hg).p
        have gq := (ok g hg).q
        have gR := R.gds g hg
        cases gu : g.up with
        | true =>
          rw [q0 gu] at gR ⊢
          refine ⟨_, .inl rfl, ?_⟩
          rw [one]
          rcases hx with rfl | ⟨k, hk, ku, rfl⟩
          · exact R.round h0 gp (lowE h0 gp) gR
          · have kR := R.gds k hk
            rw [p0 ku] at kR
            exact R.round h0 gp (ble_trans (R.tri 0 g.p k.q h0 gp (ok k hk).q) (badd_mono kR (lowE (ok k hk).q gp))) gR
        | false =>
          refine ⟨_, .inr ⟨g, hg, gu, rfl⟩, ?_⟩
          rw [h.dia g.q gq, badd_one]
          rw [p0 gu] at hx
          have z : ble (some 1) x := by
            rcases hx with rfl | ⟨k, hk, ku, rfl⟩
            · rw [one]; exact ble_refl _
            · have kR := R.gds k hk
              rw [p0 ku] at kR
              exact R.round h0 (ok k hk).q kR (lowE (ok k hk).q h0)
          have := badd_mono z (ble_refl (some g.val))
          rw [one_badd] at this
          exact this
    obtain ⟨y, hy, ly⟩ := key 0 j h0 hj (some 1) (.inl one.symm)
    rw [one_badd, ea] at ly
    obtain ⟨b, eb, lb⟩ := ble_some ly
    rcases hy with rfl | ⟨g, hg, gu, rfl⟩
    · rw [hz] at eb
      have := Option.some.inj eb
      have : ((c + 1 : Nat) : Int) = (c : Int) + 1 := by omega
      omega
    · obtain ⟨v, w, e1, e2, e3⟩ := badd_fin eb
      have ev := Option.some.inj e1
      have gv := (Gd.val_le (ok g hg)).2
      have t := h.tri 0 j g.q h0 hj (ok g hg).q
      obtain ⟨u, eu, u1, _⟩ := h.row g.q (ok g hg).q
      rw [hz, eu, e2] at t
      have t : z ≤ fadd u w := t
      have t2 := fadd_mono u1 (Int.le_refl w)
      rw [fadd_comm 1 w, fadd_one] at t2
      have t3 := fadd_bd v w
      omega
  · have cc : ((c + 1 : Nat) : Int) = (c : Int) + 1 := by omega
    let Fin : Nat → Prop := fun i => M n Z i 0 ≠ none ∨ ∃ g, g ∈ gs ∧ g.up = true ∧ M n Z i g.p ≠ none
    have fin_of : ∀ {i j k : Nat}, i < n → j < n → k < n → M n Z i k ≠ none → M n Z k j ≠ none → M n Z i j ≠ none := fun {i j k} hi hj hk a b z => by
      have t := h.tri i j k hi hj hk
      rw [z] at t
      cases e1 : M n Z i k with
      | none => exact a e1
      | some x => cases e2 : M n Z k j with
        | none => exact b e2
        | some y => rw [e1, e2] at t; exact t
    have key : ∀ i j, i < n → j < n → M n r i j = none ∨ M n Z i j ≠ none ∨ Fin i := by
      refine R.sp (fun i j b => b = none ∨ M n Z i j ≠ none ∨ Fin i) ⟨fun i j k b c' hi hj hk hb hc => ?_, fun i j hi hj => ?_, fun g hg => ?_⟩
      · rcases hb with rfl | hb | hb
        · exact .inl (none_badd _)
        · rcases hc with rfl | hc | hc
          · exact .inl (badd_none _)
          · exact .inr (.inl (fin_of hi hj hk hb hc))
          · refine .inr (.inr ?_)
            rcases hc with hc | ⟨g, hg, gu, hc⟩
            · exact .inl (fin_of hi h0 hk hb hc)
            · exact .inr ⟨g, hg, gu, fin_of hi (ok g hg).p hk hb hc⟩
        · exact .inr (.inr hb)
      · cases e : M n Z i j with
        | none => exact .inl rfl
        | some x => exact .inr (.inl fun z => by
          have z2 : some x = none := e.symm.trans z
          cases z2)
      · refine .inr (.inr ?_)
        cases gu : g.up with
        | true =>
          refine .inr ⟨g, hg, gu, ?_⟩
          rw [h.dia g.p (ok g hg).p]
          intro z
          cases z
        | false =>
          left
          rw [show g.p = 0 by unfold Gd.p; rw [gu]; rfl, one]
          intro z
          cases z
    rcases key i j hi hj with e | e | e
    · rw [ha] at e; cases e
    · cases e1 : M n Z i j with
      | none => exact absurd e1 e
      | some z =>
        have := h.top i j z hi hj e1
        have l := R.low i j hi hj
        rw [ha, e1] at l
        have l : a ≤ z := l
        omega
    · have low0 : ∃ u : Int, ble (M n r i 0) (some u) ∧ u ≤ 30 * (c : Int) + 26 := by
        rcases e with e | ⟨g, hg, gu, e⟩
        · cases e1 : M n Z i 0 with
          | none => exact absurd e1 e
          | some z =>
            have := h.top i 0 z hi h0 e1
            refine ⟨z, ?_, by omega⟩
            rw [← e1]
            exact R.low i 0 hi h0
        · cases e1 : M n Z i g.p with
          | none => exact absurd e1 e
          | some z =>
            have := h.top i g.p z hi (ok g hg).p e1
            have gv := (Gd.val_le (ok g hg)).1
            have gR := R.gds g hg
            rw [show g.q = 0 by unfold Gd.q; rw [gu]; rfl] at gR
            have fb := fadd_bd z g.val
            refine ⟨fadd z g.val, ?_, by omega⟩
            have l := R.low i g.p hi (ok g hg).p
            rw [e1] at l
            exact ble_trans (R.tri i 0 g.p hi h0 (ok g hg).p) (badd_mono l gR)
      obtain ⟨u, lu, hu⟩ := low0
      obtain ⟨z, hz, hz1, _⟩ := h.row j hj
      have l := R.low 0 j h0 hj
      rw [hz] at l
      have t := ble_trans (R.tri i j 0 hi hj h0) (badd_mono lu l)
      rw [ha] at t
      have t : a ≤ fadd u z := t
      have t2 := fadd_mono (Int.le_refl u) hz1
      rw [fadd_one] at t2
      omega
end Zn

namespace Zn
/-! ### time passes -/
def passF (n : Nat) (m : List Int) : List Int := (List.range (n - 1)).foldl (fun m i => m.set ((1 + i) * n) FAR) m
theorem pass_ent {n : Nat} {m : List Int} (hl : m.length = n * n) : (passF n m).length = n * n ∧ ∀ a b, a < n → b < n → ent n (passF n m) a b = if b = 0 ∧ 1 ≤ a then FAR else ent n m a b := by
  have key : (passF n m).length = n * n ∧ ∀ a b, a < n → b < n → ent n (passF n m) a b = if b = 0 ∧ 1 ≤ a ∧ a ≤ n - 1 then FAR else ent n m a b := by
    refine fold_inv (P := fun t m' => m'.length = n * n ∧ ∀ a b, a < n → b < n → ent n m' a b = if b = 0 ∧ 1 ≤ a ∧ a ≤ t then FAR else ent n m a b) ⟨hl, fun a b _ _ => ?_⟩ fun t m' ht ⟨h1, h2⟩ => ?_
    · rw [if_neg (by omega)]
    · have h0 : 0 < n := by omega
      have e : (1 + t) * n = (1 + t) * n + 0 := rfl
      rw [e]
      refine ⟨by rw [List.length_set]; exact h1, fun a b ha hb => ?_⟩
      rw [ent_set h1 (by omega) h0 ha hb, h2 a b ha hb]
      by_cases c : a = 1 + t ∧ b = 0
      · rw [if_pos c, if_pos (by omega)]
      · rw [if_neg c]
        by_cases d : b = 0 ∧ 1 ≤ a ∧ a ≤ t
        · rw [if_pos d, if_pos (by omega)]
        · rw [if_neg d, if_neg (by omega)]
  refine ⟨key.1, fun a b ha hb => ?_⟩
  rw [key.2 a b ha hb]
  by_cases d : b = 0 ∧ 1 ≤ a
  · rw [if_pos d, if_pos (by omega)]
  · rw [if_neg d, if_neg (by omega)]
theorem pass_M {n : Nat} {m : List Int} (hl : m.length = n * n) {a b : Nat} (ha : a < n) (hb : b < n) : M n (passF n m) a b = if b = 0 ∧ 1 ≤ a then none else M n m a b := by
  unfold M
  rw [(pass_ent hl).2 a b ha hb]
  by_cases d : b = 0 ∧ 1 ≤ a
  · rw [if_pos d, if_pos d]; exact dec_far rfl
  · rw [if_neg d, if_neg d]
theorem pass_up {n : Nat} {m : List Int} (hl : m.length = n * n) {a b : Nat} (ha : a < n) (hb : b < n) : ble (M n m a b) (M n (passF n m) a b) := by
  rw [pass_M hl ha hb]
  by_cases d : b = 0 ∧ 1 ≤ a
  · rw [if_pos d]; exact ble_top _
  · rw [if_neg d]; exact ble_refl _
theorem pass_zone {n c : Nat} {m : List Int} (h : Zone n c m) : Zone n c (passF n m) := by
  have hl := h.len
  have P := fun a b (ha : a < n) (hb : b < n) => pass_M hl ha hb
  refine ⟨h.size, (pass_ent hl).1, fun i j k hi hj hk => ?_, fun i hi => ?_, fun j hj => ?_, fun i j a hi hj ha => ?_⟩
  · by_cases d : j = 0 ∧ 1 ≤ i
    · -- nothing but none leads on to nought
      rw [P i k hi hk, P k j hk hj]
      by_cases e : k = 0
      · rw [if_pos (⟨e, d.2⟩ : k = 0 ∧ 1 ≤ i), none_badd]; exact ble_top _
      · rw [if_pos (⟨d.1, by omega⟩ : j = 0 ∧ 1 ≤ k), badd_none]; exact ble_top _
    · rw [P i j hi hj, if_neg d]
      exact ble_trans (h.tri i j k hi hj hk) (badd_mono (pass_up hl hi hk) (pass_up hl hk hj))
  · rw [P i i hi hi, if_neg (by omega)]
    exact h.dia i hi
  · rw [P 0 j h.pos hj, if_neg (by omega)]
    exact h.row j hj
  · rw [P i j hi hj] at ha
    by_cases d : j = 0 ∧ 1 ≤ i
    · rw [if_pos d] at ha; cases ha
    · rw [if_neg d] at ha
      exact h.top i j a hi hj ha
theorem pass_pass {n : Nat} {m : List Int} (hl : m.length = n * n) : passF n (passF n m) = passF n m := by
  have l1 := (pass_ent hl).1
  refine ext_ent (pass_ent l1).1 l1 fun i j hi hj => ?_
  rw [pass_M l1 hi hj, pass_M hl hi hj]
  by_cases d : j = 0 ∧ 1 ≤ i
  · rw [if_pos d, if_pos d]
  · rw [if_neg d]
/-! ### clocks are set back -/
def set1 (n c : Nat) (m : List Int) : List Int :=
  (List.range n).foldl (fun m o => if o = 1 + c then m else (m.set ((1 + c) * n + o) (ent n m 0 o)).set (o * n + (1 + c)) (ent n (m.set ((1 + c) * n + o) (ent n m 0 o)) o 0)) m
def setF (n : Nat) (cs : List Nat) (m : List Int) : List Int := cs.foldl (fun m c => set1 n c m) m
theorem set1_ent {n c : Nat} {m : List Int} (hc : 1 + c < n) (hl : m.length = n * n) : (set1 n c m).length = n * n ∧ ∀ a b, a < n → b < n → ent n (set1 n c m) a b = if a = 1 + c ∧ b ≠ 1 + c then ent n m 0 b else if b = 1 + c ∧ a ≠ 1 + c then (if a = 0 then ent n m 0 0 else ent n m a 0) else ent n m a b := by
  have h0 : 0 < n := by omega
  have key : (set1 n c m).length = n * n ∧ ∀ a b, a < n → b < n → ent n (set1 n c m) a b = if a = 1 + c ∧ b ≠ 1 + c ∧ b < n then ent n m 0 b else if b = 1 + c ∧ a ≠ 1 + c ∧ a < n then ent n m a 0 else ent n m a b := by
    refine fold_inv (P := fun t m' => m'.length = n * n ∧ ∀ a b, a < n → b < n → ent n m' a b = if a = 1 + c ∧ b ≠ 1 + c ∧ b < t then ent n m 0 b else if b = 1 + c ∧ a ≠ 1 + c ∧ a < t then ent n m a 0 else ent n m a b) ⟨hl, fun a b _ _ => ?_⟩ fun t m' ht ⟨h1, h2⟩ => ?_
    · rw [if_neg (by omega), if_neg (by omega)]
    · by_cases e : t = 1 + c
      · rw [if_pos e]
        refine ⟨h1, fun a b ha hb => ?_⟩
        rw [h2 a b ha hb]
        by_cases d : a = 1 + c ∧ b ≠ 1 + c ∧ b < t
        · rw [if_pos d, if_pos (by omega)]
        · rw [if_neg d, if_neg (show ¬ (a = 1 + c ∧ b ≠ 1 + c ∧ b < t + 1) by omega)]
          by_cases d2 : b = 1 + c ∧ a ≠ 1 + c ∧ a < t
          · rw [if_pos d2, if_pos (by omega)]
          · rw [if_neg d2, if_neg (by omega)]
      · rw [if_neg e]
        have l1 : (m'.set ((1 + c) * n + t) (ent n m' 0 t)).length = n * n := by rw [List.length_set]; exact h1
        have v1 : ent n m' 0 t = ent n m 0 t := by rw [h2 0 t h0 ht, if_neg (by omega), if_neg (by omega)]
        have v2 : ent n (m'.set ((1 + c) * n + t) (ent n m' 0 t)) t 0 = ent n m t 0 := by
          rw [ent_set h1 hc ht ht h0, h2 t 0 ht h0, if_neg (by omega), if_neg (by omega), if_neg (by omega)]
        rw [v2, v1]
        rw [v1] at l1
        refine ⟨by rw [List.length_set]; exact l1, fun a b ha hb => ?_⟩
        rw [ent_set l1 ht hc ha hb, ent_set h1 hc ht ha hb, h2 a b ha hb]
        by_cases d : a = t ∧ b = 1 + c
        · rw [if_pos d, if_neg (by omega), if_pos (by omega), d.1]
        · rw [if_neg d]
          by_cases d2 : a = 1 + c ∧ b = t
          · rw [if_pos d2, if_pos (by omega), d2.2]
          · rw [if_neg d2]
            by_cases d3 : a = 1 + c ∧ b ≠ 1 + c ∧ b < t
            · rw [if_pos d3, if_pos (by omega)]
            · rw [if_neg d3, if_neg (show ¬ (a = 1 + c ∧ b ≠ 1 + c ∧ b < t + 1) by omega)]
              by_cases d4 : b = 1 + c ∧ a ≠ 1 + c ∧ a < t
              · rw [if_pos d4, if_pos (by omega)]
              · rw [if_neg d4, if_neg (by omega)]
  refine ⟨key.1, fun a b ha hb => ?_⟩
  rw [key.2 a b ha hb]
  by_cases d3 : a = 1 + c ∧ b ≠ 1 + c
  · rw [if_pos d3, if_pos (by omega)]
  · rw [if_neg d3, if_neg (by omega)]
    by_cases d4 : b = 1 + c ∧ a ≠ 1 + c
    · rw [if_pos d4, if_pos (by omega)]
      by_cases z : a = 0
      · rw [if_pos z, z]
      · rw [if_neg z]
    · rw [if_neg d4, if_neg (by omega)]
def rho (c i : Nat) : Nat := if i = 1 + c then 0 else i
def rhos (cs : List Nat) (i : Nat) : Nat := if 1 ≤ i ∧ i - 1 ∈ cs then 0 else i
theorem rho_lt {n c i : Nat} (h : i < n) : rho c i < n := by unfold rho; split <;> omega
theorem rhos_lt {n i : Nat} {cs : List Nat} (h : i < n) : rhos cs i < n := by unfold rhos; split <;> omega
theorem rhos_zero (cs : List Nat) : rhos cs 0 = 0 := by unfold rhos; rw [if_neg (by omega)]
theorem rho_rhos (c : Nat) (cs : List Nat) (i : Nat) : rho c (rhos cs i) = rhos (c :: cs) i := by
  unfold rho rhos
  by_cases h : 1 ≤ i ∧ i - 1 ∈ cs
  · rw [if_pos h, if_neg (by omega), if_pos ⟨h.1, List.mem_cons_of_mem _ h.2⟩]
  · rw [if_neg h]
    by_cases e : i = 1 + c
    · rw [if_pos e, if_pos ⟨by omega, by rw [show i - 1 = c by omega]; exact List.mem_cons_self⟩]
    · rw [if_neg e, if_neg]
      rintro ⟨h1, h2⟩
      rcases List.mem_cons.mp h2 with h2 | h2
      · omega
      · exact h ⟨h1, h2⟩
theorem set1_M {n c : Nat} {m : List Int} (hc : 1 + c < n) (hl : m.length = n * n) (hd : Diag n (M n m)) {a b : Nat} (ha : a < n) (hb : b < n) : M n (set1 n c m) a b = M n m (rho c a) (rho c b) := by
  unfold M
  rw [(set1_ent hc hl).2 a b ha hb]
  unfold rho
  by_cases e : a = 1 + c
  · by_cases f : b = 1 + c
    · rw [if_neg (by omega), if_neg (by omega), if_pos e, if_pos f]
      have h1 := hd a ha
      have h2 := hd 0 (by omega)
      unfold M at h1 h2
      rw [show b = a by omega, h1, h2]
    · rw [if_pos ⟨e, f⟩, if_pos e, if_neg f]
  · by_cases f : b = 1 + c
    · rw [if_neg (by omega), if_pos ⟨f, e⟩, if_neg e, if_pos f]
      by_cases z : a = 0
      · rw [if_pos z, z]
      · rw [if_neg z]
    · rw [if_neg (by omega), if_neg (by omega), if_neg e, if_neg f]
theorem along_zone {n c : Nat} {m m' : List Int} (f : Nat → Nat) (h : Zone n c m) (hl : m'.length = n * n) (hf : ∀ i, i < n → f i < n) (f0 : f 0 = 0) (e : ∀ a b, a < n → b < n → M n m' a b = M n m (f a) (f b)) : Zone n c m' := by
  refine ⟨h.size, hl, fun i j k hi hj hk => ?_, fun i hi => ?_, fun j hj => ?_, fun i j a hi hj ha => ?_⟩
  · rw [e i j hi hj, e i k hi hk, e k j hk hj]
    exact h.tri _ _ _ (hf i hi) (hf j hj) (hf k hk)
  · rw [e i i hi hi]
    exact h.dia _ (hf i hi)
  · rw [e 0 j h.pos hj, f0]
    exact h.row _ (hf j hj)
  · rw [e i j hi hj] at ha
    exact h.top _ _ a (hf i hi) (hf j hj) ha
theorem set_M {n c : Nat} : ∀ (cs : List Nat) (m : List Int), Zone n c m → (∀ x, x ∈ cs → 1 + x < n) → (setF n cs m).length = n * n ∧ ∀ a b, a < n → b < n → M n (setF n cs m) a b = M n m (rhos cs a) (rhos cs b)
  | [], m, h, _ => ⟨h.len, fun a b _ _ => by
    have e : ∀ i, rhos [] i = i := fun i => by unfold rhos; rw [if_neg (by simp)]
    rw [e, e]
    rfl⟩
  | x :: cs, m, h, hx => by
    have h1 := hx x List.mem_cons_self
    have e1 := fun a b (ha : a < n) (hb : b < n) => set1_M h1 h.len h.dia ha hb
    have z1 : Zone n c (set1 n x m) := along_zone (rho x) h (set1_ent h1 h.len).1 (fun i hi => rho_lt hi) (by unfold rho; rw [if_neg (by omega)]) e1
    obtain ⟨l, e⟩ := set_M cs (set1 n x m) z1 fun y hy => hx y (List.mem_cons_of_mem _ hy)
    refine ⟨l, fun a b ha hb => ?_⟩
    show M n (setF n cs (set1 n x m)) a b = _
    rw [e a b ha hb, e1 _ _ (rhos_lt ha) (rhos_lt hb), rho_rhos, rho_rhos]
theorem set_zone {n c : Nat} {m : List Int} {cs : List Nat} (h : Zone n c m) (hx : ∀ x, x ∈ cs → 1 + x < n) : Zone n c (setF n cs m) :=
  along_zone (rhos cs) h (set_M cs m h hx).1 (fun i hi => rhos_lt hi) (rhos_zero cs) (set_M cs m h hx).2
theorem rhos_app (cs ds : List Nat) (i : Nat) : rhos ds (rhos cs i) = rhos (ds ++ cs) i := by
  induction ds with
  | nil => unfold rhos; simp
  | cons d ds ih => rw [← rho_rhos, ih, List.cons_append, ← rho_rhos]
theorem rhos_same {cs ds : List Nat} (h : ∀ x, x ∈ cs ↔ x ∈ ds) (i : Nat) : rhos cs i = rhos ds i := by
  unfold rhos
  simp only [h]
/-- set back one lot, then another one: by all of both -/
theorem set_set {n c : Nat} {m : List Int} {cs ds es : List Nat} (h : Zone n c m) (h1 : ∀ x, x ∈ cs → 1 + x < n) (h2 : ∀ x, x ∈ ds → 1 + x < n) (h3 : ∀ x, x ∈ es ↔ (x ∈ cs ∨ x ∈ ds)) : setF n ds (setF n cs m) = setF n es m := by
  have z := set_zone h h1
  have h4 : ∀ x, x ∈ es → 1 + x < n := fun x hx => ((h3 x).mp hx).elim (h1 x) (h2 x)
  refine ext_ent (set_M ds _ z h2).1 (set_M es _ h h4).1 fun a b ha hb => ?_
  rw [(set_M ds _ z h2).2 a b ha hb, (set_M cs m h h1).2 _ _ (rhos_lt ha) (rhos_lt hb), (set_M es m h h4).2 a b ha hb, rhos_app, rhos_app]
  have k : ∀ i, rhos (cs ++ ds) i = rhos es i := rhos_same fun x => by rw [List.mem_append, h3 x]
  rw [k, k]
end Zn

namespace Zn
/-! ### what is told of squares by one another -/
def Le (n : Nat) (a b : List Int) : Prop := ∀ i j, i < n → j < n → ble (M n a i j) (M n b i j)
theorem Le.refl (n : Nat) (a : List Int) : Le n a a := fun _ _ _ _ => ble_refl _
theorem Le.trans {n : Nat} {a b c : List Int} (h : Le n a b) (k : Le n b c) : Le n a c := fun i j hi hj => ble_trans (h i j hi hj) (k i j hi hj)
theorem meet_self {n c : Nat} {m : List Int} {gs : List Gd} (h : Zone n c m) (hg : ∀ g, g ∈ gs → ble (M n m g.p g.q) (some g.val)) : MeetS n m gs m :=
  ⟨h.len, h.tri, h.dia, Le.refl n m, hg, fun S b => b.2.1⟩
theorem with_self {n c : Nat} {m : List Int} {gs : List Gd} (h : Zone n c m) (hc : c ≤ 600) (ok : ∀ g, g ∈ gs → g.Ok n) (hg : ∀ g, g ∈ gs → ble (M n m g.p g.q) (some g.val)) : withF n m gs = some m :=
  meet_perm (b := some m) (with_meet h hc ok) (meet_self h hg) fun _ => Iff.rfl
theorem tight_self {n c : Nat} {m : List Int} (h : Zone n c m) (hc : c ≤ 600) : tightF n m = some m :=
  with_self (gs := []) h hc (fun _ h => absurd h List.not_mem_nil) fun _ h => absurd h List.not_mem_nil
/-- a zone or nothing -/
def lw (n : Nat) (z : Option (List Int)) (gs : List Gd) : Option (List Int) := match z with
  | none => none
  | some m => withF n m gs
def OZ (n c : Nat) (z : Option (List Int)) : Prop := ∀ m, z = some m → Zone n c m
theorem lw_zone {n c : Nat} {z : Option (List Int)} {gs : List Gd} (h : OZ n c z) (hc : c ≤ 600) (ok : ∀ g, g ∈ gs → g.Ok n) : OZ n (c + 1) (lw n z gs) := fun r e => by
  cases z with
  | none => cases e
  | some m =>
    have e : withF n m gs = some r := e
    have k := with_meet (h m rfl) hc ok
    rw [e] at k
    exact with_zone (h m rfl) ok k
theorem lw_lw {n c : Nat} {m : List Int} {gs hs : List Gd} (h : Zone n c m) (hc : c ≤ 500) (okg : ∀ g, g ∈ gs → g.Ok n) (okh : ∀ g, g ∈ hs → g.Ok n) : Meet n m (gs ++ hs) (lw n (withF n m gs) hs) := by
  have k := with_meet h (by omega) okg
  cases e : withF n m gs with
  | none =>
    rw [e] at k
    exact meetN_more hs k
  | some r =>
    rw [e] at k
    exact meet_then okg k (with_meet (with_zone h okg k) (by omega) okh)
/-- guards commute, are one guard together, twice is once -/
theorem guards_right {n c : Nat} {m : List Int} {gs hs : List Gd} (h : Zone n c m) (hc : c ≤ 400) (okg : ∀ g, g ∈ gs → g.Ok n) (okh : ∀ g, g ∈ hs → g.Ok n) :
    lw n (withF n m hs) gs = lw n (withF n m gs) hs ∧ withF n m (gs ++ hs) = lw n (withF n m gs) hs ∧ lw n (lw n (withF n m gs) hs) gs = lw n (withF n m gs) hs := by
  have k := lw_lw h (by omega) okg okh
  have ok2 : ∀ g, g ∈ gs ++ hs → g.Ok n := fun g hg => (List.mem_append.mp hg).elim (okg g) (okh g)
  refine ⟨meet_perm (lw_lw h (by omega) okh okg) k fun g => by rw [List.mem_append, List.mem_append]; exact or_comm, meet_perm (with_meet h (by omega) ok2) k fun _ => Iff.rfl, ?_⟩
  cases e : lw n (withF n m gs) hs with
  | none => rfl
  | some r =>
    rw [e] at k
    have k : MeetS n m (gs ++ hs) r := k
    have z : Zone n (c + 1 + 1) r := lw_zone (z := withF n m gs) (fun s es => by
      have k1 := with_meet h (by omega) okg
      rw [es] at k1
      exact with_zone h okg k1) (by omega) okh r e
    exact with_self z (by omega) okg fun g hg => k.gds g (List.mem_append_left _ hg)
theorem with_le {n c : Nat} {m r : List Int} {gs : List Gd} (h : Zone n c m) (hc : c ≤ 600) (ok : ∀ g, g ∈ gs → g.Ok n) (e : withF n m gs = some r) : Le n r m := by
  have k := with_meet h hc ok
  rw [e] at k
  exact MeetS.low k
theorem lw_le {n c : Nat} {m r : List Int} {gs hs : List Gd} (h : Zone n c m) (hc : c ≤ 500) (okg : ∀ g, g ∈ gs → g.Ok n) (okh : ∀ g, g ∈ hs → g.Ok n) (e : lw n (withF n m gs) hs = some r) : ∃ s, withF n m gs = some s ∧ Le n r s := by
  cases es : withF n m gs with
  | none => rw [es] at e; cases e
  | some s =>
    rw [es] at e
    have k1 := with_meet h (by omega) okg
    rw [es] at k1
    exact ⟨s, rfl, with_le (with_zone h okg k1) (by omega) okh e⟩
theorem pass_le {n : Nat} {a b : List Int} (ha : a.length = n * n) (hb : b.length = n * n) (h : Le n a b) : Le n (passF n a) (passF n b) := fun i j hi hj => by
  rw [pass_M ha hi hj, pass_M hb hi hj]
  by_cases d : j = 0 ∧ 1 ≤ i
  · rw [if_pos d, if_pos d]; trivial
  · rw [if_neg d, if_neg d]; exact h i j hi hj
theorem set_le {n c d : Nat} {a b : List Int} {cs : List Nat} (ha : Zone n c a) (hb : Zone n d b) (hx : ∀ x, x ∈ cs → 1 + x < n) (h : Le n a b) : Le n (setF n cs a) (setF n cs b) := fun i j hi hj => by
  rw [(set_M cs a ha hx).2 i j hi hj, (set_M cs b hb hx).2 i j hi hj]
  exact h _ _ (rhos_lt hi) (rhos_lt hj)
/-- less with a guard is less -/
theorem with_mono {n c d : Nat} {a b r : List Int} {gs : List Gd} (ha : Zone n c a) (hb : Zone n d b) (hc : c ≤ 600) (hd : d ≤ 600) (ok : ∀ g, g ∈ gs → g.Ok n) (h : Le n a b) (e : withF n a gs = some r) : ∃ s, withF n b gs = some s ∧ Le n r s := by
  have k := with_meet ha hc ok
  rw [e] at k
  have k : MeetS n a gs r := k
  have bs : Base n b gs (Over n r) := ⟨over_closed k.tri, Le.trans (fun i j hi hj => k.low i j hi hj) h, k.gds⟩
  have k2 := with_meet hb hd ok
  cases es : withF n b gs with
  | none =>
    rw [es] at k2
    exact (MeetN.no k2 k.dia bs).elim
  | some s =>
    rw [es] at k2
    exact ⟨s, rfl, MeetS.sp k2 _ bs⟩
/-- what was set back is 0 -/
theorem set_back_zero {n c : Nat} {m : List Int} {cs ds : List Nat} {x : Nat} (h : Zone n c m) (hc : c ≤ 600) (h1 : ∀ x, x ∈ cs → 1 + x < n) (h2 : ∀ x, x ∈ ds → 1 + x < n) (hx : x ∈ cs) :
    withF n (setF n ds (setF n cs m)) [⟨x, true, true, 0⟩] = some (setF n ds (setF n cs m)) := by
  have z1 := set_zone h h1
  have z2 := set_zone z1 h2
  refine with_self z2 hc (fun g hg => ?_) fun g hg => ?_
  · rw [List.mem_singleton.mp hg]
    exact ⟨h1 x hx, Nat.zero_le _⟩
  · rw [List.mem_singleton.mp hg]
    show ble (M n _ (1 + x) 0) (some ((2 * ((0 : Nat) : Int)) + 1))
    rw [(set_M ds _ z1 h2).2 _ _ (h1 x hx) h.pos, (set_M cs _ h h1).2 _ _ (rhos_lt (h1 x hx)) (rhos_lt h.pos), rhos_app, rhos_app, rhos_zero]
    rw [show rhos (cs ++ ds) (1 + x) = 0 by
      unfold rhos
      rw [if_pos ⟨by omega, by rw [show 1 + x - 1 = x by omega]; exact List.mem_append_left _ hx⟩]]
    rw [h.dia 0 h.pos]
    exact Int.le_refl 1
/-! ### a guard from above, ahead of time passing or behind it -/
def Mix (n : Nat) (Z X : List Int) : Nat → Nat → B → Prop := fun i j b =>
  ble (M n Z 0 j) (badd (M n Z 0 i) b) ∧ (j ≠ 0 → ble (M n X i j) b) ∧ (j = 0 → ∀ l, l < n → l ≠ 0 → ble (M n X i l) (badd b (M n Z 0 l)))
theorem mix_base {n c : Nat} {Z X : List Int} {A : List Gd} (h : Zone n c Z) (ok : ∀ g, g ∈ A → g.Ok n) (up : ∀ g, g ∈ A → g.up = true) (k : MeetS n (passF n Z) A X) : Base n Z A (Mix n Z X) := by
  have h0 := h.pos
  have one : M n Z 0 0 = some 1 := h.dia 0 h0
  have low : ∀ i j, i < n → j < n → j ≠ 0 → ble (M n X i j) (M n Z i j) := fun i j hi hj ne => by
    have q := k.low i j hi hj
    rw [pass_M h.len hi hj, if_neg (by omega)] at q
    exact q
  refine ⟨fun i j t b b' hi hj ht h1 h2 => ⟨?_, fun ne => ?_, fun e l hl nl => ?_⟩, fun i j hi hj => ⟨h.tri 0 j i h0 hj hi, fun ne => low i j hi hj ne, fun e l hl nl => ?_⟩, fun g hg => ?_⟩
  · rw [← badd_assoc]
    exact ble_trans h2.1 (badd_mono h1.1 (ble_refl _))
  · by_cases e : t = 0
    · subst e
      have q := h2.1
      rw [one, one_badd] at q
      exact ble_trans (h1.2.2 rfl j hj ne) (badd_mono (ble_refl _) q)
    · exact ble_trans (k.tri i j t hi hj ht) (badd_mono (h1.2.1 e) (h2.2.1 ne))
  · by_cases z : t = 0
    · subst z
      subst e
      have q := h2.1
      rw [one, one_badd] at q
      have q2 := badd_mono q (ble_refl (M n Z 0 l))
      rw [one_badd] at q2
      rw [badd_assoc]
      exact ble_trans (h1.2.2 rfl l hl nl) (badd_mono (ble_refl _) q2)
    · rw [badd_assoc]
      exact ble_trans (k.tri i l t hi hl ht) (badd_mono (h1.2.1 z) (h2.2.2 e l hl nl))
  · rw [e]
    exact ble_trans (low i l hi hl nl) (h.tri i l 0 hi hl h0)
  · have gp := (ok g hg).p
    have ep : g.p ≠ 0 := by unfold Gd.p; rw [up g hg]; show 1 + g.cl ≠ 0; omega
    have eq : g.q = 0 := by unfold Gd.q; rw [up g hg]; rfl
    have gR := k.gds g hg
    rw [eq] at gR ⊢
    refine ⟨?_, fun ne => absurd rfl ne, fun _ l hl nl => ?_⟩
    · rw [one]
      have q := k.tri 0 0 g.p h0 h0 gp
      rw [k.dia 0 h0] at q
      exact ble_trans q (badd_mono (low 0 g.p h0 gp ep) gR)
    · exact ble_trans (k.tri g.p l 0 gp hl h0) (badd_mono gR (low 0 l h0 hl nl))
theorem later_above {n c : Nat} {Z : List Int} {A : List Gd} (h : Zone n c Z) (hc : c ≤ 400) (ok : ∀ g, g ∈ A → g.Ok n) (up : ∀ g, g ∈ A → g.up = true) :
    lw n ((withF n Z A).map (passF n)) A = withF n (passF n Z) A := by
  have h0 := h.pos
  have zP := pass_zone h
  have k2 := with_meet zP (by omega) ok
  have k := with_meet h (by omega) ok
  cases e : withF n Z A with
  | none =>
    show none = _
    rw [e] at k
    cases e2 : withF n (passF n Z) A with
    | none => rfl
    | some X =>
      rw [e2] at k2
      have k2 : MeetS n (passF n Z) A X := k2
      obtain ⟨i, hi, a, ha, q⟩ := k
      obtain ⟨q1, q2, _⟩ := q _ (mix_base h ok up k2)
      by_cases z : i = 0
      · rw [z, h.dia 0 h0, one_badd] at q1
        have q1 : (1 : Int) ≤ a := q1
        omega
      · have q2 := q2 z
        rw [k2.dia i hi] at q2
        have q2 : (1 : Int) ≤ a := q2
        omega
  | some s =>
    rw [e] at k
    have k : MeetS n Z A s := k
    have zs := with_zone h ok k
    have zPs := pass_zone zs
    show withF n (passF n s) A = _
    have k3 := with_meet zPs (by omega) ok
    refine meet_eq k3 k2 (fun r kr => ⟨over_closed kr.tri, Le.trans (fun i j hi hj => kr.low i j hi hj) (pass_le k.len h.len fun i j hi hj => k.low i j hi hj), kr.gds⟩) fun X kX => ⟨over_closed kX.tri, fun i j hi hj => ?_, kX.gds⟩
    show ble (M n X i j) (M n (passF n s) i j)
    rw [pass_M k.len hi hj]
    by_cases d : j = 0 ∧ 1 ≤ i
    · rw [if_pos d]; exact ble_top _
    · rw [if_neg d]
      by_cases z : j = 0
      · have zi : i = 0 := by omega
        rw [zi, z, kX.dia 0 h0, k.dia 0 h0]
        exact ble_refl _
      · exact (k.sp _ (mix_base h ok up kX) i j hi hj).2.1 z
end Zn

namespace Zn
/-! ### numbers of entries; within -/
theorem zone_ent {n c : Nat} {m : List Int} (h : Zone n c m) {i j : Nat} (hi : i < n) (hj : j < n) : ent n m i j = FAR ∨ (-(30 * (c : Int)) - 2 ≤ ent n m i j ∧ ent n m i j ≤ 30 * (c : Int) + 1) := by
  by_cases e : ent n m i j = FAR
  · exact .inl e
  · right
    have ed : M n m i j = some (ent n m i j) := dec_fin e
    refine ⟨?_, h.top i j _ hi hj ed⟩
    have t := h.tri 0 j i h.pos hj hi
    obtain ⟨u, eu, u1, u2⟩ := h.row i hi
    obtain ⟨v, ev, v1, v2⟩ := h.row j hj
    rw [eu, ev, ed] at t
    have t : v ≤ fadd u (ent n m i j) := t
    have b := fadd_bd u (ent n m i j)
    omega
theorem zone_mem {n c : Nat} {m : List Int} (h : Zone n c m) {x : Int} (hx : x ∈ m) : x = FAR ∨ (-(30 * (c : Int)) - 2 ≤ x ∧ x ≤ 30 * (c : Int) + 1) := by
  obtain ⟨t, ht, e⟩ := List.mem_iff_getElem.mp hx
  rw [h.len] at ht
  have hn := h.pos
  have hi : t / n < n := Nat.div_lt_of_lt_mul ht
  have hj : t % n < n := Nat.mod_lt _ hn
  have e2 : t / n * n + t % n = t := by rw [Nat.mul_comm]; exact Nat.div_add_mod t n
  have q := zone_ent h hi hj
  have e3 : ent n m (t / n) (t % n) = x := by
    unfold ent
    rw [e2, List.getD_eq_getElem?_getD, List.getElem?_eq_getElem (by rw [h.len]; exact ht), e]
    rfl
  rw [e3] at q
  exact q
def leF (a b : List Int) : Bool := (a.zip b).all fun p => decide (p.1 ≤ p.2)
theorem le_leF {n c d : Nat} {a b : List Int} (ha : Zone n c a) (hc : c ≤ 1000) (hb : Zone n d b) (h : Le n a b) : leF a b = true := by
  have hF : FAR = 1000000 := rfl
  refine List.all_eq_true.mpr fun p hp => decide_eq_true ?_
  obtain ⟨t, ht, e⟩ := List.mem_iff_getElem.mp hp
  rw [List.length_zip, ha.len, hb.len, Nat.min_self] at ht
  rw [List.getElem_zip] at e
  rw [← e]
  show a[t]'(by rw [ha.len]; exact ht) ≤ b[t]'(by rw [hb.len]; exact ht)
  have hn := ha.pos
  have hi : t / n < n := Nat.div_lt_of_lt_mul ht
  have hj : t % n < n := Nat.mod_lt _ hn
  have e2 : t / n * n + t % n = t := by rw [Nat.mul_comm]; exact Nat.div_add_mod t n
  have q := h _ _ hi hj
  have e3 : ∀ {m : List Int} (hm : m.length = n * n), ent n m (t / n) (t % n) = m[t]'(by rw [hm]; exact ht) := fun {m} hm => by
    unfold ent
    rw [e2, List.getD_eq_getElem?_getD, List.getElem?_eq_getElem (by rw [hm]; exact ht)]
    rfl
  have ca := zone_ent ha hi hj
  unfold M at q
  rw [e3 ha.len] at q ca
  rw [e3 hb.len] at q
  by_cases z : b[t]'(by rw [hb.len]; exact ht) = FAR
  · rw [z]
    rcases ca with ca | ca <;> omega
  · rw [dec_fin z] at q
    obtain ⟨x, ex, lx⟩ := ble_some q
    have := (dec_some ex).1
    omega
/-! ### points -/
abbrev Fr := Int × Int
def every (vs : List Fr) (i : Nat) : Fr := if i = 0 then (0, 1) else vs.getD (i - 1) (0, 1)
def by' (x y : Fr) : Int := x.1 * y.2 - y.1 * x.2
def most (x y : Fr) (b : Int) : Int := b / 2 * x.2 * y.2
def SatI (x y : Fr) (b : Int) : Prop := by' x y ≤ most x y b ∧ (by' x y = most x y b → b % 2 = 1)
theorem fadd_parts (a b : Int) : (fadd a b) / 2 = a / 2 + b / 2 ∧ (fadd a b) % 2 = a % 2 * (b % 2) := by
  unfold fadd
  rcases mod2 a with h | h <;> rcases mod2 b with h' | h' <;> simp [h, h'] <;> omega
theorem sat_add {x y k : Fr} {b c : Int} (hx : 1 ≤ x.2) (hy : 1 ≤ y.2) (hk : 1 ≤ k.2) (h1 : SatI x k b) (h2 : SatI k y c) : SatI x y (fadd b c) := by
  obtain ⟨e1, e2⟩ := fadd_parts b c
  obtain ⟨l1, q1⟩ := h1
  obtain ⟨l2, q2⟩ := h2
  unfold by' most at l1 q1 l2 q2
  have m1 : (x.1 * k.2 - k.1 * x.2) * y.2 ≤ (b / 2 * x.2 * k.2) * y.2 := Int.mul_le_mul_of_nonneg_right l1 (by omega)
  have m2 : (k.1 * y.2 - y.1 * k.2) * x.2 ≤ (c / 2 * k.2 * y.2) * x.2 := Int.mul_le_mul_of_nonneg_right l2 (by omega)
  have s1 : (x.1 * k.2 - k.1 * x.2) * y.2 + (k.1 * y.2 - y.1 * k.2) * x.2 = (x.1 * y.2 - y.1 * x.2) * k.2 := by grind
  have s2 : (b / 2 * x.2 * k.2) * y.2 + (c / 2 * k.2 * y.2) * x.2 = ((b / 2 + c / 2) * x.2 * y.2) * k.2 := by grind
  refine ⟨?_, fun e => ?_⟩
  · unfold by' most
    rw [e1]
    refine Int.le_of_mul_le_mul_right (a := k.2) ?_ (by omega)
    omega
  · unfold by' most at e
    rw [e1] at e
    have e' : (x.1 * y.2 - y.1 * x.2) * k.2 = ((b / 2 + c / 2) * x.2 * y.2) * k.2 := by rw [e]
    have z1 : (x.1 * k.2 - k.1 * x.2) * y.2 = (b / 2 * x.2 * k.2) * y.2 := by omega
    have z2 : (k.1 * y.2 - y.1 * k.2) * x.2 = (c / 2 * k.2 * y.2) * x.2 := by omega
    rw [e2, q1 (Int.eq_of_mul_eq_mul_right (by omega) z1), q2 (Int.eq_of_mul_eq_mul_right (by omega) z2)]
    rfl
def Sat (vs : List Fr) (i j : Nat) : B → Prop
  | none => True
  | some b => SatI (every vs i) (every vs j) b
def Lows (vs : List Fr) : Prop := ∀ x, x ∈ vs → 1 ≤ x.2
theorem every_low {vs : List Fr} (h : Lows vs) (i : Nat) : 1 ≤ (every vs i).2 := by
  unfold every
  split
  · exact Int.le_refl 1
  · rw [List.getD_eq_getElem?_getD]
    cases e : vs[i - 1]? with
    | none => exact Int.le_refl 1
    | some x => exact h x (List.mem_of_getElem? e)
theorem sat_closed (n : Nat) {vs : List Fr} (h : Lows vs) : ClosedS n (Sat vs) := fun i j k b c _ _ _ hb hc => by
  cases b with
  | none => rw [none_badd]; trivial
  | some b => cases c with
    | none => rw [badd_none]; trivial
    | some c => exact sat_add (every_low h i) (every_low h j) (every_low h k) hb hc
theorem satI_mono {p q : Fr} {a b : Int} (pi : 1 ≤ p.2) (pj : 1 ≤ q.2) (hab : a ≤ b) (s : SatI p q a) : SatI p q b := by
  obtain ⟨s1, s2⟩ := s
  have d : a / 2 ≤ b / 2 := by omega
  have m : most p q a ≤ most p q b := by
    unfold most
    exact Int.mul_le_mul_of_nonneg_right (Int.mul_le_mul_of_nonneg_right d (by omega)) (by omega)
  refine ⟨Int.le_trans s1 m, fun e => ?_⟩
  have e3 : most p q a = most p q b := by omega
  have a1 := s2 (by omega)
  unfold most at e3
  have e4 : a / 2 = b / 2 := Int.eq_of_mul_eq_mul_right (show p.2 ≠ 0 by omega) (Int.eq_of_mul_eq_mul_right (show q.2 ≠ 0 by omega) e3)
  omega
theorem sat_mono {vs : List Fr} (h : Lows vs) {i j : Nat} {x y : B} (l : ble x y) (s : Sat vs i j x) : Sat vs i j y := by
  cases y with
  | none => trivial
  | some b =>
    obtain ⟨a, rfl, hab⟩ := ble_some l
    exact satI_mono (every_low h i) (every_low h j) hab s
/-- a point is in a square -/
def satB (x y : Fr) (b : Int) : Bool := !(decide (by' x y > most x y b) || (decide (by' x y = most x y b) && decide (b % 2 = 0)))
def inF (n : Nat) (m : List Int) (vs : List Fr) : Bool := (List.range n).all fun i => (List.range n).all fun j => decide (ent n m i j = FAR) || satB (every vs i) (every vs j) (ent n m i j)
theorem satB_iff (x y : Fr) (b : Int) : satB x y b = true ↔ SatI x y b := by
  unfold satB SatI
  simp only [Bool.not_eq_true', Bool.or_eq_false_iff, Bool.and_eq_false_iff, decide_eq_false_iff_not]
  constructor
  · rintro ⟨h1, h2⟩
    refine ⟨by omega, fun e => ?_⟩
    rcases h2 with h2 | h2
    · exact absurd e h2
    · omega
  · rintro ⟨h1, h2⟩
    refine ⟨by omega, ?_⟩
    by_cases e : by' x y = most x y b
    · right
      have := h2 e
      omega
    · exact .inl e
theorem inF_iff (n : Nat) (m : List Int) (vs : List Fr) : inF n m vs = true ↔ ∀ i j, i < n → j < n → Sat vs i j (M n m i j) := by
  unfold inF
  simp only [List.all_eq_true, List.mem_range, Bool.or_eq_true, decide_eq_true_eq, satB_iff]
  constructor
  · intro h i j hi hj
    rcases h i hi j hj with e | e
    · unfold M; rw [dec_far e]; trivial
    · unfold M
      by_cases z : ent n m i j = FAR
      · rw [dec_far z]; trivial
      · rw [dec_fin z]; exact e
  · intro h i hi j hj
    have q := h i j hi hj
    by_cases z : ent n m i j = FAR
    · exact .inl z
    · unfold M at q
      rw [dec_fin z] at q
      exact .inr q
/-- one bound of a guard is kept -/
def keep1 (vs : List Fr) (g : Gd) : Bool :=
  let top := (vs.getD g.cl (0, 1)).1
  let far := (g.num : Int) * (vs.getD g.cl (0, 1)).2
  if g.up then (if g.le then decide (top ≤ far) else decide (top < far)) else (if g.le then decide (top ≥ far) else decide (top > far))
def keepF (vs : List Fr) (gs : List Gd) : Bool := gs.all (keep1 vs)
theorem keep1_iff (vs : List Fr) (g : Gd) : keep1 vs g = true ↔ Sat vs g.p g.q (some g.val) := by
  have e0 : every vs 0 = (0, 1) := rfl
  have e1 : every vs (1 + g.cl) = vs.getD g.cl (0, 1) := by
    unfold every
    rw [if_neg (by omega), show 1 + g.cl - 1 = g.cl by omega]
  unfold keep1 Gd.p Gd.q Gd.val
  show _ ↔ SatI _ _ _
  unfold SatI by' most
  have n1 : (2 * (g.num : Int) + 1) / 2 = g.num := by omega
  have n2 : (2 * -(g.num : Int) + 1) / 2 = -(g.num : Int) := by omega
  have n3 : (2 * (g.num : Int) + 1) % 2 = 1 := by omega
  have n4 : (2 * -(g.num : Int) + 1) % 2 = 1 := by omega
  cases g.up <;> cases g.le <;> simp [e0, e1, n1, n2, n3, n4, Int.neg_mul] <;> omega
theorem in_with {n c : Nat} {Z : List Int} {gs : List Gd} {vs : List Fr} (h : Zone n c Z) (hc : c ≤ 600) (ok : ∀ g, g ∈ gs → g.Ok n) (hv : Lows vs) :
    (match withF n Z gs with | none => false | some r => inF n r vs) = (inF n Z vs && keepF vs gs) := by
  have k := with_meet h hc ok
  have fwd : inF n Z vs = true → keepF vs gs = true → Base n Z gs (Sat vs) := fun h1 h2 =>
    ⟨sat_closed n hv, (inF_iff n Z vs).mp h1, fun g hg => (keep1_iff vs g).mp (List.all_eq_true.mp h2 g hg)⟩
  cases e : withF n Z gs with
  | none =>
    rw [e] at k
    cases h1 : inF n Z vs with
    | false => rfl
    | true => cases h2 : keepF vs gs with
      | false => rfl
      | true =>
        obtain ⟨i, hi, a, ha, q⟩ := k
        have s := q _ (fwd h1 h2)
        obtain ⟨s1, s2⟩ := s
        have pi := every_low hv i
        generalize every vs i = p at *
        have b0 : by' p p = 0 := by unfold by'; omega
        have mm : most p p a = a / 2 * (p.2 * p.2) := by unfold most; rw [Int.mul_assoc]
        have pp : 0 < p.2 * p.2 := Int.mul_pos (by omega) (by omega)
        rw [b0] at s1 s2
        rw [mm] at s1 s2
        by_cases z : a / 2 = 0
        · have := s2 (by rw [z, Int.zero_mul])
          omega
        · have n1 : a / 2 < 0 := by omega
          have := Int.mul_neg_of_neg_of_pos n1 pp
          omega
  | some r =>
    rw [e] at k
    have k : MeetS n Z gs r := k
    show inF n r vs = _
    cases h1 : inF n r vs with
    | true =>
      have s := (inF_iff n r vs).mp h1
      have a1 : inF n Z vs = true := (inF_iff n Z vs).mpr fun i j hi hj => sat_mono hv (k.low i j hi hj) (s i j hi hj)
      have a2 : keepF vs gs = true := List.all_eq_true.mpr fun g hg => (keep1_iff vs g).mpr (sat_mono hv (k.gds g hg) (s _ _ (ok g hg).p (ok g hg).q))
      rw [a1, a2]
      rfl
    | false =>
      cases h2 : inF n Z vs with
      | false => rfl
      | true => cases h3 : keepF vs gs with
        | false => rfl
        | true =>
          have := (inF_iff n r vs).mpr (k.sp _ (fwd h2 h3))
          rw [h1] at this
          cases this
end Zn

namespace Zn
theorem Zone.mono {n c d : Nat} {m : List Int} (h : Zone n c m) (l : c ≤ d) : Zone n d m :=
  ⟨h.size, h.len, h.tri, h.dia, fun j hj => by
    obtain ⟨a, h1, h2, h3⟩ := h.row j hj
    exact ⟨a, h1, h2, by omega⟩, fun i j a hi hj e => by
    have := h.top i j a hi hj e
    omega⟩
theorem first_M {n i j : Nat} (hi : i < n) (hj : j < n) : M n (List.replicate (n * n) 1) i j = some 1 := by
  have := ix_lt hi hj
  unfold M ent
  rw [List.getD_eq_getElem?_getD, List.getElem?_replicate_of_lt this]
  rfl
theorem first_zone {n : Nat} (h : 2 ≤ n ∧ n ≤ 4) : Zone n 0 (List.replicate (n * n) 1) := by
  refine ⟨h, List.length_replicate, fun i j k hi hj hk => ?_, fun i hi => first_M hi hi, fun j hj => ⟨1, first_M (by omega) hj, Int.le_refl _, by decide⟩, fun i j a hi hj e => ?_⟩
  · rw [first_M hi hj, first_M hi hk, first_M hk hj]
    exact ble_refl _
  · rw [first_M hi hj] at e
    obtain rfl := Option.some.inj e
    decide
/-- is a zone, or nothing, within one -/
def owF : Option (List Int) → Option (List Int) → Bool
  | none, _ => true
  | some _, none => false
  | some a, some b => leF a b
theorem oz_none {n c : Nat} : OZ n c none := fun _ e => by cases e
theorem oz_some {n c : Nat} {m : List Int} (h : Zone n c m) : OZ n c (some m) := fun _ e => by
  obtain rfl := Option.some.inj e
  exact h
theorem OZ.mono {n c d : Nat} {z : Option (List Int)} (h : OZ n c z) (l : c ≤ d) : OZ n d z := fun m e => (h m e).mono l
theorem oz_map {n c : Nat} {z : Option (List Int)} {f : List Int → List Int} (h : OZ n c z) (hf : ∀ m, Zone n c m → Zone n c (f m)) : OZ n c (z.map f) := fun m e => by
  obtain ⟨a, rfl, rfl⟩ := Option.map_eq_some_iff.mp e
  exact hf a (h a rfl)
end Zn

/-! An own layer over the hand layer: a promise that knows that no repr is under way; repr of data; powers of great numbers; calls by keywords alone. -/
namespace Gz
open PySem PySem.Spec PyProof.Rows L2
/-! ### nothing is being written out (no repr is under way) -/
structure RoomG (k : Nat) (A : Around) : Prop where
  rm : Room k A
  gd : A.guards = some []
theorem RoomG.deeper {k : Nat} {A : Around} (r : RoomG (k + 1) A) (env : Env) : RoomG k (A.deeper env) := ⟨r.rm.deeper env, r.gd⟩
section
variable (P : Program) (w : World) (K : PySem.W.Frag) (mg : Str → Option Value) (base : Heap)
/-- the promise of a def that is called where no repr is under way -/
structure FnG (k : Nat) (f : Addr) (fd : FuncData) (ps : List Str) (sp : Sp) : Prop where
  len : ∀ as H Q E, sp as H Q E → as.length = ps.length
  run : ∀ (A : Around) (outer : List Env) (s : Shared) (H : Hp) (args : Args) (us : List Value) (as : List V) (Q : VK) (E : XK),
    RoomG k A → Env0 P w K mg base A outer s H → BindsTo s fd args (ps.zip us) → Vals as us → sp as H Q E →
      codeAny (model P w) A (.call (.ref f) args) (CR CX0 outer P w H s Q E) s
end
section
variable {P : Program} {w : World} {K : PySem.W.Frag} {mg : Str → Option Value} {base : Heap}
theorem FnG.of {k : Nat} {f : Addr} {fd : FuncData} {ps : List Str} {sp : Sp} (F : FnOk P w K mg base CX0 k f fd ps sp) : FnG P w K mg base k f fd ps sp :=
  ⟨F.len, fun A outer s H args us as Q E hr e0 hb hv hs => F.run A outer s H args us as Q E hr.rm e0 hb hv hs⟩
/-- such a def by its body -/
theorem okG {x qual : Str} {st : Stmt} {f : Addr} {fd : FuncData} {N ps : List Str} {k : Nat} {sp : Sp}
    (F : Fun K x qual st f fd) (S : FnScope N ps (defScope st))
    (len : ∀ as H Q E, sp as H Q E → as.length = ps.length)
    (body : ∀ (cdv : Value) (A : Around) (outer : List Env) (s : Shared) (H : Hp) (as : List V) (Q : VK) (E : XK),
      RoomG k (A.deeper (envOfC qual (defScope st) s.heap.objs.size f cdv)) → sp as H Q E →
        ∃ t, PSs (cxOf CX0 P w K mg base N qual (defScope st) f cdv A outer s H E).nox (defBody st) t ∧
          t { nx := fun _ H' => Q .non H', rt := Q } (start N as) H) : FnG P w K mg base (k + 1) f fd ps sp := by
  obtain ⟨oc, od, kV, doc, pm, an, cdv, ct, osl, rfl, lk, hcd⟩ := F.ex
  refine ⟨len, fun A outer s H args us as Q E room at0 bind rel prom => ?_⟩
  have lenAs := len _ _ _ _ prom
  have kIn : K.In s.heap := at0.mod.kin.keeps fun b o e => (at0.bs b o e).1
  have noLim : s.heap.NoLimit := at0.mod.nolimit.keeps fun b o e => (at0.bs b o e).1
  have kinds : ∀ y ∈ ps.zip us, (defScope st).names.lookup y.1 = some .local ∨
      ((defScope st).names.lookup y.1 = some .cell ∧ ((cellsFrom (s.heap.objs.size + 1) (defScope st).names []).lookup y.1).isSome = true) := by
    rintro ⟨n, v⟩ hy
    cases S.par n (List.of_mem_zip hy).1 with
    | inl q => exact .inl q
    | inr q => exact .inr ⟨q, PySem.W.cellsFrom_some _ _ _ (.inl q)⟩
  refine codeAny_call_function room.rm.depth (kIn _ _ lk) rfl S.co S.gen rfl (PySem.W.codeRec_of kIn hcd) (bind _ _ _ _ ?_)
  refine wpAny_newFunctionEnv_cells S.kind kinds fun env he s1 x => ?_
  subst he
  refine ⟨noLim.keeps x.toInCall.keep, codeAny_func ?_⟩
  obtain ⟨t, ht, hq⟩ := body cdv A outer s H as Q E (room.deeper _) prom
  have start0 := inv_start (CX := CX0) (cd := cdv) (E := E) (qual := qual) (f := f) S room.rm.hd at0 lenAs rel x
  refine wpAny_mono (ht.nox.run [] s1 (start N as) H _ start0 hq) (fun fl s' out => ?_) fun _ _ out => out
  have fin : ∀ {σ' : L2.St} {H' : Hp} {v : V} {u : Value}, Inv (cxOf CX0 P w K mg base N qual (defScope st) f cdv A outer s H E) [] σ' H' s' → RelV v u → Q v H' →
      CE outer P w H s Q u s' := fun {_ H' v _} J rv q => ⟨v, H', J.os, J.bare, J.base, J.hok, rv, q⟩
  cases fl with
  | ret u => exact let ⟨_, _, _, J, rv, q⟩ := out; fin J rv q
  | next => exact let ⟨_, _, J, q⟩ := out; fin (v := V.non) (u := Value.none) J rfl q
  | brk => exact let ⟨_, _, _, q⟩ := out; False.elim q
  | cont => exact let ⟨_, _, _, q⟩ := out; False.elim q
end
section
variable {X : Cx} {k : Nat} {f : Addr} {fd : FuncData} {ps : List Str} {sp : Sp} {E : XK} {x : Str} {p pos : Pos} {e : Expr} {es : List Expr} {t : TA}
theorem run_G {pins : List (Addr × Obj)} {σ : L2.St} {H : Hp} {s : Shared} {Q : VK} {us : List Value} {as : List V}
    (F : FnG X.prog X.w X.K X.mg X.base k f fd ps sp) (hr : RoomG k X.A) (hb : Binds X.K fd ps []) (I : Inv X pins σ H s) (r : Vals as us) (h : sp as H Q E) :
    wpAny (model X.prog X.w) X.A (call (.ref f) us) (EP X pins σ Q) X.xe s := by
  have hl : (us ++ []).length = ps.length := by
    rw [List.append_nil, ← r.length]
    exact F.len _ _ _ _ h
  have hb' := hb s us I.kIn hl
  rw [List.append_nil] at hb'
  refine wpAny_call (codeAny_mono (F.run X.A X.stack s H ⟨us, []⟩ us as Q E hr I.env0 hb' r h) fun res s' hq => ?_)
  match res, hq with
  | .error _, hq => exact False.elim hq
  | .ok (.ret _), hq => exact I.after hq
  | .ok .next, hq => exact False.elim hq
  | .ok .brk, hq => exact False.elim hq
  | .ok .cont, hq => exact False.elim hq
/-- a call of such a def -/
theorem pe_callG (F : FnG X.prog X.w X.K X.mg X.base k f fd ps sp) (hr : RoomG k X.A) (hg : Gl X x) (hm : X.mg x = some (.ref f)) (kp : PySem.W.keepIn X.K (.ref f) = true)
    (hb : Binds X.K fd ps []) (ha : PA X (e :: es) t) (hdb : (x == ("__debug__" : Str)) = false := by decide)
    (he : starEach (e :: es) X.env = (false, eval e X.env) :: starEach es X.env := by rfl) (hpl : (backTo pos (starEach es X.env)).any (·.1) = false := by rfl) :
    PE X (.Call (.Name x p) (e :: es) [] pos) (fun σ H Q => t σ H fun as H1 => sp as H1 Q E) := by
  constructor
  intro pins s σ H Q I h
  refine wpAny_Call_Name_kw (ld_glob I hg hm ?_ hdb)
  refine PySem.W.callWith_K (h₀ := X.base) I.ok.mod.kin kp (thn (ha.run pos pins s σ H _ I h) ?_) he hpl
  rintro us s1 ⟨as, H1, I1, r, q⟩
  exact ⟨I1.kIn, run_G F hr hb I1 r q⟩
end
/-! ### repr of data -/
section
variable {X : Cx}
def rRepr (K : PySem.W.Frag) : List V → Hp → VK → Prop := fun xs H Q => ∃ v d, xs = [v] ∧ Dp K H v d ∧ SeqAt.shaped d = true ∧ d.showable = true ∧ d.shown.length ≤ sizeLine ∧ Q (.str d.shown) H
theorem call_repr (hg : X.A.guards = some []) (hu : X.A.units + 66 < cLine) : CallR X (.builtin "repr") (rRepr X.K) := by
  intro pins s σ H xs us Q I r h
  obtain ⟨v, d, rfl, hd, hs, hw, hz, q⟩ := h
  cases r with
  | cons rv rn =>
    cases rn
    rename_i u
    have hdep := SeqAt.depth_of_shaped hs
    obtain ⟨as, rd⟩ := Dp.reads I d v u hd rv
    have fin : ∀ h' (tk : Tok) (t2 : Nat), (∀ b o, s.heap.get? b = some o → h'.get? b = some o) → EP X pins σ Q (.str d.shown tk) { s with heap := h', toks := t2 } :=
      fun h' tk t2 hk => ⟨.str d.shown, H, I.kept hk, ⟨tk, rfl⟩, q⟩
    have hnd : d.hasDict = false := PyData.hasDict_of_canLay d (SeqAt.canLay_of_shaped hs)
    have hsm : ∀ as : List Addr, d.hasDict = true → sysModules ∉ as := fun as => PyData.noDict_hsm hnd
    cases hd with
    | lst h1 h2 => 
      cases rv
      exact repr_of_reads' rd hw (hsm as) hg (by omega) (fun _ _ e => e) (fun h' tk t2 hk => fin h' tk t2 hk) hz
    | tup h1 h2 =>
      cases rv
      exact repr_of_reads' rd hw (hsm as) hg (by omega) (fun _ _ e => e) (fun h' tk t2 hk => fin h' tk t2 hk) hz
    | non =>
      cases rv
      exact PySem.P.repr_of_none (fin s.heap _ _ fun _ _ e => e)
    | bl b =>
      cases rv
      exact PySem.P.repr_of_bool (fin s.heap _ _ fun _ _ e => e)
    | int i =>
      obtain ⟨tk, rfl⟩ := rv
      have hw' : i.natAbs.log2 < 1920 := by simpa [PyData.showable] using hw
      exact PySem.P.repr_of_int hw' (fin s.heap _ _ fun _ _ e => e)
    | str x =>
      obtain ⟨tk, rfl⟩ := rv
      exact PySem.P.repr_of_str (fin s.heap _ _ fun _ _ e => e) hz
end
/-! ### powers of great numbers -/
section
variable {X : Cx}
def CPowN (i j : Int) : Prop := 0 ≤ j ∧ (Builtin.Int.intBits i : Int) * j ≤ 100000
theorem op_powN : OpR X (binaryOp .Pow) (rI CPowN fun i j => .int (i ^ j.toNat)) := opI fun i j _ _ _ _ _ hc q =>
  pow_int hc.1 (by have := hc.2; omega) q
end
/-! ### a call by keywords alone, in the parameters' order -/
def KwB (fd : FuncData) (ps : List Str) : Prop := ∀ us : List Value, us.length = ps.length → bindArgs fd ⟨[], ps.zip us⟩ = pure (ps.zip us)
section
variable {X : Cx} {k : Nat} {f : Addr} {fd : FuncData} {ps : List Str} {sp : Sp} {E : XK} {x : Str} {p pos : Pos} {kws : List Keyword} {tk : TA}
theorem run_kw {pins : List (Addr × Obj)} {σ : L2.St} {H : Hp} {s : Shared} {Q : VK} {us : List Value} {as : List V}
    (F : FnOk X.prog X.w X.K X.mg X.base CX0 k f fd ps sp) (hr : Room k X.A) (hb : KwB fd ps) (I : Inv X pins σ H s) (r : Vals as us) (h : sp as H Q E) :
    wpAny (model X.prog X.w) X.A (call (.ref f) [] (ps.zip us)) (EP X pins σ Q) X.xe s := by
  have hl : us.length = ps.length := by
    rw [← r.length]
    exact F.len _ _ _ _ h
  refine wpAny_call (codeAny_mono (F.run X.A X.stack s H ⟨[], ps.zip us⟩ us as Q E hr I.env0 (.of_eq (hb us hl)) r h) fun res s' hq => ?_)
  match res, hq with
  | .error _, hq => exact False.elim hq
  | .ok (.ret _), hq => exact I.after hq
  | .ok .next, hq => exact False.elim hq
  | .ok .brk, hq => exact False.elim hq
  | .ok .cont, hq => exact False.elim hq
theorem pe_kw (F : FnOk X.prog X.w X.K X.mg X.base CX0 k f fd ps sp) (hr : Room k X.A) (hg : Gl X x) (hm : X.mg x = some (.ref f)) (kp : PySem.W.keepIn X.K (.ref f) = true)
    (hb : KwB fd ps) (hkw : PK X kws tk) (hdb : (x == ("__debug__" : Str)) = false := by decide)
    (hall : (backToKw pos (keywordEach kws X.env)).all (·.1.isSome) = true := by rfl)
    (hks : (backToKw pos (keywordEach kws X.env)).filterMap (·.1) = ps := by rfl)
    (hpl : ((backTo pos (starEach [] X.env)).any (·.1) || (backToKw pos (keywordEach kws X.env)).any (·.1.isNone)) = false := by rfl) :
    PE X (.Call (.Name x p) [] kws pos) (fun σ H Q => tk σ H fun as H1 => sp as H1 Q E) := by
  constructor
  intro pins s σ H Q I h
  refine wpAny_Call_Name_kw (ld_glob I hg hm ?_ hdb)
  refine PySem.W.callWith_KW0 (h₀ := X.base) I.ok.mod.kin kp hall (thn (hkw.run pos pins s σ H _ I h) ?_) hpl
  rintro us s1 ⟨as, H1, I1, r, q⟩
  refine ⟨I1.kIn, ?_⟩
  rw [hks]
  exact run_kw F hr hb I1 r q
end
end Gz

namespace Gz
open PySem PySem.Spec PyProof.Rows L2
/-! ### the end of a law's row, for a law whose promise knows that no repr is under way -/
theorem callerG {k : Nat} (hr : Room k callerA) : RoomG k callerA := ⟨hr, rfl⟩
section
variable {P : Program} {w : World} {K : PySem.W.Frag} {mg mb : Str → Option Value} {k : Nat} {fa a : Addr} {fd : FuncData} {x : Str} {sp : Sp} {s1 : Shared} {us : List Value} {ns : List Int}
/-- from an abstract heap that tracks the script at most -/
theorem core_G (KX : K.In s1.heap) (hns : s1.heap.Ns mainGlobals mg) (hb : s1.heap.Ns builtinsNs mb) (hbb : ∀ x : Str, x ≠ "__name__" → mb x = bootBuiltins x)
    (hlim : s1.heap.NoLimit) (hg : s1.gens = #[]) (ha : s1.heap.get? a = some { cls := .type "list", data := .seq us.toArray }) (hr : Room k callerA)
    (F : ∀ base : Heap, K.In base → base.Ns mainGlobals mg → FnG P w K mg base k fa fd [x] sp) (hbind : ∀ (s : Shared) (u : Value), BindsTo s fd ⟨[u], []⟩ [(x, u)])
    (H : Hp) (only : Only H) (ok : HOk P w H s1.heap) (at1 : ∀ b, H b ≠ none → b = a) (notK : H a ≠ none → K.lookup a = none)
    (hsp : sp [.ref a] H (fun v _ => v = .bl true) fun _ _ _ => False) :
    codeAny (model P w) callerA (.call (.ref fa) ⟨[.ref a], []⟩) (fun r s' => r = .ok (.ret (.bool true)) ∧ OldK s1.heap s'.heap ∧ s'.os = s1.os ∧ AllBare s'.gens) s1 := by
  have free : ∀ {b : Addr}, b ≠ a → H b = none := fun {b} ne => by
    cases q : H b with
    | none => rfl
    | some u => exact absurd (at1 b (by rw [q]; exact fun z => Option.noConfusion rfl (heq_of_eq z))) ne
  have stays : ∀ {b : Addr} {m : Str → Option Value}, s1.heap.Ns b m → (hidT s1.heap H).Ns b m := by
    rintro b m ⟨o, es, ep, e, d, r⟩
    refine ⟨o, es, ep, hidT_get e (free ?_), d, r⟩
    rintro rfl
    rw [ha] at e
    cases e
    cases d
  have inBase : K.In (hidT s1.heap H) := fun b o e => by
    refine hidT_get (KX b o e) ?_
    by_cases ne : b = a
    · subst ne
      cases q : H b with
      | none => rfl
      | some u =>
        have z := notK (by rw [q]; exact fun z => Option.noConfusion rfl (heq_of_eq z))
        rw [z] at e
        cases e
    · exact free ne
  obtain ⟨mc, l1, l2⟩ := hlim
  have M0 : Mod K mg (hidT s1.heap H) := ⟨inBase, stays hns, ⟨mb, stays hb, hbb⟩, ⟨mc, stays l1, l2⟩⟩
  have none0 : ∀ b : Addr, ¬ b ∈ ([] : List Addr) := fun b => List.not_mem_nil
  have E0' : Env0 P w K mg (hidT s1.heap H) callerA [] s1 H :=
    ⟨rfl, M0, fun b o e => of_hidT e, by rw [hidT_size]; exact Nat.le_refl _, trivial, fun b hb => absurd hb (none0 b), ok, .of_eq hg⟩
  refine codeAny_mono ((F _ inBase (stays hns)).run callerA [] s1 H _ [.ref a] [.ref a] _ _ (callerG hr) E0' (hbind s1 (.ref a)) (.cons rfl .nil) hsp) ?_
  intro res s' h
  match res, h with
  | .ok .next, h => exact False.elim h
  | .ok .brk, h => exact False.elim h
  | .ok .cont, h => exact False.elim h
  | .error _, h => exact False.elim h
  | .ok (.ret u), ⟨v, H', os, bare, un, ok', rv, q⟩ =>
    subst q
    cases rv
    refine ⟨rfl, OldK.of_keep fun b o e => ?_, os, bare⟩
    cases q : H b with
    | none => exact un.keep b o e q (none0 b) (none0 b)
    | some t =>
      rcases only b with z | ⟨ob, xs, z⟩
      · rw [q] at z
        cases z
      · have e1 := (ok b _ z).1
        have e2 := (ok' b _ (un.frzs b ob _ z)).1
        rw [e] at e1
        cases e1
        exact e2
theorem law_G (KX : K.In s1.heap) (hns : s1.heap.Ns mainGlobals mg) (hb : s1.heap.Ns builtinsNs mb) (hbb : ∀ x : Str, x ≠ "__name__" → mb x = bootBuiltins x)
    (hlim : s1.heap.NoLimit) (hg : s1.gens = #[]) (ha : s1.heap.get? a = some { cls := .type "list", data := .seq us.toArray }) (hi : IntsAre us ns) (hl : ns.length ≤ sizeLine) (hr : Room k callerA)
    (F : ∀ base : Heap, K.In base → base.Ns mainGlobals mg → FnG P w K mg base k fa fd [x] sp) (hbind : ∀ (s : Shared) (u : Value), BindsTo s fd ⟨[u], []⟩ [(x, u)])
    (hsp : ∀ H : Hp, Only H → SqL K H a (ns.map V.int) → sp [.ref a] H (fun v _ => v = .bl true) fun _ _ _ => False) :
    codeAny (model P w) callerA (.call (.ref fa) ⟨[.ref a], []⟩) (fun r s' => r = .ok (.ret (.bool true)) ∧ OldK s1.heap s'.heap ∧ s'.os = s1.os ∧ AllBare s'.gens) s1 := by
  have rel := vals_ints hi
  have len := hi.length
  cases inK : K.lookup a with
  | some o =>
    have e := KX a o inK
    rw [ha] at e
    cases e
    have sq : SqL K (fun _ => none) a (ns.map V.int) := .inr ⟨_, us.toArray, _, inK, rfl, rfl, rfl, by rw [List.size_toArray, len]; exact hl, by simpa using rel⟩
    exact core_G KX hns hb hbb hlim hg ha hr F hbind (fun _ => none) (fun _ => .inl rfl) (fun b u z => by cases (show (none : Option HO) = some u from z)) (fun b z => absurd rfl z) (fun z => absurd rfl z) (hsp _ (fun _ => .inl rfl) sq)
  | none =>
    let H : Hp := fun b => if b = a then some (.frz { cls := .type "list", data := .seq us.toArray } (.lst (ns.map V.int))) else none
    have at_a : H a = some (.frz { cls := .type "list", data := .seq us.toArray } (.lst (ns.map V.int))) := if_pos rfl
    have off_a : ∀ b, b ≠ a → H b = none := fun b ne => if_neg ne
    have only : Only H := fun b => by
      by_cases ne : b = a
      · subst ne
        exact .inr ⟨_, _, at_a⟩
      · exact .inl (off_a b ne)
    refine core_G KX hns hb hbb hlim hg ha hr F hbind H only (fun b u z => ?_) (fun b z => ?_) (fun _ => inK) (hsp H only (.inl (.inr ⟨_, at_a⟩)))
    · by_cases ne : b = a
      · subst ne
        rw [at_a] at z
        cases z
        exact ⟨ha, by rw [List.length_map]; exact hl, us, _, rel, ha⟩
      · rw [off_a b ne] at z
        cases z
    · by_cases ne : b = a
      · exact ne
      · exact absurd (off_a b ne) z
end
/-- the goal that the head leaves, from the law's promise -/
theorem walk_G {l : PySem.W.OpenLaw} {n k : Nat} {q : Program} {loose : List Str} {XP : (Str → Option Value) → Heap → Prop} {YP : World → Heap → Prop} {d : DefRec} {K : Params → PySem.W.Frag}
    {sp : World → Sp} {x : Str} (hn : l.most = some n) (hn2 : n ≤ sizeLine) (hdf : d.params.defaults = []) (hr : Room k callerA)
    (hY : ∀ (w : World) (h : Heap), YP w h → (K w.params).In h)
    (F : ∀ (w : World) (mg : Str → Option Value) (fa : Addr) (h : Heap), (K w.params).In h → h.Ns mainGlobals mg → mg d.name = some (.ref fa) →
      ∃ fd : FuncData, (∀ (s : Shared) (u : Value), BindsTo s fd ⟨[u], []⟩ [(x, u)]) ∧
        ∀ base : Heap, (K w.params).In base → base.Ns mainGlobals mg → FnG l.prog w (K w.params) mg base k fa fd [x] (sp w))
    (hsp : ∀ (w : World) (H : Hp) (a : Addr) (ns : List Int), ns.length ≤ n → Only H → SqL (K w.params) H a (ns.map V.int) → sp w [.ref a] H (fun v _ => v = .bl true) fun _ _ _ => False) :
    PySem.W.WalkO q loose XP YP l.row.toRowW d [] (fun f vs => PySem.call f vs) := by
  refine Att.attach_call hn hdf ?_
  intro w s0 s1 mg mb fa o pm cd doc a us ns G Y ho hd hcd hmg hobj hints hlen hg
  obtain ⟨fd, hb, hF⟩ := F w mg fa _ (hY w _ Y) G.T.g hmg
  exact law_G (hY w _ Y) G.T.g G.T.b G.T.builtins G.T.nolimit hg hobj hints (Nat.le_trans hlen hn2) hr hF hb fun H only sq => hsp w H a ns hlen only sq
end Gz

/-! What readings evaluate to, over the library's Ev: tuples, built-ins, comprehensions over tuples, calls that give any tuple or None. -/
namespace Gz
open PySem PySem.Spec PyProof.Rows L2 Evl
section
variable {K : PySem.W.Frag} {σ : L2.St} {H H' : Hp} {ta tb tc te tx : TE} {t u : TT} {x y z v : V} {r r' : R2}
theorem sqt_of {a : Addr} {xs : List V} (h : H a = some (.tup xs)) : SqT K H a xs := .inl (.inl h)
theorem sql_of {a : Addr} {xs : List V} (h : H a = some (.lst xs)) : SqL K H a xs := .inl (.inl h)
/-- all but one object stays -/
def But (p : Addr) (H H' : Hp) : Prop := ∀ b o, b ≠ p → H b = some o → H' b = some o
theorem But.refl (p : Addr) (H : Hp) : But p H H := fun _ _ _ h => h
theorem But.trans {p : Addr} {H1 H2 H3 : Hp} (a : But p H1 H2) (b : But p H2 H3) : But p H1 H3 := fun c o n h => b c o n (a c o n h)
theorem But.of {p : Addr} {H1 H2 : Hp} (e : Ex H1 H2) : But p H1 H2 := fun b o _ h => e b o h
theorem But.upd {p : Addr} {H1 : Hp} {o : HO} : But p H1 (upd H1 p o) := fun b u n h => by
  rw [upd_ne n]
  exact h
theorem Ex.but {p : Addr} {H0 H1 H2 : Hp} (e : Ex H0 H1) (n : H0 p = none) (b : But p H1 H2) : Ex H0 H2 := fun c o h => b c o (ne_of_none h n) (e c o h)
theorem But.tup {p a : Addr} {xs : List V} {H1 H2 : Hp} {ys : List V} (b : But p H1 H2) (hp : H1 p = some (.lst ys)) (h : SqT K H1 a xs) : SqT K H2 a xs := by
  rcases h with (h | ⟨o, h⟩) | h
  · exact .inl (.inl (b a _ (ne_of h hp (by intro z; cases z)) h))
  · exact .inl (.inr ⟨o, b a _ (ne_of h hp (by intro z; cases z)) h⟩)
  · exact .inr h
/-- any value of which P holds, whatever comes -/
def EvP (te : TE) (σ : L2.St) (H : Hp) (P : V → Hp → Prop) : Prop := ∀ H1, Ex H H1 → ∀ Q : VK, (∀ v H2, Ex H1 H2 → P v H2 → Q v H2) → te σ H1 Q
/-- some tuple of these -/
def IsT (K : PySem.W.Frag) (xs : List V) : V → Hp → Prop := fun v H => ∃ p, v = .ref p ∧ SqT K H p xs
/-- None, or some tuple of these -/
def IsO (K : PySem.W.Frag) : Option (List V) → V → Hp → Prop
  | none => fun v _ => v = .non
  | some xs => IsT K xs
theorem IsT.mono {xs : List V} {v : V} (e : Ex H H') (h : IsT K xs v H) : IsT K xs v H' := by
  obtain ⟨p, rfl, s⟩ := h
  exact ⟨p, rfl, ex_t e s⟩
theorem IsO.mono {o : Option (List V)} {v : V} (e : Ex H H') (h : IsO K o v H) : IsO K o v H' := by
  cases o with
  | none => exact h
  | some xs => exact IsT.mono e h
theorem EvP.mono {P : V → Hp → Prop} (e : Ex H H') (h : EvP te σ H P) : EvP te σ H' P := fun H1 a Q q => h H1 (e.trans a) Q q
theorem evp_v (h : Ev te σ H v) : EvP te σ H (fun w _ => w = v) := fun H1 e Q q => h H1 e Q fun H2 e2 => q v H2 e2 rfl
theorem evp_tup {xs : List V} (h : EvU te σ H xs) : EvP te σ H (IsT K xs) := fun H1 e Q q => h H1 e Q fun p H2 _ e2 hp => q _ H2 e2 ⟨p, rfl, sqt_of hp⟩
/-! ### chains, built-ins -/
theorem ev_chain {a b : Bool} (ha : Ev ta σ H x) (hb : Ev tb σ H y) (hr : RV r x y H (.bl a)) (hc : a = true → Ev tc σ H z) (hr' : a = true → RV r' y z H (.bl b)) : Ev (tChain r r' ta tb tc) σ H (.bl (a && b)) := fun H1 e Q q =>
  ha H1 e _ fun H2 e2 => hb H2 (e.trans e2) _ fun H3 e3 => hr H3 ((e.trans e2).trans e3) _ fun H4 e4 => ⟨a, rfl, by
    have e14 := (e2.trans e3).trans e4
    cases a with
    | false => exact iteF (q H4 e14)
    | true => exact iteT (hc rfl H4 (e.trans e14) _ fun H5 e5 => hr' rfl H5 ((e.trans e14).trans e5) Q fun H6 e6 => q H6 ((e14.trans e5).trans e6))⟩
theorem tyx_t {a : Addr} {xs : List V} (h : SqT K H a xs) : TyX K H (.ref a) (.type "tuple") := by
  rcases h with (h | ⟨o, h⟩) | ⟨o, _, _, h1, h2, _⟩
  · exact .base (.tup h)
  · exact .fTuple h
  · exact .kTuple h1 h2
theorem ev_isi {a b : String} {k : Bool} (ha : Ev ta σ H x) (ht : ∀ H1, Ex H H1 → TyX K H1 x (.type a)) (hk : kitB a b = some k) : Ev (tCB (rIsi K) (tCons ta (tCons (tC (.ty b)) tNil))) σ H (.bl k) := fun H1 e Q q =>
  ha H1 e _ fun H2 e2 => ⟨x, .ty b, .type a, .type b, k, rfl, .ty b, ht H2 (e.trans e2), kit_ty hk, q H2 e2⟩
theorem ev_isiT {a : Addr} {xs : List V} (ha : Ev ta σ H (.ref a)) (h : SqT K H a xs) : Ev (tCB (rIsi K) (tCons ta (tCons (tC (.ty "tuple")) tNil))) σ H (.bl true) :=
  ev_isi ha (fun _ e => tyx_t (ex_t e h)) (by decide +kernel)
theorem ev_isiInt {i : Int} (ha : Ev ta σ H (.int i)) : Ev (tCB (rIsi K) (tCons ta (tCons (tC (.ty "int")) tNil))) σ H (.bl true) :=
  ev_isi ha (fun _ _ => .base (.int i)) (by decide +kernel)
theorem ev_isiIntB {i : Int} (ha : Ev ta σ H (.int i)) : Ev (tCB (rIsi K) (tCons ta (tCons (tC (.ty "bool")) tNil))) σ H (.bl false) :=
  ev_isi ha (fun _ _ => .base (.int i)) (by decide +kernel)
theorem ev_isiStr {s : Str} (ha : Ev ta σ H (.str s)) : Ev (tCB (rIsi K) (tCons ta (tCons (tC (.ty "str")) tNil))) σ H (.bl true) :=
  ev_isi ha (fun _ _ => .base (.str s)) (by decide +kernel)
theorem ev_lenT {p : Addr} {xs : List V} (ha : Ev ta σ H (.ref p)) (h : SqT K H p xs) : Ev (tCB (rLenS K) (tCons ta tNil)) σ H (.int (xs.length : Int)) := fun H1 e Q q =>
  ha H1 e _ fun H2 e2 => ⟨p, xs, rfl, .inr (ex_t (e.trans e2) h), q H2 e2⟩
def rLenStr : List V → Hp → VK → Prop := fun xs H Q => ∃ z, xs = [.str z] ∧ z.length ≤ sizeLine ∧ Q (.int z.length) H
theorem ev_lenStr {s : Str} (ha : Ev ta σ H (.str s)) (h : s.length ≤ 100000) : Ev (tCB rLenStr (tCons ta tNil)) σ H (.int (s.length : Int)) := fun H1 e Q q =>
  ha H1 e _ fun H2 e2 => ⟨s, rfl, sz_of h, q H2 e2⟩
theorem ev_all {bs : List Bool} (h : EvL te σ H (bs.map V.bl)) : Ev (tCB (rAll K) (tCons te tNil)) σ H (.bl (bs.all id)) := fun H1 e Q q =>
  h H1 e _ fun p H2 _ e2 hp => ⟨p, bs, rfl, sql_of hp, q H2 e2⟩
theorem ev_any {bs : List Bool} (h : EvL te σ H (bs.map V.bl)) : Ev (tCB (rAny K) (tCons te tNil)) σ H (.bl (bs.any id)) := fun H1 e Q q =>
  h H1 e _ fun p H2 _ e2 hp => ⟨p, bs, rfl, sql_of hp, q H2 e2⟩
/-- tuple(xs), list(xs) -/
def rTupS (K : PySem.W.Frag) : List V → Hp → VK → Prop := fun xs H Q => ∃ p ys, xs = [.ref p] ∧ ((SqL K H p ys ∧ ∀ l, H l = none → Q (.ref l) (upd H l (.tup ys))) ∨ (SqT K H p ys ∧ Q (.ref p) H))
theorem eu_tupL {xs : List V} (h : EvL te σ H xs) : EvU (tCB (rTupS K) (tCons te tNil)) σ H xs := fun H1 e Q q =>
  h H1 e _ fun p H2 _ e2 hp => ⟨p, xs, rfl, .inl ⟨sql_of hp, fun l hl => q l _ (fresh_back e2 hl) (e2.trans (Ex.new hl)) upd_same⟩⟩
theorem el_listT {p : Addr} {xs : List V} (ha : Ev ta σ H (.ref p)) (h : SqT K H p xs) : EvL (tCB (rListS K) (tCons ta tNil)) σ H xs := fun H1 e Q q =>
  ha H1 e _ fun H2 e2 => ⟨p, xs, rfl, .inr (ex_t (e.trans e2) h), fun l hl => q l _ (fresh_back e2 hl) (e2.trans (Ex.new hl)) upd_same⟩
def rAbs : List V → Hp → VK → Prop := fun xs H Q => ∃ i, xs = [.int i] ∧ Q (.int (if i < 0 then -i else i)) H
theorem ev_abs {i : Int} (ha : Ev ta σ H (.int i)) : Ev (tCB rAbs (tCons ta tNil)) σ H (.int (if i < 0 then -i else i)) := fun H1 e Q q =>
  ha H1 e _ fun H2 e2 => ⟨i, rfl, q H2 e2⟩
def rMin2 : List V → Hp → VK → Prop := fun xs H Q => ∃ i j, xs = [.int i, .int j] ∧ Q (.int (if j < i then j else i)) H
theorem ev_min2 {i j : Int} (ha : Ev ta σ H (.int i)) (hb : Ev tb σ H (.int j)) : Ev (tCB rMin2 (tCons ta (tCons tb tNil))) σ H (.int (if j < i then j else i)) := fun H1 e Q q =>
  ha H1 e _ fun H2 e2 => hb H2 (e.trans e2) _ fun H3 e3 => ⟨i, j, rfl, q H3 (e2.trans e3)⟩
def rInt1 : List V → Hp → VK → Prop := fun xs H Q => (∃ i, xs = [.int i] ∧ Q (.int i) H) ∨ ∃ k, xs = [.bl k] ∧ Q (.int (if k then 1 else 0)) H
theorem ev_int1 {i : Int} (ha : Ev ta σ H (.int i)) : Ev (tCB rInt1 (tCons ta tNil)) σ H (.int i) := fun H1 e Q q =>
  ha H1 e _ fun H2 e2 => .inl ⟨i, rfl, q H2 e2⟩
theorem ev_intB {k : Bool} (ha : Ev ta σ H (.bl k)) : Ev (tCB rInt1 (tCons ta tNil)) σ H (.int (if k then 1 else 0)) := fun H1 e Q q =>
  ha H1 e _ fun H2 e2 => .inr ⟨k, rfl, q H2 e2⟩
/-! ### is None -/
def rIsNon : R2 := fun x y H Q => y = .non ∧ Q (.bl (decide (x = .non))) H
def rIsNotNon : R2 := fun x y H Q => y = .non ∧ Q (.bl (!decide (x = .non))) H
theorem ev_isN (ha : Ev ta σ H x) : Ev (tOp rIsNon ta (tC .non)) σ H (.bl (decide (x = .non))) := fun H1 e Q q => ha H1 e _ fun H2 e2 => ⟨rfl, q H2 e2⟩
theorem ev_notN (ha : Ev ta σ H x) : Ev (tOp rIsNotNon ta (tC .non)) σ H (.bl (!decide (x = .non))) := fun H1 e Q q => ha H1 e _ fun H2 e2 => ⟨rfl, q H2 e2⟩
/-! ### comprehensions that give one thing for each item -/
def Mw (H : Hp) (ys : List V) (Dl : Addr) (i : Nat) (H' : Hp) : Prop := H Dl = none ∧ Ex H H' ∧ H' Dl = some (.lst (ys.take i))
theorem mw_turn {H H' : Hp} {ys : List V} {Dl : Addr} {i : Nat} {σ2 : L2.St} {w : V} (p : Mw H ys Dl i H') (hi : i < 50000) (hw : ys[i]? = some w) (he : Ev te σ2 H w) :
    tYes σ2 H' fun b H3 => if b = true then te σ2 H3 fun y H4 => ∃ acc, H4 Dl = some (.lst acc) ∧ acc.length < sizeLine ∧ Mw H ys Dl (i + 1) (upd H4 Dl (.lst (acc ++ [y]))) else Mw H ys Dl (i + 1) H3 := by
  obtain ⟨p1, p2, p3⟩ := p
  show te σ2 H' fun y H4 => ∃ acc, H4 Dl = some (.lst acc) ∧ acc.length < sizeLine ∧ Mw H ys Dl (i + 1) (upd H4 Dl (.lst (acc ++ [y])))
  refine he H' p2 _ fun H4 e4 => ⟨ys.take i, e4 Dl _ p3, sz_lt ?_, p1, Evl.Ex.mut (p2.trans e4) p1, ?_⟩
  · rw [List.length_take]
    omega
  · rw [upd_same, List.take_add_one, hw]
    rfl
theorem el_mapT {a : Addr} {xs ys : List V} {tl : TE} {j : Nat} {vs : List Nat} (h : Ev tl σ H (.ref a)) (hx : SqT K H a xs) (hl : ys.length = xs.length) (hz : xs.length ≤ 40000) (hw : ∀ x, wipe ((wipe σ vs).set j (some x)) vs = wipe σ vs)
    (he : ∀ (i : Nat) (x y : V) H1, Ex H H1 → xs[i]? = some x → ys[i]? = some y → Ev te ((wipe σ vs).set j (some x)) H1 y) : EvL (tLc (iTup K tl) (gName j) tYes te vs) σ H ys := fun H0 e Q q => h H0 e _ fun H1 e1 => ⟨a, rfl, ⟨xs, ex_t (e.trans e1) hx⟩, fun Dl hD =>
  lc_tup (xs := xs) (Mw H1 ys Dl) ⟨hD, Evl.Ex.new hD, by rw [upd_same]; rfl⟩ (fun i H' _ p => ex_t ((e.trans e1).trans p.2.1) hx)
    (fun i x H' hi p => by
      have hi2 : i < ys.length := by
        rw [hl]
        exact (List.getElem?_eq_some_iff.mp hi).1
      exact ⟨hw x, mw_turn p (by omega) (List.getElem?_eq_getElem hi2) (he i x _ H1 (e.trans e1) hi (List.getElem?_eq_getElem hi2))⟩)
    (fun H' p => by
      have p3 := p.2.2
      rw [← hl, List.take_length] at p3
      exact q Dl H' (fresh_back e1 p.1) (e1.trans p.2.1) p3)⟩
/-- over a tuple that is laid just then -/
theorem el_mapNT {xs ys : List V} {tl : TE} {j : Nat} {vs : List Nat} (h : EvU tl σ H xs) (hl : ys.length = xs.length) (hz : xs.length ≤ 40000) (hw : ∀ x, wipe ((wipe σ vs).set j (some x)) vs = wipe σ vs)
    (he : ∀ (i : Nat) (x y : V) H1, Ex H H1 → xs[i]? = some x → ys[i]? = some y → Ev te ((wipe σ vs).set j (some x)) H1 y) : EvL (tLc (iTup K tl) (gName j) tYes te vs) σ H ys := fun H0 e Q q => h H0 e _ fun a H1 _ e1 ha => ⟨a, rfl, ⟨xs, sqt_of ha⟩, fun Dl hD =>
  lc_tup (xs := xs) (Mw H1 ys Dl) ⟨hD, Evl.Ex.new hD, by rw [upd_same]; rfl⟩ (fun i H' _ p => sqt_of (p.2.1 a _ ha))
    (fun i x H' hi p => by
      have hi2 : i < ys.length := by
        rw [hl]
        exact (List.getElem?_eq_some_iff.mp hi).1
      exact ⟨hw x, mw_turn p (by omega) (List.getElem?_eq_getElem hi2) (he i x _ H1 (e.trans e1) hi (List.getElem?_eq_getElem hi2))⟩)
    (fun H' p => by
      have p3 := p.2.2
      rw [← hl, List.take_length] at p3
      exact q Dl H' (fresh_back e1 p.1) (e1.trans p.2.1) p3)⟩
theorem el_mapL {a : Addr} {xs ys : List V} {tl : TE} {j : Nat} {vs : List Nat} (h : Ev tl σ H (.ref a)) (hx : SqL K H a xs) (hl : ys.length = xs.length) (hz : xs.length ≤ 40000) (hw : ∀ x, wipe ((wipe σ vs).set j (some x)) vs = wipe σ vs)
    (he : ∀ (i : Nat) (x y : V) H1, Ex H H1 → xs[i]? = some x → ys[i]? = some y → Ev te ((wipe σ vs).set j (some x)) H1 y) : EvL (tLc (iList K tl) (gName j) tYes te vs) σ H ys := fun H0 e Q q => h H0 e _ fun H1 e1 => ⟨a, rfl, ⟨xs, ex_l (e.trans e1) hx⟩, fun Dl hD =>
  lc_list (xs := xs) (Mw H1 ys Dl) ⟨hD, Evl.Ex.new hD, by rw [upd_same]; rfl⟩ (fun i H' _ p => ex_l ((e.trans e1).trans p.2.1) hx)
    (fun i x H' hi p => by
      have hi2 : i < ys.length := by
        rw [hl]
        exact (List.getElem?_eq_some_iff.mp hi).1
      exact ⟨hw x, mw_turn p (by omega) (List.getElem?_eq_getElem hi2) (he i x _ H1 (e.trans e1) hi (List.getElem?_eq_getElem hi2))⟩)
    (fun H' p => by
      have p3 := p.2.2
      rw [← hl, List.take_length] at p3
      exact q Dl H' (fresh_back e1 p.1) (e1.trans p.2.1) p3)⟩
theorem el_mapR {ta : TA} {n : Int} {ys : List V} {j : Nat} {vs : List Nat} (h : EvA ta σ H [.int n]) (hn : 0 ≤ n ∧ n ≤ 40000) (hl : (ys.length : Int) = n) (hw : ∀ x, wipe ((wipe σ vs).set j (some x)) vs = wipe σ vs)
    (he : ∀ (i : Nat) (y : V) H1, Ex H H1 → ys[i]? = some y → Ev te ((wipe σ vs).set j (some (.int (i : Int)))) H1 y) : EvL (tLc (iRng1 ta) (gName j) tYes te vs) σ H ys := fun H0 e Q q => h H0 e _ fun H1 e1 => ⟨n, rfl, by omega, by omega, fun Dl hD =>
  lc_range (lo := 0) (n := n.toNat) (Mw H1 ys Dl) ⟨hD, Evl.Ex.new hD, by rw [upd_same]; rfl⟩
    (fun i H' hi p => by
      have hi2 : i < ys.length := by omega
      rw [Int.zero_add]
      exact ⟨hw _, mw_turn p (by omega) (List.getElem?_eq_getElem hi2) (he i _ H1 (e.trans e1) (List.getElem?_eq_getElem hi2))⟩)
    (fun H' p => by
      have p3 := p.2.2
      rw [show n.toNat = ys.length by omega, List.take_length] at p3
      exact q Dl H' (fresh_back e1 p.1) (e1.trans p.2.1) p3)⟩
/-! ### calls -/
/-- what is promised of a value, behind -/
def RetP (P : V → Hp → Prop) (H : Hp) (Q : VK) : Prop := ∀ v H2, Ex H H2 → P v H2 → Q v H2
def SpP (sp : Sp) (as : List V) (H : Hp) (P : V → Hp → Prop) : Prop := ∀ H1, Ex H H1 → ∀ Q : VK, RetP P H1 Q → ∀ E : XK, sp as H1 Q E
theorem evp_call {sp : Sp} {as : List V} {E : XK} {ta : TA} {P : V → Hp → Prop} (h : EvA ta σ H as) (hs : SpP sp (as ++ []) H P) : EvP (tCall sp [] E ta) σ H P := fun H1 e Q q =>
  h H1 e _ fun H2 e2 => hs H2 (e.trans e2) Q (fun v H3 e3 => q v H3 (e2.trans e3)) E
theorem evp_kw {sp : Sp} {as : List V} {E : XK} {ta : TA} {P : V → Hp → Prop} (h : EvA ta σ H as) (hs : SpP sp as H P) : EvP (fun σ H Q => ta σ H fun as H1 => sp as H1 Q E) σ H P := fun H1 e Q q =>
  h H1 e _ fun H2 e2 => hs H2 (e.trans e2) Q (fun v H3 e3 => q v H3 (e2.trans e3)) E
theorem ev_kw {sp : Sp} {as : List V} {E : XK} {ta : TA} (h : EvA ta σ H as) (hs : SpV sp as H z) : Ev (fun σ H Q => ta σ H fun as H1 => sp as H1 Q E) σ H z := fun H1 e Q q =>
  h H1 e _ fun H2 e2 => hs H2 (e.trans e2) Q (fun H3 e3 => q H3 (e2.trans e3)) E
/-! ### statements -/
variable {D : Ends} {tu tw tz : TS} {g : TG}
theorem q_asgP {i : Nat} {P : V → Hp → Prop} (h : EvP te σ H P) (k : ∀ v H1, Ex H H1 → P v H1 → tz D (σ.set i (some v)) H1) : tSeq (tAsg te (gName i)) tz D σ H := h H (Evl.Ex.refl H) _ fun v H1 e p => k v H1 e p
theorem s_retP {P : V → Hp → Prop} (h : EvP te σ H P) (k : RetP P H D.rt) : tRet te D σ H := h H (Evl.Ex.refl H) _ k
theorem q_dropP {P : V → Hp → Prop} (h : EvP te σ H P) (k : ∀ H1, Ex H H1 → tz D σ H1) : tSeq (tDrop te) tz D σ H := h H (Evl.Ex.refl H) _ fun _ H1 e _ => k H1 e
/-- a test that is known: on with the one way -/
theorem q_skip (h : EvT t σ H false) (k : ∀ H1, Ex H H1 → tz D σ H1) : tSeq (tIfS t tu tNext) tz D σ H := q_when h (fun z => nomatch z) fun _ H1 e => k H1 e
theorem q_par {i j : Nat} {ta : TA} (h : EvA ta σ H [x, y]) (k : ∀ H1, Ex H H1 → tz D ((σ.set i (some x)).set j (some y)) H1) : tSeq (tPar i j ta) tz D σ H := h H (Evl.Ex.refl H) _ fun H1 e => ⟨x, y, rfl, k H1 e⟩
end
end Gz
namespace Gz
open PySem PySem.Spec PyProof.Rows L2 Evl
section
variable {K : PySem.W.Frag} {σ : L2.St} {H H' : Hp} {ta tb tc te tx : TE} {t u : TT} {x y z v : V} {r r' : R2} {D : Ends} {tu tw tz : TS} {g : TG}
theorem s_par {i j : Nat} {ta : TA} (h : EvA ta σ H [x, y]) (k : ∀ H1, Ex H H1 → D.nx ((σ.set i (some x)).set j (some y)) H1) : tPar i j ta D σ H := h H (Evl.Ex.refl H) _ fun H1 e => ⟨x, y, rfl, k H1 e⟩
theorem rv_div {i j : Int} (h : 0 < j ∧ j < 1073741824) : RV (rI CDiv fun i j => .int (i / j)) (.int i) (.int j) H (.int (i / j)) := fun H1 _ _ q => ⟨i, j, rfl, rfl, h, q H1 (Evl.Ex.refl H1)⟩
theorem rv_mod {i j : Int} (h : 0 < j) : RV (rI (fun _ j => 0 < j) fun i j => .int (i % j)) (.int i) (.int j) H (.int (i % j)) := fun H1 _ _ q => ⟨i, j, rfl, rfl, h, q H1 (Evl.Ex.refl H1)⟩
theorem rv_mul {i j : Int} (h : -(2 ^ 64) < i ∧ i < 2 ^ 64) : RV (rI CMul fun i j => .int (i * j)) (.int i) (.int j) H (.int (i * j)) := fun H1 _ _ q => ⟨i, j, rfl, rfl, .inl h, q H1 (Evl.Ex.refl H1)⟩
theorem rv_mulR {i j : Int} (h : -(2 ^ 64) < j ∧ j < 2 ^ 64) : RV (rI CMul fun i j => .int (i * j)) (.int i) (.int j) H (.int (i * j)) := fun H1 _ _ q => ⟨i, j, rfl, rfl, .inr h, q H1 (Evl.Ex.refl H1)⟩
theorem abs_nat (i : Int) : (if i < 0 then -i else i) = (i.natAbs : Int) := by
  split <;> omega
end
end Gz
namespace Gz
open PySem PySem.Spec PyProof.Rows L2 Evl
section
variable {K : PySem.W.Frag} {σ : L2.St} {H H' : Hp} {ta tb tc te tx : TE} {t u : TT} {x y z v : V} {r r' : R2} {D : Ends} {tu tw tz : TS} {g : TG}
theorem eu_tupV {p : Addr} {xs : List V} (ha : Ev ta σ H (.ref p)) (h : SqL K H p xs) : EvU (tCB (rTupS K) (tCons ta tNil)) σ H xs := fun H1 e Q q =>
  ha H1 e _ fun H2 e2 => ⟨p, xs, rfl, .inl ⟨ex_l (e.trans e2) h, fun l hl => q l _ (fresh_back e2 hl) (e2.trans (Evl.Ex.new hl)) upd_same⟩⟩
theorem at_map {α : Type} {f : α → V} {xs : List α} {j : Nat} {a : α} (h : xs[j]? = some a) : atI (xs.map f) (j : Int) = some (f a) := atI_nat (by rw [List.getElem?_map, h]; rfl)
theorem Bool.any_id (l : List Bool) : l.any id = l.any (fun b => b) := rfl
theorem any_map_id {α : Type} (l : List α) (f : α → Bool) : (l.map f).any id = l.any f := by rw [List.any_map]; rfl
theorem all_map_id {α : Type} (l : List α) (f : α → Bool) : (l.map f).all id = l.all f := by rw [List.all_map]; rfl
end
end Gz
/-! ### rules that name the written part as it is (within a comprehension's block it would be named by the block) -/
namespace Gz
open PySem PySem.Spec PyProof.Rows L2 Evl
section
variable {X : Cx} {K : PySem.W.Frag}
theorem ix_listK (h : X.K = K) : IxR X (rIxL K) := by subst h; exact ix_list
theorem ix_tupK (h : X.K = K) : IxR X (rIxT K) := by subst h; exact ix_tup
theorem op_inK (h : X.K = K) : OpR X (compareOp .In) (rIn K false) := by subst h; exact op_in_seq
theorem op_notInK (h : X.K = K) : OpR X (compareOp .NotIn) (rIn K true) := by subst h; exact op_notIn_seq
theorem call_lenK (h : X.K = K) : CallR X (.builtin "len") (rLenS K) := by subst h; exact call_len_seq
theorem call_lenStrK : CallR X (.builtin "len") rLenStr := call_len_str
theorem call_isiK' (h : X.K = K) : CallR X (.builtin "isinstance") (rIsi K) := by subst h; exact call_isi
theorem cr_anyK (h : X.K = K) (hc : X.calm = true) : CallR X (.builtin "any") (rAny K) := by subst h; exact cr_any hc
theorem cr_allK (h : X.K = K) (hc : X.calm = true) : CallR X (.builtin "all") (rAll K) := by subst h; exact cr_all hc
theorem cr_sumK (h : X.K = K) (hc : X.calm = true) : CallR X (.builtin "sum") (rSum K) := by subst h; exact cr_sum hc
theorem call_tupleK (h : X.K = K) : CallR X (.type "tuple") (rTupS K) := by subst h; exact call_tuple_of
theorem call_listK (h : X.K = K) : CallR X (.type "list") (rListS K) := by subst h; exact call_list_of
theorem sl_listK (h : X.K = K) : SlR X (rSlL K) := by subst h; exact sl_list
theorem sl_tupK (h : X.K = K) : SlR X (rSlA K) := by subst h; exact sl_tupA
theorem op_eqDK (h : X.K = K) (hu : X.A.units + 64 < cLine) : OpR X (compareOp .Eq) (rEqD K) := by subst h; exact op_eqD hu
theorem op_neDK (h : X.K = K) (hu : X.A.units + 64 < cLine) : OpR X (compareOp .NotEq) (rNeD K) := by subst h; exact op_neD hu
theorem call_reprK (h : X.K = K) (hg : X.A.guards = some []) (hu : X.A.units + 66 < cLine) : CallR X (.builtin "repr") (rRepr K) := by subst h; exact call_repr hg hu
theorem op_repTK (h : X.K = K) : OpR X (binaryOp .Mult) (rRepT K) := by subst h; exact op_repT
theorem op_catAK (h : X.K = K) : OpR X (binaryOp .Add) (rCatA K) := by subst h; exact op_catA
theorem pi_listK {tg l : Expr} {tl : TE} (h : X.K = K) (hl : PE X l tl) : PI X tg l (iList K tl) := by subst h; exact pi_list hl
theorem pi_tupK {tg l : Expr} {tl : TE} (h : X.K = K) (hl : PE X l tl) : PI X tg l (iTup K tl) := by subst h; exact pi_tup hl
end
end Gz
namespace Gz
open PySem PySem.Spec PyProof.Rows L2 Evl RZ
section
variable {K : PySem.W.Frag} {σ : L2.St} {H H' : Hp} {ta tb tc te tx : TE} {t u : TT} {x y z v : V} {r r' : R2} {D : Ends} {tu tw tz : TS} {g : TG}
theorem pi_zipK {X : Cx} {e e2 : Expr} {ta : TA} {p pos tpos : Pos} {elts : List Expr} {kk : Nat} (h : X.K = K) (hg : Gl X "zip") (hm : X.mg "zip" = none) (ha : PA X [e, e2] ta)
    (hs : starEach [e, e2] X.env = (false, eval e X.env) :: starEach [e2] X.env := by rfl) (hpl : (backTo pos (starEach [e2] X.env)).any (·.1) = false := by rfl) :
    PI X (.Tuple elts kk tpos) (.Call (.Name "zip" p) [e, e2] [] pos) (iZipA K ta) := by subst h; exact pi_zipA hg hm ha hs hpl
theorem walk_zipT {a b : Addr} {xs ys : List V} (hl : xs.length = ys.length) : Walk (ItzT K a b) xs.length (fun H => SqT K H a xs ∧ SqT K H b ys) (YPair (fun i => xs[i]?) (fun i => ys[i]?)) :=
  ⟨fun i _ hi q => ⟨xs, ys, xs[i], ys[i], q.1, q.2, by simp [hi], by simp [show i < ys.length by omega]⟩, fun _ q => ⟨xs, ys, q.1, q.2, .inl (Nat.le_refl _)⟩,
    fun i H v H' _ q y => let ⟨T, x, z, h1, h2, h3, h4, h5⟩ := y; ⟨T, x, z, h1, h2, h3, h4 xs q.1, h5 ys q.2⟩⟩
theorem el_zipT {ta : TA} {a b : Addr} {xs zs ys : List V} {i1 i2 : Nat} {vs : List Nat} (h : EvA ta σ H [.ref a, .ref b]) (hx : SqT K H a xs) (hz : SqT K H b zs) (hl : xs.length = zs.length) (hy : ys.length = xs.length) (hm : xs.length ≤ 40000)
    (hw : ∀ x y, wipe (((wipe σ vs).set i1 (some x)).set i2 (some y)) vs = wipe σ vs)
    (he : ∀ (i : Nat) (x z y : V) H1, Ex H H1 → xs[i]? = some x → zs[i]? = some z → ys[i]? = some y → Ev te (((wipe σ vs).set i1 (some x)).set i2 (some z)) H1 y) :
    EvL (tLc (iZipA K ta) (gTup K 2 (gCons (gName i1) (gCons (gName i2) gNil))) tYes te vs) σ H ys := fun H0 e Q q => h H0 e _ fun H1 e1 =>
  ⟨a, b, xs, zs, rfl, .inr ⟨ex_t (e.trans e1) hx, ex_t (e.trans e1) hz, fun Dl hD =>
    lc_it (walk_zipT hl) (Mw H1 ys Dl) ⟨hD, Evl.Ex.new hD, by rw [upd_same]; rfl⟩ (fun i H' _ p => ⟨ex_t ((e.trans e1).trans p.2.1) hx, ex_t ((e.trans e1).trans p.2.1) hz⟩)
      (fun i v H2 H3 hi p yy => by
        obtain ⟨T, x, z, rfl, nT, rfl, g1, g2⟩ := yy
        have hi2 : i < ys.length := by omega
        refine ⟨T, [x, z], rfl, sqt_of upd_same, rfl, x, [z], rfl, z, [], rfl, rfl, hw x z, ?_⟩
        have p' : Mw H1 ys Dl i (upd H2 T (.tup [x, z])) := ⟨p.1, p.2.1.trans (Evl.Ex.new nT), by rw [upd_ne (ne_of_none p.2.2 nT)]; exact p.2.2⟩
        exact mw_turn p' (by omega) (List.getElem?_eq_getElem hi2) (he i x z _ H1 (e.trans e1) g1 g2 (List.getElem?_eq_getElem hi2)))
      (fun H' p => by
        have p3 := p.2.2
        rw [← hy, List.take_length] at p3
        exact q Dl H' (fresh_back e1 p.1) (e1.trans p.2.1) p3)⟩⟩
theorem q_parL {i j : Nat} {ys : List V} (ha : Ev ta σ H x) (hb : EvL tb σ H ys) (k : ∀ p H1, H p = none → Ex H H1 → H1 p = some (.lst ys) → tz D ((σ.set i (some x)).set j (some (.ref p))) H1) : tSeq (tPar i j (tCons ta (tCons tb tNil))) tz D σ H :=
  ha H (Evl.Ex.refl H) _ fun H1 e1 => hb H1 e1 _ fun p H2 np e2 hp => ⟨x, .ref p, rfl, k p H2 (fresh_back e1 np) (e1.trans e2) hp⟩
theorem eu_repT {xs : List V} {k : Int} (ha : EvU ta σ H xs) (hb : Ev tb σ H (.int k)) (h0 : xs ≠ []) (h1 : 2 ≤ k) (h2 : k ≤ 1000) (h3 : xs.length ≤ 1000) : EvU (tOp (rRepT K) ta tb) σ H (List.replicate k.toNat xs).flatten := fun H1 e Q q =>
  ha H1 e _ fun p H2 np e2 hp => hb H2 (e.trans e2) _ fun H3 e3 => ⟨p, k, xs, rfl, rfl, sqt_of (e3 p _ hp), h0, h1, h2, h3, fun l hl => q l _ (fresh_back (e2.trans e3) hl) ((e2.trans e3).trans (Evl.Ex.new hl)) upd_same⟩
/-- data of tuples of ints -/
theorem dp_ints {H : Hp} : ∀ (m : List Int), DpAll K H (m.map V.int) (m.map PyData.int)
  | [] => .nil
  | i :: m => .cons (.int i) (dp_ints m)
theorem dp_tup {p : Addr} {m : List Int} (h : SqT K H p (m.map V.int)) : Dp K H (.ref p) (.tuple (m.map .int)) := .tup h (dp_ints m)
theorem lay_ints : ∀ m : List Int, PyData.canLayAll0 (m.map .int) = true
  | [] => rfl
  | i :: m => by
    rw [List.map_cons, PyData.canLayAll0, lay_ints m]
    rfl
theorem dep_ints : ∀ m : List Int, PyData.depthAll (m.map .int) = 0
  | [] => rfl
  | i :: m => by
    rw [List.map_cons, PyData.depthAll, dep_ints m]
    rfl
theorem lay_tup (m : List Int) : (PyData.tuple (m.map .int)).canLay0 = true := by
  rw [PyData.canLay0]
  exact lay_ints m
theorem shaped_ints (m : List Int) : SeqAt.shaped (.tuple (m.map .int)) = true := by
  unfold SeqAt.shaped
  rw [PyData.depth, dep_ints, lay_tup]
  rfl
theorem eqv_same (d : PyData) (h : d.canLay0 = true) : PyData.eqv d d = true := SeqAt.eqv_refl d h
end
end Gz
namespace Gz
open PySem PySem.Spec PyProof.Rows L2 Evl
section
variable {K : PySem.W.Frag} {σ : L2.St} {H : Hp} {ta to : TE}
theorem rg_at {k c : Nat} (h : c < k) : ((rgV 0 (k : Int)))[c]? = some (.int (c : Int)) := by
  unfold rgV
  rw [List.getElem?_map, List.getElem?_range (by omega)]
  simp
theorem rg_flat (a b : Int) : (rgV a b).all flatV = true := by
  unfold rgV
  rw [List.all_map]
  exact List.all_eq_true.mpr fun _ _ => rfl
/-- clocks.index(clock): the place in 0, 1, .. is the number itself -/
theorem ev_indexRg {p : Addr} {k c : Nat} (ho : Ev to σ H (.ref p)) (hs : SqL K H p (rgV 0 (k : Int))) (ha : Ev ta σ H (.int (c : Int))) (hc : c < k) : Ev (tBM K "list" (rIndex K) to (tCons ta tNil)) σ H (.int (c : Int)) := fun H1 e Q q =>
  ho H1 e _ fun H2 e2 => ⟨.inl ⟨rfl, _, ex_l (e.trans e2) hs⟩, ha H2 (e.trans e2) _ fun H3 e3 =>
    ⟨p, _, .int (c : Int), c, .int (c : Int), rfl, rfl, ex_l ((e.trans e2).trans e3) hs, rfl, rg_flat _ _, rg_at hc, by simp [eqV], fun m z hm hz => by
      rw [rg_at (by omega)] at hz
      obtain rfl := Option.some.inj hz
      have : (m : Int) ≠ (c : Int) := by omega
      simp [eqV, this], q H3 (e2.trans e3)⟩⟩
end
end Gz
namespace Gz
open PySem PySem.Spec PyProof.Rows L2 Evl
section
variable {K : PySem.W.Frag} {σ : L2.St} {H : Hp} {ta tb te : TE} {t : TT} {x y z : V} {D : Ends} {tz : TS} {xs : List V}
theorem eu_if {b : Bool} (h : EvT t σ H b) (h1 : b = true → EvU ta σ H xs) (h2 : b = false → EvU tb σ H xs) : EvU (tIf t ta tb) σ H xs := fun H1 e Q q => h H1 e _ fun H2 e2 => by
  cases b with
  | true =>
    show ta σ H2 Q
    exact h1 rfl H2 (e.trans e2) Q fun p H3 hp e3 h3 => q p H3 (fresh_back e2 hp) (e2.trans e3) h3
  | false =>
    show tb σ H2 Q
    exact h2 rfl H2 (e.trans e2) Q fun p H3 hp e3 h3 => q p H3 (fresh_back e2 hp) (e2.trans e3) h3
theorem q_un2 {i j : Nat} (h : EvU te σ H [x, y]) (k : ∀ H1, Ex H H1 → tz D ((σ.set i (some x)).set j (some y)) H1) : tSeq (tAsg te (gTup K 2 (gCons (gName i) (gCons (gName j) gNil)))) tz D σ H := h H (Evl.Ex.refl H) _ fun p H1 _ e hp =>
  ⟨p, [x, y], rfl, sqt_of hp, rfl, x, [y], rfl, y, [], rfl, rfl, k H1 e⟩
end
end Gz
namespace Gz
open PySem PySem.Spec PyProof.Rows L2 Evl
section
variable {K : PySem.W.Frag} {σ : L2.St} {H : Hp} {ta tb te : TE} {t : TT} {x y z w : V} {D : Ends} {tz : TS} {xs : List V}
theorem q_un22 {i j k l : Nat} {p q : Addr} (h : EvU te σ H [.ref p, .ref q]) (h1 : SqT K H p [x, y]) (h2 : SqT K H q [z, w]) (kk : ∀ H1, Ex H H1 → tz D ((((σ.set i (some x)).set j (some y)).set k (some z)).set l (some w)) H1) :
    tSeq (tAsg te (gTup K 2 (gCons (gTup K 2 (gCons (gName i) (gCons (gName j) gNil))) (gCons (gTup K 2 (gCons (gName k) (gCons (gName l) gNil))) gNil)))) tz D σ H := h H (Evl.Ex.refl H) _ fun a H1 _ e ha =>
  ⟨a, _, rfl, sqt_of ha, rfl, _, _, rfl, ⟨p, _, rfl, ex_t e h1, rfl, _, _, rfl, _, _, rfl, rfl, _, _, rfl, ⟨q, _, rfl, ex_t e h2, rfl, _, _, rfl, _, _, rfl, rfl, rfl, kk H1 e⟩⟩⟩
end
end Gz
namespace Gz
open PySem PySem.Spec PyProof.Rows L2 Evl
section
variable {K : PySem.W.Frag} {σ : L2.St} {H H' : Hp} {ta tb te : TE} {t : TT} {x y z w : V} {D : Ends} {tz : TS} {xs : List V}
def rMax2' : List V → Hp → VK → Prop := fun xs H Q => ∃ i j, xs = [.int i, .int j] ∧ Q (.int (if j > i then j else i)) H
theorem ev_max2' {i j : Int} (ha : Ev ta σ H (.int i)) (hb : Ev tb σ H (.int j)) : Ev (tCB rMax2' (tCons ta (tCons tb tNil))) σ H (.int (if j > i then j else i)) := fun H1 e Q q =>
  ha H1 e _ fun H2 e2 => hb H2 (e.trans e2) _ fun H3 e3 => ⟨i, j, rfl, q H3 (e2.trans e3)⟩
theorem cut_head {α : Type} (f : α → V) (ns : List α) : cutV (ns.map f) none (some 1) = (ns.take 1).map f := by
  unfold cutV
  rw [HT.sIx_none, show HT.sIx (ns.map f).length (ns.map f).length (some 1) = min 1 (ns.map f).length from HT.sIx_nat _ _ 1]
  cases ns with
  | nil => rfl
  | cons a r =>
    rw [List.map_cons, List.length_cons, show min 1 ((r.map f).length + 1) = 1 by omega]
    rfl
theorem ev_sum {ns : List Int} (h : EvL te σ H (ns.map V.int)) : Ev (tCB (rSum K) (tCons te tNil)) σ H (.int ns.sum) := fun H1 e Q q =>
  h H1 e _ fun p H2 _ e2 hp => ⟨p, ns, rfl, sql_of hp, q H2 e2⟩
end
end Gz
namespace Gz
open PySem PySem.Spec PyProof.Rows L2 Evl
theorem ev_lenL {K : PySem.W.Frag} {σ : L2.St} {H : Hp} {ta : TE} {p : Addr} {xs : List V} (ha : Ev ta σ H (.ref p)) (h : SqL K H p xs) : Ev (tCB (rLenS K) (tCons ta tNil)) σ H (.int (xs.length : Int)) := ev_len ha h
end Gz

/-! A law's pot of draws: a list of three ints at p, of which little is known; what changes nothing else (But). -/
namespace Gz
open PySem PySem.Spec PyProof.Rows L2 Evl
structure Pot (H : Hp) (p : Addr) (n : Nat) : Prop where
  at' : ∃ a b c : Int, H p = some (.lst [.int a, .int b, .int c]) ∧ 0 ≤ a ∧ 0 ≤ b ∧ b < 2305843009213693952 ∧ 0 ≤ c ∧ c ≤ n
theorem Pot.ex {H H' : Hp} {p : Addr} {n : Nat} (e : Ex H H') (h : Pot H p n) : Pot H' p n := by
  obtain ⟨a, b, c, h1, h2⟩ := h.at'
  exact ⟨a, b, c, e p _ h1, h2⟩
theorem Pot.le {H : Hp} {p : Addr} {n m : Nat} (h : Pot H p n) (l : n ≤ m) : Pot H p m := by
  obtain ⟨a, b, c, h1, h2, h3, h4, h5, h6⟩ := h.at'
  exact ⟨a, b, c, h1, h2, h3, h4, h5, by omega⟩
theorem Pot.tup {K : PySem.W.Frag} {H H' : Hp} {p a : Addr} {n : Nat} {xs : List V} (h : Pot H p n) (b : But p H H') (t : SqT K H a xs) : SqT K H' a xs := by
  obtain ⟨x, y, z, h1, _⟩ := h.at'
  exact But.tup b h1 t
theorem But.lst {K : PySem.W.Frag} {H H' : Hp} {p a : Addr} {xs : List V} (b : But p H H') (ne : a ≠ p) (t : SqL K H a xs) : SqL K H' a xs := by
  rcases t with (h | ⟨o, h⟩) | h
  · exact .inl (.inl (b a _ ne h))
  · exact .inl (.inr ⟨o, b a _ ne h⟩)
  · exact .inr h
theorem But.free {H H' : Hp} {p a : Addr} (b : But p H H') (ne : a ≠ p) (n : H' a = none) : H a = none := by
  cases h : H a with
  | none => rfl
  | some o =>
    rw [b a o ne h] at n
    cases n
theorem But.new {H H' : Hp} {p a : Addr} {o : HO} (b : But p H H') (n : H' a = none) : But p H (L2.upd H' a o) := b.trans (But.of (Evl.Ex.new n))
/-- a list that was new behind H may change -/
theorem But.mut {H H' : Hp} {p a : Addr} {o : HO} (b : But p H H') (n : H a = none) : But p H (L2.upd H' a o) := fun c u ne h => by
  rw [upd_ne (ne_of_none h n)]
  exact b c u ne h
theorem bits_le {i : Int} {k : Nat} (h : i.natAbs < 2 ^ k) : Builtin.Int.intBits i ≤ k := by
  unfold Builtin.Int.intBits
  split
  · exact Nat.zero_le _
  · rename_i hz
    by_cases h0 : i.natAbs = 0
    · have : i = 0 := by omega
      subst this
      simp at hz
    · have := (Nat.log2_lt h0).mpr h
      omega
section
variable {K : PySem.W.Frag} {σ : L2.St} {H : Hp} {ta tb te : TE} {x y z : V}
theorem rv_powN {i j : Int} (h : CPowN i j) : RV (rI CPowN fun i j => .int (i ^ j.toNat)) (.int i) (.int j) H (.int (i ^ j.toNat)) := fun H1 _ _ q => ⟨i, j, rfl, rfl, h, q H1 (Evl.Ex.refl H1)⟩
theorem pot_ix {p : Addr} {a b c : Int} (h : H p = some (.lst [.int a, .int b, .int c])) (ha : Ev ta σ H (.ref p)) : Ev (tOp (rIxL K) ta (tC (.int 0))) σ H (.int a) ∧ Ev (tOp (rIxL K) ta (tC (.int 1))) σ H (.int b) ∧ Ev (tOp (rIxL K) ta (tC (.int 2))) σ H (.int c) :=
  ⟨ev_op ha ev_c (rv_ixL (sql_of h) rfl), ev_op ha ev_c (rv_ixL (sql_of h) rfl), ev_op ha ev_c (rv_ixL (sql_of h) rfl)⟩
end
/-! ### promises of the law's helpers -/
def spTake : Sp := fun as H Q _ => ∃ (p : Addr) (n : Nat) (u : Int), as = [.ref p, .int u] ∧ Pot H p n ∧ n ≤ 100000 ∧ 1 ≤ u ∧ u ≤ 100000 ∧ ∀ d H', 0 ≤ d → d < u → But p H H' → Pot H' p (n + 1) → Q (.int d) H'
def spOf (K : PySem.W.Frag) : Sp := fun as H Q _ => ∃ (p l : Addr) (n : Nat) (xs : List V), as = [.ref p, .ref l] ∧ Pot H p n ∧ n ≤ 100000 ∧ SqL K H l xs ∧ l ≠ p ∧ 1 ≤ xs.length ∧ xs.length ≤ 100000 ∧
  ∀ x H', x ∈ xs → But p H H' → Pot H' p (n + 1) → Q x H'
def spPot (K : PySem.W.Frag) : Sp := fun as H Q _ => ∃ (a : Addr) (ns : List Int) (k : Nat), as = [.ref a, .int k] ∧ SqL K H a (ns.map V.int) ∧ ns.length ≤ 63 ∧ k ≤ 10 ∧ ∀ p H', H p = none → Ex H H' → Pot H' p 0 → Q (.ref p) H'
def spCells (K : PySem.W.Frag) : Sp := fun as H Q _ => ∃ (a : Addr) (ns : List Int) (k : Nat), as = [.ref a, .int k] ∧ SqL K H a (ns.map V.int) ∧ ns.length ≤ 63 ∧ 1 ≤ k ∧ k ≤ 10 ∧ ∀ j l H', 1 ≤ j → j ≤ k → H l = none → Ex H H' → H' l = some (.lst (rgV 0 ((j : Nat) : Int))) → Q (.ref l) H'
def spCut : Sp := fun as H Q _ => ∃ (t l : Int), as = [.int t, .int l] ∧ 1 ≤ l ∧ l < 1000000000 ∧ ∀ p H', Ex H H' → H' p = some (.tup [.int (t / (Nat.gcd t.natAbs l.natAbs : Nat)), .int (l / (Nat.gcd t.natAbs l.natAbs : Nat))]) → Q (.ref p) H'
/-- ints, sorted, each once -/
def spSorted (K : PySem.W.Frag) : Sp := fun as H Q _ => ∃ (a : Addr) (ns : List Int), as = [.ref a] ∧ SqL K H a (ns.map V.int) ∧ ns.length < 64 ∧
  ∀ p (ms : List Int) H', Ex H H' → H' p = some (.tup (ms.map V.int)) → (∀ x, x ∈ ms ↔ x ∈ ns) → ms.length ≤ ns.length → Q (.ref p) H'
end Gz
namespace Gz
open PySem PySem.Spec PyProof.Rows L2 Evl
theorem evp_imp {te : TE} {σ : L2.St} {H : Hp} {v : V} {P : V → Hp → Prop} (h : Ev te σ H v) (hP : ∀ H1, Ex H H1 → P v H1) : EvP te σ H P := fun H1 e Q q => h H1 e Q fun H2 e2 => q v H2 e2 (hP H2 (e.trans e2))
theorem cpow3 {i : Int} (h0 : 0 ≤ i) (h : i < 18446744073709551616) : CPowN i 3 := ⟨by decide, by
  have := bits_le (k := 64) (i := i) (by omega)
  omega⟩
end Gz
namespace Gz
open PySem PySem.Spec PyProof.Rows L2 Evl
theorem use_ev {te : TE} {σ : L2.St} {H : Hp} {v : V} {Q : VK} (h : Ev te σ H v) (k : ∀ H2, Ex H H2 → Q v H2) : te σ H Q := h H (Evl.Ex.refl H) Q k
theorem use_evp {te : TE} {σ : L2.St} {H : Hp} {P : V → Hp → Prop} {Q : VK} (h : EvP te σ H P) (k : ∀ v H2, Ex H H2 → P v H2 → Q v H2) : te σ H Q := h H (Evl.Ex.refl H) Q k
theorem b2i_ok (k : Bool) : -(2 ^ 64) < (if k then (1 : Int) else 0) ∧ (if k then (1 : Int) else 0) < 2 ^ 64 := by cases k <;> decide
theorem b2i_nn (k : Bool) : 0 ≤ (if k then (1 : Int) else 0) := by cases k <;> decide
end Gz
namespace Gz
open PySem PySem.Spec PyProof.Rows L2 Evl
/-- every tuple stands -/
def TupLe (K : PySem.W.Frag) (H H' : Hp) : Prop := ∀ a xs, SqT K H a xs → SqT K H' a xs
theorem TupLe.refl (K : PySem.W.Frag) (H : Hp) : TupLe K H H := fun _ _ h => h
theorem TupLe.trans {K : PySem.W.Frag} {H1 H2 H3 : Hp} (a : TupLe K H1 H2) (b : TupLe K H2 H3) : TupLe K H1 H3 := fun c xs h => b c xs (a c xs h)
theorem TupLe.of {K : PySem.W.Frag} {H H' : Hp} (e : Ex H H') : TupLe K H H' := fun _ _ h => ex_t e h
theorem TupLe.but {K : PySem.W.Frag} {H H' : Hp} {p : Addr} {ys : List V} (hp : H p = some (.lst ys)) (b : But p H H') : TupLe K H H' := fun _ _ h => But.tup b hp h
theorem TupLe.pot {K : PySem.W.Frag} {H H' : Hp} {p : Addr} {n : Nat} (hp : Pot H p n) (b : But p H H') : TupLe K H H' := fun _ _ h => hp.tup b h
/-- a new list of things of which something is known -/
def EvLP (te : TE) (σ : L2.St) (H : Hp) (P : List V → Hp → Prop) : Prop := ∀ H1, Ex H H1 → ∀ Q : VK, (∀ p ys H2, H1 p = none → Ex H1 H2 → H2 p = some (.lst ys) → P ys H2 → Q (.ref p) H2) → te σ H1 Q
section
variable {K : PySem.W.Frag} {σ : L2.St} {H : Hp} {tl te : TE} {x y z w : V}
theorem elp_mapL {a : Addr} {xs : List V} {j : Nat} {vs : List Nat} {R : V → V → Hp → Prop} (hR : ∀ x y H H', TupLe K H H' → R x y H → R x y H') (h : Ev tl σ H (.ref a)) (hx : SqL K H a xs) (hz : xs.length ≤ 40000) (hw : ∀ x, wipe ((wipe σ vs).set j (some x)) vs = wipe σ vs)
    (he : ∀ (i : Nat) (x : V) H1, Ex H H1 → xs[i]? = some x → EvP te ((wipe σ vs).set j (some x)) H1 (R x)) :
    EvLP (tLc (iList K tl) (gName j) tYes te vs) σ H (fun ys H2 => ys.length = xs.length ∧ ∀ (i : Nat) x y, xs[i]? = some x → ys[i]? = some y → R x y H2) := fun H0 e Q q => h H0 e _ fun H1 e1 => ⟨a, rfl, ⟨xs, ex_l (e.trans e1) hx⟩, fun Dl hD =>
  lc_list (xs := xs) (fun i H' => Ex H1 H' ∧ ∃ acc, H' Dl = some (.lst acc) ∧ acc.length = i ∧ ∀ (t : Nat) x y, xs[t]? = some x → acc[t]? = some y → R x y H') ⟨Evl.Ex.new hD, [], upd_same, rfl, fun t x y _ hy => by simp at hy⟩ (fun i H' _ p => ex_l ((e.trans e1).trans p.1) hx)
    (fun i x H' hi p => by
      obtain ⟨p1, acc, p2, p3, p4⟩ := p
      have hi2 := (List.getElem?_eq_some_iff.mp hi).1
      refine ⟨hw x, ?_⟩
      show te _ H' fun y H4 => ∃ acc, H4 Dl = some (.lst acc) ∧ acc.length < sizeLine ∧ _
      refine he i x H1 (e.trans e1) hi H' p1 _ fun y H4 e4 hy => ⟨acc, e4 Dl _ p2, sz_lt (by omega), (p1.trans e4).mut hD, acc ++ [y], upd_same, by rw [List.length_append, p3]; rfl, fun t x' y' hx' hy' => ?_⟩
      have tl : TupLe K H4 (upd H4 Dl (.lst (acc ++ [y]))) := TupLe.but (e4 Dl _ p2) But.upd
      by_cases ht : t < acc.length
      · rw [List.getElem?_append_left ht] at hy'
        exact hR _ _ _ _ ((TupLe.of e4).trans tl) (p4 t x' y' hx' hy')
      · have hlt := (List.getElem?_eq_some_iff.mp hy').1
        rw [List.length_append] at hlt
        have : t = i := by
          have : ([y] : List V).length = 1 := rfl
          omega
        subst this
        rw [List.getElem?_append_right (by omega), p3, Nat.sub_self] at hy'
        obtain rfl := Option.some.inj hy'
        rw [hi] at hx'
        obtain rfl := Option.some.inj hx'
        exact hR _ _ _ _ tl hy)
    (fun H' p => by
      obtain ⟨p1, acc, p2, p3, p4⟩ := p
      exact q Dl acc H' (fresh_back e1 hD) (e1.trans p1) p2 ⟨p3, p4⟩)⟩
theorem rg_list' {k : Int} (h : Ev te σ H (.int k)) (h0 : 0 ≤ k) (h1 : k ≤ 100000) : EvL (tLstRg (tRg1 te)) σ H (rgV 0 k) := fun H1 e Q q =>
  h H1 e _ fun H2 e2 => ⟨k, rfl, RgOk.of_le (by omega) (by omega) (by omega) h0, fun l hl => q l _ (fresh_back e2 hl) (e2.trans (Evl.Ex.new hl)) upd_same⟩
end
/-! ### keys, each once -/
theorem merge_keys (m : List (Key × V)) : ∀ (acc : List (Key × V)) (ks : List Int), (acc.map (·.1)) = ks.map Sum.inl → ∀ (ns : List Int), m.map (·.1) = ns.map Sum.inl →
    ∃ ks' : List Int, (mergeK acc m).map (·.1) = ks'.map Sum.inl ∧ (∀ x, x ∈ ks' ↔ (x ∈ ks ∨ x ∈ ns)) ∧ ks'.length ≤ ks.length + ns.length := by
  induction m with
  | nil =>
    intro acc ks ha ns hn
    cases ns with
    | nil => exact ⟨ks, ha, fun x => by simp, by simp⟩
    | cons n ns => simp at hn
  | cons kv m ih =>
    intro acc ks ha ns hn
    cases ns with
    | nil => simp at hn
    | cons n ns =>
      rw [List.map_cons, List.map_cons] at hn
      obtain ⟨h1, h2⟩ := List.cons.inj hn
      have step : ∃ ks1 : List Int, ((putK acc kv.1 kv.2).map (·.1)) = ks1.map Sum.inl ∧ (∀ x, x ∈ ks1 ↔ (x ∈ ks ∨ x = n)) ∧ ks1.length ≤ ks.length + 1 := by
        unfold putK
        by_cases hany : (acc.any fun kv' => decide (kv'.1 = kv.1)) = true
        · rw [if_pos hany]
          refine ⟨ks, ?_, fun x => ⟨.inl, fun h => ?_⟩, by omega⟩
          · rw [List.map_map, ← ha]
            refine List.map_congr_left fun a _ => ?_
            show (if a.1 = kv.1 then (a.1, kv.2) else a).1 = a.1
            split <;> rfl
          · rcases h with h | rfl
            · exact h
            · obtain ⟨a, ha1, ha2⟩ := List.any_eq_true.mp hany
              have e : a.1 = Sum.inl x := (of_decide_eq_true ha2).trans h1
              have : (Sum.inl x : Key) ∈ acc.map (·.1) := by
                rw [← e]
                exact List.mem_map_of_mem ha1
              rw [ha] at this
              obtain ⟨z, hz, ez⟩ := List.mem_map.mp this
              rw [← Sum.inl.inj ez]
              exact hz
        · rw [if_neg hany]
          refine ⟨ks ++ [n], ?_, fun x => by simp, by simp⟩
          rw [List.map_append, List.map_append, ha]
          show _ ++ [kv.1] = _ ++ [Sum.inl n]
          rw [h1]
      obtain ⟨ks1, s1, s2, s3⟩ := step
      obtain ⟨ks', t1, t2, t3⟩ := ih (putK acc kv.1 kv.2) ks1 s1 ns h2
      refine ⟨ks', t1, fun x => ?_, by rw [List.length_cons]; omega⟩
      rw [t2, s2, List.mem_cons]
      constructor
      · rintro ((h | h) | h)
        · exact .inl h
        · exact .inr (.inl h)
        · exact .inr (.inr h)
      · rintro (h | h | h)
        · exact .inl (.inl h)
        · exact .inl (.inr h)
        · exact .inr h
/-- refs to pairs, as dict(..) wants them -/
theorem paired_refs {K : PySem.W.Frag} {H : Hp} (v : V) : ∀ (ns : List Int) (ys : List V), ys.length = ns.length → (∀ (i : Nat) n y, ns[i]? = some n → ys[i]? = some y → ∃ r, y = .ref r ∧ SqT K H r [.int n, v]) →
    ∃ ps : List Addr, ys = ps.map V.ref ∧ Paired (fun p (kv : Key × V) => SqT K H p [kV kv.1, kv.2]) ps (ns.map fun n => ((Sum.inl n : Key), v))
  | [], [], _, _ => ⟨[], rfl, .nil⟩
  | n :: ns, y :: ys, hl, h => by
    obtain ⟨r, rfl, hr⟩ := h 0 n y rfl rfl
    obtain ⟨ps, e, hp⟩ := paired_refs v ns ys (by simpa using hl) fun i n' y' a b => h (i + 1) n' y' (by simpa using a) (by simpa using b)
    exact ⟨r :: ps, by rw [e]; rfl, .cons hr hp⟩
  | [], _ :: _, hl, _ => by simp at hl
  | _ :: _, [], hl, _ => by simp at hl
end Gz

namespace Gz
open PySem PySem.Spec PyProof.Rows L2 Evl
theorem s_ret3 {σ : L2.St} {H : Hp} {te : TE} {D : Ends} {r1 r2 r3 : List V → Hp → VK → Prop} (h : te σ H fun x H1 => r3 [x] H1 fun y H2 => r2 [y] H2 fun z H3 => r1 [z] H3 D.rt) : tRet (tCB r1 (tCons (tCB r2 (tCons (tCB r3 (tCons te tNil)) tNil)) tNil)) D σ H := h
end Gz
namespace Gz
open PySem PySem.Spec PyProof.Rows L2 Evl
section
variable {K : PySem.W.Frag} {σ : L2.St} {H : Hp} {te : TE} {g : TG} {tt : TT} {vs : List Nat} {ta : TA} {D : Ends} {Q : VK}
theorem s_ret1 {r : List V → Hp → VK → Prop} (h : te σ H fun x H1 => r [x] H1 D.rt) : tRet (tCB r (tCons te tNil)) D σ H := h
theorem tCB1 {r : List V → Hp → VK → Prop} (h : te σ H fun x H1 => r [x] H1 Q) : tCB r (tCons te tNil) σ H Q := h
theorem use_ea {as : List V} {Q : List V → Hp → Prop} (h : EvA ta σ H as) (k : ∀ H2, Ex H H2 → Q as H2) : ta σ H Q := h H (Evl.Ex.refl H) Q k
def taC (as : List V) : TA := fun _ H Q => Q as H
theorem tLc_ta (h : ta σ H fun as H1 => tLc (iRng1 (taC as)) g tt te vs σ H1 Q) : tLc (iRng1 ta) g tt te vs σ H Q := h
/-- a comprehension over a range, each turn of which draws from a pot -/
theorem lc_pot {p : Addr} {n c s j : Nat} {k : Int} (hk : k = (c : Int)) (R : V → Hp → Prop) (hR : ∀ y H H', TupLe K H H' → R y H → R y H') (hp : Pot H p n) (hc : c ≤ 1000)
    (hw : ∀ x, wipe ((wipe σ vs).set j (some x)) vs = wipe σ vs)
    (he : ∀ i H2, i < c → But p H H2 → Pot H2 p (n + i * s) → ∀ Q' : VK, (∀ y H3, But p H2 H3 → Pot H3 p (n + (i + 1) * s) → R y H3 → Q' y H3) → te ((wipe σ vs).set j (some (.int (i : Int)))) H2 Q')
    (kk : ∀ a ys H3, H a = none → a ≠ p → But p H H3 → Pot H3 p (n + c * s) → H3 a = some (.lst ys) → ys.length = c → (∀ y ∈ ys, R y H3) → Q (.ref a) H3) :
    tLc (iRng1 (taC [.int k])) (gName j) tYes te vs σ H Q := ⟨k, rfl, by omega, by omega, fun Dl hD => by
  subst hk
  have ne : Dl ≠ p := by
    rintro rfl
    obtain ⟨a, b, c, h, _⟩ := hp.at'
    rw [hD] at h
    cases h
  refine lc_range (lo := 0) (n := (c : Int).toNat) (fun i H' => But p H H' ∧ Pot H' p (n + i * s) ∧ ∃ acc, H' Dl = some (.lst acc) ∧ acc.length = i ∧ ∀ y ∈ acc, R y H')
    ⟨But.of (Evl.Ex.new hD), (by simpa using hp.ex (Evl.Ex.new hD)), [], upd_same, rfl, fun _ h => absurd h List.not_mem_nil⟩ ?_ ?_
  · rintro i H' hi ⟨b1, p1, acc, a1, a2, a3⟩
    rw [Int.toNat_natCast] at hi
    refine ⟨hw _, ?_⟩
    rw [Int.zero_add]
    show te _ H' fun y H4 => ∃ acc, H4 Dl = some (.lst acc) ∧ acc.length < sizeLine ∧ _
    refine he i H' hi b1 p1 _ fun y H3 b3 p3 r3 => ⟨acc, b3 Dl _ ne a1, sz_lt (by omega), (b1.trans b3).mut hD, ?_, acc ++ [y], upd_same, by rw [List.length_append, a2]; rfl, fun z hz => ?_⟩
    · obtain ⟨x, y', z, q1, q2⟩ := p3.at'
      exact ⟨x, y', z, by rw [upd_ne (fun e => ne e.symm)]; exact q1, q2⟩
    · have t2 : TupLe K H3 (upd H3 Dl (.lst (acc ++ [y]))) := TupLe.but (b3 Dl _ ne a1) But.upd
      rcases List.mem_append.mp hz with h | h
      · exact hR _ _ _ ((TupLe.pot p1 b3).trans t2) (a3 z h)
      · rw [List.mem_singleton.mp h]
        exact hR _ _ _ t2 r3
  · rintro H' ⟨b1, p1, acc, a1, a2, a3⟩
    rw [Int.toNat_natCast] at p1 a2
    exact kk Dl acc H' hD ne b1 p1 a1 a2 a3⟩
end
end Gz
namespace Gz
open PySem PySem.Spec PyProof.Rows L2 Evl
section
variable {K : PySem.W.Frag} {σ : L2.St} {H : Hp} {te : TE} {g : TG} {tu tz : TS} {ta : TA} {D : Ends} {Q : VK}
theorem ea_C {as : List V} : EvA (taC as) σ H as := fun H1 _ Q q => q H1 (Evl.Ex.refl H1)
theorem tFor_ta (h : ta σ H fun as H1 => tSeq (tFor (iRng1 (taC as)) g tu) tz D σ H1) : tSeq (tFor (iRng1 ta) g tu) tz D σ H := h
/-- x = f(..) of a call that draws -/
theorem tSeq_asg {i : Nat} (h : te σ H fun v H1 => tz D (σ.set i (some v)) H1) : tSeq (tAsg te (gName i)) tz D σ H := h
theorem tAsg_ {i : Nat} (h : te σ H fun v H1 => D.nx (σ.set i (some v)) H1) : tAsg te (gName i) D σ H := h
theorem nats_of {k : Nat} {ms : List Int} (h : ∀ x ∈ ms, 0 ≤ x ∧ x < k) : ∃ cs : List Nat, ms.map V.int = cs.map (fun c : Nat => V.int (c : Int)) ∧ cs.length = ms.length ∧ (∀ c ∈ cs, c < k) ∧ ∀ c : Nat, c ∈ cs ↔ (c : Int) ∈ ms := by
  refine ⟨ms.map Int.toNat, ?_, by simp, fun c hc => ?_, fun c => ⟨fun hc => ?_, fun hc => List.mem_map.mpr ⟨c, hc, by simp⟩⟩⟩
  · rw [List.map_map]
    refine List.map_congr_left fun x hx => ?_
    show V.int x = V.int ((x.toNat : Nat) : Int)
    rw [Int.toNat_of_nonneg (h x hx).1]
  · obtain ⟨x, hx, rfl⟩ := List.mem_map.mp hc
    have := h x hx
    omega
  · obtain ⟨x, hx, e⟩ := List.mem_map.mp hc
    have := h x hx
    rw [show (c : Int) = x by omega]
    exact hx
end
end Gz

/-! repr of a zone or None: its text is a text, and short. -/
namespace Gz
open PySem PySem.Spec PyProof.Rows L2 Evl
def CpOk (x : Str) : Prop := ∀ c ∈ x.cps.toList, c < 1114112
theorem cp_of (s : String) : CpOk (Str.ofString s) := fun c hc => by
  rw [Str.ofString_eq_toList] at hc
  obtain ⟨ch, _, rfl⟩ := List.mem_map.mp (by simpa using hc)
  have := ch.valid
  rcases this with h | h
  · exact Nat.lt_trans h (by decide)
  · exact h.2
theorem cp_app {a b : Str} (ha : CpOk a) (hb : CpOk b) : CpOk (a ++ b) := fun c hc => by
  rw [show (a ++ b).cps = a.cps ++ b.cps from rfl, Array.toList_append] at hc
  exact (List.mem_append.mp hc).elim (ha c) (hb c)
theorem cp_join {sep : Str} (hs : CpOk sep) : ∀ {ts : List Str}, (∀ t ∈ ts, CpOk t) → CpOk (Str.join sep ts)
  | [], _ => fun c hc => by cases hc
  | [x], h => h x List.mem_cons_self
  | x :: y :: r, h => cp_app (cp_app (h x List.mem_cons_self) hs) (cp_join hs fun t ht => h t (List.mem_cons_of_mem _ ht))
theorem cp_tuple {ts : List Str} (h : ∀ t ∈ ts, CpOk t) : CpOk (tupleText ts) := cp_app (cp_app (cp_of _) (cp_join (cp_of _) h)) (cp_of _)
theorem shownAll_ints : ∀ m : List Int, ∀ t ∈ PyData.shownAll (m.map .int), CpOk t
  | [], t, h => by cases h
  | i :: m, t, h => by
    rw [List.map_cons, PyData.shownAll] at h
    rcases List.mem_cons.mp h with rfl | h
    · rw [PyData.shown]
      exact cp_of _
    · exact shownAll_ints m t h
/-- a zone's data -/
def dd : Option (List Int) → PyData
  | none => .none
  | some m => .tuple (m.map .int)
theorem cp_dd (o : Option (List Int)) : CpOk (dd o).shown := by
  cases o with
  | none => exact cp_of _
  | some m =>
    unfold dd
    rw [PyData.shown]
    exact cp_tuple (shownAll_ints m)
def Sm (o : Option (List Int)) : Prop := ∀ m, o = some m → m.length ≤ 100 ∧ ∀ x ∈ m, x.natAbs < 10 ^ 12
theorem short_ints : ∀ {m : List Int}, (∀ x ∈ m, x.natAbs < 10 ^ 12) → PyData.leavesShortAll 13 (m.map .int) = true ∧ PyData.weightAll (m.map .int) ≤ 42 * m.length ∧ PyData.showableAll (m.map .int) = true
  | [], _ => ⟨rfl, Nat.zero_le _, rfl⟩
  | i :: m, h => by
    obtain ⟨h1, h2, h3⟩ := short_ints (m := m) fun x hx => h x (List.mem_cons_of_mem _ hx)
    have hi := h i List.mem_cons_self
    have hlog : i.natAbs.log2 < 40 := by
      by_cases z : i.natAbs = 0
      · rw [z]; decide
      · exact (Nat.log2_lt z).mpr (Nat.lt_trans hi (by decide))
    rw [List.map_cons, PyData.leavesShortAll, PyData.weightAll, PyData.showableAll, h1, h3]
    refine ⟨?_, ?_, ?_⟩
    · rw [Bool.and_true, PyData.leavesShort]
      exact decide_eq_true (PyData.shown_int_le hi)
    · have : PyData.weight (.int i) ≤ 41 := by
        unfold PyData.weight
        split <;> omega
      rw [List.length_cons]
      omega
    · rw [Bool.and_true, PyData.showable]
      exact decide_eq_true (by omega)
theorem dd_fits {o : Option (List Int)} (h : Sm o) : SeqAt.shaped (dd o) = true ∧ (dd o).showable = true ∧ (dd o).shown.length ≤ sizeLine := by
  cases o with
  | none => exact ⟨by decide, rfl, by decide⟩
  | some m =>
    obtain ⟨hl, hm⟩ := h m rfl
    obtain ⟨h1, h2, h3⟩ := short_ints hm
    refine ⟨shaped_ints m, ?_, PyData.shown_fits (B := 13) (by decide) (by decide) ?_ ?_⟩
    · unfold dd
      rw [PyData.showable]
      exact h3
    · unfold dd
      rw [PyData.leavesShort]
      exact h1
    · unfold dd
      rw [PyData.weight]
      have : 2 ^ 20 = 1048576 := by decide
      omega
theorem strOk_of {x : Str} (h : CpOk x) : PyData.strOk x = true := by
  unfold PyData.strOk
  rw [Array.all_eq_true_iff_forall_mem]
  exact fun c hc => decide_eq_true (h c (by simpa using hc))
section
variable {K : PySem.W.Frag} {σ : L2.St} {H : Hp} {ta tb te : TE} {x y z v : V}
theorem dp_O {o : Option (List Int)} {v : V} (h : IsO K (o.map (·.map V.int)) v H) : Dp K H v (dd o) := by
  cases o with
  | none =>
    obtain rfl := (show v = .non from h)
    exact .non
  | some m =>
    obtain ⟨p, rfl, hp⟩ := h
    exact dp_tup hp
theorem ev_reprO {o : Option (List Int)} (ha : Ev ta σ H v) (hv : IsO K (o.map (·.map V.int)) v H) (hs : Sm o) : Ev (tCB (rRepr K) (tCons ta tNil)) σ H (.str (dd o).shown) := fun H1 e Q q =>
  ha H1 e _ fun H2 e2 => ⟨v, dd o, rfl, dp_O (IsO.mono (e.trans e2) hv), (dd_fits hs).1, (dd_fits hs).2.1, (dd_fits hs).2.2, q H2 e2⟩
theorem dp_strs : ∀ ss : List Str, DpAll K H (ss.map V.str) (ss.map .str)
  | [] => .nil
  | s :: ss => .cons (.str s) (dp_strs ss)
theorem lay_strs : ∀ {ss : List Str}, (∀ s ∈ ss, CpOk s) → PyData.canLayAll0 (ss.map .str) = true
  | [], _ => rfl
  | s :: ss, h => by
    rw [List.map_cons, PyData.canLayAll0, lay_strs fun x hx => h x (List.mem_cons_of_mem _ hx), PyData.canLay0, strOk_of (h s List.mem_cons_self)]
    rfl
theorem dep_strs : ∀ ss : List Str, PyData.depthAll (ss.map .str) = 0
  | [] => rfl
  | s :: ss => by
    rw [List.map_cons, PyData.depthAll, dep_strs ss]
    rfl
/-- two lists of the same texts, by != -/
theorem ev_neSame {ss : List Str} (ok : ∀ s ∈ ss, CpOk s) (ha : EvL ta σ H (ss.map V.str)) (hb : EvL tb σ H (ss.map V.str)) : Ev (tOp (rNeD K) ta tb) σ H (.bl false) := fun H1 e Q q =>
  ha H1 e _ fun a H2 na e2 h2 => hb H2 (e.trans e2) _ fun b H3 nb e3 h3 => by
    have lay : (PyData.list (ss.map .str)).canLay0 = true := by
      rw [PyData.canLay0]
      exact lay_strs ok
    have sh : SeqAt.shaped (.list (ss.map .str)) = true := by
      unfold SeqAt.shaped
      rw [PyData.depth, dep_strs, lay]
      rfl
    refine ⟨.list (ss.map .str), .list (ss.map .str), .lst (sql_of (e3 a _ h2)) (dp_strs ss), .lst (sql_of h3) (dp_strs ss), sh, sh, ?_⟩
    rw [eqv_same _ lay]
    exact q H3 (e2.trans e3)
theorem el_rep {xs : List V} {k : Nat} (ha : EvL ta σ H xs) (hb : Ev tb σ H (.int (k : Int))) (hk : k ≤ 1000) (hl : xs.length ≤ 100) : EvL (tOp rRep ta tb) σ H (List.replicate k xs).flatten := fun H1 e Q q =>
  ha H1 e _ fun a H2 na e2 h2 => hb H2 (e.trans e2) _ fun H3 e3 => ⟨a, k, xs, rfl, rfl, e3 a _ h2, by omega, by omega, by
    have : xs.length * k ≤ 100 * 1000 := Nat.mul_le_mul hl hk
    rw [Int.toNat_natCast]
    exact sz_of (by omega), fun p hp => q p _ (fresh_back (e2.trans e3) hp) ((e2.trans e3).trans (Evl.Ex.new hp)) upd_same⟩
end
theorem tSeq_par {ta : TA} {σ : L2.St} {H : Hp} {i j : Nat} {tz : TS} {D : Ends} (h : ta σ H fun as H1 => ∃ x y, as = [x, y] ∧ tz D ((σ.set i (some x)).set j (some y)) H1) : tSeq (tPar i j ta) tz D σ H := h
end Gz
namespace Gz
open PySem PySem.Spec PyProof.Rows L2 Evl
theorem RoomG.mono {j k : Nat} {A : Around} (r : RoomG k A) (h : j ≤ k) : RoomG j A := ⟨r.rm.mono h, r.gd⟩
theorem units66 {k : Nat} {A : Around} (r : Room k A) : A.units + 66 < cLine := by have := r.un; omega
theorem IsT.tl {K : PySem.W.Frag} {H H' : Hp} {xs : List V} {v : V} (t : TupLe K H H') (h : IsT K xs v H) : IsT K xs v H' := by
  obtain ⟨p, rfl, s⟩ := h
  exact ⟨p, rfl, t _ _ s⟩
theorem IsO.tl {K : PySem.W.Frag} {H H' : Hp} {o : Option (List V)} {v : V} (t : TupLe K H H') (h : IsO K o v H) : IsO K o v H' := by
  cases o with
  | none => exact h
  | some xs => exact IsT.tl t h
end Gz

/-! More readings for the law's own defs. -/
namespace Gz
open PySem PySem.Spec PyProof.Rows L2 Evl
section
variable {K : PySem.W.Frag} {σ : L2.St} {H : Hp} {tl te ta tb : TE} {x y z w : V} {ts : TA} {sp : Sp} {E : XK} {Q : VK} {D : Ends}
theorem tCons1 {QA : List V → Hp → Prop} (h : te σ H fun x H1 => QA [x] H1) : tCons te tNil σ H QA := h
theorem tCall1 (h : te σ H fun x H1 => sp [x] H1 Q E) : tCall sp [] E (tCons te tNil) σ H Q := h
theorem tTup1 (h : te σ H fun x H1 => 1 ≤ sizeLine ∧ ∀ p, H1 p = none → Q (.ref p) (L2.upd H1 p (.tup [x]))) : tTup (tCons te tNil) σ H Q := h
theorem elp_mapT {a : Addr} {xs : List V} {j : Nat} {vs : List Nat} {R : V → V → Hp → Prop} (hR : ∀ x y H H', TupLe K H H' → R x y H → R x y H') (h : Ev tl σ H (.ref a)) (hx : SqT K H a xs) (hz : xs.length ≤ 40000) (hw : ∀ x, wipe ((wipe σ vs).set j (some x)) vs = wipe σ vs)
    (he : ∀ (i : Nat) (x : V) H1, Ex H H1 → xs[i]? = some x → EvP te ((wipe σ vs).set j (some x)) H1 (R x)) :
    EvLP (tLc (iTup K tl) (gName j) tYes te vs) σ H (fun ys H2 => ys.length = xs.length ∧ ∀ (i : Nat) x y, xs[i]? = some x → ys[i]? = some y → R x y H2) := fun H0 e Q q => h H0 e _ fun H1 e1 => ⟨a, rfl, ⟨xs, ex_t (e.trans e1) hx⟩, fun Dl hD =>
  lc_tup (xs := xs) (fun i H' => Ex H1 H' ∧ ∃ acc, H' Dl = some (.lst acc) ∧ acc.length = i ∧ ∀ (t : Nat) x y, xs[t]? = some x → acc[t]? = some y → R x y H') ⟨Evl.Ex.new hD, [], upd_same, rfl, fun t x y _ hy => by simp at hy⟩ (fun i H' _ p => ex_t ((e.trans e1).trans p.1) hx)
    (fun i x H' hi p => by
      obtain ⟨p1, acc, p2, p3, p4⟩ := p
      have hi2 := (List.getElem?_eq_some_iff.mp hi).1
      refine ⟨hw x, ?_⟩
      show te _ H' fun y H4 => ∃ acc, H4 Dl = some (.lst acc) ∧ acc.length < sizeLine ∧ _
      refine he i x H1 (e.trans e1) hi H' p1 _ fun y H4 e4 hy => ⟨acc, e4 Dl _ p2, sz_lt (by omega), (p1.trans e4).mut hD, acc ++ [y], upd_same, by rw [List.length_append, p3]; rfl, fun t x' y' hx' hy' => ?_⟩
      have tl : TupLe K H4 (upd H4 Dl (.lst (acc ++ [y]))) := TupLe.but (e4 Dl _ p2) But.upd
      by_cases ht : t < acc.length
      · rw [List.getElem?_append_left ht] at hy'
        exact hR _ _ _ _ ((TupLe.of e4).trans tl) (p4 t x' y' hx' hy')
      · have hlt := (List.getElem?_eq_some_iff.mp hy').1
        rw [List.length_append] at hlt
        have : t = i := by
          have : ([y] : List V).length = 1 := rfl
          omega
        subst this
        rw [List.getElem?_append_right (by omega), p3, Nat.sub_self] at hy'
        obtain rfl := Option.some.inj hy'
        rw [hi] at hx'
        obtain rfl := Option.some.inj hx'
        exact hR _ _ _ _ tl hy)
    (fun H' p => by
      obtain ⟨p1, acc, p2, p3, p4⟩ := p
      exact q Dl acc H' (fresh_back e1 hD) (e1.trans p1) p2 ⟨p3, p4⟩)⟩
/-- ints -/
def IsI (k : Nat) : V → Hp → Prop := fun v _ => ∃ d : Int, v = .int d ∧ 0 ≤ d ∧ d < k
theorem pick_ints {k : Nat} {H : Hp} : ∀ {ys : List V}, (∀ y ∈ ys, IsI k y H) → ∃ ns : List Int, ys = ns.map V.int ∧ ∀ x ∈ ns, 0 ≤ x ∧ x < k
  | [], _ => ⟨[], rfl, fun _ h => absurd h List.not_mem_nil⟩
  | y :: ys, h => by
    obtain ⟨d, rfl, h1⟩ := h y List.mem_cons_self
    obtain ⟨ns, rfl, h2⟩ := pick_ints (ys := ys) fun z hz => h z (List.mem_cons_of_mem _ hz)
    exact ⟨d :: ns, rfl, fun x hx => (List.mem_cons.mp hx).elim (fun e => e ▸ h1) (h2 x)⟩
/-- two tuples, one behind the other -/
theorem cat_use {a b : Addr} {xs ys : List V} (ha : SqT K H a xs) (hb : SqT K H b ys) (hl : xs.length + ys.length ≤ 100000) (q : ∀ c H1, Ex H H1 → SqT K H1 c (xs ++ ys) → Q (.ref c) H1) : rCatA K (.ref a) (.ref b) H Q := by
  refine ⟨a, b, xs, ys, rfl, rfl, ha, hb, sz_of hl, fun e => q b H (Evl.Ex.refl _) ?_, fun _ e => q a H (Evl.Ex.refl _) ?_, fun _ _ p np => q p _ (Evl.Ex.new np) (sqt_of upd_same)⟩
  · rw [e]
    exact hb
  · rw [e, List.append_nil]
    exact ha
/-- a comprehension over a list of pairs -/
theorem el_mapL2 {a : Addr} {xs ys : List V} {i1 i2 : Nat} {vs : List Nat} (h : Ev tl σ H (.ref a)) (hx : SqL K H a xs) (hy : ys.length = xs.length) (hm : xs.length ≤ 40000)
    (hw : ∀ x y, wipe (((wipe σ vs).set i1 (some x)).set i2 (some y)) vs = wipe σ vs)
    (he : ∀ (i : Nat) (x y : V) H1, Ex H H1 → xs[i]? = some x → ys[i]? = some y → ∃ r u v, x = .ref r ∧ SqT K H1 r [u, v] ∧ Ev te (((wipe σ vs).set i1 (some u)).set i2 (some v)) H1 y) :
    EvL (tLc (iList K tl) (gTup K 2 (gCons (gName i1) (gCons (gName i2) gNil))) tYes te vs) σ H ys := fun H0 e Q q => h H0 e _ fun H1 e1 => ⟨a, rfl, ⟨xs, ex_l (e.trans e1) hx⟩, fun Dl hD =>
  lc_list (xs := xs) (Mw H1 ys Dl) ⟨hD, Evl.Ex.new hD, by rw [upd_same]; rfl⟩ (fun i H' _ p => ex_l ((e.trans e1).trans p.2.1) hx)
    (fun i x H' hi p => by
      have hi2 : i < ys.length := by
        rw [hy]
        exact (List.getElem?_eq_some_iff.mp hi).1
      obtain ⟨r, u, v, rfl, hr, hev⟩ := he i x _ H1 (e.trans e1) hi (List.getElem?_eq_getElem hi2)
      exact ⟨r, [u, v], rfl, ex_t p.2.1 hr, rfl, u, [v], rfl, v, [], rfl, rfl, hw u v, mw_turn p (by omega) (List.getElem?_eq_getElem hi2) hev⟩)
    (fun H' p => by
      have p3 := p.2.2
      rw [← hy, List.take_length] at p3
      exact q Dl H' (fresh_back e1 p.1) (e1.trans p.2.1) p3)⟩
end
end Gz
namespace Gz
open PySem PySem.Spec PyProof.Rows L2 Evl
section
variable {K : PySem.W.Frag} {σ : L2.St} {H : Hp} {tl te ta tb : TE} {t u : TT} {x y z w : V} {tu tz : TS} {D : Ends} {Q : VK}
theorem use_et {b : Bool} {QT : Bool → Hp → Prop} (h : EvT t σ H b) (k : ∀ H2, Ex H H2 → QT b H2) : t σ H QT := h H (Evl.Ex.refl H) QT k
theorem tSeq_if (h : t σ H fun b H1 => if b = true then tu { D with nx := tz D } σ H1 else tz D σ H1) : tSeq (tIfS t tu tNext) tz D σ H := h
theorem tOr_f {QT : Bool → Hp → Prop} (h : EvT t σ H false) (k : ∀ H1, Ex H H1 → u σ H1 QT) : tOr t u σ H QT := h H (Evl.Ex.refl H) _ fun H1 e => iteF (k H1 e)
theorem rv_notBl {a b : Bool} : RV rNotB (.bl a) (.bl b) H (.bl (!decide (a = b))) := fun H1 _ _ q => ⟨a, b, rfl, rfl, q H1 (Evl.Ex.refl H1)⟩
theorem cut_take1 (xs : List V) : cutV xs none (some 1) = xs.take 1 := by
  have := cut_head (fun v : V => v) xs
  rw [List.map_id', List.map_id'] at this
  exact this
theorem evp_sl1 {a : Addr} {xs : List V} (h : Ev ta σ H (.ref a)) (hs : SqT K H a xs) : EvP (tSl (rSlA K) ta tNoPart (tPart (tC (.int 1)))) σ H (IsT K (xs.take 1)) := fun H1 e Q q =>
  h H1 e _ fun H2 e2 => ⟨1, rfl, a, xs, rfl, ex_t (e.trans e2) hs, fun hc => by
    refine q _ H2 e2 ⟨a, rfl, ?_⟩
    have : xs.length ≤ 1 := by
      have h2 := hc.2
      rw [show HT.sIx xs.length xs.length (some 1) = min 1 xs.length from HT.sIx_nat _ _ 1] at h2
      omega
    rw [List.take_of_length_le this]
    exact ex_t (e.trans e2) hs, fun _ p np => q _ _ (e2.trans (Evl.Ex.new np)) ⟨p, rfl, sqt_of (by rw [upd_same, cut_take1])⟩⟩
end
end Gz

/-! The text by places, and what the walk asks of what the top has left. -/
namespace K33
open PySem PySem.Spec PyProof.Rows L2 Gz
def topS (i : Nat) : Stmt := PySem.Challenge.pw_holdsfailsopen_k33_whole_zones_as_an_alg.main.body.getD i (.Pass ⟨0, 0, 0, 0⟩)
abbrev s__law_cells : Stmt := topS 47
abbrev N__law_cells : List Str := ["script", "most"]
theorem sc__law_cells : FnScope N__law_cells ["script", "most"] (defScope s__law_cells) := ⟨rfl, rfl, rfl, by decide +kernel, rfl, by decide +kernel, by decide +kernel⟩
abbrev s__law_pot : Stmt := topS 43
abbrev N__law_pot : List Str := ["script", "place", "cell", "own", "small"]
theorem sc__law_pot : FnScope N__law_pot ["script", "place"] (defScope s__law_pot) := ⟨rfl, rfl, rfl, by decide +kernel, rfl, by decide +kernel, by decide +kernel⟩
abbrev s__law_cut : Stmt := topS 49
abbrev N__law_cut : List Str := ["top", "low", "one", "other"]
theorem sc__law_cut : FnScope N__law_cut ["top", "low"] (defScope s__law_cut) := ⟨rfl, rfl, rfl, by decide +kernel, rfl, by decide +kernel, by decide +kernel⟩
abbrev s__law_does_keep : Stmt := topS 56
abbrev N__law_does_keep : List Str := ["values", "guard", "place", "compare", "number", "top", "far"]
theorem sc__law_does_keep : FnScope N__law_does_keep ["values", "guard"] (defScope s__law_does_keep) := ⟨rfl, rfl, rfl, by decide +kernel, rfl, by decide +kernel, by decide +kernel⟩
abbrev s__law_take : Stmt := topS 44
abbrev N__law_take : List Str := ["pot", "upto", "digit", "prime", "blend"]
theorem sc__law_take : FnScope N__law_take ["pot", "upto"] (defScope s__law_take) := ⟨rfl, rfl, rfl, by decide +kernel, rfl, by decide +kernel, by decide +kernel⟩
abbrev s__law_of : Stmt := topS 45
abbrev N__law_of : List Str := ["pot", "some"]
theorem sc__law_of : FnScope N__law_of ["pot", "some"] (defScope s__law_of) := ⟨rfl, rfl, rfl, by decide +kernel, rfl, by decide +kernel, by decide +kernel⟩
abbrev s__law_guard : Stmt := topS 50
abbrev N__law_guard : List Str := ["pot", "many", "most", "signs", "lap"]
theorem sc__law_guard : FnScope N__law_guard ["pot", "many", "most"] (defScope s__law_guard) := ⟨rfl, rfl, rfl, by decide +kernel, rfl, by decide +kernel, by decide +kernel⟩
abbrev s_is_integer : Stmt := topS 8
abbrev N_is_integer : List Str := ["value"]
theorem sc_is_integer : FnScope N_is_integer ["value"] (defScope s_is_integer) := ⟨rfl, rfl, rfl, by decide +kernel, rfl, by decide +kernel, by decide +kernel⟩
abbrev s_is_between : Stmt := topS 9
abbrev N_is_between : List Str := ["value", "low", "high"]
theorem sc_is_between : FnScope N_is_between ["value", "low", "high"] (defScope s_is_between) := ⟨rfl, rfl, rfl, by decide +kernel, rfl, by decide +kernel, by decide +kernel⟩
abbrev s_sum_of_bounds : Stmt := topS 23
abbrev N_sum_of_bounds : List Str := ["one", "other"]
theorem sc_sum_of_bounds : FnScope N_sum_of_bounds ["one", "other"] (defScope s_sum_of_bounds) := ⟨rfl, rfl, rfl, by decide +kernel, rfl, by decide +kernel, by decide +kernel⟩
abbrev s_tight : Stmt := topS 25
abbrev N_tight : List Str := ["bounds", "size", "middle", "row", "column", "by"]
theorem sc_tight : FnScope N_tight ["bounds", "size"] (defScope s_tight) := ⟨rfl, rfl, rfl, by decide +kernel, rfl, by decide +kernel, by decide +kernel⟩
abbrev s_is_zone_of : Stmt := topS 31
abbrev N_is_zone_of : List Str := ["many", "value", "size", "bound", "column", "at"]
theorem sc_is_zone_of : FnScope N_is_zone_of ["many", "value"] (defScope s_is_zone_of) := ⟨rfl, rfl, rfl, by decide +kernel, rfl, by decide +kernel, by decide +kernel⟩
abbrev s_is_zone : Stmt := topS 32
abbrev N_is_zone : List Str := ["value", "many"]
theorem sc_is_zone : FnScope N_is_zone ["value"] (defScope s_is_zone) := ⟨rfl, rfl, rfl, by decide +kernel, rfl, by decide +kernel, by decide +kernel⟩
abbrev s_check_zone : Stmt := topS 33
abbrev N_check_zone : List Str := ["zone"]
theorem sc_check_zone : FnScope N_check_zone ["zone"] (defScope s_check_zone) := ⟨rfl, rfl, rfl, by decide +kernel, rfl, by decide +kernel, by decide +kernel⟩
abbrev s_lies_within : Stmt := topS 30
abbrev N_lies_within : List Str := ["one", "other", "mine", "its"]
theorem sc_lies_within : FnScope N_lies_within ["one", "other"] (defScope s_lies_within) := ⟨rfl, rfl, rfl, by decide +kernel, rfl, by decide +kernel, by decide +kernel⟩
abbrev s_is_zone_within : Stmt := topS 40
abbrev N_is_zone_within : List Str := ["one", "other"]
theorem sc_is_zone_within : FnScope N_is_zone_within ["one", "other"] (defScope s_is_zone_within) := ⟨rfl, rfl, rfl, by decide +kernel, rfl, by decide +kernel, by decide +kernel⟩
abbrev s__law_is_within : Stmt := topS 55
abbrev N__law_is_within : List Str := ["one", "other"]
theorem sc__law_is_within : FnScope N__law_is_within ["one", "other"] (defScope s__law_is_within) := ⟨rfl, rfl, rfl, by decide +kernel, rfl, by decide +kernel, by decide +kernel⟩
abbrev s_are_bounds : Stmt := topS 37
abbrev N_are_bounds : List Str := ["many", "value", "row"]
theorem sc_are_bounds : FnScope N_are_bounds ["many", "value"] (defScope s_are_bounds) := ⟨rfl, rfl, rfl, by decide +kernel, rfl, by decide +kernel, by decide +kernel⟩
abbrev s_bound_of : Stmt := topS 22
abbrev N_bound_of : List Str := ["number", "is_reached"]
theorem sc_bound_of : FnScope N_bound_of ["number", "is_reached"] (defScope s_bound_of) := ⟨rfl, rfl, rfl, by decide +kernel, rfl, by decide +kernel, by decide +kernel⟩
abbrev s_side_of : Stmt := topS 24
abbrev N_side_of : List Str := ["zone", "found"]
theorem sc_side_of : FnScope N_side_of ["zone"] (defScope s_side_of) := ⟨rfl, rfl, rfl, by decide +kernel, rfl, by decide +kernel, by decide +kernel⟩
abbrev s_guarded : Stmt := topS 28
abbrev N_guarded : List Str := ["zone", "clocks", "guard", "size", "found", "clock", "compare", "number", "at", "is_reached", "place", "bound"]
theorem sc_guarded : FnScope N_guarded ["zone", "clocks", "guard"] (defScope s_guarded) := ⟨rfl, rfl, rfl, by decide +kernel, rfl, by decide +kernel, by decide +kernel⟩
abbrev s_zone_with : Stmt := topS 38
abbrev N_zone_with : List Str := ["zone", "guard", "many", "found", "bound"]
theorem sc_zone_with : FnScope N_zone_with ["zone", "guard"] (defScope s_zone_with) := ⟨rfl, rfl, rfl, by decide +kernel, rfl, by decide +kernel, by decide +kernel⟩
abbrev s__law_with : Stmt := topS 51
abbrev N__law_with : List Str := ["zone", "guard"]
theorem sc__law_with : FnScope N__law_with ["zone", "guard"] (defScope s__law_with) := ⟨rfl, rfl, rfl, by decide +kernel, rfl, by decide +kernel, by decide +kernel⟩
abbrev s_has_values : Stmt := topS 34
abbrev N_has_values : List Str := ["zone", "values", "size", "every", "row", "column", "bound", "top", "low", "less", "under", "by", "most"]
theorem sc_has_values : FnScope N_has_values ["zone", "values"] (defScope s_has_values) := ⟨rfl, rfl, rfl, by decide +kernel, rfl, by decide +kernel, by decide +kernel⟩
abbrev s_common : Stmt := topS 10
abbrev N_common : List Str := ["one", "other"]
theorem sc_common : FnScope N_common ["one", "other"] (defScope s_common) := ⟨rfl, rfl, rfl, by decide +kernel, rfl, by decide +kernel, by decide +kernel⟩
abbrev s_is_fraction : Stmt := topS 11
abbrev N_is_fraction : List Str := ["value"]
theorem sc_is_fraction : FnScope N_is_fraction ["value"] (defScope s_is_fraction) := ⟨rfl, rfl, rfl, by decide +kernel, rfl, by decide +kernel, by decide +kernel⟩
abbrev s_is_in_zone : Stmt := topS 41
abbrev N_is_in_zone : List Str := ["zone", "values", "one"]
theorem sc_is_in_zone : FnScope N_is_in_zone ["zone", "values"] (defScope s_is_in_zone) := ⟨rfl, rfl, rfl, by decide +kernel, rfl, by decide +kernel, by decide +kernel⟩
abbrev s__law_are_guards_right : Stmt := topS 57
abbrev N__law_are_guards_right : List Str := ["pot", "zone", "many", "one", "other", "both", "some", "lap", "values", "due", "less", "its", "clock"]
theorem sc__law_are_guards_right : FnScope N__law_are_guards_right ["pot", "zone", "many"] (defScope s__law_are_guards_right) := ⟨rfl, rfl, rfl, by decide +kernel, rfl, by decide +kernel, by decide +kernel⟩
abbrev s_set_back : Stmt := topS 29
abbrev N_set_back : List Str := ["zone", "clocks", "resets", "size", "found", "clock", "at", "other"]
theorem sc_set_back : FnScope N_set_back ["zone", "clocks", "resets"] (defScope s_set_back) := ⟨rfl, rfl, rfl, by decide +kernel, rfl, by decide +kernel, by decide +kernel⟩
abbrev s_zone_set : Stmt := topS 39
abbrev N_zone_set : List Str := ["zone", "places", "many", "place"]
theorem sc_zone_set : FnScope N_zone_set ["zone", "places"] (defScope s_zone_set) := ⟨rfl, rfl, rfl, by decide +kernel, rfl, by decide +kernel, by decide +kernel⟩
abbrev s__law_set : Stmt := topS 53
abbrev N__law_set : List Str := ["zone", "places"]
theorem sc__law_set : FnScope N__law_set ["zone", "places"] (defScope s__law_set) := ⟨rfl, rfl, rfl, by decide +kernel, rfl, by decide +kernel, by decide +kernel⟩
abbrev s__law_sorted : Stmt := topS 48
abbrev N__law_sorted : List Str := ["some", "one"]
theorem sc__law_sorted : FnScope N__law_sorted ["some"] (defScope s__law_sorted) := ⟨rfl, rfl, rfl, by decide +kernel, rfl, by decide +kernel, by decide +kernel⟩
abbrev s__law_are_sets_right : Stmt := topS 58
abbrev N__law_are_sets_right : List Str := ["pot", "zone", "many", "one", "other", "both", "some", "turn", "lap", "its", "place"]
theorem sc__law_are_sets_right : FnScope N__law_are_sets_right ["pot", "zone", "many"] (defScope s__law_are_sets_right) := ⟨rfl, rfl, rfl, by decide +kernel, rfl, by decide +kernel, by decide +kernel⟩
abbrev s_passed : Stmt := topS 27
abbrev N_passed : List Str := ["zone", "size", "found", "row"]
theorem sc_passed : FnScope N_passed ["zone"] (defScope s_passed) := ⟨rfl, rfl, rfl, by decide +kernel, rfl, by decide +kernel, by decide +kernel⟩
abbrev s_later_zone : Stmt := topS 36
abbrev N_later_zone : List Str := ["zone"]
theorem sc_later_zone : FnScope N_later_zone ["zone"] (defScope s_later_zone) := ⟨rfl, rfl, rfl, by decide +kernel, rfl, by decide +kernel, by decide +kernel⟩
abbrev s__law_later : Stmt := topS 52
abbrev N__law_later : List Str := ["zone"]
theorem sc__law_later : FnScope N__law_later ["zone"] (defScope s__law_later) := ⟨rfl, rfl, rfl, by decide +kernel, rfl, by decide +kernel, by decide +kernel⟩
abbrev s_begin_zone : Stmt := topS 26
abbrev N_begin_zone : List Str := ["many"]
theorem sc_begin_zone : FnScope N_begin_zone ["many"] (defScope s_begin_zone) := ⟨rfl, rfl, rfl, by decide +kernel, rfl, by decide +kernel, by decide +kernel⟩
abbrev s_first_zone : Stmt := topS 35
abbrev N_first_zone : List Str := ["many"]
theorem sc_first_zone : FnScope N_first_zone ["many"] (defScope s_first_zone) := ⟨rfl, rfl, rfl, by decide +kernel, rfl, by decide +kernel, by decide +kernel⟩
abbrev s__law_zone : Stmt := topS 54
abbrev N__law_zone : List Str := ["pot", "many", "zone", "lap", "way", "less"]
theorem sc__law_zone : FnScope N__law_zone ["pot", "many"] (defScope s__law_zone) := ⟨rfl, rfl, rfl, by decide +kernel, rfl, by decide +kernel, by decide +kernel⟩
abbrev s__law_right : Stmt := topS 59
abbrev N__law_right : List Str := ["pot", "many", "zone", "guard", "less", "later", "places", "pairs", "above", "mine", "its", "place", "compare", "number"]
theorem sc__law_right : FnScope N__law_right ["pot"] (defScope s__law_right) := ⟨rfl, rfl, rfl, by decide +kernel, rfl, by decide +kernel, by decide +kernel⟩
abbrev s_law : Stmt := topS 60
abbrev N_law : List Str := ["script", "place", "pot", "lap"]
theorem sc_law : FnScope N_law ["script"] (defScope s_law) := ⟨rfl, rfl, rfl, by decide +kernel, rfl, by decide +kernel, by decide +kernel⟩

structure Top (K : PySem.W.Frag) (mg : Str → Option Value) : Type where
  f__law_cells : Addr
  d__law_cells : FuncData
  F__law_cells : Fun K "_law_cells" "_law_cells" s__law_cells f__law_cells d__law_cells
  b__law_cells : Binds K d__law_cells ["script", "most"] []
  g__law_cells : mg "_law_cells" = some (.ref f__law_cells)
  f__law_pot : Addr
  d__law_pot : FuncData
  F__law_pot : Fun K "_law_pot" "_law_pot" s__law_pot f__law_pot d__law_pot
  b__law_pot : Binds K d__law_pot ["script", "place"] []
  g__law_pot : mg "_law_pot" = some (.ref f__law_pot)
  f__law_cut : Addr
  d__law_cut : FuncData
  F__law_cut : Fun K "_law_cut" "_law_cut" s__law_cut f__law_cut d__law_cut
  b__law_cut : Binds K d__law_cut ["top", "low"] []
  g__law_cut : mg "_law_cut" = some (.ref f__law_cut)
  f__law_does_keep : Addr
  d__law_does_keep : FuncData
  F__law_does_keep : Fun K "_law_does_keep" "_law_does_keep" s__law_does_keep f__law_does_keep d__law_does_keep
  b__law_does_keep : Binds K d__law_does_keep ["values", "guard"] []
  g__law_does_keep : mg "_law_does_keep" = some (.ref f__law_does_keep)
  f__law_take : Addr
  d__law_take : FuncData
  F__law_take : Fun K "_law_take" "_law_take" s__law_take f__law_take d__law_take
  b__law_take : Binds K d__law_take ["pot", "upto"] []
  g__law_take : mg "_law_take" = some (.ref f__law_take)
  f__law_of : Addr
  d__law_of : FuncData
  F__law_of : Fun K "_law_of" "_law_of" s__law_of f__law_of d__law_of
  b__law_of : Binds K d__law_of ["pot", "some"] []
  g__law_of : mg "_law_of" = some (.ref f__law_of)
  f__law_guard : Addr
  d__law_guard : FuncData
  F__law_guard : Fun K "_law_guard" "_law_guard" s__law_guard f__law_guard d__law_guard
  b__law_guard : Binds K d__law_guard ["pot", "many", "most"] []
  g__law_guard : mg "_law_guard" = some (.ref f__law_guard)
  f_is_integer : Addr
  d_is_integer : FuncData
  F_is_integer : Fun K "is_integer" "is_integer" s_is_integer f_is_integer d_is_integer
  b_is_integer : Binds K d_is_integer ["value"] []
  g_is_integer : mg "is_integer" = some (.ref f_is_integer)
  f_is_between : Addr
  d_is_between : FuncData
  F_is_between : Fun K "is_between" "is_between" s_is_between f_is_between d_is_between
  b_is_between : Binds K d_is_between ["value", "low", "high"] []
  g_is_between : mg "is_between" = some (.ref f_is_between)
  f_sum_of_bounds : Addr
  d_sum_of_bounds : FuncData
  F_sum_of_bounds : Fun K "sum_of_bounds" "sum_of_bounds" s_sum_of_bounds f_sum_of_bounds d_sum_of_bounds
  b_sum_of_bounds : Binds K d_sum_of_bounds ["one", "other"] []
  g_sum_of_bounds : mg "sum_of_bounds" = some (.ref f_sum_of_bounds)
  f_tight : Addr
  d_tight : FuncData
  F_tight : Fun K "tight" "tight" s_tight f_tight d_tight
  b_tight : Binds K d_tight ["bounds", "size"] []
  g_tight : mg "tight" = some (.ref f_tight)
  f_is_zone_of : Addr
  d_is_zone_of : FuncData
  F_is_zone_of : Fun K "is_zone_of" "is_zone_of" s_is_zone_of f_is_zone_of d_is_zone_of
  b_is_zone_of : Binds K d_is_zone_of ["many", "value"] []
  g_is_zone_of : mg "is_zone_of" = some (.ref f_is_zone_of)
  f_is_zone : Addr
  d_is_zone : FuncData
  F_is_zone : Fun K "is_zone" "is_zone" s_is_zone f_is_zone d_is_zone
  b_is_zone : Binds K d_is_zone ["value"] []
  g_is_zone : mg "is_zone" = some (.ref f_is_zone)
  w_is_zone : KwB d_is_zone ["value"]
  f_check_zone : Addr
  d_check_zone : FuncData
  F_check_zone : Fun K "check_zone" "check_zone" s_check_zone f_check_zone d_check_zone
  b_check_zone : Binds K d_check_zone ["zone"] []
  g_check_zone : mg "check_zone" = some (.ref f_check_zone)
  f_lies_within : Addr
  d_lies_within : FuncData
  F_lies_within : Fun K "lies_within" "lies_within" s_lies_within f_lies_within d_lies_within
  b_lies_within : Binds K d_lies_within ["one", "other"] []
  g_lies_within : mg "lies_within" = some (.ref f_lies_within)
  f_is_zone_within : Addr
  d_is_zone_within : FuncData
  F_is_zone_within : Fun K "is_zone_within" "is_zone_within" s_is_zone_within f_is_zone_within d_is_zone_within
  b_is_zone_within : Binds K d_is_zone_within ["one", "other"] []
  g_is_zone_within : mg "is_zone_within" = some (.ref f_is_zone_within)
  w_is_zone_within : KwB d_is_zone_within ["one", "other"]
  f__law_is_within : Addr
  d__law_is_within : FuncData
  F__law_is_within : Fun K "_law_is_within" "_law_is_within" s__law_is_within f__law_is_within d__law_is_within
  b__law_is_within : Binds K d__law_is_within ["one", "other"] []
  g__law_is_within : mg "_law_is_within" = some (.ref f__law_is_within)
  f_are_bounds : Addr
  d_are_bounds : FuncData
  F_are_bounds : Fun K "are_bounds" "are_bounds" s_are_bounds f_are_bounds d_are_bounds
  b_are_bounds : Binds K d_are_bounds ["many", "value"] []
  g_are_bounds : mg "are_bounds" = some (.ref f_are_bounds)
  f_bound_of : Addr
  d_bound_of : FuncData
  F_bound_of : Fun K "bound_of" "bound_of" s_bound_of f_bound_of d_bound_of
  b_bound_of : Binds K d_bound_of ["number", "is_reached"] []
  g_bound_of : mg "bound_of" = some (.ref f_bound_of)
  f_side_of : Addr
  d_side_of : FuncData
  F_side_of : Fun K "side_of" "side_of" s_side_of f_side_of d_side_of
  b_side_of : Binds K d_side_of ["zone"] []
  g_side_of : mg "side_of" = some (.ref f_side_of)
  f_guarded : Addr
  d_guarded : FuncData
  F_guarded : Fun K "guarded" "guarded" s_guarded f_guarded d_guarded
  b_guarded : Binds K d_guarded ["zone", "clocks", "guard"] []
  g_guarded : mg "guarded" = some (.ref f_guarded)
  f_zone_with : Addr
  d_zone_with : FuncData
  F_zone_with : Fun K "zone_with" "zone_with" s_zone_with f_zone_with d_zone_with
  b_zone_with : Binds K d_zone_with ["zone", "guard"] []
  g_zone_with : mg "zone_with" = some (.ref f_zone_with)
  w_zone_with : KwB d_zone_with ["zone", "guard"]
  f__law_with : Addr
  d__law_with : FuncData
  F__law_with : Fun K "_law_with" "_law_with" s__law_with f__law_with d__law_with
  b__law_with : Binds K d__law_with ["zone", "guard"] []
  g__law_with : mg "_law_with" = some (.ref f__law_with)
  f_has_values : Addr
  d_has_values : FuncData
  F_has_values : Fun K "has_values" "has_values" s_has_values f_has_values d_has_values
  b_has_values : Binds K d_has_values ["zone", "values"] []
  g_has_values : mg "has_values" = some (.ref f_has_values)
  f_common : Addr
  d_common : FuncData
  F_common : Fun K "common" "common" s_common f_common d_common
  b_common : Binds K d_common ["one", "other"] []
  g_common : mg "common" = some (.ref f_common)
  f_is_fraction : Addr
  d_is_fraction : FuncData
  F_is_fraction : Fun K "is_fraction" "is_fraction" s_is_fraction f_is_fraction d_is_fraction
  b_is_fraction : Binds K d_is_fraction ["value"] []
  g_is_fraction : mg "is_fraction" = some (.ref f_is_fraction)
  f_is_in_zone : Addr
  d_is_in_zone : FuncData
  F_is_in_zone : Fun K "is_in_zone" "is_in_zone" s_is_in_zone f_is_in_zone d_is_in_zone
  b_is_in_zone : Binds K d_is_in_zone ["zone", "values"] []
  g_is_in_zone : mg "is_in_zone" = some (.ref f_is_in_zone)
  w_is_in_zone : KwB d_is_in_zone ["zone", "values"]
  f__law_are_guards_right : Addr
  d__law_are_guards_right : FuncData
  F__law_are_guards_right : Fun K "_law_are_guards_right" "_law_are_guards_right" s__law_are_guards_right f__law_are_guards_right d__law_are_guards_right
  b__law_are_guards_right : Binds K d__law_are_guards_right ["pot", "zone", "many"] []
  g__law_are_guards_right : mg "_law_are_guards_right" = some (.ref f__law_are_guards_right)
  f_set_back : Addr
  d_set_back : FuncData
  F_set_back : Fun K "set_back" "set_back" s_set_back f_set_back d_set_back
  b_set_back : Binds K d_set_back ["zone", "clocks", "resets"] []
  g_set_back : mg "set_back" = some (.ref f_set_back)
  f_zone_set : Addr
  d_zone_set : FuncData
  F_zone_set : Fun K "zone_set" "zone_set" s_zone_set f_zone_set d_zone_set
  b_zone_set : Binds K d_zone_set ["zone", "places"] []
  g_zone_set : mg "zone_set" = some (.ref f_zone_set)
  w_zone_set : KwB d_zone_set ["zone", "places"]
  f__law_set : Addr
  d__law_set : FuncData
  F__law_set : Fun K "_law_set" "_law_set" s__law_set f__law_set d__law_set
  b__law_set : Binds K d__law_set ["zone", "places"] []
  g__law_set : mg "_law_set" = some (.ref f__law_set)
  f__law_sorted : Addr
  d__law_sorted : FuncData
  F__law_sorted : Fun K "_law_sorted" "_law_sorted" s__law_sorted f__law_sorted d__law_sorted
  b__law_sorted : Binds K d__law_sorted ["some"] []
  g__law_sorted : mg "_law_sorted" = some (.ref f__law_sorted)
  f__law_are_sets_right : Addr
  d__law_are_sets_right : FuncData
  F__law_are_sets_right : Fun K "_law_are_sets_right" "_law_are_sets_right" s__law_are_sets_right f__law_are_sets_right d__law_are_sets_right
  b__law_are_sets_right : Binds K d__law_are_sets_right ["pot", "zone", "many"] []
  g__law_are_sets_right : mg "_law_are_sets_right" = some (.ref f__law_are_sets_right)
  f_passed : Addr
  d_passed : FuncData
  F_passed : Fun K "passed" "passed" s_passed f_passed d_passed
  b_passed : Binds K d_passed ["zone"] []
  g_passed : mg "passed" = some (.ref f_passed)
  f_later_zone : Addr
  d_later_zone : FuncData
  F_later_zone : Fun K "later_zone" "later_zone" s_later_zone f_later_zone d_later_zone
  b_later_zone : Binds K d_later_zone ["zone"] []
  g_later_zone : mg "later_zone" = some (.ref f_later_zone)
  w_later_zone : KwB d_later_zone ["zone"]
  f__law_later : Addr
  d__law_later : FuncData
  F__law_later : Fun K "_law_later" "_law_later" s__law_later f__law_later d__law_later
  b__law_later : Binds K d__law_later ["zone"] []
  g__law_later : mg "_law_later" = some (.ref f__law_later)
  f_begin_zone : Addr
  d_begin_zone : FuncData
  F_begin_zone : Fun K "begin_zone" "begin_zone" s_begin_zone f_begin_zone d_begin_zone
  b_begin_zone : Binds K d_begin_zone ["many"] []
  g_begin_zone : mg "begin_zone" = some (.ref f_begin_zone)
  f_first_zone : Addr
  d_first_zone : FuncData
  F_first_zone : Fun K "first_zone" "first_zone" s_first_zone f_first_zone d_first_zone
  b_first_zone : Binds K d_first_zone ["many"] []
  g_first_zone : mg "first_zone" = some (.ref f_first_zone)
  w_first_zone : KwB d_first_zone ["many"]
  f__law_zone : Addr
  d__law_zone : FuncData
  F__law_zone : Fun K "_law_zone" "_law_zone" s__law_zone f__law_zone d__law_zone
  b__law_zone : Binds K d__law_zone ["pot", "many"] []
  g__law_zone : mg "_law_zone" = some (.ref f__law_zone)
  f__law_right : Addr
  d__law_right : FuncData
  F__law_right : Fun K "_law_right" "_law_right" s__law_right f__law_right d__law_right
  b__law_right : Binds K d__law_right ["pot"] []
  g__law_right : mg "_law_right" = some (.ref f__law_right)
  f_law : Addr
  d_law : FuncData
  F_law : Fun K "law" "law" s_law f_law d_law
  b_law : Binds K d_law ["script"] []
  g_law : mg "law" = some (.ref f_law)
  m_abs : mg "abs" = none
  m_all : mg "all" = none
  m_any : mg "any" = none
  m_bool : mg "bool" = none
  m_dict : mg "dict" = none
  m_int : mg "int" = none
  m_isinstance : mg "isinstance" = none
  m_len : mg "len" = none
  m_list : mg "list" = none
  m_max : mg "max" = none
  m_min : mg "min" = none
  m_range : mg "range" = none
  m_repr : mg "repr" = none
  m_sorted : mg "sorted" = none
  m_str : mg "str" = none
  m_sum : mg "sum" = none
  m_tuple : mg "tuple" = none
  m_zip : mg "zip" = none
  u_COMPARES : Addr
  c_COMPARES : mg "COMPARES" = some (.ref u_COMPARES)
  q_COMPARES : ∀ H, SqT K H u_COMPARES [V.str "<", V.str "<=", V.str ">", V.str ">="]
  t_FAR : Tok
  c_FAR : mg "FAR" = some (.int 1000000 t_FAR)
  t_MOST_BOUND : Tok
  c_MOST_BOUND : mg "MOST_BOUND" = some (.int 200000 t_MOST_BOUND)
  t_MOST_CLOCKS : Tok
  c_MOST_CLOCKS : mg "MOST_CLOCKS" = some (.int 3 t_MOST_CLOCKS)
  t_MOST_MOMENT : Tok
  c_MOST_MOMENT : mg "MOST_MOMENT" = some (.int 12 t_MOST_MOMENT)
  t_MOST_NUMBER : Tok
  c_MOST_NUMBER : mg "MOST_NUMBER" = some (.int 100000 t_MOST_NUMBER)
  t_NOUGHT : Tok
  c_NOUGHT : mg "NOUGHT" = some (.int 1 t_NOUGHT)
  t_REACHED : Tok
  c_REACHED : mg "REACHED" = some (.int 1 t_REACHED)
  u_UPPER : Addr
  c_UPPER : mg "UPPER" = some (.ref u_UPPER)
  q_UPPER : ∀ H, SqT K H u_UPPER [V.str "<", V.str "<="]

end K33

namespace K33
open PySem PySem.Spec PyProof.Rows L2 Gz Evl
section
variable {P : Program} {w : World} {K : PySem.W.Frag} {mg : Str → Option Value} {base : Heap}
def spIsInt : Sp := fun as H Q _ => ∃ i, as = [.int i] ∧ RetV (.bl true) H Q
theorem ok_is_integer (T : Top K mg) : FnOk P w K mg base CX0 1 T.f_is_integer T.d_is_integer ["value"] spIsInt := by
  refine T.F_is_integer.ok sc_is_integer (fun as H Q E h => ?_) (fun cdv A outer s H as Q E hr h => ?_)
  · obtain ⟨i, rfl, _⟩ := h
    rfl
  · obtain ⟨i, rfl, q⟩ := h
    refine ⟨_, (pss_one (ps_ret (pe_and (pe_callB (call_isiK' (K := K) rfl) (by rfl) T.m_isinstance (by decide +kernel) (pa_cons (pv 0) (pa_cons (pe_bltn (v := .ty "int") (by rfl) T.m_int (by decide +kernel) rfl) pa_nil))) (pe_one (pe_not (pe_callB (call_isiK' (K := K) rfl) (by rfl) T.m_isinstance (by decide +kernel) (pa_cons (pv 0) (pa_cons (pe_bltn (v := .ty "bool") (by rfl) T.m_bool (by decide +kernel) rfl) pa_nil)))))))), ?_⟩
    exact s_ret (ev_andV (ev_isiInt (ev_var rfl)) fun _ => ev_notV (ev_isiIntB (ev_var rfl))) q
def spBetween : Sp := fun as H Q _ => ∃ v lo hi : Int, as = [.int v, .int lo, .int hi] ∧ RetV (.bl (decide (lo ≤ v) && decide (v ≤ hi))) H Q
theorem ok_is_between (T : Top K mg) : FnOk P w K mg base CX0 2 T.f_is_between T.d_is_between ["value", "low", "high"] spBetween := by
  have G_is_integer := ok_is_integer (P := P) (w := w) (base := base) T
  refine T.F_is_between.ok sc_is_between (fun as H Q E h => ?_) (fun cdv A outer s H as Q E hr h => ?_)
  · obtain ⟨v, lo, hi, rfl, _⟩ := h
    rfl
  · obtain ⟨v, lo, hi, rfl, q⟩ := h
    refine ⟨_, (pss_one (ps_ret (pe_and (pe_call G_is_integer (hr.mono (by decide)) (by rfl) T.g_is_integer T.F_is_integer.kp T.b_is_integer .nil pass0 (pa_cons (pv 0) pa_nil)) (pe_one (pe_chain op_le op_le (pv 1) (pv 0) (pv 2)))))), ?_⟩
    exact s_ret (ev_andV (ev_call (ea_cons (ev_var rfl) ea_nil) fun H1 e Q q E => ⟨v, rfl, q⟩) fun _ => ev_chain (ev_var rfl) (ev_var rfl) rv_I0 (fun _ => ev_var rfl) fun _ => rv_I0) q
def spCommon : Sp := fun as H Q _ => ∃ a b : Int, as = [.int a, .int b] ∧ RetV (.int (Nat.gcd a.natAbs b.natAbs : Nat)) H Q
theorem ok_common (T : Top K mg) : FnOk P w K mg base CX0 1 T.f_common T.d_common ["one", "other"] spCommon := by
  refine T.F_common.ok sc_common (fun as H Q E h => ?_) (fun cdv A outer s H as Q E hr h => ?_)
  · obtain ⟨a, b, rfl, _⟩ := h
    rfl
  · obtain ⟨a, b, rfl, q⟩ := h
    refine ⟨_, (pss_cons (ps_par (i := 0) (j := 1) (by rfl) sc_common.nd rfl rfl (by decide) rfl rfl (pa_cons (pe_callB call_abs (by rfl) T.m_abs (by decide +kernel) (pa_cons (pv 0) pa_nil)) (pa_cons (pe_callB call_abs (by rfl) T.m_abs (by decide +kernel) (pa_cons (pv 1) pa_nil)) pa_nil)) (by rfl))
  (pss_cons (ps_while PassesOwn.never (pt_cmpR op_ne (pv 1) pe_int (nomark _)) (pss_one (ps_par (i := 0) (j := 1) (by rfl) sc_common.nd rfl rfl (by decide) rfl rfl (pa_cons (pv 1) (pa_cons (pe_op op_mod (pv 0) (pv 1)) pa_nil)) (by rfl))))
  (pss_one (ps_ret (pv 0))))), ?_⟩
    refine q_par (ea_cons (ev_abs (ev_var rfl)) (ea_cons (ev_abs (ev_var rfl)) ea_nil)) fun H1 e1 => ?_
    rw [abs_nat, abs_nat]
    refine q_while (fun m σ' H' => ∃ x y : Nat, σ' = [some (.int x), some (.int y)] ∧ m = y ∧ Nat.gcd x y = Nat.gcd a.natAbs b.natAbs ∧ Ex H H') b.natAbs ⟨a.natAbs, b.natAbs, rfl, rfl, rfl, e1⟩ ?_
    rintro m σ' H' ⟨x, y, rfl, rfl, hg, e⟩
    refine ⟨_, et_test (ev_op (ev_var rfl) ev_c (rv_ne rfl)), fun hb H2 e2 => ?_, fun hb H2 e2 => ?_⟩
    · have hy : m ≠ 0 := by
        intro z
        subst z
        simp at hb
      refine ⟨fun σ2 H3 => σ2 = [some (.int (m : Int)), some (.int ((x % m : Nat) : Int))] ∧ Ex H H3, fun σ2 H3 hN => ?_, ?_⟩
      · obtain ⟨rfl, e3⟩ := hN
        exact ⟨x % m, Nat.mod_lt _ (Nat.pos_of_ne_zero hy), m, x % m, rfl, rfl, by rw [← hg, Nat.gcd_comm x m, Nat.gcd_rec m x, Nat.gcd_comm], e3⟩
      · refine s_par (ea_cons (ev_var rfl) (ea_cons (ev_op (ev_var rfl) (ev_var rfl) (rv_mod (by omega))) ea_nil)) fun H3 e3 => ?_
        exact ⟨rfl, (e.trans e2).trans e3⟩
    · have hy : m = 0 := by simpa using hb
      subst hy
      rw [Nat.gcd_zero_right] at hg
      exact s_ret (ev_var rfl) fun H3 e3 => by
        rw [hg]
        exact q H3 ((e.trans e2).trans e3)
def spFrac (K : PySem.W.Frag) : Sp := fun as H Q _ => ∃ (p : Addr) (t l : Int), as = [.ref p] ∧ SqT K H p [.int t, .int l] ∧ RetV (.bl (decide (l ≥ 1) && decide (V.int (Nat.gcd t.natAbs l.natAbs : Nat) = V.int 1))) H Q
theorem at2a {a b : V} : atI [a, b] 0 = some a := rfl
theorem at2b {a b : V} : atI [a, b] 1 = some b := rfl
theorem ok_is_fraction (T : Top K mg) : FnOk P w K mg base CX0 2 T.f_is_fraction T.d_is_fraction ["value"] (spFrac K) := by
  have G_is_integer := ok_is_integer (P := P) (w := w) (base := base) T
  have G_common := ok_common (P := P) (w := w) (base := base) T
  refine T.F_is_fraction.ok sc_is_fraction (fun as H Q E h => ?_) (fun cdv A outer s H as Q E hr h => ?_)
  · obtain ⟨p, t, l, rfl, _⟩ := h
    rfl
  · obtain ⟨p, t, l, rfl, hs, q⟩ := h
    refine ⟨_, (pss_cons (ps_if (PW.pt (pw_or (pt_not (pt_val (pe_callB (call_isiK' (K := K) rfl) (by rfl) T.m_isinstance (by decide +kernel) (pa_cons (pv 0) (pa_cons (pe_bltn (v := .ty "tuple") (by rfl) T.m_tuple (by decide +kernel) rfl) pa_nil))))) (pw_or (pt_cmpR op_ne (pe_callB (call_lenK (K := K) rfl) (by rfl) T.m_len PySem.boot_len (pa_cons (pv 0) pa_nil)) pe_int (nomark _)) (pw_or (pt_not (pt_val (pe_call G_is_integer (hr.mono (by decide)) (by rfl) T.g_is_integer T.F_is_integer.kp T.b_is_integer .nil pass0 (pa_cons (pe_ix (ix_tupK (K := K) rfl) (pv 0) pe_int (fun _ _ => rfl)) pa_nil)))) (pw_or1 (pt_not (pt_val (pe_call G_is_integer (hr.mono (by decide)) (by rfl) T.g_is_integer T.F_is_integer.kp T.b_is_integer .nil pass0 (pa_cons (pe_ix (ix_tupK (K := K) rfl) (pv 0) pe_int (fun _ _ => rfl)) pa_nil))))))))) (pss_one (ps_ret pe_bl)) pss_nil)
  (pss_one (ps_ret (pe_and (pe_cmpR op_ge (pe_ix (ix_tupK (K := K) rfl) (pv 0) pe_int (fun _ _ => rfl)) pe_int (nomark _)) (pe_one (pe_cmpR op_eq (pe_call G_common (hr.mono (by decide)) (by rfl) T.g_common T.F_common.kp T.b_common .nil pass0 (pa_cons (pe_ix (ix_tupK (K := K) rfl) (pv 0) pe_int (fun _ _ => rfl)) (pa_cons (pe_ix (ix_tupK (K := K) rfl) (pv 0) pe_int (fun _ _ => rfl)) pa_nil))) pe_int (nomark _))))))), ?_⟩
    refine q_skip (et_is (et_or (et_not (et_B (ev_isiT (ev_var rfl) hs))) fun _ => et_or (et_test (ev_op (ev_lenT (ev_var rfl) hs) ev_c (rv_ne rfl))) fun _ =>
      et_or (et_not (et_B (ev_call (ea_cons (ev_op (ev_var rfl) ev_c (rv_ixT hs at2a)) ea_nil) fun H1 e Q q E => ⟨t, rfl, q⟩))) fun _ =>
        et_not (et_B (ev_call (ea_cons (ev_op (ev_var rfl) ev_c (rv_ixT hs at2b)) ea_nil) fun H1 e Q q E => ⟨l, rfl, q⟩))) (by simp)) fun H1 e1 => ?_
    have hs1 := ex_t e1 hs
    exact s_ret (ev_andV (ev_op (ev_op (ev_var rfl) ev_c (rv_ixT hs1 at2b)) ev_c rv_I0) fun _ => ev_op (ev_call (ea_cons (ev_op (ev_var rfl) ev_c (rv_ixT hs1 at2a)) (ea_cons (ev_op (ev_var rfl) ev_c (rv_ixT hs1 at2b)) ea_nil)) fun H1 e Q q E => ⟨t, l, rfl, q⟩) ev_c (rv_eq rfl))
      fun H2 e2 => q H2 (e1.trans e2)
def spBound : Sp := fun as H Q _ => ∃ (n : Int) (k : Bool), as = [.int n, .bl k] ∧ RetV (.int (2 * n + if k then 1 else 0)) H Q
theorem ok_bound_of (T : Top K mg) : FnOk P w K mg base CX0 1 T.f_bound_of T.d_bound_of ["number", "is_reached"] spBound := by
  refine T.F_bound_of.ok sc_bound_of (fun as H Q E h => ?_) (fun cdv A outer s H as Q E hr h => ?_)
  · obtain ⟨n, k, rfl, _⟩ := h
    rfl
  · obtain ⟨n, k, rfl, q⟩ := h
    refine ⟨_, (pss_one (ps_ret (pe_op op_add (pe_op op_mul pe_int (pv 0)) (pe_ifExp (pt_val (pv 1)) (pe_glob (v := .int 1) (by rfl) T.c_REACHED ⟨_, rfl⟩) pe_int)))), ?_⟩
    exact s_ret (ev_op (ev_op ev_c (ev_var rfl) (rv_mul (by omega))) (ev_if (v := .int (if k then 1 else 0)) (et_B (ev_var rfl)) (fun h => by subst h; exact ev_c) fun h => by subst h; exact ev_c) rv_I0) q
def spSb : Sp := fun as H Q _ => ∃ x y : Int, as = [.int x, .int y] ∧ RetV (.int (Zn.sb x y)) H Q
theorem ok_sum_of_bounds (T : Top K mg) : FnOk P w K mg base CX0 1 T.f_sum_of_bounds T.d_sum_of_bounds ["one", "other"] spSb := by
  refine T.F_sum_of_bounds.ok sc_sum_of_bounds (fun as H Q E h => ?_) (fun cdv A outer s H as Q E hr h => ?_)
  · obtain ⟨x, y, rfl, _⟩ := h
    rfl
  · obtain ⟨x, y, rfl, q⟩ := h
    refine ⟨_, (pss_cons (ps_if (pt_cmpR (op_inK (K := K) rfl) (pe_glob (v := .int 1000000) (by rfl) T.c_FAR ⟨_, rfl⟩) (pe_tup (pa_cons (pv 0) (pa_cons (pv 1) pa_nil))) (by rfl)) (pss_one (ps_ret (pe_glob (v := .int 1000000) (by rfl) T.c_FAR ⟨_, rfl⟩))) pss_nil)
  (pss_one (ps_ret (pe_op op_add (pe_op op_mul pe_int (pe_op op_add (pe_op op_fdiv (pv 0) pe_int) (pe_op op_fdiv (pv 1) pe_int))) (pe_op op_mul (pe_op op_mod (pv 0) pe_int) (pe_op op_mod (pv 1) pe_int)))))), ?_⟩
    refine q_when (et_test (ev_inU ev_c (eu_tup (ea_cons (ev_var rfl) (ea_cons (ev_var rfl) ea_nil)) (by simp)) rfl rfl)) (fun hb H1 e1 => ?_) (fun hb H1 e1 => ?_)
    · have hF : x = Zn.FAR ∨ y = Zn.FAR := by simpa [inV, eqV] using hb
      refine s_ret ev_c fun H2 e2 => ?_
      have := q H2 (e1.trans e2)
      rw [Zn.sb, if_pos hF] at this
      exact this
    · have hF : ¬ (x = Zn.FAR ∨ y = Zn.FAR) := by simpa [inV, eqV] using hb
      refine s_ret (ev_op (ev_op ev_c (ev_op (ev_op (ev_var rfl) ev_c (rv_div (by decide))) (ev_op (ev_var rfl) ev_c (rv_div (by decide))) rv_I0) (rv_mul (by omega)))
        (ev_op (ev_op (ev_var rfl) ev_c (rv_mod (by decide))) (ev_op (ev_var rfl) ev_c (rv_mod (by decide))) (rv_mul (by omega))) rv_I0) fun H2 e2 => ?_
      have := q H2 (e1.trans e2)
      rw [Zn.sb, if_neg hF] at this
      exact this
def spSide (K : PySem.W.Frag) : Sp := fun as H Q _ => ∃ (p : Addr) (xs : List V) (n : Nat), as = [.ref p] ∧ SqT K H p xs ∧ xs.length = n * n ∧ 1 ≤ n ∧ n ≤ 100 ∧ RetV (.int (n : Int)) H Q
theorem ok_side_of (T : Top K mg) : FnOk P w K mg base CX0 1 T.f_side_of T.d_side_of ["zone"] (spSide K) := by
  refine T.F_side_of.ok sc_side_of (fun as H Q E h => ?_) (fun cdv A outer s H as Q E hr h => ?_)
  · obtain ⟨p, xs, n, rfl, _⟩ := h
    rfl
  · obtain ⟨p, xs, n, rfl, hs, hl, h1, hn, q⟩ := h
    refine ⟨_, (pss_cons (ps_set (i := 1) sc_side_of.nd rfl (.inl rfl) pe_int)
  (pss_cons (ps_while PassesOwn.never (pt_cmpR op_lt (pe_op op_mul (pv 1) (pv 1)) (pe_callB (call_lenK (K := K) rfl) (by rfl) T.m_len PySem.boot_len (pa_cons (pv 0) pa_nil)) (nomark _)) (pss_one (ps_set (i := 1) sc_side_of.nd rfl (.inl rfl) (pe_op op_add (pv 1) pe_int))))
  (pss_one (ps_ret (pv 1))))), ?_⟩
    refine q_asg ev_c fun H1 e1 => ?_
    refine q_while (fun m σ' H' => ∃ k : Nat, σ' = [some (.ref p), some (.int k)] ∧ m = n - k ∧ 1 ≤ k ∧ k ≤ n ∧ Ex H H') (n - 1) ⟨1, rfl, rfl, Nat.le_refl _, h1, e1⟩ ?_
    rintro m σ' H' ⟨k, rfl, rfl, hk, hkn, e⟩
    have sq : k * k < n * n ↔ k < n := ⟨fun h => Nat.lt_of_not_le fun z => absurd (Nat.mul_le_mul z z) (by omega), fun h => Nat.mul_lt_mul'' h h⟩
    refine ⟨_, et_test (ev_op (ev_op (ev_var rfl) (ev_var rfl) (rv_mul (by omega))) (ev_lenT (ev_var rfl) (ex_t e hs)) rv_I0), fun hb H2 e2 => ?_, fun hb H2 e2 => ?_⟩
    · have hlt : k < n := sq.mp (by
        have := of_decide_eq_true hb
        rw [hl] at this
        exact_mod_cast this)
      refine ⟨fun σ2 H3 => σ2 = [some (.ref p), some (.int ((k + 1 : Nat) : Int))] ∧ Ex H H3, fun σ2 H3 hN => ?_, ?_⟩
      · obtain ⟨rfl, e3⟩ := hN
        exact ⟨n - (k + 1), by omega, k + 1, rfl, rfl, by omega, by omega, e3⟩
      · exact s_asg (ev_op (ev_var rfl) ev_c rv_I0) fun H3 e3 => ⟨rfl, (e.trans e2).trans e3⟩
    · have hge : ¬ k < n := fun z => by
        have := of_decide_eq_false hb
        rw [hl] at this
        exact this (by exact_mod_cast sq.mpr z)
      have : k = n := by omega
      subst this
      exact s_ret (ev_var rfl) fun H3 e3 => q H3 ((e.trans e2).trans e3)
end
end K33

namespace K33
open PySem PySem.Spec PyProof.Rows L2 Gz Evl
open Zn (ent fwF phaseF rowF stepF tightF fold_succ)
section
variable {P : Program} {w : World} {K : PySem.W.Frag} {mg : Str → Option Value} {base : Heap}
abbrev Vi (m : List Int) : List V := m.map V.int
theorem at_ent {n r c : Nat} {m : List Int} (hl : m.length = n * n) (hr : r < n) (hc : c < n) : atI (Vi m) ((r : Int) * (n : Int) + (c : Int)) = some (.int (ent n m r c)) := by
  have hlt := Zn.ix_lt hr hc
  rw [show (r : Int) * (n : Int) + (c : Int) = ((r * n + c : Nat) : Int) by simp]
  refine at_map ?_
  unfold ent
  rw [List.getD_eq_getElem?_getD, List.getElem?_eq_getElem (by omega)]
  rfl
theorem step_len {n k i j : Nat} {m : List Int} (h : m.length = n * n) : (stepF n k i j m).length = n * n := by
  unfold stepF
  split
  · rw [List.length_set]; exact h
  · exact h
theorem fold_len {n : Nat} {f : Nat → List Int → List Int} (hf : ∀ i m, m.length = n * n → (f i m).length = n * n) (t : Nat) {m : List Int} (h : m.length = n * n) : ((List.range t).foldl (fun m i => f i m) m).length = n * n := by
  induction t with
  | zero => exact h
  | succ t ih => rw [fold_succ]; exact hf _ _ ih
theorem row_len {n k i : Nat} {m : List Int} (h : m.length = n * n) : (rowF n k i m).length = n * n := fold_len (fun _ _ h => step_len h) n h
theorem phase_len {n k : Nat} {m : List Int} (h : m.length = n * n) : (phaseF n k m).length = n * n := fold_len (fun _ _ h => row_len h) n h
theorem fw_len {n : Nat} {m : List Int} (h : m.length = n * n) : (fwF n m).length = n * n := fold_len (fun _ _ h => phase_len h) n h
def spTight (K : PySem.W.Frag) : Sp := fun as H Q _ => ∃ (a : Addr) (n : Nat) (m : List Int), as = [.ref a, .int n] ∧ H a = some (.lst (Vi m)) ∧ m.length = n * n ∧ n ≤ 100 ∧
  ∀ v H', But a H H' → IsO K ((tightF n m).map Vi) v H' → Q v H'
theorem ok_tight (T : Top K mg) : FnOk P w K mg base CX0 2 T.f_tight T.d_tight ["bounds", "size"] (spTight K) := by
  have G_sum_of_bounds := ok_sum_of_bounds (P := P) (w := w) (base := base) T
  refine T.F_tight.ok sc_tight (fun as H Q E h => ?_) (fun cdv A outer s H as Q E hr h => ?_)
  · obtain ⟨a, n, m, rfl, _⟩ := h
    rfl
  · obtain ⟨a, n, m, rfl, ha, hl, hn, q⟩ := h
    refine ⟨_, (pss_cons (ps_for PassesOwn.never rfl (pi_range1 (by rfl) T.m_range (pa_cons (pv 1) pa_nil)) (pg_name (i := 2) sc_tight.nd rfl (.inl rfl))
    (pss_one (ps_for PassesOwn.never rfl (pi_range1 (by rfl) T.m_range (pa_cons (pv 1) pa_nil)) (pg_name (i := 3) sc_tight.nd rfl (.inl rfl))
    (pss_one (ps_for PassesOwn.never rfl (pi_range1 (by rfl) T.m_range (pa_cons (pv 1) pa_nil)) (pg_name (i := 4) sc_tight.nd rfl (.inl rfl))
    (pss_cons (ps_set (i := 5) sc_tight.nd rfl (.inl rfl) (pe_call G_sum_of_bounds (hr.mono (by decide)) (by rfl) T.g_sum_of_bounds T.F_sum_of_bounds.kp T.b_sum_of_bounds .nil pass0 (pa_cons (pe_ix (ix_listK (K := K) rfl) (pv 0) (pe_op op_add (pe_op op_mul (pv 3) (pv 1)) (pv 2)) (fun _ _ => rfl)) (pa_cons (pe_ix (ix_listK (K := K) rfl) (pv 0) (pe_op op_add (pe_op op_mul (pv 2) (pv 1)) (pv 4)) (fun _ _ => rfl)) pa_nil))))
  (pss_one (ps_if (pt_cmpR op_lt (pv 5) (pe_ix (ix_listK (K := K) rfl) (pv 0) (pe_op op_add (pe_op op_mul (pv 3) (pv 1)) (pv 4)) (fun _ _ => rfl)) (nomark _)) (pss_one (ps_asg (pv 5) (pg_sub (pv 0) (pe_op op_add (pe_op op_mul (pv 3) (pv 1)) (pv 4)) set_list))) pss_nil))))))))
  (pss_cons (ps_if (pt_val (pe_callB (cr_anyK (K := K) rfl rfl) (by rfl) T.m_any (by decide +kernel) (pa_cons (pe_lc (own := [("row", 3)]) (g := gName 3) (tt := tYes) rfl sc_tight.nd (pi_range1 (by rfl) T.m_range (pa_cons (pv 1) pa_nil)) (blkOk_by (own := [("row", 3)]) (N := N_tight) (sc := defScope s_tight) (by decide +kernel)) (fun _ _ _ _ _ => (pg_name (i := 3) sc_tight.nd rfl (.inl rfl))) (fun _ _ _ _ _ => pts_nil) (fun _ _ _ _ _ => (pe_cmpR op_lt (pe_ix (ix_listK (K := K) rfl) (pv 0) (pe_op op_add (pe_op op_mul (pv 3) (pv 1)) (pv 3)) (fun _ _ => rfl)) (pe_glob (v := .int 1) (by rfl) T.c_NOUGHT ⟨_, rfl⟩) (nomark _)))) pa_nil))) (pss_one (ps_ret pe_non)) pss_nil)
  (pss_one (ps_ret (pe_callTy (call_tupleK (K := K) rfl) (by rfl) T.m_tuple (by decide +kernel) (pa_cons (pv 0) pa_nil)))))), ?_⟩
    have ba : ∀ {H1 H2 : Hp} {m : List Int}, Ex H1 H2 → H1 a = some (.lst (Vi m)) → H2 a = some (.lst (Vi m)) := fun e h => e a _ h
    refine q_forR1 (ea_cons (ev_var rfl) ea_nil) ⟨by omega, by omega⟩ (fun i σ' H' => ∃ y2 y3 y4 y5, σ' = [some (.ref a), some (.int n), y2, y3, y4, y5] ∧ But a H H' ∧ H' a = some (.lst (Vi ((List.range i).foldl (fun m k => phaseF n k m) m))))
      (fun H1 e => ⟨none, none, none, none, rfl, But.of e, ba e ha⟩) ?_ ?_
    · rintro i σ' H1 hi ⟨y2, y3, y4, y5, rfl, b1, a1⟩
      have l1 := fold_len (n := n) (f := fun k m => phaseF n k m) (fun _ _ h => phase_len h) i hl
      have sc := fold_succ (f := fun m k => phaseF n k m) (n := i) (a := m)
      generalize (List.range i).foldl (fun m k => phaseF n k m) m = m1 at a1 l1 sc
      have hi : i < n := by omega
      rw [sc]
      refine s_forR1 (ea_cons (ev_var rfl) ea_nil) ⟨by omega, by omega⟩ (fun j σ' H' => ∃ y3 y4 y5, σ' = [some (.ref a), some (.int n), some (.int i), y3, y4, y5] ∧ But a H H' ∧ H' a = some (.lst (Vi ((List.range j).foldl (fun m r => rowF n i r m) m1))))
        (fun H2 e => ⟨y3, y4, y5, rfl, b1.trans (But.of e), ba e a1⟩) ?_ ?_
      · rintro j σ' H2 hj ⟨y3, y4, y5, rfl, b2, a2⟩
        have l2 := fold_len (n := n) (f := fun r m => rowF n i r m) (fun _ _ h => row_len h) j l1
        have sc := fold_succ (f := fun m r => rowF n i r m) (n := j) (a := m1)
        generalize (List.range j).foldl (fun m r => rowF n i r m) m1 = m2 at a2 l2 sc
        have hj : j < n := by omega
        rw [sc]
        refine s_forR1 (ea_cons (ev_var rfl) ea_nil) ⟨by omega, by omega⟩ (fun c σ' H' => ∃ y4 y5, σ' = [some (.ref a), some (.int n), some (.int i), some (.int j), y4, y5] ∧ But a H H' ∧ H' a = some (.lst (Vi ((List.range c).foldl (fun m c => stepF n i j c m) m2))))
          (fun H3 e => ⟨y4, y5, rfl, b2.trans (But.of e), ba e a2⟩) ?_ ?_
        · rintro c σ' H3 hc ⟨y4, y5, rfl, b3, a3⟩
          have l3 := fold_len (n := n) (f := fun c m => stepF n i j c m) (fun _ _ h => step_len h) c l2
          have sc := fold_succ (f := fun m c => stepF n i j c m) (n := c) (a := m2)
          generalize (List.range c).foldl (fun m c => stepF n i j c m) m2 = m3 at a3 l3 sc
          have hc : c < n := by omega
          rw [sc]
          have ix : ∀ {s1 s2 : Nat} {x y : Nat} {σ2 : L2.St} {H2 : Hp}, x < n → y < n → H2 a = some (.lst (Vi m3)) → σ2[s1]? = some (some (.int x)) → σ2[s2]? = some (some (.int y)) → σ2[0]? = some (some (.ref a)) → σ2[1]? = some (some (.int n)) →
              Ev (tOp (rIxL K) (tVar 0) (tOp (rI0 fun i j => .int (i + j)) (tOp (rI CMul fun i j => .int (i * j)) (tVar s1) (tVar 1)) (tVar s2))) σ2 H2 (.int (ent n m3 x y)) :=
            fun hx hy h2 e1 e2 e3 e4 => ev_op (ev_var e3) (ev_op (ev_op (ev_var e1) (ev_var e4) (rv_mul (by omega))) (ev_var e2) rv_I0) (rv_ixL (sql_of h2) (at_ent l3 hx hy))
          refine q_asg (ev_call (ea_cons (ix hj hi a3 rfl rfl rfl rfl) (ea_cons (ix hi hc a3 rfl rfl rfl rfl) ea_nil)) fun H1 e Q q E => ⟨_, _, rfl, q⟩) fun H4 e4 => ?_
          have a4 := ba e4 a3
          refine s_when (et_test (ev_op (ev_var rfl) (ix hj hc a4 rfl rfl rfl rfl) rv_I0)) (fun hb H5 e5 => ?_) (fun hb H5 e5 => ?_)
          · have hlt := of_decide_eq_true hb
            have a5 := ba e5 a4
            refine s_setL (j := j * n + c) a5 (ev_var rfl) (ev_var rfl) (ev_is (ev_op (ev_op (ev_var rfl) (ev_var rfl) (rv_mul (by omega))) (ev_var rfl) rv_I0) (by simp)) (by rw [List.length_map, l3]; exact Zn.ix_lt hj hc) fun H6 e6 => ?_
            refine ⟨_, _, rfl, ((b3.trans (But.of ((e4.trans e5).trans e6))).trans But.upd), ?_⟩
            rw [upd_same]
            unfold stepF
            rw [if_pos hlt]
            show _ = some (HO.lst (List.map V.int (m3.set _ _)))
            rw [List.map_set]
          · have hlt := of_decide_eq_false hb
            refine ⟨_, _, rfl, b3.trans (But.of (e4.trans e5)), ?_⟩
            rw [stepF, if_neg hlt]
            exact ba e5 a4
        · rintro σ' H3 ⟨y4, y5, rfl, b3, a3⟩
          exact ⟨_, _, _, rfl, b3, a3⟩
      · rintro σ' H2 ⟨y3, y4, y5, rfl, b2, a2⟩
        exact ⟨_, _, _, _, rfl, b2, a2⟩
    · rintro σ' H1 ⟨y2, y3, y4, y5, rfl, b1, a1⟩
      have l1 := fw_len (n := n) hl
      have a1 : H1 a = some (.lst (Vi (fwF n m))) := a1
      have ix : ∀ {x : Nat} {σ2 : L2.St} {H2 : Hp}, x < n → H2 a = some (.lst (Vi (fwF n m))) → σ2[3]? = some (some (.int x)) → σ2[0]? = some (some (.ref a)) → σ2[1]? = some (some (.int n)) →
          Ev (tOp (rIxL K) (tVar 0) (tOp (rI0 fun i j => .int (i + j)) (tOp (rI CMul fun i j => .int (i * j)) (tVar 3) (tVar 1)) (tVar 3))) σ2 H2 (.int (ent n (fwF n m) x x)) :=
        fun hx h2 e1 e3 e4 => ev_op (ev_var e3) (ev_op (ev_op (ev_var e1) (ev_var e4) (rv_mul (by omega))) (ev_var e1) rv_I0) (rv_ixL (sql_of h2) (at_ent l1 hx hx))
      refine q_when (et_B (ev_any (bs := (List.range n).map fun i => decide (ent n (fwF n m) i i < 1)) (el_mapR (ea_cons (ev_var rfl) ea_nil) ⟨by omega, by omega⟩ (by simp) (fun x => rfl) ?_))) (fun hb H2 e2 => ?_) (fun hb H2 e2 => ?_)
      · intro i y H2 e hy
        have hi : i < n := by
          have := (List.getElem?_eq_some_iff.mp hy).1
          simpa using this
        rw [List.getElem?_map, List.getElem?_map, List.getElem?_range hi] at hy
        obtain rfl := Option.some.inj hy
        exact ev_op (ix hi (ba e a1) rfl rfl rfl) ev_c rv_I0
      · rw [any_map_id] at hb
        refine s_ret ev_c fun H3 e3 => q _ H3 (b1.trans (But.of (e2.trans e3))) ?_
        rw [tightF, if_pos hb]
        rfl
      · rw [any_map_id] at hb
        refine s_retU (eu_tupV (ev_var rfl) (sql_of (ba e2 a1))) fun p H3 _ e3 hp => q _ H3 (b1.trans (But.of (e2.trans e3))) ?_
        rw [tightF, if_neg (by rw [hb]; exact Bool.false_ne_true)]
        exact ⟨p, rfl, sqt_of hp⟩
end
end K33

namespace K33
open PySem PySem.Spec PyProof.Rows L2 Gz Evl
open Zn (ent fwF phaseF rowF stepF tightF fold_succ Gd putG withF passF set1 setF leF Zone)
section
variable {P : Program} {w : World} {K : PySem.W.Frag} {mg : Str → Option Value} {base : Heap}
def spBegin (K : PySem.W.Frag) : Sp := fun as H Q _ => ∃ k : Nat, as = [.int k] ∧ 1 ≤ k ∧ k ≤ 20 ∧ RetP (IsT K (Vi (List.replicate ((k + 1) * (k + 1)) 1))) H Q
theorem flat_one {α : Type} (a : α) : ∀ k : Nat, (List.replicate k [a]).flatten = List.replicate k a
  | 0 => rfl
  | k + 1 => by
    rw [List.replicate_succ, List.flatten_cons, flat_one a k]
    rfl
theorem ok_begin_zone (T : Top K mg) : FnOk P w K mg base CX0 1 T.f_begin_zone T.d_begin_zone ["many"] (spBegin K) := by
  refine T.F_begin_zone.ok sc_begin_zone (fun as H Q E h => ?_) (fun cdv A outer s H as Q E hr h => ?_)
  · obtain ⟨k, rfl, _⟩ := h
    rfl
  · obtain ⟨k, rfl, h1, h2, q⟩ := h
    refine ⟨_, (pss_one (ps_ret (pe_op (op_repTK (K := K) rfl) (pe_tup (pa_cons (pe_glob (v := .int 1) (by rfl) T.c_NOUGHT ⟨_, rfl⟩) pa_nil)) (pe_op op_mul (pe_op op_add (pv 0) pe_int) (pe_op op_add (pv 0) pe_int))))), ?_⟩
    have b1 : (k + 1) * (k + 1) ≤ 21 * 21 := Nat.mul_le_mul (by omega) (by omega)
    have b2 : 2 * 2 ≤ (k + 1) * (k + 1) := Nat.mul_le_mul (by omega) (by omega)
    refine s_retP (evp_tup (K := K) (eu_repT (k := (((k + 1) * (k + 1) : Nat) : Int)) (eu_tup (ea_cons ev_c ea_nil) (by simp)) (ev_is (ev_op (ev_op (ev_var rfl) ev_c rv_I0) (ev_op (ev_var rfl) ev_c rv_I0) (rv_mul (by omega))) (by simp)) (by simp) (by omega) (by omega) (by simp))) ?_
    intro v H2 e hv
    rw [flat_one, Int.toNat_natCast] at hv
    refine q v H2 e ?_
    rw [Vi, List.map_replicate]
    exact hv
def spPassed (K : PySem.W.Frag) : Sp := fun as H Q _ => ∃ (p : Addr) (n : Nat) (m : List Int), as = [.ref p] ∧ SqT K H p (Vi m) ∧ m.length = n * n ∧ 1 ≤ n ∧ n ≤ 100 ∧ RetP (IsT K (Vi (passF n m))) H Q
theorem ok_passed (T : Top K mg) : FnOk P w K mg base CX0 2 T.f_passed T.d_passed ["zone"] (spPassed K) := by
  have G_side_of := ok_side_of (P := P) (w := w) (base := base) T
  refine T.F_passed.ok sc_passed (fun as H Q E h => ?_) (fun cdv A outer s H as Q E hr h => ?_)
  · obtain ⟨p, n, m, rfl, _⟩ := h
    rfl
  · obtain ⟨p, n, m, rfl, hs, hl, h1, hn, q⟩ := h
    refine ⟨_, (pss_cons (ps_par (i := 1) (j := 2) (by rfl) sc_passed.nd rfl rfl (by decide) rfl rfl (pa_cons (pe_call G_side_of (hr.mono (by decide)) (by rfl) T.g_side_of T.F_side_of.kp T.b_side_of .nil pass0 (pa_cons (pv 0) pa_nil)) (pa_cons (pe_callTy (call_listK (K := K) rfl) (by rfl) T.m_list (by decide +kernel) (pa_cons (pv 0) pa_nil)) pa_nil)) (by rfl))
  (pss_cons (ps_for PassesOwn.never rfl (pi_range2 (by rfl) T.m_range (pa_cons pe_int (pa_cons (pv 1) pa_nil))) (pg_name (i := 3) sc_passed.nd rfl (.inl rfl))
    (pss_one (ps_asg (pe_glob (v := .int 1000000) (by rfl) T.c_FAR ⟨_, rfl⟩) (pg_sub (pv 2) (pe_op op_mul (pv 3) (pv 1)) set_list))))
  (pss_one (ps_ret (pe_callTy (call_tupleK (K := K) rfl) (by rfl) T.m_tuple (by decide +kernel) (pa_cons (pv 2) pa_nil)))))), ?_⟩
    refine q_parL (ev_call (ea_cons (ev_var rfl) ea_nil) fun H1 e Q q E => ⟨p, Vi m, n, rfl, ex_t e hs, by rw [List.length_map]; exact hl, h1, hn, q⟩) (el_listT (ev_var rfl) hs) fun a H1 na e1 ha => ?_
    refine q_forR2 (lo := 1) (n := n) (ea_cons ev_c (ea_cons (ev_var rfl) ea_nil)) (by omega) (fun i σ' H' => ∃ y3, σ' = [some (.ref p), some (.int n), some (.ref a), y3] ∧ Ex H H' ∧ H' a = some (.lst (Vi ((List.range i).foldl (fun m i => m.set ((1 + i) * n) Zn.FAR) m))))
      (fun H2 e2 => ⟨none, rfl, e1.trans e2, e2 a _ ha⟩) ?_ ?_
    · rintro i σ' H2 hi ⟨y3, rfl, e2, a2⟩
      have sc := fold_succ (f := fun (m : List Int) i => m.set ((1 + i) * n) Zn.FAR) (n := i) (a := m)
      have l2 : ((List.range i).foldl (fun m i => m.set ((1 + i) * n) Zn.FAR) m).length = n * n := fold_len (f := fun i m => m.set ((1 + i) * n) Zn.FAR) (fun i m h => by rw [List.length_set]; exact h) i hl
      rw [sc]
      generalize (List.range i).foldl (fun m i => m.set ((1 + i) * n) Zn.FAR) m = m2 at a2 l2
      have hix : (1 + i) * n < n * n := by
        have := Zn.ix_lt (n := n) (i := 1 + i) (j := 0) (by omega) (by omega)
        exact this
      refine s_setL (j := (1 + i) * n) a2 ev_c (ev_var rfl) (ev_is (ev_op (ev_var rfl) (ev_var rfl) (rv_mul (by omega))) (by simp)) (by rw [List.length_map, l2]; exact hix) fun H3 e3 => ?_
      refine ⟨_, rfl, (e2.trans e3).mut na, ?_⟩
      rw [upd_same]
      show some (HO.lst ((List.map V.int m2).set _ _)) = some (HO.lst (List.map V.int (m2.set _ _)))
      rw [List.map_set]
    · rintro σ' H2 ⟨y3, rfl, e2, a2⟩
      have a2 : H2 a = some (.lst (Vi (passF n m))) := by
        rw [a2, show ((n : Int) - 1).toNat = n - 1 by omega]
        rfl
      exact s_retP (evp_tup (K := K) (eu_tupV (ev_var rfl) (sql_of a2))) fun v H3 e3 hv => q v H3 (e2.trans e3) hv
/-! ### guards as they stand -/
def gStr (g : Gd) : Str := if g.up then (if g.le then "<=" else "<") else (if g.le then ">=" else ">")
def gV (g : Gd) : List V := [.int g.cl, .str (gStr g), .int g.num]
def GAt (K : PySem.W.Frag) (H : Hp) (p : Addr) (gs : List Gd) : Prop := ∃ rs : List Addr, SqT K H p (rs.map V.ref) ∧ rs.length = gs.length ∧ ∀ (i : Nat) r g, rs[i]? = some r → gs[i]? = some g → SqT K H r (gV g)
theorem GAt.ex {H H' : Hp} {p : Addr} {gs : List Gd} (e : Ex H H') (h : GAt K H p gs) : GAt K H' p gs := by
  obtain ⟨rs, h1, h2, h3⟩ := h
  exact ⟨rs, ex_t e h1, h2, fun i r g a b => ex_t e (h3 i r g a b)⟩
theorem gStr_len (g : Gd) : (gStr g).length ≤ 100000 := by
  unfold gStr
  cases g.up <;> cases g.le <;> decide +kernel
theorem gStr_two (g : Gd) : decide (((gStr g).length : Int) = 2) = g.le := by
  unfold gStr
  cases g.up <;> cases g.le <;> decide +kernel
theorem gStr_up (g : Gd) : inV (.str (gStr g)) [.str "<", .str "<="] = g.up := by
  unfold gStr
  cases g.up <;> cases g.le <;> decide +kernel
theorem put_len {n : Nat} {g : Gd} {m : List Int} (h : m.length = n * n) : (putG n m g).length = n * n := by
  unfold putG
  rw [List.length_set]
  exact h
def spGuarded (K : PySem.W.Frag) : Sp := fun as H Q _ => ∃ (p cl gp : Addr) (n : Nat) (m : List Int) (gs : List Gd), as = [.ref p, .ref cl, .ref gp] ∧ SqT K H p (Vi m) ∧ SqL K H cl (rgV 0 ((n - 1 : Nat) : Int)) ∧ GAt K H gp gs ∧
  m.length = n * n ∧ 1 ≤ n ∧ n ≤ 100 ∧ (∀ g ∈ gs, g.Ok n) ∧ RetP (IsO K ((withF n m gs).map Vi)) H Q
theorem ok_guarded (T : Top K mg) : FnOk P w K mg base CX0 3 T.f_guarded T.d_guarded ["zone", "clocks", "guard"] (spGuarded K) := by
  have G_side_of := ok_side_of (P := P) (w := w) (base := base) T
  have G_bound_of := ok_bound_of (P := P) (w := w) (base := base) T
  have G_tight := ok_tight (P := P) (w := w) (base := base) T
  refine T.F_guarded.ok sc_guarded (fun as H Q E h => ?_) (fun cdv A outer s H as Q E hr h => ?_)
  · obtain ⟨p, cl, gp, n, m, gs, rfl, _⟩ := h
    rfl
  · obtain ⟨p, cl, gp, n, m, gs, rfl, hs, hc, hg, hl, h1, hn, ok, q⟩ := h
    refine ⟨_, (pss_cons (ps_par (i := 3) (j := 4) (by rfl) sc_guarded.nd rfl rfl (by decide) rfl rfl (pa_cons (pe_call G_side_of (hr.mono (by decide)) (by rfl) T.g_side_of T.F_side_of.kp T.b_side_of .nil pass0 (pa_cons (pv 0) pa_nil)) (pa_cons (pe_callTy (call_listK (K := K) rfl) (by rfl) T.m_list (by decide +kernel) (pa_cons (pv 0) pa_nil)) pa_nil)) (by rfl))
  (pss_cons (ps_for PassesOwn.never rfl (pi_tupK (K := K) rfl (pv 2)) (pg_tup rfl (pgs_cons (pg_name (i := 5) sc_guarded.nd rfl (.inl rfl)) (pgs_cons (pg_name (i := 6) sc_guarded.nd rfl (.inl rfl)) (pgs_cons (pg_name (i := 7) sc_guarded.nd rfl (.inl rfl)) pgs_nil))))
    (pss_cons (ps_set (i := 8) sc_guarded.nd rfl (.inl rfl) (pe_op op_add pe_int (pe_bm PySem.F.plainAttrs_list PySem.F.slot_list_index PySem.F.type_list_index mt_index (pv 1) (pa_cons (pv 5) pa_nil))))
  (pss_cons (ps_set (i := 9) sc_guarded.nd rfl (.inl rfl) (pe_cmpR op_eq (pe_callB call_lenStrK (by rfl) T.m_len PySem.boot_len (pa_cons (pv 6) pa_nil)) pe_int (nomark _)))
  (pss_cons (ps_asg (pe_ifExp (pt_cmpR (op_inK (K := K) rfl) (pv 6) (pe_glob (v := .ref T.u_UPPER) (by rfl) T.c_UPPER rfl) (by rfl)) (pe_tup (pa_cons (pe_op op_mul (pv 8) (pv 3)) (pa_cons (pv 7) pa_nil))) (pe_tup (pa_cons (pv 8) (pa_cons (pe_op op_sub pe_int (pv 7)) pa_nil)))) (pg_tup rfl (pgs_cons (pg_name (i := 10) sc_guarded.nd rfl (.inl rfl)) (pgs_cons (pg_name (i := 11) sc_guarded.nd rfl (.inl rfl)) pgs_nil))))
  (pss_one (ps_asg (pe_callB (call_min2 rfl) (by rfl) T.m_min (by decide +kernel) (pa_cons (pe_ix (ix_listK (K := K) rfl) (pv 4) (pv 10) (fun _ _ => rfl)) (pa_cons (pe_call G_bound_of (hr.mono (by decide)) (by rfl) T.g_bound_of T.F_bound_of.kp T.b_bound_of .nil pass0 (pa_cons (pv 11) (pa_cons (pv 9) pa_nil))) pa_nil))) (pg_sub (pv 4) (pv 10) set_list)))))))
  (pss_one (ps_ret (pe_call G_tight (hr.mono (by decide)) (by rfl) T.g_tight T.F_tight.kp T.b_tight .nil pass0 (pa_cons (pv 4) (pa_cons (pv 3) pa_nil))))))), ?_⟩
    refine q_parL (ev_call (ea_cons (ev_var rfl) ea_nil) fun H1 e Q q E => ⟨p, Vi m, n, rfl, ex_t e hs, by rw [List.length_map]; exact hl, h1, hn, q⟩) (el_listT (ev_var rfl) hs) fun a H1 na e1 ha => ?_
    obtain ⟨rs, g1, g2, g3⟩ := hg
    refine q_forT (ev_var rfl) (ex_t e1 g1) (fun i σ' H' => ∃ y5 y6 y7 y8 y9 y10 y11, σ' = [some (.ref p), some (.ref cl), some (.ref gp), some (.int n), some (.ref a), y5, y6, y7, y8, y9, y10, y11] ∧ Ex H H' ∧ H' a = some (.lst (Vi (Zn.putAll n (gs.take i) m))) ∧ (Zn.putAll n (gs.take i) m).length = n * n)
      (fun H2 e2 => ⟨_, _, _, _, _, _, _, rfl, e1.trans e2, e2 a _ ha, hl⟩) (fun i σ' H' _ ⟨_, _, _, _, _, _, _, _, e, _⟩ => ex_t e g1) ?_ ?_
    · rintro i x σ' H2 hx ⟨y5, y6, y7, y8, y9, y10, y11, rfl, e2, a2, l2⟩
      rw [List.getElem?_map] at hx
      obtain ⟨r, hr1, rfl⟩ := Option.map_eq_some_iff.mp hx
      have hi : i < gs.length := by
        rw [← g2]
        exact (List.getElem?_eq_some_iff.mp hr1).1
      have hgi : gs[i]? = some gs[i] := List.getElem?_eq_getElem hi
      have okg := ok _ (List.getElem_mem hi)
      have hsr := g3 i r _ hr1 hgi
      have sc : Zn.putAll n (gs.take (i + 1)) m = putG n (Zn.putAll n (gs.take i) m) gs[i] := by
        rw [List.take_add_one, hgi]
        unfold Zn.putAll
        rw [List.foldl_append]
        rfl
      rw [sc]
      generalize gs[i] = g at okg hsr hgi
      generalize Zn.putAll n (gs.take i) m = m2 at a2 l2
      refine ⟨r, gV g, rfl, ex_t e2 hsr, rfl, _, _, rfl, _, _, rfl, _, _, rfl, rfl, ?_⟩
      have hcl : g.cl < n - 1 := by have := okg.1; omega
      -- at = 1 + clocks.index(clock)
      refine q_asg (v := .int ((1 + g.cl : Nat) : Int)) (ev_is (ev_op ev_c (ev_indexRg (ev_var rfl) (ex_l e2 hc) (ev_var rfl) hcl) rv_I0) (by simp)) fun H3 e3 => ?_
      refine q_asg (v := .bl g.le) (ev_is (ev_op (ev_lenStr (ev_var rfl) (gStr_len g)) ev_c (rv_eq rfl)) (by rw [← gStr_two g]; simp)) fun H4 e4 => ?_
      -- place, bound = ..
      refine q_un2 (x := .int ((g.p * n + g.q : Nat) : Int)) (y := .int (if g.up then (g.num : Int) else 0 - (g.num : Int))) (eu_if (b := g.up) (et_is (et_test (ev_op (ev_var rfl) ev_c (rv_isT (T.q_UPPER _) rfl rfl))) (gStr_up g)) (fun hu => ?_) fun hu => ?_) fun H5 e5 => ?_
      · have e1 : g.p = 1 + g.cl := by unfold Gd.p; rw [hu]; rfl
        have e2 : g.q = 0 := by unfold Gd.q; rw [hu]; rfl
        rw [e1, e2, if_pos hu]
        exact eu_tup (ea_cons (ev_is (ev_op (ev_var rfl) (ev_var rfl) (rv_mul (by have := okg.1; omega))) (by simp)) (ea_cons (ev_var rfl) ea_nil)) (by simp)
      · have e1 : g.p = 0 := by unfold Gd.p; rw [hu]; rfl
        have e2 : g.q = 1 + g.cl := by unfold Gd.q; rw [hu]; rfl
        rw [e1, e2, if_neg (by rw [hu]; exact Bool.false_ne_true)]
        exact eu_tup (ea_cons (ev_is (ev_var rfl) (by simp)) (ea_cons (ev_op ev_c (ev_var rfl) rv_I0) ea_nil)) (by simp)
      · have hlt := Zn.ix_lt okg.p okg.q
        have a5 := e5 a _ (e4 a _ (e3 a _ a2))
        have hval : (2 * (if g.up then (g.num : Int) else 0 - (g.num : Int)) + if g.le then 1 else 0) = g.val := by
          unfold Gd.val
          cases g.up <;> rfl
        refine s_setL (j := g.p * n + g.q) a5 (ev_min2 (i := ent n m2 g.p g.q) (j := g.val) (ev_op (ev_var rfl) (ev_var rfl) (rv_ixL (sql_of a5) (at_map ?_))) (ev_is (ev_call (ea_cons (ev_var rfl) (ea_cons (ev_var rfl) ea_nil)) fun H1 e Q q E => ⟨_, _, rfl, q⟩) (by rw [hval])))
          (ev_var rfl) (ev_var rfl) (by rw [List.length_map, l2]; exact hlt) fun H6 e6 => ?_
        · unfold ent
          rw [List.getD_eq_getElem?_getD, List.getElem?_eq_getElem (by omega)]
          rfl
        · refine ⟨_, _, _, _, _, _, _, rfl, (e2.trans (((e3.trans e4).trans e5).trans e6)).mut na, ?_, put_len l2⟩
          rw [upd_same]
          show some (HO.lst ((List.map V.int m2).set _ _)) = some (HO.lst (List.map V.int (m2.set _ _)))
          rw [List.map_set, Int.min_def]
          have : (if g.val < ent n m2 g.p g.q then g.val else ent n m2 g.p g.q) = if ent n m2 g.p g.q ≤ g.val then ent n m2 g.p g.q else g.val := by
            split <;> split <;> omega
          rw [this]
    · rintro σ' H2 ⟨y5, y6, y7, y8, y9, y10, y11, rfl, e2, a2, l2⟩
      rw [List.length_map, g2, List.take_length] at a2 l2
      exact ⟨_, rfl, _, rfl, a, n, _, rfl, a2, l2, hn, fun v H' b ho => q v H' (Ex.but e2 na b) ho⟩
abbrev Vn (cs : List Nat) : List V := cs.map fun c : Nat => V.int (c : Int)
def spSetBack (K : PySem.W.Frag) : Sp := fun as H Q _ => ∃ (p cl rp : Addr) (n : Nat) (m : List Int) (cs : List Nat), as = [.ref p, .ref cl, .ref rp] ∧ SqT K H p (Vi m) ∧ SqL K H cl (rgV 0 ((n - 1 : Nat) : Int)) ∧ SqT K H rp (Vn cs) ∧
  m.length = n * n ∧ 1 ≤ n ∧ n ≤ 100 ∧ (∀ c ∈ cs, 1 + c < n) ∧ RetP (IsT K (Vi (setF n cs m))) H Q
theorem set1_len {n c : Nat} (t : Nat) {m : List Int} (h : m.length = n * n) : ((List.range t).foldl (fun m o => if o = 1 + c then m else (m.set ((1 + c) * n + o) (ent n m 0 o)).set (o * n + (1 + c)) (ent n (m.set ((1 + c) * n + o) (ent n m 0 o)) o 0)) m).length = n * n :=
  fold_len (f := fun o m => if o = 1 + c then m else (m.set ((1 + c) * n + o) (ent n m 0 o)).set (o * n + (1 + c)) (ent n (m.set ((1 + c) * n + o) (ent n m 0 o)) o 0)) (fun i m h => by
    by_cases e : i = 1 + c
    · rw [if_pos e]; exact h
    · rw [if_neg e, List.length_set, List.length_set]; exact h) t h
theorem at_flat {n i : Nat} {m : List Int} (h : m.length = n * n) (hi : i < n * n) : atI (Vi m) ((i : Nat) : Int) = some (.int (m.getD i 0)) := at_map (by
  rw [List.getD_eq_getElem?_getD, List.getElem?_eq_getElem (by omega)]
  rfl)
theorem ok_set_back (T : Top K mg) : FnOk P w K mg base CX0 2 T.f_set_back T.d_set_back ["zone", "clocks", "resets"] (spSetBack K) := by
  have G_side_of := ok_side_of (P := P) (w := w) (base := base) T
  refine T.F_set_back.ok sc_set_back (fun as H Q E h => ?_) (fun cdv A outer s H as Q E hr h => ?_)
  · obtain ⟨p, cl, rp, n, m, cs, rfl, _⟩ := h
    rfl
  · obtain ⟨p, cl, rp, n, m, cs, rfl, hs, hc, hg, hl, h1, hn, ok, q⟩ := h
    refine ⟨_, (pss_cons (ps_par (i := 3) (j := 4) (by rfl) sc_set_back.nd rfl rfl (by decide) rfl rfl (pa_cons (pe_call G_side_of (hr.mono (by decide)) (by rfl) T.g_side_of T.F_side_of.kp T.b_side_of .nil pass0 (pa_cons (pv 0) pa_nil)) (pa_cons (pe_callTy (call_listK (K := K) rfl) (by rfl) T.m_list (by decide +kernel) (pa_cons (pv 0) pa_nil)) pa_nil)) (by rfl))
  (pss_cons (ps_for PassesOwn.never rfl (pi_tupK (K := K) rfl (pv 2)) (pg_name (i := 5) sc_set_back.nd rfl (.inl rfl))
    (pss_cons (ps_set (i := 6) sc_set_back.nd rfl (.inl rfl) (pe_op op_add pe_int (pe_bm PySem.F.plainAttrs_list PySem.F.slot_list_index PySem.F.type_list_index mt_index (pv 1) (pa_cons (pv 5) pa_nil))))
  (pss_one (ps_for PassesOwn.never rfl (pi_range1 (by rfl) T.m_range (pa_cons (pv 3) pa_nil)) (pg_name (i := 7) sc_set_back.nd rfl (.inl rfl))
    (pss_one (ps_if (pt_cmpR op_ne (pv 7) (pv 6) (nomark _)) (pss_cons (ps_asg (pe_ix (ix_listK (K := K) rfl) (pv 4) (pv 7) (fun _ _ => rfl)) (pg_sub (pv 4) (pe_op op_add (pe_op op_mul (pv 6) (pv 3)) (pv 7)) set_list))
  (pss_one (ps_asg (pe_ix (ix_listK (K := K) rfl) (pv 4) (pe_op op_mul (pv 7) (pv 3)) (fun _ _ => rfl)) (pg_sub (pv 4) (pe_op op_add (pe_op op_mul (pv 7) (pv 3)) (pv 6)) set_list)))) pss_nil))))))
  (pss_one (ps_ret (pe_callTy (call_tupleK (K := K) rfl) (by rfl) T.m_tuple (by decide +kernel) (pa_cons (pv 4) pa_nil)))))), ?_⟩
    refine q_parL (ev_call (ea_cons (ev_var rfl) ea_nil) fun H1 e Q q E => ⟨p, Vi m, n, rfl, ex_t e hs, by rw [List.length_map]; exact hl, h1, hn, q⟩) (el_listT (ev_var rfl) hs) fun a H1 na e1 ha => ?_
    refine q_forT (ev_var rfl) (ex_t e1 hg) (fun i σ' H' => ∃ y5 y6 y7, σ' = [some (.ref p), some (.ref cl), some (.ref rp), some (.int n), some (.ref a), y5, y6, y7] ∧ Ex H H' ∧ H' a = some (.lst (Vi (setF n (cs.take i) m))) ∧ (setF n (cs.take i) m).length = n * n)
      (fun H2 e2 => ⟨_, _, _, rfl, e1.trans e2, e2 a _ ha, hl⟩) (fun i σ' H' _ ⟨_, _, _, _, e, _⟩ => ex_t e hg) ?_ ?_
    · rintro i x σ' H2 hx ⟨y5, y6, y7, rfl, e2, a2, l2⟩
      rw [List.getElem?_map] at hx
      obtain ⟨c, hc1, rfl⟩ := Option.map_eq_some_iff.mp hx
      have okc := ok c (List.mem_of_getElem? hc1)
      have sc : setF n (cs.take (i + 1)) m = set1 n c (setF n (cs.take i) m) := by
        rw [List.take_add_one, hc1]
        unfold setF
        rw [List.foldl_append]
        rfl
      rw [sc]
      generalize setF n (cs.take i) m = m2 at a2 l2
      have hcl : c < n - 1 := by omega
      -- at = 1 + clocks.index(clock)
      refine q_asg (v := .int ((1 + c : Nat) : Int)) (ev_is (ev_op ev_c (ev_indexRg (ev_var rfl) (ex_l e2 hc) (ev_var rfl) hcl) rv_I0) (by simp)) fun H3 e3 => ?_
      refine s_forR1 (n := n) (ea_cons (ev_var rfl) ea_nil) (by omega) (fun o σ' H' => ∃ y7, σ' = [some (.ref p), some (.ref cl), some (.ref rp), some (.int n), some (.ref a), some (.int c), some (.int ((1 + c : Nat) : Int)), y7] ∧ Ex H H' ∧
        H' a = some (.lst (Vi ((List.range o).foldl (fun m o => if o = 1 + c then m else (m.set ((1 + c) * n + o) (ent n m 0 o)).set (o * n + (1 + c)) (ent n (m.set ((1 + c) * n + o) (ent n m 0 o)) o 0)) m2))))
        (fun H4 e4 => ⟨_, rfl, (e2.trans e3).trans e4, e4 a _ (e3 a _ a2)⟩) ?_ ?_
      · rintro o σ' H4 ho ⟨y7, rfl, e4, a4⟩
        have ho : o < n := by omega
        have l4 := set1_len (c := c) o l2
        have sc := fold_succ (f := fun m o => if o = 1 + c then m else (m.set ((1 + c) * n + o) (ent n m 0 o)).set (o * n + (1 + c)) (ent n (m.set ((1 + c) * n + o) (ent n m 0 o)) o 0)) (n := o) (a := m2)
        rw [sc]
        generalize (List.range o).foldl (fun m o => if o = 1 + c then m else (m.set ((1 + c) * n + o) (ent n m 0 o)).set (o * n + (1 + c)) (ent n (m.set ((1 + c) * n + o) (ent n m 0 o)) o 0)) m2 = m4 at a4 l4
        have hne : (decide (V.int (o : Int) = V.int ((1 + c : Nat) : Int))) = decide (o = 1 + c) := by
          simp only [V.int.injEq, decide_eq_decide]
          omega
        refine s_when (b := !decide (o = 1 + c)) (et_is (et_test (ev_op (ev_var rfl) (ev_var rfl) (rv_ne rfl))) (by rw [hne])) (fun hb H5 e5 => ?_) (fun hb H5 e5 => ?_)
        · have hoc : ¬ o = 1 + c := by simpa using hb
          have i1 := Zn.ix_lt okc ho
          have i2 := Zn.ix_lt ho okc
          have i3 : o < n * n := Nat.lt_of_lt_of_le ho (Nat.le_mul_of_pos_left n (by omega))
          have i4 : o * n < n * n := by
            have := Zn.ix_lt (j := 0) ho (by omega)
            exact this
          have a5 := e5 a _ a4
          have v1 : m4.getD o 0 = ent n m4 0 o := by
            unfold ent
            rw [Nat.zero_mul, Nat.zero_add]
          refine q_setL (j := (1 + c) * n + o) a5 (ev_op (ev_var rfl) (ev_var rfl) (rv_ixL (sql_of a5) (at_flat l4 i3))) (ev_var rfl) (ev_is (ev_op (ev_op (ev_var rfl) (ev_var rfl) (rv_mul (by omega))) (ev_var rfl) rv_I0) (by simp)) (by rw [List.length_map, l4]; exact i1) fun H6 e6 => ?_
          rw [v1]
          have a6 : (upd H6 a (.lst ((Vi m4).set ((1 + c) * n + o) (.int (ent n m4 0 o))))) a = some (.lst (Vi (m4.set ((1 + c) * n + o) (ent n m4 0 o)))) := by
            rw [upd_same]
            show some (HO.lst ((List.map V.int m4).set _ _)) = some (HO.lst (List.map V.int (m4.set _ _)))
            rw [List.map_set]
          have l6 : (m4.set ((1 + c) * n + o) (ent n m4 0 o)).length = n * n := by rw [List.length_set]; exact l4
          have e6' := (e4.trans (e5.trans e6)).mut (o := .lst ((Vi m4).set ((1 + c) * n + o) (.int (ent n m4 0 o)))) na
          generalize upd H6 a (.lst ((Vi m4).set ((1 + c) * n + o) (.int (ent n m4 0 o)))) = H7 at a6 e6'
          rw [if_neg hoc]
          generalize m4.set ((1 + c) * n + o) (ent n m4 0 o) = m5 at a6 l6
          refine s_setL (j := o * n + (1 + c)) a6 (ev_op (ev_var rfl) (ev_op (ev_var rfl) (ev_var rfl) (rv_mul (by omega))) (rv_ixL (sql_of a6) (v := .int (ent n m5 o 0)) ?_)) (ev_var rfl) (ev_is (ev_op (ev_op (ev_var rfl) (ev_var rfl) (rv_mul (by omega))) (ev_var rfl) rv_I0) (by simp)) (by rw [List.length_map, l6]; exact i2) fun H8 e8 => ?_
          · have := at_flat l6 i4
            rw [show ((o * n : Nat) : Int) = (o : Int) * (n : Int) by simp] at this
            exact this
          · refine ⟨_, rfl, (e6'.trans e8).mut na, ?_⟩
            rw [upd_same]
            show some (HO.lst ((List.map V.int m5).set _ _)) = some (HO.lst (List.map V.int (m5.set _ _)))
            rw [List.map_set]
        · have hoc : o = 1 + c := by simpa using hb
          refine ⟨_, rfl, e4.trans e5, ?_⟩
          rw [if_pos hoc]
          exact e5 a _ a4
      · rintro σ' H4 ⟨y7, rfl, e4, a4⟩
        exact ⟨_, _, _, rfl, e4, a4, set1_len (c := c) n l2⟩
    · rintro σ' H2 ⟨y5, y6, y7, rfl, e2, a2, l2⟩
      rw [List.length_map, List.take_length] at a2
      exact s_retP (evp_tup (K := K) (eu_tupV (ev_var rfl) (sql_of a2))) fun v H3 e3 hv => q v H3 (e2.trans e3) hv
end
end K33

namespace K33
open PySem PySem.Spec PyProof.Rows L2 Gz Evl
open Zn (ent fwF phaseF rowF stepF tightF fold_succ Gd putG withF passF set1 setF leF Zone)
section
variable {P : Program} {w : World} {K : PySem.W.Frag} {mg : Str → Option Value} {base : Heap}
theorem vi_at {m : List Int} {i : Nat} {x : V} (h : (Vi m)[i]? = some x) : ∃ z, m[i]? = some z ∧ x = .int z := by
  rw [List.getElem?_map] at h
  obtain ⟨z, h1, h2⟩ := Option.map_eq_some_iff.mp h
  exact ⟨z, h1, h2.symm⟩
theorem rep_at {α β : Type} {l : List α} {b : β} {f : β → V} {i : Nat} {y : V} (h : ((l.map fun _ => b).map f)[i]? = some y) : y = f b := by
  rw [List.map_map, List.getElem?_map] at h
  obtain ⟨z, h1, h2⟩ := Option.map_eq_some_iff.mp h
  exact h2.symm
theorem all_rep {α : Type} (l : List α) : (l.map fun _ => true).all id = true := by simp
theorem any_rep {α : Type} (l : List α) : (l.map fun _ => false).any id = false := by simp
def spLies (K : PySem.W.Frag) : Sp := fun as H Q _ => ∃ (a b : Addr) (m m' : List Int), as = [.ref a, .ref b] ∧ SqT K H a (Vi m) ∧ SqT K H b (Vi m') ∧ m.length = m'.length ∧ m.length ≤ 40000 ∧ RetV (.bl (leF m m')) H Q
theorem ok_lies_within (T : Top K mg) : FnOk P w K mg base CX0 1 T.f_lies_within T.d_lies_within ["one", "other"] (spLies K) := by
  refine T.F_lies_within.ok sc_lies_within (fun as H Q E h => ?_) (fun cdv A outer s H as Q E hr h => ?_)
  · obtain ⟨a, b, m, m', rfl, _⟩ := h
    rfl
  · obtain ⟨a, b, m, m', rfl, ha, hb, hl, hz, q⟩ := h
    refine ⟨_, (pss_one (ps_ret (pe_callB (cr_allK (K := K) rfl rfl) (by rfl) T.m_all (by decide +kernel) (pa_cons (pe_lc (own := [("mine", 2), ("its", 3)]) (g := gTup K 2 (gCons (gName 2) (gCons (gName 3) gNil))) (tt := tYes) rfl sc_lies_within.nd (pi_zipK (K := K) rfl (by rfl) T.m_zip (pa_cons (pv 0) (pa_cons (pv 1) pa_nil))) (blkOk_by (own := [("mine", 2), ("its", 3)]) (N := N_lies_within) (sc := defScope s_lies_within) (by decide +kernel)) (fun _ _ _ _ _ => (pg_tup rfl (pgs_cons (pg_name (i := 2) sc_lies_within.nd rfl (.inl rfl)) (pgs_cons (pg_name (i := 3) sc_lies_within.nd rfl (.inl rfl)) pgs_nil)))) (fun _ _ _ _ _ => pts_nil) (fun _ _ _ _ _ => (pe_cmpR op_le (pv 2) (pv 3) (nomark _)))) pa_nil)))), ?_⟩
    refine s_ret (ev_all (bs := (m.zip m').map fun p => decide (p.1 ≤ p.2)) (el_zipT (ea_cons (ev_var rfl) (ea_cons (ev_var rfl) ea_nil)) ha hb (by simp [hl]) (by simp [hl]) (by simpa using hz) (fun x y => rfl) ?_)) fun H1 e => ?_
    · intro i x z y H1 e hx hz2 hy
      obtain ⟨x, hx1, rfl⟩ := vi_at hx
      obtain ⟨z, hz3, rfl⟩ := vi_at hz2
      rw [List.getElem?_map, List.getElem?_map, (List.getElem?_zip_eq_some (z := (x, z))).mpr ⟨hx1, hz3⟩] at hy
      obtain rfl := Option.some.inj hy
      exact ev_op (ev_var rfl) (ev_var rfl) rv_I0
    · rw [all_map_id]
      exact q H1 e
/-! ### the look at a zone -/
theorem zone_ent1 {n c : Nat} {m : List Int} (h : Zone n c m) {i : Nat} (hi : i < n) : ent n m i i = 1 := (Zn.dec_some (h.dia i hi)).1
theorem zone_row {n c : Nat} {m : List Int} (h : Zone n c m) {j : Nat} (hj : j < n) : m.getD j 0 ≤ 1 := by
  obtain ⟨a, e, ha, _⟩ := h.row j hj
  have := (Zn.dec_some e).1
  unfold ent at this
  rw [Nat.zero_mul, Nat.zero_add] at this
  omega
def spZoneOf (K : PySem.W.Frag) : Sp := fun as H Q _ => ∃ (k n c : Nat) (p : Addr) (m : List Int), as = [.int k, .ref p] ∧ SqT K H p (Vi m) ∧ Zone n c m ∧ c ≤ 600 ∧ k ≤ 10 ∧ RetV (.bl (decide (k + 1 = n))) H Q
theorem ok_is_zone_of (T : Top K mg) : FnOk P w K mg base CX0 3 T.f_is_zone_of T.d_is_zone_of ["many", "value"] (spZoneOf K) := by
  have G_is_integer := ok_is_integer (P := P) (w := w) (base := base) T
  have G_is_between := ok_is_between (P := P) (w := w) (base := base) T
  have G_tight := ok_tight (P := P) (w := w) (base := base) T
  refine T.F_is_zone_of.ok sc_is_zone_of (fun as H Q E h => ?_) (fun cdv A outer s H as Q E hr h => ?_)
  · obtain ⟨k, n, c, p, m, rfl, _⟩ := h
    rfl
  · obtain ⟨k, n, c, p, m, rfl, hs, hz, hc, hk, q⟩ := h
    refine ⟨_, (pss_cons (ps_set (i := 2) sc_is_zone_of.nd rfl (.inr rfl) (pe_op op_add (pv 0) pe_int))
  (pss_cons (ps_if (PW.pt (pw_or (pt_not (pt_val (pe_callB (call_isiK' (K := K) rfl) (by rfl) T.m_isinstance (by decide +kernel) (pa_cons (pv 1) (pa_cons (pe_bltn (v := .ty "tuple") (by rfl) T.m_tuple (by decide +kernel) rfl) pa_nil))))) (pw_or (pt_cmpR op_ne (pe_callB (call_lenK (K := K) rfl) (by rfl) T.m_len PySem.boot_len (pa_cons (pv 1) pa_nil)) (pe_op op_mul (pv 2) (pv 2)) (nomark _)) (pw_or1 (pt_not (pt_val (pe_callB (cr_allK (K := K) rfl rfl) (by rfl) T.m_all (by decide +kernel) (pa_cons (pe_lc (own := [("bound", 3)]) (g := gName 3) (tt := tYes) rfl sc_is_zone_of.nd (pi_tupK (K := K) rfl (pv 1)) (blkOk_by (own := [("bound", 3)]) (N := N_is_zone_of) (sc := defScope s_is_zone_of) (by decide +kernel)) (fun _ _ _ _ _ => (pg_name (i := 3) sc_is_zone_of.nd rfl (.inl rfl))) (fun _ _ _ _ _ => pts_nil) (fun _ _ _ _ _ => (pe_call G_is_integer (hr.mono (by decide)) (by rfl) T.g_is_integer T.F_is_integer.kp T.b_is_integer .nil pass0 (pa_cons (pv 3) pa_nil)))) pa_nil)))))))) (pss_one (ps_ret pe_bl)) pss_nil)
  (pss_cons (ps_if (pt_not (pt_val (pe_callB (cr_allK (K := K) rfl rfl) (by rfl) T.m_all (by decide +kernel) (pa_cons (pe_lc (own := [("bound", 3)]) (g := gName 3) (tt := tYes) rfl sc_is_zone_of.nd (pi_tupK (K := K) rfl (pv 1)) (blkOk_by (own := [("bound", 3)]) (N := N_is_zone_of) (sc := defScope s_is_zone_of) (by decide +kernel)) (fun _ _ _ _ _ => (pg_name (i := 3) sc_is_zone_of.nd rfl (.inl rfl))) (fun _ _ _ _ _ => pts_nil) (fun _ _ _ _ _ => (pe_or (pe_cmpR op_eq (pv 3) (pe_glob (v := .int 1000000) (by rfl) T.c_FAR ⟨_, rfl⟩) (nomark _)) (pe_one (pe_call G_is_between (hr.mono (by decide)) (by rfl) T.g_is_between T.F_is_between.kp T.b_is_between .nil pass0 (pa_cons (pv 3) (pa_cons (pe_op op_sub pe_int (pe_glob (v := .int 200000) (by rfl) T.c_MOST_BOUND ⟨_, rfl⟩)) (pa_cons (pe_glob (v := .int 200000) (by rfl) T.c_MOST_BOUND ⟨_, rfl⟩) pa_nil)))))))) pa_nil)))) (pss_one (ps_ret pe_bl)) pss_nil)
  (pss_cons (ps_if (pt_val (pe_callB (cr_anyK (K := K) rfl rfl) (by rfl) T.m_any (by decide +kernel) (pa_cons (pe_lc (own := [("column", 4)]) (g := gName 4) (tt := tYes) rfl sc_is_zone_of.nd (pi_range1 (by rfl) T.m_range (pa_cons (pv 2) pa_nil)) (blkOk_by (own := [("column", 4)]) (N := N_is_zone_of) (sc := defScope s_is_zone_of) (by decide +kernel)) (fun _ _ _ _ _ => (pg_name (i := 4) sc_is_zone_of.nd rfl (.inl rfl))) (fun _ _ _ _ _ => pts_nil) (fun _ _ _ _ _ => (pe_cmpR op_gt (pe_ix (ix_tupK (K := K) rfl) (pv 1) (pv 4) (fun _ _ => rfl)) (pe_glob (v := .int 1) (by rfl) T.c_NOUGHT ⟨_, rfl⟩) (nomark _)))) pa_nil))) (pss_one (ps_ret pe_bl)) pss_nil)
  (pss_cons (ps_if (pt_not (pt_val (pe_callB (cr_allK (K := K) rfl rfl) (by rfl) T.m_all (by decide +kernel) (pa_cons (pe_lc (own := [("at", 5)]) (g := gName 5) (tt := tYes) rfl sc_is_zone_of.nd (pi_range1 (by rfl) T.m_range (pa_cons (pv 2) pa_nil)) (blkOk_by (own := [("at", 5)]) (N := N_is_zone_of) (sc := defScope s_is_zone_of) (by decide +kernel)) (fun _ _ _ _ _ => (pg_name (i := 5) sc_is_zone_of.nd rfl (.inl rfl))) (fun _ _ _ _ _ => pts_nil) (fun _ _ _ _ _ => (pe_cmpR op_eq (pe_ix (ix_tupK (K := K) rfl) (pv 1) (pe_op op_add (pe_op op_mul (pv 5) (pv 2)) (pv 5)) (fun _ _ => rfl)) (pe_glob (v := .int 1) (by rfl) T.c_NOUGHT ⟨_, rfl⟩) (nomark _)))) pa_nil)))) (pss_one (ps_ret pe_bl)) pss_nil)
  (pss_one (ps_ret (pe_cmpR (op_eqDK (K := K) rfl hr.units) (pe_call G_tight (hr.mono (by decide)) (by rfl) T.g_tight T.F_tight.kp T.b_tight .nil pass0 (pa_cons (pe_callTy (call_listK (K := K) rfl) (by rfl) T.m_list (by decide +kernel) (pa_cons (pv 1) pa_nil)) (pa_cons (pv 2) pa_nil))) (pv 1) (nomark _))))))))), ?_⟩
    have hn := hz.size
    have hl := hz.len
    have hl2 : m.length ≤ 16 := by
      have : n * n ≤ 4 * 4 := Nat.mul_le_mul hn.2 hn.2
      omega
    refine q_asg (v := .int ((k + 1 : Nat) : Int)) (ev_is (ev_op (ev_var rfl) ev_c rv_I0) (by simp)) fun H1 e1 => ?_
    have hs1 := ex_t e1 hs
    have len2 : ∀ {H2 : Hp}, Ex H1 H2 → Ev _ _ H2 _ := fun {H2} e => ev_lenT (σ := [some (.int (k : Int)), some (.ref p), some (.int ((k + 1 : Nat) : Int)), none, none, none]) (ta := tVar 1) (ev_var rfl) (ex_t e hs1)
    have allInts : EvL _ _ H1 ((m.map fun _ => true).map V.bl) := el_mapT (σ := [some (.int (k : Int)), some (.ref p), some (.int ((k + 1 : Nat) : Int)), none, none, none]) (vs := [3]) (j := 3) (tl := tVar 1) (te := tCall spIsInt [] E0 (tCons (tVar 3) tNil))
      (ev_var rfl) hs1 (by simp) (by simp; omega) (fun x => rfl) (fun i x y H2 e hx hy => by
        obtain ⟨z, hz2, rfl⟩ := vi_at hx
        rw [rep_at hy]
        exact ev_call (ea_cons (ev_var rfl) ea_nil) fun H1 e Q q E => ⟨z, rfl, q⟩)
    by_cases hkn : k + 1 = n
    · subst hkn
      refine q_skip (et_is (et_or (et_not (et_B (ev_isiT (ev_var rfl) hs1))) fun _ => et_or (et_test (ev_op (len2 (Evl.Ex.refl _)) (ev_op (ev_var rfl) (ev_var rfl) (rv_mul (by omega))) (rv_ne rfl))) fun _ => et_not (et_B (ev_all allInts))) (by
        rw [all_rep, List.length_map, hl]
        simp)) fun H2 e2 => ?_
      have hs2 := ex_t e2 hs1
      refine q_skip (et_is (et_not (et_B (ev_all (bs := m.map fun _ => true) (el_mapT (ev_var rfl) hs2 (by simp) (by simp; omega) (fun x => rfl) fun i x y H3 e hx hy => ?_)))) (by rw [all_rep]; rfl)) fun H3 e3 => ?_
      · obtain ⟨z, hz2, rfl⟩ := vi_at hx
        rw [rep_at hy]
        refine ev_is (ev_orV (b := true) (ev_op (ev_var rfl) ev_c (rv_eq rfl)) fun hne => ev_is (ev_call (ea_cons (ev_var rfl) (ea_cons (ev_op ev_c ev_c rv_I0) (ea_cons ev_c ea_nil))) fun H1 e Q q E => ⟨_, _, _, rfl, q⟩) ?_) (by simp)
        have hb := (Zn.zone_mem hz (List.mem_of_getElem? hz2)).resolve_left (by simpa using hne)
        simp
        omega
      have hs3 := ex_t e3 hs2
      refine q_skip (et_is (et_B (ev_any (bs := (List.range (k + 1)).map fun _ => false) (el_mapR (n := ((k + 1 : Nat) : Int)) (ea_cons (ev_var rfl) ea_nil) (by omega) (by simp) (fun x => rfl) fun i y H4 e hy => ?_))) (any_rep _)) fun H4 e4 => ?_
      · rw [rep_at hy]
        have hi : i < k + 1 := by
          have := (List.getElem?_eq_some_iff.mp hy).1
          simpa using this
        have i3 : i < (k + 1) * (k + 1) := Nat.lt_of_lt_of_le hi (Nat.le_mul_of_pos_left _ (by omega))
        have hrow := zone_row hz hi
        refine ev_is (ev_op (ev_op (ev_var rfl) (ev_var rfl) (rv_ixT (ex_t e hs3) (at_flat hl i3))) ev_c rv_I0) ?_
        simp
        simpa using hrow
      have hs4 := ex_t e4 hs3
      refine q_skip (et_is (et_not (et_B (ev_all (bs := (List.range (k + 1)).map fun _ => true) (el_mapR (n := ((k + 1 : Nat) : Int)) (ea_cons (ev_var rfl) ea_nil) (by omega) (by simp) (fun x => rfl) fun i y H5 e hy => ?_)))) (by rw [all_rep]; rfl)) fun H5 e5 => ?_
      · rw [rep_at hy]
        have hi : i < k + 1 := by
          have := (List.getElem?_eq_some_iff.mp hy).1
          simpa using this
        refine ev_is (ev_op (ev_op (ev_var rfl) (ev_op (ev_op (ev_var rfl) (ev_var rfl) (rv_mul (by omega))) (ev_var rfl) rv_I0) (rv_ixT (ex_t e hs4) (at_ent hl hi hi))) ev_c (rv_eq rfl)) ?_
        rw [zone_ent1 hz hi]
        rfl
      have hs5 := ex_t e5 hs4
      -- return tight(list(value), size) == value
      refine el_listT (ev_var rfl) hs5 H5 (Evl.Ex.refl _) _ fun a H6 na e6 ha => ?_
      refine ⟨_, rfl, a, k + 1, m, rfl, ha, hl, by omega, fun v H7 b hv => ?_⟩
      rw [Zn.tight_self hz hc] at hv
      obtain ⟨p2, rfl, h2⟩ := hv
      have e7 : Ex H H7 := Ex.but ((((e1.trans e2).trans e3).trans e4).trans (e5.trans e6)) (by
        cases hh : H a with
        | none => rfl
        | some o => rw [((((e1.trans e2).trans e3).trans e4).trans e5) a o hh] at na; cases na) b
      refine ⟨_, rfl, _, _, dp_tup h2, dp_tup (ex_t e7 hs), shaped_ints m, shaped_ints m, ?_⟩
      rw [eqv_same _ (lay_tup m)]
      have := q H7 e7
      rw [decide_eq_true rfl] at this
      exact this
    · have hne : m.length ≠ (k + 1) * (k + 1) := by
        rw [hl]
        intro e
        rcases Nat.lt_trichotomy n (k + 1) with z | z | z
        · have := Nat.mul_lt_mul'' z z
          omega
        · omega
        · have := Nat.mul_lt_mul'' z z
          omega
      refine q_when (b := true) (et_is (et_or (et_not (et_B (ev_isiT (ev_var rfl) hs1))) fun _ => et_or (b := true) (et_is (b := true) (et_test (ev_op (len2 (Evl.Ex.refl _)) (ev_op (ev_var rfl) (ev_var rfl) (rv_mul (by omega))) (rv_ne rfl))) ?_) fun z => nomatch z) (by simp)) (fun _ H2 e2 => ?_) (fun z => nomatch z)
      · simp only [List.length_map]
        simp only [Bool.not_eq_true', decide_eq_false_iff_not, V.int.injEq]
        intro z
        exact hne (by exact_mod_cast z)
      · have := q
        rw [decide_eq_false hkn] at this
        exact s_ret ev_c fun H3 e3 => this H3 ((e1.trans e2).trans e3)
end
end K33

namespace K33
open PySem PySem.Spec PyProof.Rows L2 Gz Evl
open Zn (ent fwF phaseF rowF stepF tightF fold_succ Gd putG withF passF set1 setF leF Zone inF Fr)
section
variable {P : Program} {w : World} {K : PySem.W.Frag} {mg : Str → Option Value} {base : Heap}
/-- a zone stands at p -/
def ZAt (K : PySem.W.Frag) (H : Hp) (p : Addr) (n c : Nat) (m : List Int) : Prop := SqT K H p (Vi m) ∧ Zone n c m ∧ c ≤ 600
theorem ZAt.ex {H H' : Hp} {p : Addr} {n c : Nat} {m : List Int} (e : Ex H H') (h : ZAt K H p n c m) : ZAt K H' p n c m := ⟨ex_t e h.1, h.2⟩
theorem ZAt.len {H : Hp} {p : Addr} {n c : Nat} {m : List Int} (h : ZAt K H p n c m) : (Vi m).length = n * n := by rw [List.length_map]; exact h.2.1.len
def spIsZone (K : PySem.W.Frag) : Sp := fun as H Q _ => ∃ (p : Addr) (n c : Nat) (m : List Int), as = [.ref p] ∧ ZAt K H p n c m ∧ RetV (.bl true) H Q
theorem ok_is_zone (T : Top K mg) : FnOk P w K mg base CX0 4 T.f_is_zone T.d_is_zone ["value"] (spIsZone K) := by
  have G_is_zone_of := ok_is_zone_of (P := P) (w := w) (base := base) T
  refine T.F_is_zone.ok sc_is_zone (fun as H Q E h => ?_) (fun cdv A outer s H as Q E hr h => ?_)
  · obtain ⟨p, n, c, m, rfl, _⟩ := h
    rfl
  · obtain ⟨p, n, c, m, rfl, hz, q⟩ := h
    refine ⟨_, (pss_one (ps_ret (pe_callB (cr_anyK (K := K) rfl rfl) (by rfl) T.m_any (by decide +kernel) (pa_cons (pe_lc (own := [("many", 1)]) (g := gName 1) (tt := tYes) rfl sc_is_zone.nd (pi_tupK (K := K) rfl (pe_tup (pa_cons pe_int (pa_cons pe_int (pa_cons pe_int pa_nil))))) (blkOk_by (own := [("many", 1)]) (N := N_is_zone) (sc := defScope s_is_zone) (by decide +kernel)) (fun _ _ _ _ _ => (pg_name (i := 1) sc_is_zone.nd rfl (.inl rfl))) (fun _ _ _ _ _ => pts_nil) (fun _ _ _ _ _ => (pe_call G_is_zone_of (hr.mono (by decide)) (by rfl) T.g_is_zone_of T.F_is_zone_of.kp T.b_is_zone_of .nil pass0 (pa_cons (pv 1) (pa_cons (pv 0) pa_nil))))) pa_nil)))), ?_⟩
    have hn := hz.2.1.size
    refine s_ret (ev_any (bs := [1, 2, 3].map fun k : Nat => decide (k + 1 = n)) (el_mapNT (xs := [.int (1 : Int), .int (2 : Int), .int (3 : Int)]) (eu_tup (ea_cons ev_c (ea_cons ev_c (ea_cons ev_c ea_nil))) (by simp)) rfl (by simp) (fun x => rfl) fun i x y H1 e hx hy => ?_)) fun H1 e => ?_
    · have key : ∀ (k : Nat), k ≤ 10 → x = .int (k : Int) → y = .bl (decide (k + 1 = n)) → Ev (tCall (spZoneOf K) [] E0 (tCons (tVar 1) (tCons (tVar 0) tNil))) ((wipe (L2.start N_is_zone [.ref p]) [1]).set 1 (some x)) H1 y := by
        rintro k hk rfl rfl
        exact ev_call (ea_cons (ev_var rfl) (ea_cons (ev_var rfl) ea_nil)) fun H2 e2 Q q E => ⟨k, n, c, p, m, rfl, ex_t (e.trans e2) hz.1, hz.2.1, hz.2.2, hk, q⟩
      match i, hx, hy with
      | 0, hx, hy => exact key 1 (by decide) (Option.some.inj hx).symm (Option.some.inj hy).symm
      | 1, hx, hy => exact key 2 (by decide) (Option.some.inj hx).symm (Option.some.inj hy).symm
      | 2, hx, hy => exact key 3 (by decide) (Option.some.inj hx).symm (Option.some.inj hy).symm
      | i + 3, hx, hy => simp at hx
    · have : (([1, 2, 3].map fun k : Nat => decide (k + 1 = n)).any id) = true := by
        simp
        omega
      rw [this]
      exact q H1 e
def spCheck (K : PySem.W.Frag) : Sp := fun as H Q _ => ∃ (p : Addr) (n c : Nat) (m : List Int), as = [.ref p] ∧ ZAt K H p n c m ∧ RetV .non H Q
theorem ok_check_zone (T : Top K mg) : FnOk P w K mg base CX0 5 T.f_check_zone T.d_check_zone ["zone"] (spCheck K) := by
  have G_is_zone := ok_is_zone (P := P) (w := w) (base := base) T
  refine T.F_check_zone.ok sc_check_zone (fun as H Q E h => ?_) (fun cdv A outer s H as Q E hr h => ?_)
  · obtain ⟨p, n, c, m, rfl, _⟩ := h
    rfl
  · obtain ⟨p, n, c, m, rfl, hz, q⟩ := h
    refine ⟨_, (pss_one (ps_if (pt_not (pt_val (pe_call G_is_zone (hr.mono (by decide)) (by rfl) T.g_is_zone T.F_is_zone.kp T.b_is_zone .nil pass0 (pa_cons (pv 0) pa_nil)))) (pss_one ps_never) pss_nil)), ?_⟩
    exact s_when (b := false) (et_is (et_not (et_B (ev_call (ea_cons (ev_var rfl) ea_nil) fun H1 e Q q E => ⟨p, n, c, m, rfl, hz.ex e, q⟩))) rfl) (fun z => nomatch z) fun _ H1 e1 => q H1 e1
def spFirst (K : PySem.W.Frag) : Sp := fun as H Q _ => ∃ k : Nat, as = [.int k] ∧ 1 ≤ k ∧ k ≤ 3 ∧ RetP (IsT K (Vi (List.replicate ((k + 1) * (k + 1)) 1))) H Q
theorem ok_first_zone (T : Top K mg) : FnOk P w K mg base CX0 3 T.f_first_zone T.d_first_zone ["many"] (spFirst K) := by
  have G_is_between := ok_is_between (P := P) (w := w) (base := base) T
  have G_begin_zone := ok_begin_zone (P := P) (w := w) (base := base) T
  refine T.F_first_zone.ok sc_first_zone (fun as H Q E h => ?_) (fun cdv A outer s H as Q E hr h => ?_)
  · obtain ⟨k, rfl, _⟩ := h
    rfl
  · obtain ⟨k, rfl, h1, h2, q⟩ := h
    refine ⟨_, (pss_cons (ps_if (pt_not (pt_val (pe_call G_is_between (hr.mono (by decide)) (by rfl) T.g_is_between T.F_is_between.kp T.b_is_between .nil pass0 (pa_cons (pv 0) (pa_cons pe_int (pa_cons (pe_glob (v := .int 3) (by rfl) T.c_MOST_CLOCKS ⟨_, rfl⟩) pa_nil)))))) (pss_one ps_never) pss_nil)
  (pss_one (ps_ret (pe_call G_begin_zone (hr.mono (by decide)) (by rfl) T.g_begin_zone T.F_begin_zone.kp T.b_begin_zone .nil pass0 (pa_cons (pv 0) pa_nil))))), ?_⟩
    refine q_skip (et_is (et_not (et_B (ev_call (ea_cons (ev_var rfl) (ea_cons ev_c (ea_cons ev_c ea_nil))) fun H1 e Q q E => ⟨_, _, _, rfl, q⟩))) (by simp; omega)) fun H1 e1 => ?_
    exact s_retP (evp_call (ea_cons (ev_var rfl) ea_nil) fun H2 e2 Q q E => ⟨k, rfl, h1, by omega, q⟩) fun v H2 e2 hv => q v H2 (e1.trans e2) hv
def spLater (K : PySem.W.Frag) : Sp := fun as H Q _ => ∃ (p : Addr) (n c : Nat) (m : List Int), as = [.ref p] ∧ ZAt K H p n c m ∧ RetP (IsT K (Vi (passF n m))) H Q
theorem ok_later_zone (T : Top K mg) : FnOk P w K mg base CX0 6 T.f_later_zone T.d_later_zone ["zone"] (spLater K) := by
  have G_check_zone := ok_check_zone (P := P) (w := w) (base := base) T
  have G_passed := ok_passed (P := P) (w := w) (base := base) T
  refine T.F_later_zone.ok sc_later_zone (fun as H Q E h => ?_) (fun cdv A outer s H as Q E hr h => ?_)
  · obtain ⟨p, n, c, m, rfl, _⟩ := h
    rfl
  · obtain ⟨p, n, c, m, rfl, hz, q⟩ := h
    refine ⟨_, (pss_cons (ps_expr (pe_call G_check_zone (hr.mono (by decide)) (by rfl) T.g_check_zone T.F_check_zone.kp T.b_check_zone .nil pass0 (pa_cons (pv 0) pa_nil)))
  (pss_one (ps_ret (pe_call G_passed (hr.mono (by decide)) (by rfl) T.g_passed T.F_passed.kp T.b_passed .nil pass0 (pa_cons (pv 0) pa_nil))))), ?_⟩
    refine q_drop (ev_call (ea_cons (ev_var rfl) ea_nil) fun H1 e Q q E => ⟨p, n, c, m, rfl, hz.ex e, q⟩) fun H1 e1 => ?_
    have hn := hz.2.1.size
    exact s_retP (evp_call (ea_cons (ev_var rfl) ea_nil) fun H2 e2 Q q E => ⟨p, n, m, rfl, ex_t (e1.trans e2) hz.1, hz.2.1.len, by omega, by omega, q⟩) fun v H2 e2 hv => q v H2 (e1.trans e2) hv
def spBounds (K : PySem.W.Frag) : Sp := fun as H Q _ => ∃ (n : Nat) (gp : Addr) (gs : List Gd), as = [.int ((n : Int) - 1), .ref gp] ∧ GAt K H gp gs ∧ (∀ g ∈ gs, g.Ok n) ∧ gs.length ≤ 1000 ∧ RetV (.bl true) H Q
theorem gStr_cmp (g : Gd) : inV (.str (gStr g)) [.str "<", .str "<=", .str ">", .str ">="] = true := by
  unfold gStr
  cases g.up <;> cases g.le <;> decide +kernel
theorem at3a {a b c : V} : atI [a, b, c] 0 = some a := rfl
theorem at3b {a b c : V} : atI [a, b, c] 1 = some b := rfl
theorem at3c {a b c : V} : atI [a, b, c] 2 = some c := rfl
theorem ok_are_bounds (T : Top K mg) : FnOk P w K mg base CX0 3 T.f_are_bounds T.d_are_bounds ["many", "value"] (spBounds K) := by
  have G_is_between := ok_is_between (P := P) (w := w) (base := base) T
  refine T.F_are_bounds.ok sc_are_bounds (fun as H Q E h => ?_) (fun cdv A outer s H as Q E hr h => ?_)
  · obtain ⟨n, gp, gs, rfl, _⟩ := h
    rfl
  · obtain ⟨n, gp, gs, rfl, ⟨rs, g1, g2, g3⟩, ok, hl, q⟩ := h
    refine ⟨_, (pss_cons (ps_if (PW.pt (pw_or (pt_not (pt_val (pe_callB (call_isiK' (K := K) rfl) (by rfl) T.m_isinstance (by decide +kernel) (pa_cons (pv 1) (pa_cons (pe_bltn (v := .ty "tuple") (by rfl) T.m_tuple (by decide +kernel) rfl) pa_nil))))) (pw_or1 (pt_not (pt_val (pe_callB (cr_allK (K := K) rfl rfl) (by rfl) T.m_all (by decide +kernel) (pa_cons (pe_lc (own := [("row", 2)]) (g := gName 2) (tt := tYes) rfl sc_are_bounds.nd (pi_tupK (K := K) rfl (pv 1)) (blkOk_by (own := [("row", 2)]) (N := N_are_bounds) (sc := defScope s_are_bounds) (by decide +kernel)) (fun _ _ _ _ _ => (pg_name (i := 2) sc_are_bounds.nd rfl (.inl rfl))) (fun _ _ _ _ _ => pts_nil) (fun _ _ _ _ _ => (pe_and (pe_callB (call_isiK' (K := K) rfl) (by rfl) T.m_isinstance (by decide +kernel) (pa_cons (pv 2) (pa_cons (pe_bltn (v := .ty "tuple") (by rfl) T.m_tuple (by decide +kernel) rfl) pa_nil))) (pe_one (pe_cmpR op_eq (pe_callB (call_lenK (K := K) rfl) (by rfl) T.m_len PySem.boot_len (pa_cons (pv 2) pa_nil)) pe_int (nomark _)))))) pa_nil))))))) (pss_one (ps_ret pe_bl)) pss_nil)
  (pss_cons (ps_if (pt_not (pt_val (pe_callB (cr_allK (K := K) rfl rfl) (by rfl) T.m_all (by decide +kernel) (pa_cons (pe_lc (own := [("row", 2)]) (g := gName 2) (tt := tYes) rfl sc_are_bounds.nd (pi_tupK (K := K) rfl (pv 1)) (blkOk_by (own := [("row", 2)]) (N := N_are_bounds) (sc := defScope s_are_bounds) (by decide +kernel)) (fun _ _ _ _ _ => (pg_name (i := 2) sc_are_bounds.nd rfl (.inl rfl))) (fun _ _ _ _ _ => pts_nil) (fun _ _ _ _ _ => (pe_and (pe_callB (call_isiK' (K := K) rfl) (by rfl) T.m_isinstance (by decide +kernel) (pa_cons (pe_ix (ix_tupK (K := K) rfl) (pv 2) pe_int (fun _ _ => rfl)) (pa_cons (pe_bltn (v := .ty "str") (by rfl) T.m_str (by decide +kernel) rfl) pa_nil))) (pe_one (pe_cmpR (op_inK (K := K) rfl) (pe_ix (ix_tupK (K := K) rfl) (pv 2) pe_int (fun _ _ => rfl)) (pe_glob (v := .ref T.u_COMPARES) (by rfl) T.c_COMPARES rfl) (by rfl)))))) pa_nil)))) (pss_one (ps_ret pe_bl)) pss_nil)
  (pss_one (ps_ret (pe_callB (cr_allK (K := K) rfl rfl) (by rfl) T.m_all (by decide +kernel) (pa_cons (pe_lc (own := [("row", 2)]) (g := gName 2) (tt := tYes) rfl sc_are_bounds.nd (pi_tupK (K := K) rfl (pv 1)) (blkOk_by (own := [("row", 2)]) (N := N_are_bounds) (sc := defScope s_are_bounds) (by decide +kernel)) (fun _ _ _ _ _ => (pg_name (i := 2) sc_are_bounds.nd rfl (.inl rfl))) (fun _ _ _ _ _ => pts_nil) (fun _ _ _ _ _ => (pe_and (pe_call G_is_between (hr.mono (by decide)) (by rfl) T.g_is_between T.F_is_between.kp T.b_is_between .nil pass0 (pa_cons (pe_ix (ix_tupK (K := K) rfl) (pv 2) pe_int (fun _ _ => rfl)) (pa_cons pe_int (pa_cons (pe_op op_sub (pv 0) pe_int) pa_nil)))) (pe_one (pe_call G_is_between (hr.mono (by decide)) (by rfl) T.g_is_between T.F_is_between.kp T.b_is_between .nil pass0 (pa_cons (pe_ix (ix_tupK (K := K) rfl) (pv 2) pe_int (fun _ _ => rfl)) (pa_cons pe_int (pa_cons (pe_glob (v := .int 12) (by rfl) T.c_MOST_MOMENT ⟨_, rfl⟩) pa_nil)))))))) pa_nil)))))), ?_⟩
    have row : ∀ {i : Nat} {x : V}, (rs.map V.ref)[i]? = some x → ∃ (r : Addr) (g : Gd), x = .ref r ∧ g.Ok n ∧ SqT K H r (gV g) := fun {i x} hx => by
      rw [List.getElem?_map] at hx
      obtain ⟨r, hr1, rfl⟩ := Option.map_eq_some_iff.mp hx
      have hi : i < gs.length := by
        rw [← g2]
        exact (List.getElem?_eq_some_iff.mp hr1).1
      exact ⟨r, gs[i], rfl, ok _ (List.getElem_mem hi), g3 i r _ hr1 (List.getElem?_eq_getElem hi)⟩
    refine q_skip (et_is (et_or (et_not (et_B (ev_isiT (ev_var rfl) g1))) fun _ => et_not (et_B (ev_all (bs := rs.map fun _ => true) (el_mapT (ev_var rfl) g1 (by simp) (by simp; omega) (fun x => rfl) fun i x y H3 e hx hy => ?_)))) (by rw [all_rep]; rfl)) fun H1 e1 => ?_
    · obtain ⟨r, g, rfl, okg, hs⟩ := row hx
      rw [rep_at hy]
      exact ev_is (ev_andV (ev_isiT (ev_var rfl) (ex_t e hs)) fun _ => ev_op (ev_lenT (ev_var rfl) (ex_t e hs)) ev_c (rv_eq rfl)) rfl
    refine q_skip (et_is (et_not (et_B (ev_all (bs := rs.map fun _ => true) (el_mapT (ev_var rfl) (ex_t e1 g1) (by simp) (by simp; omega) (fun x => rfl) fun i x y H3 e hx hy => ?_)))) (by rw [all_rep]; rfl)) fun H2 e2 => ?_
    · obtain ⟨r, g, rfl, okg, hs⟩ := row hx
      rw [rep_at hy]
      have hs := ex_t (e1.trans e) hs
      exact ev_is (ev_andV (ev_isiStr (ev_op (ev_var rfl) ev_c (rv_ixT hs at3b))) fun _ => ev_is (ev_op (ev_op (ev_var rfl) ev_c (rv_ixT hs at3b)) ev_c (rv_isT (T.q_COMPARES _) rfl rfl)) (congrArg V.bl (gStr_cmp g))) rfl
    refine s_ret (ev_all (bs := rs.map fun _ => true) (el_mapT (ev_var rfl) (ex_t (e1.trans e2) g1) (by simp) (by simp; omega) (fun x => rfl) fun i x y H3 e hx hy => ?_)) fun H3 e3 => ?_
    · obtain ⟨r, g, rfl, okg, hs⟩ := row hx
      rw [rep_at hy]
      have hs := ex_t ((e1.trans e2).trans e) hs
      obtain ⟨o1, o2⟩ := okg
      refine ev_is (ev_andV (ev_call (ea_cons (ev_op (ev_var rfl) ev_c (rv_ixT hs at3a)) (ea_cons ev_c (ea_cons (ev_op (ev_var rfl) ev_c rv_I0) ea_nil))) fun H1 e Q q E => ⟨_, _, _, rfl, q⟩) fun _ =>
        ev_call (ea_cons (ev_op (ev_var rfl) ev_c (rv_ixT hs at3c)) (ea_cons ev_c (ea_cons ev_c ea_nil))) fun H1 e Q q E => ⟨_, _, _, rfl, q⟩) ?_
      simp
      omega
    · rw [all_rep]
      exact q H3 ((e1.trans e2).trans e3)
/-- zone_with -/
def spWith (K : PySem.W.Frag) : Sp := fun as H Q _ => ∃ (p gp : Addr) (n c : Nat) (m : List Int) (gs : List Gd), as = [.ref p, .ref gp] ∧ ZAt K H p n c m ∧ GAt K H gp gs ∧ (∀ g ∈ gs, g.Ok n) ∧ gs.length ≤ 1000 ∧ RetP (IsO K ((withF n m gs).map Vi)) H Q
theorem rg_list {H : Hp} {σ : L2.St} {te : TE} {k : Int} (h : Ev te σ H (.int k)) (h0 : 0 ≤ k) (h1 : k ≤ 1000) : EvL (tLstRg (tRg1 te)) σ H (rgV 0 k) := fun H1 e Q q =>
  h H1 e _ fun H2 e2 => ⟨k, rfl, RgOk.of_le (by omega) (by omega) (by omega) h0, fun l hl => q l _ (fresh_back e2 hl) (e2.trans (Evl.Ex.new hl)) upd_same⟩
theorem ok_zone_with (T : Top K mg) : FnOk P w K mg base CX0 6 T.f_zone_with T.d_zone_with ["zone", "guard"] (spWith K) := by
  have G_check_zone := ok_check_zone (P := P) (w := w) (base := base) T
  have G_side_of := ok_side_of (P := P) (w := w) (base := base) T
  have G_are_bounds := ok_are_bounds (P := P) (w := w) (base := base) T
  have G_guarded := ok_guarded (P := P) (w := w) (base := base) T
  refine T.F_zone_with.ok sc_zone_with (fun as H Q E h => ?_) (fun cdv A outer s H as Q E hr h => ?_)
  · obtain ⟨p, gp, n, c, m, gs, rfl, _⟩ := h
    rfl
  · obtain ⟨p, gp, n, c, m, gs, rfl, hz, hg, ok, hgl, q⟩ := h
    refine ⟨_, (pss_cons (ps_expr (pe_call G_check_zone (hr.mono (by decide)) (by rfl) T.g_check_zone T.F_check_zone.kp T.b_check_zone .nil pass0 (pa_cons (pv 0) pa_nil)))
  (pss_cons (ps_set (i := 2) sc_zone_with.nd rfl (.inl rfl) (pe_op op_sub (pe_call G_side_of (hr.mono (by decide)) (by rfl) T.g_side_of T.F_side_of.kp T.b_side_of .nil pass0 (pa_cons (pv 0) pa_nil)) pe_int))
  (pss_cons (ps_if (pt_not (pt_val (pe_call G_are_bounds (hr.mono (by decide)) (by rfl) T.g_are_bounds T.F_are_bounds.kp T.b_are_bounds .nil pass0 (pa_cons (pv 2) (pa_cons (pv 1) pa_nil))))) (pss_one ps_never) pss_nil)
  (pss_cons (ps_set (i := 3) sc_zone_with.nd rfl (.inl rfl) (pe_call G_guarded (hr.mono (by decide)) (by rfl) T.g_guarded T.F_guarded.kp T.b_guarded .nil pass0 (pa_cons (pv 0) (pa_cons (pe_listRg rfl (by rfl) T.m_list (prg_1 (by rfl) T.m_range (pv 2))) (pa_cons (pv 1) pa_nil)))))
  (pss_cons (ps_if (PW.pt (pw_and (pt_cmpR op_notN (pv 3) pe_non (nomark _)) (pw_and1 (pt_val (pe_callB (cr_anyK (K := K) rfl rfl) (by rfl) T.m_any (by decide +kernel) (pa_cons (pe_lc (own := [("bound", 4)]) (g := gName 4) (tt := tYes) rfl sc_zone_with.nd (pi_tupK (K := K) rfl (pv 3)) (blkOk_by (own := [("bound", 4)]) (N := N_zone_with) (sc := defScope s_zone_with) (by decide +kernel)) (fun _ _ _ _ _ => (pg_name (i := 4) sc_zone_with.nd rfl (.inl rfl))) (fun _ _ _ _ _ => pts_nil) (fun _ _ _ _ _ => (pe_and (pe_cmpR op_ne (pv 4) (pe_glob (v := .int 1000000) (by rfl) T.c_FAR ⟨_, rfl⟩) (nomark _)) (pe_one (pe_cmpR op_gt (pe_callB call_abs (by rfl) T.m_abs (by decide +kernel) (pa_cons (pv 4) pa_nil)) (pe_glob (v := .int 200000) (by rfl) T.c_MOST_BOUND ⟨_, rfl⟩) (nomark _)))))) pa_nil)))))) (pss_one ps_never) pss_nil)
  (pss_one (ps_ret (pv 3)))))))), ?_⟩
    have hn := hz.2.1.size
    refine q_drop (ev_call (ea_cons (ev_var rfl) ea_nil) fun H1 e Q q E => ⟨p, n, c, m, rfl, hz.ex e, q⟩) fun H1 e1 => ?_
    refine q_asg (ev_op (ev_call (ea_cons (ev_var rfl) ea_nil) fun H2 e2 Q q E => ⟨p, Vi m, n, rfl, ex_t (e1.trans e2) hz.1, hz.len, by omega, by omega, q⟩) ev_c rv_I0) fun H2 e2 => ?_
    refine q_skip (et_is (et_not (et_B (ev_call (ea_cons (ev_var rfl) (ea_cons (ev_var rfl) ea_nil)) fun H3 e3 Q q E => ⟨n, gp, gs, rfl, hg.ex ((e1.trans e2).trans e3), ok, hgl, q⟩))) rfl) fun H3 e3 => ?_
    have e03 := (e1.trans e2).trans e3
    -- found = guarded(zone, list(range(many)), guard)
    refine q_asgP (P := IsO K ((withF n m gs).map Vi)) (fun H4 e4 Q' q' => ⟨.ref p, rfl, rg_list (ev_var rfl) (by omega) (by omega) H4 (Evl.Ex.refl _) _ fun l H5 _ e5 hl => ⟨.ref gp, rfl, p, l, gp, n, m, gs, rfl, ex_t ((e03.trans e4).trans e5) hz.1, ?_, hg.ex ((e03.trans e4).trans e5), hz.2.1.len, by omega, by omega, ok, fun v H6 e6 hv => q' v H6 (e5.trans e6) hv⟩⟩) fun v H4 e4 hv => ?_
    · rw [show ((n - 1 : Nat) : Int) = (n : Int) - 1 by omega]
      exact sql_of hl
    · have k := Zn.with_meet hz.2.1 hz.2.2 ok
      refine q_skip (t := _) ?_ fun H5 e5 => ?_
      · cases hw : withF n m gs with
        | none =>
          rw [hw] at hv
          obtain rfl := (show v = .non from hv)
          exact et_is (et_and (b := false) (et_test (ev_notN (ev_var rfl))) fun z => by simp at z) (by simp)
        | some r =>
          rw [hw] at hv k
          obtain ⟨a, rfl, ha⟩ := hv
          have zr := Zn.with_zone hz.2.1 ok k
          have hrl : r.length ≤ 16 := by
            have : n * n ≤ 4 * 4 := Nat.mul_le_mul hn.2 hn.2
            have := zr.len
            omega
          refine et_is (et_and (et_test (ev_notN (ev_var rfl))) fun z => et_B (ev_any (bs := r.map fun _ => false) (el_mapT (ev_var rfl) ha (by simp) (by simp; omega) (fun x => rfl) fun i x y H5 e hx hy => ?_))) (by rw [any_rep]; simp)
          obtain ⟨z, hz2, rfl⟩ := vi_at hx
          rw [rep_at hy]
          refine ev_is (ev_andV (b := false) (ev_op (ev_var rfl) ev_c (rv_ne rfl)) fun hne => ev_is (ev_op (ev_abs (ev_var rfl)) ev_c rv_I0) ?_) (by simp)
          have hb := (Zn.zone_mem zr (List.mem_of_getElem? hz2)).resolve_left (by simpa using hne)
          have hc := hz.2.2
          rw [abs_nat]
          simp
          omega
      · exact s_ret (ev_var rfl) fun H6 e6 => q v H6 ((e03.trans e4).trans (e5.trans e6)) (IsO.mono (e5.trans e6) hv)
/-- zone_set -/
def spSet (K : PySem.W.Frag) : Sp := fun as H Q _ => ∃ (p rp : Addr) (n c : Nat) (m : List Int) (cs : List Nat), as = [.ref p, .ref rp] ∧ ZAt K H p n c m ∧ SqT K H rp (Vn cs) ∧ (∀ x ∈ cs, 1 + x < n) ∧ cs.length ≤ 1000 ∧ RetP (IsT K (Vi (setF n cs m))) H Q
theorem ok_zone_set (T : Top K mg) : FnOk P w K mg base CX0 6 T.f_zone_set T.d_zone_set ["zone", "places"] (spSet K) := by
  have G_check_zone := ok_check_zone (P := P) (w := w) (base := base) T
  have G_side_of := ok_side_of (P := P) (w := w) (base := base) T
  have G_is_between := ok_is_between (P := P) (w := w) (base := base) T
  have G_set_back := ok_set_back (P := P) (w := w) (base := base) T
  refine T.F_zone_set.ok sc_zone_set (fun as H Q E h => ?_) (fun cdv A outer s H as Q E hr h => ?_)
  · obtain ⟨p, rp, n, c, m, cs, rfl, _⟩ := h
    rfl
  · obtain ⟨p, rp, n, c, m, cs, rfl, hz, hg, ok, hgl, q⟩ := h
    refine ⟨_, (pss_cons (ps_expr (pe_call G_check_zone (hr.mono (by decide)) (by rfl) T.g_check_zone T.F_check_zone.kp T.b_check_zone .nil pass0 (pa_cons (pv 0) pa_nil)))
  (pss_cons (ps_set (i := 2) sc_zone_set.nd rfl (.inr rfl) (pe_op op_sub (pe_call G_side_of (hr.mono (by decide)) (by rfl) T.g_side_of T.F_side_of.kp T.b_side_of .nil pass0 (pa_cons (pv 0) pa_nil)) pe_int))
  (pss_cons (ps_if (PW.pt (pw_or (pt_not (pt_val (pe_callB (call_isiK' (K := K) rfl) (by rfl) T.m_isinstance (by decide +kernel) (pa_cons (pv 1) (pa_cons (pe_bltn (v := .ty "tuple") (by rfl) T.m_tuple (by decide +kernel) rfl) pa_nil))))) (pw_or1 (pt_not (pt_val (pe_callB (cr_allK (K := K) rfl rfl) (by rfl) T.m_all (by decide +kernel) (pa_cons (pe_lc (own := [("place", 3)]) (g := gName 3) (tt := tYes) rfl sc_zone_set.nd (pi_tupK (K := K) rfl (pv 1)) (blkOk_by (own := [("place", 3)]) (N := N_zone_set) (sc := defScope s_zone_set) (by decide +kernel)) (fun _ _ _ _ _ => (pg_name (i := 3) sc_zone_set.nd rfl (.inl rfl))) (fun _ _ _ _ _ => pts_nil) (fun _ _ _ _ _ => (pe_call G_is_between (hr.mono (by decide)) (by rfl) T.g_is_between T.F_is_between.kp T.b_is_between .nil pass0 (pa_cons (pv 3) (pa_cons pe_int (pa_cons (pe_op op_sub (pv 2) pe_int) pa_nil)))))) pa_nil))))))) (pss_one ps_never) pss_nil)
  (pss_one (ps_ret (pe_call G_set_back (hr.mono (by decide)) (by rfl) T.g_set_back T.F_set_back.kp T.b_set_back .nil pass0 (pa_cons (pv 0) (pa_cons (pe_listRg rfl (by rfl) T.m_list (prg_1 (by rfl) T.m_range (pv 2))) (pa_cons (pv 1) pa_nil))))))))), ?_⟩
    have hn := hz.2.1.size
    refine q_drop (ev_call (ea_cons (ev_var rfl) ea_nil) fun H1 e Q q E => ⟨p, n, c, m, rfl, hz.ex e, q⟩) fun H1 e1 => ?_
    refine q_asg (ev_op (ev_call (ea_cons (ev_var rfl) ea_nil) fun H2 e2 Q q E => ⟨p, Vi m, n, rfl, ex_t (e1.trans e2) hz.1, hz.len, by omega, by omega, q⟩) ev_c rv_I0) fun H2 e2 => ?_
    have hg2 := ex_t (e1.trans e2) hg
    refine q_skip (et_is (et_or (et_not (et_B (ev_isiT (ev_var rfl) hg2))) fun _ => et_not (et_B (ev_all (bs := cs.map fun _ => true) (el_mapT (ev_var rfl) hg2 (by simp) (by simp; omega) (fun x => rfl) fun i x y H3 e hx hy => ?_)))) (by rw [all_rep]; rfl)) fun H3 e3 => ?_
    · rw [List.getElem?_map] at hx
      obtain ⟨z, hz2, rfl⟩ := Option.map_eq_some_iff.mp hx
      rw [rep_at hy]
      have := ok z (List.mem_of_getElem? hz2)
      refine ev_is (ev_call (ea_cons (ev_var rfl) (ea_cons ev_c (ea_cons (ev_op (ev_var rfl) ev_c rv_I0) ea_nil))) fun H1 e Q q E => ⟨_, _, _, rfl, q⟩) ?_
      simp
      omega
    have e03 := (e1.trans e2).trans e3
    refine s_retP (P := IsT K (Vi (setF n cs m))) (fun H4 e4 Q' q' => ⟨.ref p, rfl, rg_list (ev_var rfl) (by omega) (by omega) H4 (Evl.Ex.refl _) _ fun l H5 _ e5 hl => ⟨.ref rp, rfl, p, l, rp, n, m, cs, rfl, ex_t ((e03.trans e4).trans e5) hz.1, ?_, ex_t ((e03.trans e4).trans e5) hg, hz.2.1.len, by omega, by omega, ok, fun v H6 e6 hv => q' v H6 (e5.trans e6) hv⟩⟩) fun v H4 e4 hv => q v H4 (e03.trans e4) hv
    rw [show ((n - 1 : Nat) : Int) = (n : Int) - 1 by omega]
    exact sql_of hl
/-- is_zone_within -/
def spWithin (K : PySem.W.Frag) : Sp := fun as H Q _ => ∃ (p p2 : Addr) (n c d : Nat) (m m' : List Int), as = [.ref p, .ref p2] ∧ ZAt K H p n c m ∧ ZAt K H p2 n d m' ∧ RetV (.bl (leF m m')) H Q
theorem ok_is_zone_within (T : Top K mg) : FnOk P w K mg base CX0 6 T.f_is_zone_within T.d_is_zone_within ["one", "other"] (spWithin K) := by
  have G_check_zone := ok_check_zone (P := P) (w := w) (base := base) T
  have G_lies_within := ok_lies_within (P := P) (w := w) (base := base) T
  refine T.F_is_zone_within.ok sc_is_zone_within (fun as H Q E h => ?_) (fun cdv A outer s H as Q E hr h => ?_)
  · obtain ⟨p, p2, n, c, d, m, m', rfl, _⟩ := h
    rfl
  · obtain ⟨p, p2, n, c, d, m, m', rfl, hz, hy, q⟩ := h
    refine ⟨_, (pss_cons (ps_expr (pe_call G_check_zone (hr.mono (by decide)) (by rfl) T.g_check_zone T.F_check_zone.kp T.b_check_zone .nil pass0 (pa_cons (pv 0) pa_nil)))
  (pss_cons (ps_expr (pe_call G_check_zone (hr.mono (by decide)) (by rfl) T.g_check_zone T.F_check_zone.kp T.b_check_zone .nil pass0 (pa_cons (pv 1) pa_nil)))
  (pss_cons (ps_if (pt_cmpR op_ne (pe_callB (call_lenK (K := K) rfl) (by rfl) T.m_len PySem.boot_len (pa_cons (pv 0) pa_nil)) (pe_callB (call_lenK (K := K) rfl) (by rfl) T.m_len PySem.boot_len (pa_cons (pv 1) pa_nil)) (nomark _)) (pss_one ps_never) pss_nil)
  (pss_one (ps_ret (pe_call G_lies_within (hr.mono (by decide)) (by rfl) T.g_lies_within T.F_lies_within.kp T.b_lies_within .nil pass0 (pa_cons (pv 0) (pa_cons (pv 1) pa_nil)))))))), ?_⟩
    have hn := hz.2.1.size
    have hl1 := hz.2.1.len
    have hl2 := hy.2.1.len
    refine q_drop (ev_call (ea_cons (ev_var rfl) ea_nil) fun H1 e Q q E => ⟨p, n, c, m, rfl, hz.ex e, q⟩) fun H1 e1 => ?_
    refine q_drop (ev_call (ea_cons (ev_var rfl) ea_nil) fun H2 e2 Q q E => ⟨p2, n, d, m', rfl, hy.ex (e1.trans e2), q⟩) fun H2 e2 => ?_
    have e02 := e1.trans e2
    refine q_skip (et_is (et_test (ev_op (ev_lenT (ev_var rfl) (ex_t e02 hz.1)) (ev_lenT (ev_var rfl) (ex_t e02 hy.1)) (rv_ne rfl))) (by simp [hl1, hl2])) fun H3 e3 => ?_
    have e03 := e02.trans e3
    have : n * n ≤ 4 * 4 := Nat.mul_le_mul hn.2 hn.2
    exact s_ret (ev_call (ea_cons (ev_var rfl) (ea_cons (ev_var rfl) ea_nil)) fun H4 e4 Q q E => ⟨p, p2, m, m', rfl, ex_t (e03.trans e4) hz.1, ex_t (e03.trans e4) hy.1, by omega, by omega, q⟩) fun H4 e4 => q H4 (e03.trans e4)
end
end K33

namespace K33
open PySem PySem.Spec PyProof.Rows L2 Gz Evl
open Zn (ent fwF phaseF rowF stepF tightF fold_succ Gd putG withF passF set1 setF leF Zone inF Fr satB every)
section
variable {P : Program} {w : World} {K : PySem.W.Frag} {mg : Str → Option Value} {base : Heap}
def FAt (K : PySem.W.Frag) (H : Hp) (p : Addr) (vs : List Fr) : Prop := ∃ rs : List Addr, SqT K H p (rs.map V.ref) ∧ rs.length = vs.length ∧ ∀ (i : Nat) r (x : Fr), rs[i]? = some r → vs[i]? = some x → SqT K H r [.int x.1, .int x.2]
theorem FAt.ex {H H' : Hp} {p : Addr} {vs : List Fr} (e : Ex H H') (h : FAt K H p vs) : FAt K H' p vs := by
  obtain ⟨rs, h1, h2, h3⟩ := h
  exact ⟨rs, ex_t e h1, h2, fun i r x a b => ex_t e (h3 i r x a b)⟩
def Small (x : Fr) : Prop := (-1000000 ≤ x.1 ∧ x.1 ≤ 1000000) ∧ 1 ≤ x.2 ∧ x.2 ≤ 1000000
theorem every_small {vs : List Fr} (h : ∀ x ∈ vs, Small x) (i : Nat) : Small (every vs i) := by
  unfold every
  split
  · exact ⟨by decide, by decide, by decide⟩
  · rw [List.getD_eq_getElem?_getD]
    cases e : vs[i - 1]? with
    | none => exact ⟨by decide, by decide, by decide⟩
    | some x => exact h x (List.mem_of_getElem? e)
def spHas (K : PySem.W.Frag) : Sp := fun as H Q _ => ∃ (p vp : Addr) (n c : Nat) (m : List Int) (vs : List Fr), as = [.ref p, .ref vp] ∧ ZAt K H p n c m ∧ FAt K H vp vs ∧ vs.length + 1 = n ∧ (∀ x ∈ vs, Small x) ∧ RetV (.bl (inF n m vs)) H Q
def okP (n : Nat) (m : List Int) (vs : List Fr) (i j : Nat) : Bool := decide (ent n m i j = Zn.FAR) || satB (every vs i) (every vs j) (ent n m i j)
theorem inF_false {n : Nat} {m : List Int} {vs : List Fr} {i j : Nat} (hi : i < n) (hj : j < n) (h : okP n m vs i j = false) : inF n m vs = false := by
  cases e : inF n m vs with
  | false => rfl
  | true =>
    have := List.all_eq_true.mp (List.all_eq_true.mp e i (List.mem_range.mpr hi)) j (List.mem_range.mpr hj)
    have z : okP n m vs i j = true := this
    rw [h] at z
    cases z
theorem inF_true {n : Nat} {m : List Int} {vs : List Fr} (h : ∀ i j, i < n → j < n → okP n m vs i j = true) : inF n m vs = true :=
  List.all_eq_true.mpr fun i hi => List.all_eq_true.mpr fun j hj => h i j (List.mem_range.mp hi) (List.mem_range.mp hj)
theorem ok_has_values (T : Top K mg) : FnOk P w K mg base CX0 2 T.f_has_values T.d_has_values ["zone", "values"] (spHas K) := by
  have G_side_of := ok_side_of (P := P) (w := w) (base := base) T
  refine T.F_has_values.ok sc_has_values (fun as H Q E h => ?_) (fun cdv A outer s H as Q E hr h => ?_)
  · obtain ⟨p, vp, n, c, m, vs, rfl, _⟩ := h
    rfl
  · obtain ⟨p, vp, n, c, m, vs, rfl, hz, hv, hvl, sm, q⟩ := h
    refine ⟨_, (pss_cons (ps_par (i := 2) (j := 3) (by rfl) sc_has_values.nd rfl rfl (by decide) rfl rfl (pa_cons (pe_call G_side_of (hr.mono (by decide)) (by rfl) T.g_side_of T.F_side_of.kp T.b_side_of .nil pass0 (pa_cons (pv 0) pa_nil)) (pa_cons (pe_lst (pa_cons (pe_tup (pa_cons pe_int (pa_cons pe_int pa_nil))) (StX.pa_star (pv 1) pa_nil))) pa_nil)) (by rfl))
  (pss_cons (ps_for PassesOwn.never rfl (pi_range1 (by rfl) T.m_range (pa_cons (pv 2) pa_nil)) (pg_name (i := 4) sc_has_values.nd rfl (.inl rfl))
    (pss_one (ps_for PassesOwn.never rfl (pi_range1 (by rfl) T.m_range (pa_cons (pv 2) pa_nil)) (pg_name (i := 5) sc_has_values.nd rfl (.inl rfl))
    (pss_cons (ps_set (i := 6) sc_has_values.nd rfl (.inl rfl) (pe_ix (ix_tupK (K := K) rfl) (pv 0) (pe_op op_add (pe_op op_mul (pv 4) (pv 2)) (pv 5)) (fun _ _ => rfl)))
  (pss_one (ps_if (pt_cmpR op_ne (pv 6) (pe_glob (v := .int 1000000) (by rfl) T.c_FAR ⟨_, rfl⟩) (nomark _)) (pss_cons (ps_asg (pe_tup (pa_cons (pe_ix (ix_listK (K := K) rfl) (pv 3) (pv 4) (fun _ _ => rfl)) (pa_cons (pe_ix (ix_listK (K := K) rfl) (pv 3) (pv 5) (fun _ _ => rfl)) pa_nil))) (pg_tup rfl (pgs_cons (pg_tup rfl (pgs_cons (pg_name (i := 7) sc_has_values.nd rfl (.inl rfl)) (pgs_cons (pg_name (i := 8) sc_has_values.nd rfl (.inl rfl)) pgs_nil))) (pgs_cons (pg_tup rfl (pgs_cons (pg_name (i := 9) sc_has_values.nd rfl (.inl rfl)) (pgs_cons (pg_name (i := 10) sc_has_values.nd rfl (.inl rfl)) pgs_nil))) pgs_nil))))
  (pss_cons (ps_par (i := 11) (j := 12) (by rfl) sc_has_values.nd rfl rfl (by decide) rfl rfl (pa_cons (pe_op op_sub (pe_op op_mul (pv 7) (pv 10)) (pe_op op_mul (pv 9) (pv 8))) (pa_cons (pe_op op_mul (pe_op op_mul (pe_op op_fdiv (pv 6) pe_int) (pv 8)) (pv 10)) pa_nil)) (by rfl))
  (pss_one (ps_if (PW.pt (pw_or (pt_cmpR op_gt (pv 11) (pv 12) (nomark _)) (pw_or1 (PW.pt (pw_and (pt_cmpR op_eq (pv 11) (pv 12) (nomark _)) (pw_and1 (pt_cmpR op_eq (pe_op op_mod (pv 6) pe_int) pe_int (nomark _)))))))) (pss_one (ps_ret pe_bl)) pss_nil)))) pss_nil))))))
  (pss_one (ps_ret pe_bl)))), ?_⟩
    have hn := hz.2.1.size
    have hl := hz.2.1.len
    obtain ⟨rs, r1, r2, r3⟩ := hv
    -- size, every = (side_of(zone), [(0, 1), *values])
    refine ev_call (σ := L2.start N_has_values [.ref p, .ref vp]) (sp := spSide K) (E := E0) (z := .int (n : Int)) (ea_cons (ev_var rfl) ea_nil) (fun H1 e Q q E => ⟨p, Vi m, n, rfl, ex_t e hz.1, hz.len, by omega, by omega, q⟩) H (Evl.Ex.refl H) _ fun H1 e1 => ?_
    refine ⟨by show 2 ≤ sizeLine; decide, fun p0 np0 => ⟨.ref vp, rfl, vp, rs.map V.ref, rfl, .inl (ex_t (e1.trans (Evl.Ex.new np0)) r1), sz_of (by simp; omega), fun a na => ⟨_, _, rfl, ?_⟩⟩⟩
    have e3 : Ex H (upd (upd H1 p0 (.tup [.int 0, .int 1])) a (.lst (.ref p0 :: (rs.map V.ref ++ [])))) := (e1.trans (Evl.Ex.new np0)).trans (Evl.Ex.new na)
    have h0 : SqT K (upd (upd H1 p0 (.tup [.int 0, .int 1])) a (.lst (.ref p0 :: (rs.map V.ref ++ [])))) p0 [.int 0, .int 1] := ex_t (Evl.Ex.new na) (sqt_of upd_same)
    have ha : (upd (upd H1 p0 (.tup [.int 0, .int 1])) a (.lst (.ref p0 :: (rs.map V.ref ++ [])))) a = some (.lst (.ref p0 :: (rs.map V.ref ++ []))) := upd_same
    generalize upd (upd H1 p0 (.tup [.int 0, .int 1])) a (.lst (.ref p0 :: (rs.map V.ref ++ []))) = H3 at e3 h0 ha
    rw [List.append_nil] at ha
    have at1 : ∀ i, i < n → ∃ r, atI (V.ref p0 :: rs.map V.ref) (i : Int) = some (.ref r) ∧ SqT K H3 r [.int (every vs i).1, .int (every vs i).2] := fun i hi => by
      cases i with
      | zero => exact ⟨p0, atI_nat (j := 0) rfl, h0⟩
      | succ i =>
        have hr1 : i < rs.length := by omega
        have hv1 : i < vs.length := by omega
        refine ⟨rs[i], atI_nat (by rw [List.getElem?_cons_succ, List.getElem?_map, List.getElem?_eq_getElem hr1]; rfl), ?_⟩
        have ee : every vs (i + 1) = vs[i] := by
          unfold every
          rw [if_neg (by omega), List.getD_eq_getElem?_getD, show i + 1 - 1 = i by omega, List.getElem?_eq_getElem hv1]
          rfl
        rw [ee]
        exact ex_t e3 (r3 i _ _ (List.getElem?_eq_getElem hr1) (List.getElem?_eq_getElem hv1))
    refine q_forR1 (n := n) (ea_cons (ev_var rfl) ea_nil) (by omega) (fun i σ' H' => ∃ y4 y5 y6 y7 y8 y9 y10 y11 y12, σ' = [some (.ref p), some (.ref vp), some (.int n), some (.ref a), y4, y5, y6, y7, y8, y9, y10, y11, y12] ∧ Ex H3 H' ∧ ∀ x y, x < i → y < n → okP n m vs x y = true)
      (fun H4 e4 => ⟨_, _, _, _, _, _, _, _, _, rfl, e4, fun x y h => absurd h (Nat.not_lt_zero x)⟩) ?_ ?_
    · rintro i σ' H4 hi ⟨y4, y5, y6, y7, y8, y9, y10, y11, y12, rfl, e4, k4⟩
      have hi : i < n := by omega
      refine s_forR1 (n := n) (ea_cons (ev_var rfl) ea_nil) (by omega) (fun j σ' H' => ∃ y5 y6 y7 y8 y9 y10 y11 y12, σ' = [some (.ref p), some (.ref vp), some (.int n), some (.ref a), some (.int i), y5, y6, y7, y8, y9, y10, y11, y12] ∧ Ex H3 H' ∧ ∀ y, y < j → okP n m vs i y = true)
        (fun H5 e5 => ⟨_, _, _, _, _, _, _, _, rfl, e4.trans e5, fun y h => absurd h (Nat.not_lt_zero y)⟩) ?_ ?_
      · rintro j σ' H5 hj ⟨y5, y6, y7, y8, y9, y10, y11, y12, rfl, e5, k5⟩
        have hj : j < n := by omega
        refine q_asg (ev_op (ev_var rfl) (ev_op (ev_op (ev_var rfl) (ev_var rfl) (rv_mul (by omega))) (ev_var rfl) rv_I0) (rv_ixT (ex_t (e3.trans e5) hz.1) (at_ent hl hi hj))) fun H6 e6 => ?_
        have next : okP n m vs i j = true → ∀ y, y < j + 1 → okP n m vs i y = true := fun h y hy => by
          rcases Nat.lt_succ_iff_lt_or_eq.mp hy with hy | rfl
          · exact k5 y hy
          · exact h
        refine s_when (et_test (ev_op (ev_var rfl) ev_c (rv_ne rfl))) (fun hb H7 e7 => ?_) (fun hb H7 e7 => ?_)
        · have hne : ¬ ent n m i j = Zn.FAR := by simpa using hb
          have hb2 := (Zn.zone_ent hz.2.1 hi hj).resolve_left hne
          have hc := hz.2.2
          obtain ⟨ra, ia, sa⟩ := at1 i hi
          obtain ⟨rb, ib, sb⟩ := at1 j hj
          have e37 := (e5.trans e6).trans e7
          have smi := every_small sm i
          have smj := every_small sm j
          have okE : okP n m vs i j = satB (every vs i) (every vs j) (ent n m i j) := by
            unfold okP
            rw [decide_eq_false hne, Bool.false_or]
          generalize every vs i = X at sa smi okE
          generalize every vs j = Y at sb smj okE
          obtain ⟨sx1, sx2, sx3⟩ := smi
          obtain ⟨sy1, sy2, sy3⟩ := smj
          refine q_un22 (x := .int X.1) (y := .int X.2) (z := .int Y.1) (w := .int Y.2) (eu_tup (ea_cons (ev_op (ev_var rfl) (ev_var rfl) (rv_ixL (sql_of (e37 a _ ha)) ia)) (ea_cons (ev_op (ev_var rfl) (ev_var rfl) (rv_ixL (sql_of (e37 a _ ha)) ib)) ea_nil)) (by simp)) (ex_t e37 sa) (ex_t e37 sb) fun H8 e8 => ?_
          refine q_par (x := .int (Zn.by' X Y)) (y := .int (Zn.most X Y (ent n m i j))) (ea_cons (ev_op (ev_op (ev_var rfl) (ev_var rfl) (rv_mul (by omega))) (ev_op (ev_var rfl) (ev_var rfl) (rv_mul (by omega))) rv_I0) (ea_cons (ev_op (ev_op (ev_op (ev_var rfl) ev_c (rv_div (by decide))) (ev_var rfl) (rv_mulR (by omega))) (ev_var rfl) (rv_mulR (by omega))) ea_nil)) fun H9 e9 => ?_
          refine s_when (b := !satB X Y (ent n m i j)) (et_is (et_or (et_test (ev_op (ev_var rfl) (ev_var rfl) rv_I0)) fun _ => et_and (et_test (ev_op (ev_var rfl) (ev_var rfl) (rv_eq rfl))) fun _ => et_test (ev_op (ev_op (ev_var rfl) ev_c (rv_mod (by decide))) ev_c (rv_eq rfl))) ?_) (fun hs H10 e10 => ?_) (fun hs H10 e10 => ?_)
          · unfold satB
            simp only [Bool.not_not, V.int.injEq]
          · have hf : okP n m vs i j = false := by
              rw [okE]
              simpa using hs
            refine s_ret ev_c fun H11 e11 => ?_
            have := q H11 (e3.trans (e37.trans ((e8.trans e9).trans (e10.trans e11))))
            rw [inF_false hi hj hf] at this
            exact this
          · have ht : okP n m vs i j = true := by
              rw [okE]
              simpa using hs
            exact ⟨_, _, _, _, _, _, _, _, rfl, e37.trans ((e8.trans e9).trans e10), next ht⟩
        · have he : ent n m i j = Zn.FAR := by simpa using hb
          exact ⟨_, _, _, _, _, _, _, _, rfl, (e5.trans e6).trans e7, next (by unfold okP; rw [decide_eq_true he, Bool.true_or])⟩
      · rintro σ' H5 ⟨y5, y6, y7, y8, y9, y10, y11, y12, rfl, e5, k5⟩
        refine ⟨_, _, _, _, _, _, _, _, _, rfl, e5, fun x y hx hy => ?_⟩
        rcases Nat.lt_succ_iff_lt_or_eq.mp hx with hx | rfl
        · exact k4 x y hx hy
        · exact k5 y (by omega)
    · rintro σ' H4 ⟨y4, y5, y6, y7, y8, y9, y10, y11, y12, rfl, e4, k4⟩
      refine s_ret ev_c fun H5 e5 => ?_
      have := q H5 (e3.trans (e4.trans e5))
      rw [inF_true fun x y hx hy => k4 x y (by omega) hy] at this
      exact this
def spIn (K : PySem.W.Frag) : Sp := fun as H Q _ => ∃ (p vp : Addr) (n c : Nat) (m : List Int) (vs : List Fr), as = [.ref p, .ref vp] ∧ ZAt K H p n c m ∧ FAt K H vp vs ∧ vs.length + 1 = n ∧ (∀ x ∈ vs, Small x ∧ Nat.gcd x.1.natAbs x.2.natAbs = 1) ∧ RetV (.bl (inF n m vs)) H Q
theorem ok_is_in_zone (T : Top K mg) : FnOk P w K mg base CX0 6 T.f_is_in_zone T.d_is_in_zone ["zone", "values"] (spIn K) := by
  have G_check_zone := ok_check_zone (P := P) (w := w) (base := base) T
  have G_side_of := ok_side_of (P := P) (w := w) (base := base) T
  have G_is_fraction := ok_is_fraction (P := P) (w := w) (base := base) T
  have G_has_values := ok_has_values (P := P) (w := w) (base := base) T
  refine T.F_is_in_zone.ok sc_is_in_zone (fun as H Q E h => ?_) (fun cdv A outer s H as Q E hr h => ?_)
  · obtain ⟨p, vp, n, c, m, vs, rfl, _⟩ := h
    rfl
  · obtain ⟨p, vp, n, c, m, vs, rfl, hz, hv, hvl, sm, q⟩ := h
    refine ⟨_, (pss_cons (ps_expr (pe_call G_check_zone (hr.mono (by decide)) (by rfl) T.g_check_zone T.F_check_zone.kp T.b_check_zone .nil pass0 (pa_cons (pv 0) pa_nil)))
  (pss_cons (ps_if (PW.pt (pw_or (pt_not (pt_val (pe_callB (call_isiK' (K := K) rfl) (by rfl) T.m_isinstance (by decide +kernel) (pa_cons (pv 1) (pa_cons (pe_bltn (v := .ty "tuple") (by rfl) T.m_tuple (by decide +kernel) rfl) pa_nil))))) (pw_or1 (pt_cmpR op_ne (pe_callB (call_lenK (K := K) rfl) (by rfl) T.m_len PySem.boot_len (pa_cons (pv 1) pa_nil)) (pe_op op_sub (pe_call G_side_of (hr.mono (by decide)) (by rfl) T.g_side_of T.F_side_of.kp T.b_side_of .nil pass0 (pa_cons (pv 0) pa_nil)) pe_int) (nomark _))))) (pss_one ps_never) pss_nil)
  (pss_cons (ps_if (pt_not (pt_val (pe_callB (cr_allK (K := K) rfl rfl) (by rfl) T.m_all (by decide +kernel) (pa_cons (pe_lc (own := [("one", 2)]) (g := gName 2) (tt := tYes) rfl sc_is_in_zone.nd (pi_tupK (K := K) rfl (pv 1)) (blkOk_by (own := [("one", 2)]) (N := N_is_in_zone) (sc := defScope s_is_in_zone) (by decide +kernel)) (fun _ _ _ _ _ => (pg_name (i := 2) sc_is_in_zone.nd rfl (.inl rfl))) (fun _ _ _ _ _ => pts_nil) (fun _ _ _ _ _ => (pe_call G_is_fraction (hr.mono (by decide)) (by rfl) T.g_is_fraction T.F_is_fraction.kp T.b_is_fraction .nil pass0 (pa_cons (pv 2) pa_nil)))) pa_nil)))) (pss_one ps_never) pss_nil)
  (pss_one (ps_ret (pe_call G_has_values (hr.mono (by decide)) (by rfl) T.g_has_values T.F_has_values.kp T.b_has_values .nil pass0 (pa_cons (pv 0) (pa_cons (pv 1) pa_nil)))))))), ?_⟩
    have hn := hz.2.1.size
    obtain ⟨rs, r1, r2, r3⟩ := hv
    refine q_drop (ev_call (ea_cons (ev_var rfl) ea_nil) fun H1 e Q q E => ⟨p, n, c, m, rfl, hz.ex e, q⟩) fun H1 e1 => ?_
    refine q_skip (et_is (et_or (et_not (et_B (ev_isiT (ev_var rfl) (ex_t e1 r1)))) fun _ => et_test (ev_op (ev_lenT (ev_var rfl) (ex_t e1 r1)) (ev_op (ev_call (ea_cons (ev_var rfl) ea_nil) fun H2 e2 Q q E => ⟨p, Vi m, n, rfl, ex_t (e1.trans e2) hz.1, hz.len, by omega, by omega, q⟩) ev_c rv_I0) (rv_ne rfl))) (by simp; omega)) fun H2 e2 => ?_
    refine q_skip (et_is (et_not (et_B (ev_all (bs := rs.map fun _ => true) (el_mapT (ev_var rfl) (ex_t (e1.trans e2) r1) (by simp) (by simp; omega) (fun x => rfl) fun i x y H3 e hx hy => ?_)))) (by rw [all_rep]; rfl)) fun H3 e3 => ?_
    · rw [rep_at hy]
      rw [List.getElem?_map] at hx
      obtain ⟨r, hr1, rfl⟩ := Option.map_eq_some_iff.mp hx
      have hi : i < vs.length := by
        rw [← r2]
        exact (List.getElem?_eq_some_iff.mp hr1).1
      have hs := r3 i r _ hr1 (List.getElem?_eq_getElem hi)
      obtain ⟨⟨_, o1, _⟩, o2⟩ := sm _ (List.getElem_mem hi)
      refine ev_is (ev_call (ea_cons (ev_var rfl) ea_nil) fun H4 e4 Q q E => ⟨r, _, _, rfl, ex_t ((e1.trans e2).trans (e.trans e4)) hs, q⟩) ?_
      rw [o2]
      simp
      exact o1
    have e03 := (e1.trans e2).trans e3
    exact s_ret (ev_call (ea_cons (ev_var rfl) (ea_cons (ev_var rfl) ea_nil)) fun H4 e4 Q q E => ⟨p, vp, n, c, m, vs, rfl, hz.ex (e03.trans e4), FAt.ex (e03.trans e4) ⟨rs, r1, r2, r3⟩, hvl, fun x hx => (sm x hx).1, q⟩) fun H4 e4 => q H4 (e03.trans e4)
end
end K33

namespace K33
open PySem PySem.Spec PyProof.Rows L2 Gz Evl
section
variable {P : Program} {w : World} {K : PySem.W.Frag} {mg : Str → Option Value} {base : Heap}
theorem ok_law_take (T : Top K mg) : FnOk P w K mg base CX0 1 T.f__law_take T.d__law_take ["pot", "upto"] spTake := by
  refine T.F__law_take.ok sc__law_take (fun as H Q E h => ?_) (fun cdv A outer s H as Q E hr h => ?_)
  · obtain ⟨p, n, u, rfl, _⟩ := h
    rfl
  · obtain ⟨p, n, u, rfl, hp, hn, h1, h2, q⟩ := h
    refine ⟨_, (pss_cons (ps_if (pt_cmpR op_gt (pe_ix (ix_listK (K := K) rfl) (pv 0) pe_int (fun _ _ => rfl)) pe_int (nomark _)) (pss_cons (ps_set (i := 2) sc__law_take.nd rfl (.inl rfl) (pe_op op_mod (pe_callTy call_int1 (by rfl) T.m_int (by decide +kernel) (pa_cons (pe_ix (ix_listK (K := K) rfl) (pv 0) pe_int (fun _ _ => rfl)) pa_nil)) (pv 1)))
  (pss_cons (ps_asg (pe_op op_fdiv (pe_ix (ix_listK (K := K) rfl) (pv 0) pe_int (fun _ _ => rfl)) (pv 1)) (pg_sub (pv 0) pe_int set_list))
  (pss_one (ps_ret (pv 2))))) pss_nil)
  (pss_cons (ps_asg (pe_op op_add (pe_ix (ix_listK (K := K) rfl) (pv 0) pe_int (fun _ _ => rfl)) pe_int) (pg_sub (pv 0) pe_int set_list))
  (pss_cons (ps_set (i := 3) sc__law_take.nd rfl (.inl rfl) (pe_ix (ix_listK (K := K) rfl) (pe_lst (pa_cons pe_int (pa_cons pe_int (pa_cons pe_int (pa_cons pe_int (pa_cons pe_int pa_nil)))))) (pe_op op_mod (pe_callTy call_int1 (by rfl) T.m_int (by decide +kernel) (pa_cons (pe_ix (ix_listK (K := K) rfl) (pv 0) pe_int (fun _ _ => rfl)) pa_nil)) pe_int) (fun _ _ => rfl)))
  (pss_cons (ps_set (i := 4) sc__law_take.nd rfl (.inl rfl) (pe_op op_mod (pe_callTy call_int1 (by rfl) T.m_int (by decide +kernel) (pa_cons (pe_op op_powN (pe_callTy call_int1 (by rfl) T.m_int (by decide +kernel) (pa_cons (pe_op op_add (pe_op op_add (pe_ix (ix_listK (K := K) rfl) (pv 0) pe_int (fun _ _ => rfl)) (pe_op op_mul (pe_op op_mul pe_int (pe_ix (ix_listK (K := K) rfl) (pv 0) pe_int (fun _ _ => rfl))) (pe_ix (ix_listK (K := K) rfl) (pv 0) pe_int (fun _ _ => rfl)))) pe_int) pa_nil)) pe_int) pa_nil)) (pv 3)))
  (pss_cons (ps_set (i := 4) sc__law_take.nd rfl (.inl rfl) (pe_op op_mod (pe_callTy call_int1 (by rfl) T.m_int (by decide +kernel) (pa_cons (pe_op op_mul (pv 4) (pe_op op_add (pe_op op_mod (pe_callTy call_int1 (by rfl) T.m_int (by decide +kernel) (pa_cons (pv 4) pa_nil)) pe_int) (pe_op op_mul pe_int (pe_ix (ix_listK (K := K) rfl) (pv 0) pe_int (fun _ _ => rfl))))) pa_nil)) pe_int))
  (pss_one (ps_ret (pe_op op_mod (pe_callTy call_int1 (by rfl) T.m_int (by decide +kernel) (pa_cons (pe_op op_fdiv (pv 4) pe_int) pa_nil)) (pv 1))))))))), ?_⟩
    obtain ⟨a, b, c, h0, ha, hb, hb2, hc, hcn⟩ := hp.at'
    refine q_when (et_test (ev_op (ev_op (ev_var rfl) ev_c (rv_ixL (sql_of h0) rfl)) ev_c rv_I0)) (fun hb3 H1 e1 => ?_) (fun hb3 H1 e1 => ?_)
    · have g1 := e1 p _ h0
      refine q_asg (ev_op (ev_int1 (ev_op (ev_var rfl) ev_c (rv_ixL (sql_of g1) rfl))) (ev_var rfl) (rv_mod (by omega))) fun H2 e2 => ?_
      have g2 := e2 p _ g1
      refine q_setL (j := 0) g2 (ev_op (ev_op (ev_var rfl) ev_c (rv_ixL (sql_of g2) rfl)) (ev_var rfl) (rv_div (by omega))) (ev_var rfl) ev_c (by simp) fun H3 e3 => ?_
      refine s_ret (ev_var rfl) fun H4 e4 => ?_
      have hm1 := Int.emod_nonneg a (show u ≠ 0 by omega)
      have hm2 := Int.emod_lt_of_pos a (show 0 < u by omega)
      refine q _ H4 hm1 hm2 (((But.of ((e1.trans e2).trans e3)).trans But.upd).trans (But.of e4)) ⟨a / u, b, c, ?_, Int.ediv_nonneg ha (by omega), hb, hb2, hc, by omega⟩
      exact e4 p _ (by rw [upd_same]; rfl)
    · have g1 := e1 p _ h0
      refine q_setL (j := 2) g1 (ev_op (ev_op (ev_var rfl) ev_c (rv_ixL (sql_of g1) rfl)) ev_c rv_I0) (ev_var rfl) ev_c (by simp) fun H2 e2 => ?_
      have g2 : (upd H2 p (.lst ([V.int a, .int b, .int c].set 2 (.int (c + 1))))) p = some (.lst [.int a, .int b, .int (c + 1)]) := by rw [upd_same]; rfl
      have b2 : But p H (upd H2 p (.lst ([V.int a, .int b, .int c].set 2 (.int (c + 1))))) := (But.of (e1.trans e2)).trans But.upd
      generalize upd H2 p (.lst ([V.int a, .int b, .int c].set 2 (.int (c + 1)))) = H3 at g2 b2
      -- prime
      have m5 : 0 ≤ (c + 1) % 5 ∧ (c + 1) % 5 < 5 := by omega
      obtain ⟨pr, hpr, hpr0, hpr1⟩ : ∃ pr : Int, atI [.int 2147483647, .int 2147483629, .int 2147483587, .int 2147483579, .int 2147483563] ((c + 1) % 5) = some (V.int pr) ∧ 0 < pr ∧ pr < 2147483648 := by
        have : (c + 1) % 5 = 0 ∨ (c + 1) % 5 = 1 ∨ (c + 1) % 5 = 2 ∨ (c + 1) % 5 = 3 ∨ (c + 1) % 5 = 4 := by omega
        rcases this with h | h | h | h | h <;> rw [h] <;> exact ⟨_, rfl, by decide, by decide⟩
      refine q_asg (v := .int pr) (ev_opL1 (el_lst (ea_cons ev_c (ea_cons ev_c (ea_cons ev_c (ea_cons ev_c (ea_cons ev_c ea_nil))))) (by simp)) (fun H4 e4 => ev_op (ev_int1 (ev_op (ev_var rfl) ev_c (rv_ixL (sql_of (e4 p _ g2)) rfl))) ev_c (rv_mod (by decide))) fun l H4 hl e4 => rv_ixL (sql_of hl) hpr) fun H4 e4 => ?_
      have g4 := e4 p _ g2
      -- blend
      have ix1 : ∀ {H5 : Hp} {y2 y4 : Option V}, Ex H4 H5 → Ev (tOp (rIxL K) (tVar 0) (tC (.int 1))) [some (.ref p), some (.int u), y2, some (.int pr), y4] H5 (.int b) := fun e => ev_op (ev_var rfl) ev_c (rv_ixL (sql_of (e p _ g4)) rfl)
      have ix2 : ∀ {H5 : Hp} {y2 y4 : Option V}, Ex H4 H5 → Ev (tOp (rIxL K) (tVar 0) (tC (.int 2))) [some (.ref p), some (.int u), y2, some (.int pr), y4] H5 (.int (c + 1)) := fun e => ev_op (ev_var rfl) ev_c (rv_ixL (sql_of (e p _ g4)) rfl)
      have hcc : (c + 1) * (c + 1) ≤ 100001 * 100001 := Int.mul_le_mul (by omega) (by omega) (by omega) (by omega)
      have hcc0 : 0 ≤ (c + 1) * (c + 1) := Int.mul_nonneg (by omega) (by omega)
      refine q_asgP (P := fun v _ => ∃ z : Int, v = .int z ∧ 0 ≤ z ∧ z < pr) (evp_imp (ev_op (ev_int1 (ev_op (ev_int1 (ev_op (ev_op (ix1 (Evl.Ex.refl _)) (ev_op (ev_op ev_c (ix2 (Evl.Ex.refl _)) (rv_mul (by decide))) (ix2 (Evl.Ex.refl _)) (rv_mulR (by omega))) rv_I0) ev_c rv_I0)) ev_c (rv_powN (cpow3 ?_ ?_)))) (ev_var rfl) (rv_mod hpr0))
        fun _ _ => ⟨_, rfl, Int.emod_nonneg _ (by omega), Int.emod_lt_of_pos _ hpr0⟩) fun v H5 e5 hv => ?_
      · rw [Int.mul_assoc]
        omega
      · rw [Int.mul_assoc]
        omega
      obtain ⟨z, rfl, z0, z1⟩ := hv
      refine q_asgP (P := fun v _ => ∃ y : Int, v = .int y) (evp_imp (ev_op (ev_int1 (ev_op (ev_var rfl) (ev_op (ev_op (ev_int1 (ev_var rfl)) ev_c (rv_mod (by decide))) (ev_op ev_c (ix2 e5) (rv_mul (by decide))) rv_I0) (rv_mul (by omega)))) ev_c (rv_mod (by decide))) fun _ _ => ⟨_, rfl⟩) fun v H6 e6 hv => ?_
      obtain ⟨y, rfl⟩ := hv
      refine s_ret (ev_op (ev_int1 (ev_op (ev_var rfl) ev_c (rv_div (by decide)))) (ev_var rfl) (rv_mod (by omega))) fun H7 e7 => ?_
      exact q _ H7 (Int.emod_nonneg _ (by omega)) (Int.emod_lt_of_pos _ (by omega)) (b2.trans (But.of ((e4.trans e5).trans (e6.trans e7)))) ⟨a, b, c + 1, (e5.trans (e6.trans e7)) p _ g4, ha, hb, hb2, by omega, by omega⟩
theorem ok_law_of (T : Top K mg) : FnOk P w K mg base CX0 2 T.f__law_of T.d__law_of ["pot", "some"] (spOf K) := by
  have G__law_take := ok_law_take (P := P) (w := w) (base := base) T
  refine T.F__law_of.ok sc__law_of (fun as H Q E h => ?_) (fun cdv A outer s H as Q E hr h => ?_)
  · obtain ⟨p, l, n, xs, rfl, _⟩ := h
    rfl
  · obtain ⟨p, l, n, xs, rfl, hp, hn, hl, ne, h1, h2, q⟩ := h
    refine ⟨_, (pss_one (ps_ret (pe_ix (ix_listK (K := K) rfl) (pv 1) (pe_call G__law_take (hr.mono (by decide)) (by rfl) T.g__law_take T.F__law_take.kp T.b__law_take .nil pass0 (pa_cons (pv 0) (pa_cons (pe_callB (call_lenK (K := K) rfl) (by rfl) T.m_len PySem.boot_len (pa_cons (pv 1) pa_nil)) pa_nil))) (fun _ _ => rfl)))), ?_⟩
    refine ⟨.ref l, rfl, .ref p, rfl, ev_lenL (ta := tVar 1) (ev_var rfl) hl H (Evl.Ex.refl _) _ fun H1 e1 => ?_⟩
    refine ⟨p, n, _, rfl, hp.ex e1, hn, by omega, by omega, fun d H2 d0 d1 b2 p2 => ?_⟩
    obtain ⟨k, rfl⟩ := Int.eq_ofNat_of_zero_le d0
    have hk : k < xs.length := by omega
    exact ⟨l, xs, _, xs[k], rfl, rfl, b2.lst ne (ex_l e1 hl), atI_nat (List.getElem?_eq_getElem hk), q _ H2 (List.getElem_mem hk) ((But.of e1).trans b2) p2⟩
theorem ok_law_pot (T : Top K mg) : FnOk P w K mg base CX0 1 T.f__law_pot T.d__law_pot ["script", "place"] (spPot K) := by
  refine T.F__law_pot.ok sc__law_pot (fun as H Q E h => ?_) (fun cdv A outer s H as Q E hr h => ?_)
  · obtain ⟨a, ns, k, rfl, _⟩ := h
    rfl
  · obtain ⟨a, ns, k, rfl, hs, hl, hk, q⟩ := h
    refine ⟨_, (pss_cons (ps_set (i := 2) sc__law_pot.nd rfl (.inl rfl) (pe_ifExp (pt_cmpR op_lt (pv 1) (pe_callB (call_lenK (K := K) rfl) (by rfl) T.m_len PySem.boot_len (pa_cons (pv 0) pa_nil)) (nomark _)) (pe_ix (ix_listK (K := K) rfl) (pv 0) (pv 1) (fun _ _ => rfl)) (pe_op op_add (pe_op op_add (pe_op op_mod (pe_callB (cr_sumK (K := K) rfl rfl) (by rfl) T.m_sum (by decide +kernel) (pa_cons (pe_slice (sl_listK (K := K) rfl) (pv 0) po_none (po_some pe_int)) pa_nil)) pe_int) (pe_op op_mul pe_int (pv 1))) pe_int)))
  (pss_cons (ps_set (i := 3) sc__law_pot.nd rfl (.inl rfl) (pe_op op_mul (pe_op op_mod (pe_callTy call_int1 (by rfl) T.m_int (by decide +kernel) (pa_cons (pe_callB call_abs (by rfl) T.m_abs (by decide +kernel) (pa_cons (pv 2) pa_nil)) pa_nil)) (pe_op op_powN (pe_op op_powN pe_int pe_int) pe_int)) (pe_callTy call_int1 (by rfl) T.m_int (by decide +kernel) (pa_cons (pe_cmpR op_ge (pe_callB call_abs (by rfl) T.m_abs (by decide +kernel) (pa_cons (pv 2) pa_nil)) (pe_op op_powN pe_int pe_int) (nomark _)) pa_nil))))
  (pss_cons (ps_set (i := 4) sc__law_pot.nd rfl (.inl rfl) (pe_op op_mod (pe_callTy call_int1 (by rfl) T.m_int (by decide +kernel) (pa_cons (pv 2) pa_nil)) pe_int))
  (pss_one (ps_ret (pe_lst (pa_cons (pv 3) (pa_cons (pe_op op_mod (pe_callTy call_int1 (by rfl) T.m_int (by decide +kernel) (pa_cons (pe_op op_add (pe_op op_add (pe_op op_mul (pv 4) pe_int) (pe_op op_mul (pe_op op_mul pe_int (pv 1)) (pv 1))) pe_int) pa_nil)) pe_int) (pa_cons pe_int pa_nil))))))))), ?_⟩
    -- cell
    refine q_asgP (P := fun v _ => ∃ z : Int, v = .int z) (fun H1 e1 Q' q' => ?_) fun v H1 e1 hv => ?_
    · refine et_test (ev_op (ev_var rfl) (ev_len (ev_var rfl) (ex_l e1 hs)) rv_I0) H1 (Evl.Ex.refl _) _ fun H2 e2 => ite2 (fun hb => ?_) (fun hb => ?_)
      · have hlt : k < ns.length := by
          have := of_decide_eq_true hb
          rw [List.length_map] at this
          omega
        exact ev_op (ev_var rfl) (ev_var rfl) (rv_ixL (ex_l (e1.trans e2) hs) (at_map (List.getElem?_eq_getElem hlt))) H2 (Evl.Ex.refl _) _ fun H3 e3 => q' _ H3 (e2.trans e3) ⟨_, rfl⟩
      · have hsl : EvL (tSl (rSlL K) (tVar 0) tNoPart (tPart (tC (.int 1)))) (L2.start N__law_pot [.ref a, .int (k : Int)]) H2 ((ns.take 1).map V.int) := by
          rw [← cut_head]
          exact el_sl (ev_var rfl) eo_none (eo_some ev_c) (ex_l (e1.trans e2) hs)
        exact use_ev (ev_op (ev_op (ev_op (ev_sum hsl) ev_c (rv_mod (by decide))) (ev_op ev_c (ev_var rfl) (rv_mul (by omega))) rv_I0) ev_c rv_I0) fun H3 e3 => q' _ H3 (e2.trans e3) ⟨_, rfl⟩
    obtain ⟨cell, rfl⟩ := hv
    -- own
    have hM : (0 : Int) < (((10 : Int) ^ (60 : Int).toNat) ^ (5 : Int).toNat) := by decide +kernel
    refine q_asgP (P := fun v _ => ∃ z : Int, v = .int z ∧ 0 ≤ z) (evp_imp (ev_op (ev_op (ev_int1 (ev_abs (ev_var rfl))) (ev_op (ev_op ev_c ev_c (rv_powN ⟨by decide, by decide +kernel⟩)) ev_c (rv_powN ⟨by decide, by decide +kernel⟩)) (rv_mod hM)) (ev_intB (ev_op (ev_abs (ev_var rfl)) (ev_op ev_c ev_c (rv_powN ⟨by decide, by decide +kernel⟩)) rv_I0)) (rv_mulR (b2i_ok _)))
      fun _ _ => ⟨_, rfl, Int.mul_nonneg (Int.emod_nonneg _ (by omega)) (b2i_nn _)⟩) fun v H2 e2 hv => ?_
    obtain ⟨own, rfl, own0⟩ := hv
    refine q_asgP (P := fun v _ => ∃ z : Int, v = .int z ∧ 0 ≤ z ∧ z < 2305843009213693951) (evp_imp (ev_op (ev_int1 (ev_var rfl)) ev_c (rv_mod (by decide))) fun _ _ => ⟨_, rfl, Int.emod_nonneg _ (by decide), Int.emod_lt_of_pos _ (by decide)⟩) fun v H3 e3 hv => ?_
    obtain ⟨small, rfl, sm0, sm1⟩ := hv
    refine s_retL (xs := [.int own, .int _, .int 0]) (el_lst (ea_cons (ev_var rfl) (ea_cons (ev_op (ev_int1 (ev_op (ev_op (ev_op (ev_var rfl) ev_c (rv_mul (by omega))) (ev_op (ev_op ev_c (ev_var rfl) (rv_mul (by decide))) (ev_var rfl) (rv_mulR (by omega))) rv_I0) ev_c rv_I0)) ev_c (rv_mod (by decide))) (ea_cons ev_c ea_nil))) (by simp)) fun p H4 np e4 h4 => ?_
    refine q p H4 (fresh_back ((e1.trans e2).trans e3) np) (((e1.trans e2).trans e3).trans e4) ⟨_, _, _, h4, own0, Int.emod_nonneg _ (by decide), ?_, by decide, by decide⟩
    exact Int.lt_of_lt_of_le (Int.emod_lt_of_pos _ (by decide)) (by decide)
end
end K33

namespace K33
open PySem PySem.Spec PyProof.Rows L2 Gz Evl
section
variable {P : Program} {w : World} {K : PySem.W.Frag} {mg : Str → Option Value} {base : Heap}
theorem ok_law_cells (T : Top K mg) : FnOk P w K mg base CX0 1 T.f__law_cells T.d__law_cells ["script", "most"] (spCells K) := by
  refine T.F__law_cells.ok sc__law_cells (fun as H Q E h => ?_) (fun cdv A outer s H as Q E hr h => ?_)
  · obtain ⟨a, ns, k, rfl, _⟩ := h
    rfl
  · obtain ⟨a, ns, k, rfl, hs, hl, h1, hk, q⟩ := h
    refine ⟨_, (pss_one (ps_ret (pe_listRg rfl (by rfl) T.m_list (prg_1 (by rfl) T.m_range (pe_callB (call_max2 rfl) (by rfl) T.m_max (by decide +kernel) (pa_cons pe_int (pa_cons (pe_callB (call_min2 rfl) (by rfl) T.m_min (by decide +kernel) (pa_cons (pv 1) (pa_cons (pe_callB (call_lenK (K := K) rfl) (by rfl) T.m_len PySem.boot_len (pa_cons (pv 0) pa_nil)) pa_nil))) pa_nil))))))), ?_⟩
    have ev : Ev _ _ H (.int _) := ev_max2' (σ := L2.start N__law_cells [.ref a, .int (k : Int)]) (ev_c (v := .int 1)) (ev_min2 (ta := tVar 1) (ev_var rfl) (ev_len (K := K) (ta := tVar 0) (ev_var rfl) hs))
    rw [List.length_map] at ev
    generalize hj : (if (if (ns.length : Int) < (k : Int) then (ns.length : Int) else (k : Int)) > 1 then (if (ns.length : Int) < (k : Int) then (ns.length : Int) else (k : Int)) else 1) = j at ev
    have j1 : 1 ≤ j ∧ j ≤ k := by
      subst hj
      split <;> split <;> omega
    obtain ⟨i, rfl⟩ := Int.eq_ofNat_of_zero_le (show 0 ≤ j by omega)
    exact s_retL (rg_list' ev (by omega) (by omega)) fun l H1 nl e1 hl => q i l H1 (by omega) (by omega) nl e1 hl
theorem ok_law_sorted (T : Top K mg) : FnOk P w K mg base CX0 1 T.f__law_sorted T.d__law_sorted ["some"] (spSorted K) := by
  refine T.F__law_sorted.ok sc__law_sorted (fun as H Q E h => ?_) (fun cdv A outer s H as Q E hr h => ?_)
  · obtain ⟨a, ns, rfl, _⟩ := h
    rfl
  · obtain ⟨a, ns, rfl, hs, hl, q⟩ := h
    refine ⟨_, (pss_one (ps_ret (pe_callTy (call_tupleK (K := K) rfl) (by rfl) T.m_tuple (by decide +kernel) (pa_cons (pe_callB (call_sortedDI rfl) (by rfl) T.m_sorted (by decide +kernel) (pa_cons (pe_callTy (call_dictP rfl) (by rfl) T.m_dict (by decide +kernel) (pa_cons (pe_lc (own := [("one", 1)]) (g := gName 1) (tt := tYes) rfl sc__law_sorted.nd (pi_listK (K := K) rfl (pv 0)) (blkOk_by (own := [("one", 1)]) (N := N__law_sorted) (sc := defScope s__law_sorted) (by decide +kernel)) (fun _ _ _ _ _ => (pg_name (i := 1) sc__law_sorted.nd rfl (.inl rfl))) (fun _ _ _ _ _ => pts_nil) (fun _ _ _ _ _ => (pe_tup (pa_cons (pv 1) (pa_cons pe_bl pa_nil))))) pa_nil)) pa_nil)) pa_nil)))), ?_⟩
    refine s_ret3 ?_
    refine elp_mapL (K := K) (σ := L2.start N__law_sorted [.ref a]) (tl := tVar 0) (vs := [1]) (j := 1) (te := tTup (tCons (tVar 1) (tCons (tC (.bl true)) tNil))) (R := fun x y H => ∃ r, y = .ref r ∧ SqT K H r [x, .bl true]) (fun x y H H' t ⟨r, e, h⟩ => ⟨r, e, t _ _ h⟩) (ev_var rfl) hs (by simp; omega) (fun x => rfl)
      (fun i x H1 e hx H2 e2 Q' q' => ⟨x, rfl, by show 2 ≤ sizeLine; decide, fun r nr => q' _ _ (Evl.Ex.new nr) ⟨r, rfl, sqt_of upd_same⟩⟩) H (Evl.Ex.refl _) _ fun p ys H1 np e1 hp ⟨hyl, hy⟩ => ?_
    obtain ⟨ps, rfl, hps⟩ := paired_refs (K := K) (H := H1) (.bl true) ns ys (by rw [hyl, List.length_map]) fun i n y hn hy' => hy i (.int n) y (by rw [List.getElem?_map, hn]; rfl) hy'
    refine ⟨p, ps, _, rfl, sql_of hp, hps, fun d nd => ?_⟩
    obtain ⟨ks, k1, k2, k3⟩ := merge_keys (ns.map fun n => ((Sum.inl n : Key), V.bl true)) [] [] rfl ns (by simp)
    refine ⟨d, _, ks, rfl, .inl upd_same, k1, by simp at k3; omega, fun ms l hperm hsort nl => ?_⟩
    refine ⟨l, ms.map V.int, rfl, .inl ⟨sql_of upd_same, fun t nt => ?_⟩⟩
    refine q t ms _ (((e1.trans (Evl.Ex.new nd)).trans (Evl.Ex.new nl)).trans (Evl.Ex.new nt)) upd_same (fun x => ?_) ?_
    · rw [hperm.mem_iff, k2]
      simp
    · rw [hperm.length_eq]
      simpa using k3
theorem ok_law_cut (T : Top K mg) : FnOk P w K mg base CX0 1 T.f__law_cut T.d__law_cut ["top", "low"] spCut := by
  refine T.F__law_cut.ok sc__law_cut (fun as H Q E h => ?_) (fun cdv A outer s H as Q E hr h => ?_)
  · obtain ⟨t, l, rfl, _⟩ := h
    rfl
  · obtain ⟨t, l, rfl, h1, h2, q⟩ := h
    refine ⟨_, (pss_cons (ps_par (i := 2) (j := 3) (by rfl) sc__law_cut.nd rfl rfl (by decide) rfl rfl (pa_cons (pe_callB call_abs (by rfl) T.m_abs (by decide +kernel) (pa_cons (pv 0) pa_nil)) (pa_cons (pv 1) pa_nil)) (by rfl))
  (pss_cons (ps_while PassesOwn.never (pt_cmpR op_ne (pv 3) pe_int (nomark _)) (pss_one (ps_par (i := 2) (j := 3) (by rfl) sc__law_cut.nd rfl rfl (by decide) rfl rfl (pa_cons (pv 3) (pa_cons (pe_op op_mod (pv 2) (pv 3)) pa_nil)) (by rfl))))
  (pss_one (ps_ret (pe_tup (pa_cons (pe_callTy call_int1 (by rfl) T.m_int (by decide +kernel) (pa_cons (pe_op op_fdiv (pv 0) (pv 2)) pa_nil)) (pa_cons (pe_callTy call_int1 (by rfl) T.m_int (by decide +kernel) (pa_cons (pe_op op_fdiv (pv 1) (pv 2)) pa_nil)) pa_nil))))))), ?_⟩
    obtain ⟨ln, rfl⟩ := Int.eq_ofNat_of_zero_le (show 0 ≤ l by omega)
    refine q_par (ea_cons (ev_abs (ev_var rfl)) (ea_cons (ev_var rfl) ea_nil)) fun H1 e1 => ?_
    rw [abs_nat]
    refine q_while (fun m σ' H' => ∃ x y : Nat, σ' = [some (.int t), some (.int (ln : Int)), some (.int x), some (.int y)] ∧ m = y ∧ Nat.gcd x y = Nat.gcd t.natAbs ln ∧ Ex H H') ln ⟨t.natAbs, ln, rfl, rfl, rfl, e1⟩ ?_
    rintro m σ' H' ⟨x, y, rfl, rfl, hg, e⟩
    refine ⟨_, et_test (ev_op (ev_var rfl) ev_c (rv_ne rfl)), fun hb H2 e2 => ?_, fun hb H2 e2 => ?_⟩
    · have hy : m ≠ 0 := by
        intro z
        subst z
        simp at hb
      refine ⟨fun σ2 H3 => σ2 = [some (.int t), some (.int (ln : Int)), some (.int (m : Int)), some (.int ((x % m : Nat) : Int))] ∧ Ex H H3, fun σ2 H3 hN => ?_, ?_⟩
      · obtain ⟨rfl, e3⟩ := hN
        exact ⟨x % m, Nat.mod_lt _ (Nat.pos_of_ne_zero hy), m, x % m, rfl, rfl, by rw [← hg, Nat.gcd_comm x m, Nat.gcd_rec m x, Nat.gcd_comm], e3⟩
      · refine s_par (ea_cons (ev_var rfl) (ea_cons (ev_op (ev_var rfl) (ev_var rfl) (rv_mod (by omega))) ea_nil)) fun H3 e3 => ?_
        exact ⟨rfl, (e.trans e2).trans e3⟩
    · have hy : m = 0 := by simpa using hb
      subst hy
      rw [Nat.gcd_zero_right] at hg
      subst hg
      have g0 : 0 < Nat.gcd t.natAbs ln := Nat.gcd_pos_of_pos_right _ (by omega)
      have g1 : Nat.gcd t.natAbs ln ≤ ln := Nat.gcd_le_right _ (by omega)
      refine s_retU (eu_tup (ea_cons (ev_int1 (ev_op (ev_var rfl) (ev_var rfl) (rv_div (by omega)))) (ea_cons (ev_int1 (ev_op (ev_var rfl) (ev_var rfl) (rv_div (by omega)))) ea_nil)) (by simp)) fun p H3 _ e3 hp => ?_
      exact q p H3 ((e.trans e2).trans e3) hp
end
end K33

namespace K33
open PySem PySem.Spec PyProof.Rows L2 Gz Evl
open Zn (ent Gd putG withF passF setF leF Zone lw OZ owF)
section
variable {P : Program} {w : World} {K : PySem.W.Frag} {mg : Str → Option Value} {base : Heap}
/-- rows that stand for guards -/
def IsG (K : PySem.W.Frag) (n : Nat) : V → Hp → Prop := fun v H => ∃ (r : Addr) (g : Gd), v = .ref r ∧ SqT K H r (gV g) ∧ g.Ok n
theorem pick_guards {n : Nat} {H : Hp} : ∀ {ys : List V}, (∀ y ∈ ys, IsG K n y H) → ∃ (rs : List Addr) (gs : List Gd), ys = rs.map V.ref ∧ rs.length = gs.length ∧ (∀ (i : Nat) r g, rs[i]? = some r → gs[i]? = some g → SqT K H r (gV g)) ∧ (∀ g ∈ gs, g.Ok n)
  | [], _ => ⟨[], [], rfl, rfl, fun i r g h => by simp at h, fun _ h => absurd h List.not_mem_nil⟩
  | y :: ys, h => by
    obtain ⟨r, g, rfl, h1, h2⟩ := h y List.mem_cons_self
    obtain ⟨rs, gs, rfl, e2, e3, e4⟩ := pick_guards (ys := ys) fun z hz => h z (List.mem_cons_of_mem _ hz)
    refine ⟨r :: rs, g :: gs, rfl, by rw [List.length_cons, List.length_cons, e2], fun i r' g' hr hg => ?_, fun g' hg => ?_⟩
    · cases i with
      | zero =>
        obtain rfl := Option.some.inj hr
        obtain rfl := Option.some.inj hg
        exact h1
      | succ i => exact e3 i r' g' (by simpa using hr) (by simpa using hg)
    · rcases List.mem_cons.mp hg with e | e
      · exact e ▸ h2
      · exact e4 g' e
def spGuard (K : PySem.W.Frag) : Sp := fun as H Q _ => ∃ (p : Addr) (n k c : Nat), as = [.ref p, .int k, .int c] ∧ Pot H p n ∧ n + 100 ≤ 100000 ∧ 1 ≤ k ∧ k ≤ 10 ∧ c ≤ 10 ∧
  ∀ q gs H', GAt K H' q gs → gs.length = c → (∀ g ∈ gs, g.Ok (k + 1)) → But p H H' → Pot H' p (n + c * 3) → Q (.ref q) H'
theorem ok_law_guard (T : Top K mg) : FnOk P w K mg base CX0 3 T.f__law_guard T.d__law_guard ["pot", "many", "most"] (spGuard K) := by
  have G__law_take := ok_law_take (P := P) (w := w) (base := base) T
  have G__law_of := ok_law_of (P := P) (w := w) (base := base) T
  refine T.F__law_guard.ok sc__law_guard (fun as H Q E h => ?_) (fun cdv A outer s H as Q E hr h => ?_)
  · obtain ⟨p, n, k, c, rfl, _⟩ := h
    rfl
  · obtain ⟨p, n, k, c, rfl, hp, hn, h1, h2, h3, q⟩ := h
    refine ⟨_, (pss_cons (ps_set (i := 3) sc__law_guard.nd rfl (.inr rfl) (pe_lst (pa_cons pe_str (pa_cons pe_str (pa_cons pe_str (pa_cons pe_str pa_nil))))))
  (pss_one (ps_ret (pe_callTy (call_tupleK (K := K) rfl) (by rfl) T.m_tuple (by decide +kernel) (pa_cons (pe_lc (own := [("lap", 4)]) (g := gName 4) (tt := tYes) rfl sc__law_guard.nd (pi_range1 (by rfl) T.m_range (pa_cons (pv 2) pa_nil)) (blkOk_by (own := [("lap", 4)]) (N := N__law_guard) (sc := defScope s__law_guard) (by decide +kernel)) (fun _ _ _ _ _ => (pg_name (i := 4) sc__law_guard.nd rfl (.inl rfl))) (fun _ _ _ _ _ => pts_nil) (fun _ _ _ _ _ => (pe_tup (pa_cons (pe_call G__law_take (hr.mono (by decide)) (by rfl) T.g__law_take T.F__law_take.kp T.b__law_take .nil pass0 (pa_cons (pv 0) (pa_cons (pv 1) pa_nil))) (pa_cons (pe_call G__law_of (hr.mono (by decide)) (by rfl) T.g__law_of T.F__law_of.kp T.b__law_of .nil pass0 (pa_cons (pv 0) (pa_cons (pv 3) pa_nil))) (pa_cons (pe_call G__law_take (hr.mono (by decide)) (by rfl) T.g__law_take T.F__law_take.kp T.b__law_take .nil pass0 (pa_cons (pv 0) (pa_cons pe_int pa_nil))) pa_nil)))))) pa_nil))))), ?_⟩
    refine q_asgL (el_lst (ea_cons ev_c (ea_cons ev_c (ea_cons ev_c (ea_cons ev_c ea_nil)))) (by simp)) fun l H1 nl e1 hl => ?_
    have nel : l ≠ p := by
      rintro rfl
      obtain ⟨a, b, c, h, _⟩ := hp.at'
      rw [nl] at h
      cases h
    refine s_ret1 (tLc_ta ?_)
    refine use_ea (ea_cons (ev_var rfl) ea_nil) fun H1' e1' => ?_
    have hl := e1' l _ hl
    have e1 := e1.trans e1'
    refine lc_pot (K := K) (s := 3) rfl (IsG K (k + 1)) (fun y H H' t ⟨r, g, e, h, ok⟩ => ⟨r, g, e, t _ _ h, ok⟩) (hp.ex e1) (Nat.le_trans h3 (by decide)) (fun x => rfl) (fun i H2 hi b2 p2 Q' q' => ?_) fun a ys H3 na nea b3 p3 ha hl2 hR => ?_
    · have hi3 : i * 3 ≤ 30 := by omega
      refine ⟨.ref p, rfl, .int (k : Int), rfl, p, n + i * 3, (k : Int), rfl, p2, by omega, by omega, by omega, fun d H3 d0 d1 b3 p3 => ?_⟩
      refine ⟨.ref p, rfl, .ref l, rfl, p, l, _, _, rfl, p3, by omega, (b3.lst nel (b2.lst nel (sql_of hl))), nel, by simp, by simp, fun x H4 hx b4 p4 => ?_⟩
      refine ⟨.ref p, rfl, p, _, 13, rfl, p4, by omega, by omega, by omega, fun z H5 z0 z1 b5 p5 => ?_⟩
      refine ⟨by show 3 ≤ sizeLine; decide, fun r nr => ?_⟩
      obtain ⟨up, le, hx'⟩ : ∃ up le : Bool, ∀ c m, x = .str (gStr ⟨c, up, le, m⟩) := by
        rcases List.mem_cons.mp hx with rfl | hx
        · exact ⟨true, false, fun _ _ => rfl⟩
        rcases List.mem_cons.mp hx with rfl | hx
        · exact ⟨true, true, fun _ _ => rfl⟩
        rcases List.mem_cons.mp hx with rfl | hx
        · exact ⟨false, false, fun _ _ => rfl⟩
        rcases List.mem_cons.mp hx with rfl | hx
        · exact ⟨false, true, fun _ _ => rfl⟩
        · cases hx
      obtain ⟨dn, rfl⟩ := Int.eq_ofNat_of_zero_le d0
      obtain ⟨zn, rfl⟩ := Int.eq_ofNat_of_zero_le z0
      refine q' _ _ (((b3.trans b4).trans b5).new nr) ?_ ⟨r, ⟨dn, up, le, zn⟩, rfl, ?_, ?_⟩
      · have e : n + (i + 1) * 3 = n + i * 3 + 1 + 1 + 1 := by omega
        rw [e]
        exact p5.ex (Evl.Ex.new nr)
      · rw [hx' dn zn]
        exact sqt_of upd_same
      · exact ⟨by show 1 + dn < k + 1; omega, by show zn ≤ 12; omega⟩
    · refine ⟨a, ys, rfl, .inl ⟨sql_of ha, fun t nt => ?_⟩⟩
      have e3 := Evl.Ex.new (o := .tup ys) nt
      obtain ⟨rs, gs, rfl, g2, g3, g4⟩ := pick_guards hR
      refine q t gs _ ⟨rs, sqt_of upd_same, g2, fun i r g a b => ex_t e3 (g3 i r g a b)⟩ ?_ g4 (((But.of e1).trans b3).new nt) (p3.ex e3)
      rw [← g2]
      simpa using hl2
/-! ### zones or nothing -/
def spLWith (K : PySem.W.Frag) : Sp := fun as H Q _ => ∃ (v : V) (gp : Addr) (n c : Nat) (oz : Option (List Int)) (gs : List Gd), as = [v, .ref gp] ∧ IsO K (oz.map Vi) v H ∧ OZ n c oz ∧ c ≤ 600 ∧ GAt K H gp gs ∧ (∀ g ∈ gs, g.Ok n) ∧ gs.length ≤ 1000 ∧ RetP (IsO K ((lw n oz gs).map Vi)) H Q
theorem ok_law_with (T : Top K mg) : FnOk P w K mg base CX0 7 T.f__law_with T.d__law_with ["zone", "guard"] (spLWith K) := by
  have G_zone_with := ok_zone_with (P := P) (w := w) (base := base) T
  refine T.F__law_with.ok sc__law_with (fun as H Q E h => ?_) (fun cdv A outer s H as Q E hr h => ?_)
  · obtain ⟨v, gp, n, c, oz, gs, rfl, _⟩ := h
    rfl
  · obtain ⟨v, gp, n, c, oz, gs, rfl, hv, hz, hc, hg, ok, hl, q⟩ := h
    refine ⟨_, (pss_one (ps_ret (pe_ifExp (pt_cmpR op_isN (pv 0) pe_non (nomark _)) pe_non (pe_kw (E := E0) G_zone_with (hr.mono (by decide)) (by rfl) T.g_zone_with T.F_zone_with.kp T.w_zone_with (pk_cons (pv 0) (pk_cons (pv 1) pk_nil)))))), ?_⟩
    refine et_test (ev_isN (ev_var rfl)) H (Evl.Ex.refl _) _ fun H1 e1 => ite2 (fun hb => ?_) (fun hb => ?_)
    · cases oz with
      | none => exact q _ H1 e1 rfl
      | some m =>
        obtain ⟨p, rfl, _⟩ := hv
        simp at hb
    · cases oz with
      | none =>
        obtain rfl := (show v = .non from hv)
        simp at hb
      | some m =>
        obtain ⟨p, rfl, hp⟩ := hv
        exact ⟨.ref p, rfl, .ref gp, rfl, p, gp, n, c, m, gs, rfl, ⟨ex_t e1 hp, hz m rfl, hc⟩, hg.ex e1, ok, hl, fun v H2 e2 hv => q v H2 (e1.trans e2) hv⟩
def spLLater (K : PySem.W.Frag) : Sp := fun as H Q _ => ∃ (v : V) (n c : Nat) (oz : Option (List Int)), as = [v] ∧ IsO K (oz.map Vi) v H ∧ OZ n c oz ∧ c ≤ 600 ∧ RetP (IsO K ((oz.map (passF n)).map Vi)) H Q
theorem ok_law_later (T : Top K mg) : FnOk P w K mg base CX0 7 T.f__law_later T.d__law_later ["zone"] (spLLater K) := by
  have G_later_zone := ok_later_zone (P := P) (w := w) (base := base) T
  refine T.F__law_later.ok sc__law_later (fun as H Q E h => ?_) (fun cdv A outer s H as Q E hr h => ?_)
  · obtain ⟨v, n, c, oz, rfl, _⟩ := h
    rfl
  · obtain ⟨v, n, c, oz, rfl, hv, hz, hc, q⟩ := h
    refine ⟨_, (pss_one (ps_ret (pe_ifExp (pt_cmpR op_isN (pv 0) pe_non (nomark _)) pe_non (pe_kw (E := E0) G_later_zone (hr.mono (by decide)) (by rfl) T.g_later_zone T.F_later_zone.kp T.w_later_zone (pk_cons (pv 0) pk_nil))))), ?_⟩
    refine et_test (ev_isN (ev_var rfl)) H (Evl.Ex.refl _) _ fun H1 e1 => ite2 (fun hb => ?_) (fun hb => ?_)
    · cases oz with
      | none => exact q _ H1 e1 rfl
      | some m =>
        obtain ⟨p, rfl, _⟩ := hv
        simp at hb
    · cases oz with
      | none =>
        obtain rfl := (show v = .non from hv)
        simp at hb
      | some m =>
        obtain ⟨p, rfl, hp⟩ := hv
        exact ⟨.ref p, rfl, p, n, c, m, rfl, ⟨ex_t e1 hp, hz m rfl, hc⟩, fun v H2 e2 hv => q v H2 (e1.trans e2) hv⟩
def spLSet (K : PySem.W.Frag) : Sp := fun as H Q _ => ∃ (v : V) (rp : Addr) (n c : Nat) (oz : Option (List Int)) (cs : List Nat), as = [v, .ref rp] ∧ IsO K (oz.map Vi) v H ∧ OZ n c oz ∧ c ≤ 600 ∧ SqT K H rp (Vn cs) ∧ (∀ x ∈ cs, 1 + x < n) ∧ cs.length ≤ 1000 ∧ RetP (IsO K ((oz.map (setF n cs)).map Vi)) H Q
theorem ok_law_set (T : Top K mg) : FnOk P w K mg base CX0 7 T.f__law_set T.d__law_set ["zone", "places"] (spLSet K) := by
  have G_zone_set := ok_zone_set (P := P) (w := w) (base := base) T
  refine T.F__law_set.ok sc__law_set (fun as H Q E h => ?_) (fun cdv A outer s H as Q E hr h => ?_)
  · obtain ⟨v, rp, n, c, oz, cs, rfl, _⟩ := h
    rfl
  · obtain ⟨v, rp, n, c, oz, cs, rfl, hv, hz, hc, hs, hx, hl, q⟩ := h
    refine ⟨_, (pss_one (ps_ret (pe_ifExp (pt_cmpR op_isN (pv 0) pe_non (nomark _)) pe_non (pe_kw (E := E0) G_zone_set (hr.mono (by decide)) (by rfl) T.g_zone_set T.F_zone_set.kp T.w_zone_set (pk_cons (pv 0) (pk_cons (pv 1) pk_nil)))))), ?_⟩
    refine et_test (ev_isN (ev_var rfl)) H (Evl.Ex.refl _) _ fun H1 e1 => ite2 (fun hb => ?_) (fun hb => ?_)
    · cases oz with
      | none => exact q _ H1 e1 rfl
      | some m =>
        obtain ⟨p, rfl, _⟩ := hv
        simp at hb
    · cases oz with
      | none =>
        obtain rfl := (show v = .non from hv)
        simp at hb
      | some m =>
        obtain ⟨p, rfl, hp⟩ := hv
        exact ⟨.ref p, rfl, .ref rp, rfl, p, rp, n, c, m, cs, rfl, ⟨ex_t e1 hp, hz m rfl, hc⟩, ex_t e1 hs, hx, hl, fun v H2 e2 hv => q v H2 (e1.trans e2) hv⟩
def spLWithin (K : PySem.W.Frag) : Sp := fun as H Q _ => ∃ (v u : V) (n c : Nat) (oz oy : Option (List Int)), as = [v, u] ∧ IsO K (oz.map Vi) v H ∧ IsO K (oy.map Vi) u H ∧ OZ n c oz ∧ OZ n c oy ∧ c ≤ 600 ∧ RetV (.bl (owF oz oy)) H Q
theorem ok_law_is_within (T : Top K mg) : FnOk P w K mg base CX0 7 T.f__law_is_within T.d__law_is_within ["one", "other"] (spLWithin K) := by
  have G_is_zone_within := ok_is_zone_within (P := P) (w := w) (base := base) T
  refine T.F__law_is_within.ok sc__law_is_within (fun as H Q E h => ?_) (fun cdv A outer s H as Q E hr h => ?_)
  · obtain ⟨v, u, n, c, oz, oy, rfl, _⟩ := h
    rfl
  · obtain ⟨v, u, n, c, oz, oy, rfl, hv, hu, hz, hy, hc, q⟩ := h
    refine ⟨_, (pss_one (ps_ret (pe_or (pe_cmpR op_isN (pv 0) pe_non (nomark _)) (pe_one (pe_and (pe_cmpR op_notN (pv 1) pe_non (nomark _)) (pe_one (pe_kw (E := E0) G_is_zone_within (hr.mono (by decide)) (by rfl) T.g_is_zone_within T.F_is_zone_within.kp T.w_is_zone_within (pk_cons (pv 0) (pk_cons (pv 1) pk_nil))))))))), ?_⟩
    refine s_ret (v := .bl (owF oz oy)) (ev_is (ev_orV (a := decide (v = .non)) (b := owF oz oy) (ev_isN (ev_var rfl)) fun h1 => ev_is (ev_andV (a := !decide (u = .non)) (b := owF oz oy) (ev_notN (ev_var rfl)) fun h2 => ?_) ?_) ?_) q
    · cases oz with
      | none =>
        obtain rfl := (show v = .non from hv)
        simp at h1
      | some m =>
        obtain ⟨p, rfl, hp⟩ := hv
        cases oy with
        | none =>
          obtain rfl := (show u = .non from hu)
          simp at h2
        | some m' =>
          obtain ⟨p2, rfl, hp2⟩ := hu
          exact ev_kw (ea_cons (ev_var rfl) (ea_cons (ev_var rfl) ea_nil)) fun H1 e1 Q q E => ⟨p, p2, n, c, c, m, m', rfl, ⟨ex_t e1 hp, hz m rfl, hc⟩, ⟨ex_t e1 hp2, hy m' rfl, hc⟩, q⟩
    · cases oz with
      | none =>
        obtain rfl := (show v = .non from hv)
        simp at h1
      | some m =>
        cases oy with
        | none =>
          obtain rfl := (show u = .non from hu)
          rfl
        | some m' =>
          obtain ⟨p2, rfl, hp2⟩ := hu
          simp
    · cases oz with
      | none =>
        obtain rfl := (show v = .non from hv)
        rfl
      | some m =>
        obtain ⟨p, rfl, hp⟩ := hv
        simp
end
end K33

namespace K33
open PySem PySem.Spec PyProof.Rows L2 Gz Evl
open Zn (ent Gd putG withF passF setF leF Zone lw OZ owF Fr keepF keep1)
section
variable {P : Program} {w : World} {K : PySem.W.Frag} {mg : Str → Option Value} {base : Heap}
def spLZone (K : PySem.W.Frag) : Sp := fun as H Q _ => ∃ (p : Addr) (n k : Nat), as = [.ref p, .int k] ∧ Pot H p n ∧ n + 1000 ≤ 100000 ∧ 1 ≤ k ∧ k ≤ 3 ∧
  ∀ z m H', SqT K H' z (Vi m) → Zone (k + 1) 6 m → But p H H' → Pot H' p (n + 49) → Q (.ref z) H'
theorem ok_law_zone (T : Top K mg) : FnOk P w K mg base CX0 7 T.f__law_zone T.d__law_zone ["pot", "many"] (spLZone K) := by
  have G__law_take := ok_law_take (P := P) (w := w) (base := base) T
  have G__law_sorted := ok_law_sorted (P := P) (w := w) (base := base) T
  have G__law_guard := ok_law_guard (P := P) (w := w) (base := base) T
  have G_first_zone := ok_first_zone (P := P) (w := w) (base := base) T
  have G_zone_set := ok_zone_set (P := P) (w := w) (base := base) T
  have G_later_zone := ok_later_zone (P := P) (w := w) (base := base) T
  have G_zone_with := ok_zone_with (P := P) (w := w) (base := base) T
  refine T.F__law_zone.ok sc__law_zone (fun as H Q E h => ?_) (fun cdv A outer s H as Q E hr h => ?_)
  · obtain ⟨p, n, k, rfl, _⟩ := h
    rfl
  · obtain ⟨p, n, k, rfl, hp, hn, h1, h2, q⟩ := h
    refine ⟨_, (pss_cons (ps_set (i := 2) sc__law_zone.nd rfl (.inl rfl) (pe_kw (E := E0) G_first_zone (hr.mono (by decide)) (by rfl) T.g_first_zone T.F_first_zone.kp T.w_first_zone (pk_cons (pv 1) pk_nil)))
  (pss_cons (ps_for PassesOwn.never rfl (pi_range1 (by rfl) T.m_range (pa_cons (pe_op op_add pe_int (pe_call G__law_take (hr.mono (by decide)) (by rfl) T.g__law_take T.F__law_take.kp T.b__law_take .nil pass0 (pa_cons (pv 0) (pa_cons pe_int pa_nil)))) pa_nil)) (pg_name (i := 3) sc__law_zone.nd rfl (.inl rfl))
    (pss_cons (ps_set (i := 4) sc__law_zone.nd rfl (.inl rfl) (pe_call G__law_take (hr.mono (by decide)) (by rfl) T.g__law_take T.F__law_take.kp T.b__law_take .nil pass0 (pa_cons (pv 0) (pa_cons pe_int pa_nil))))
  (pss_one (ps_if (pt_cmpR op_eq (pv 4) pe_int (nomark _)) (pss_one (ps_set (i := 2) sc__law_zone.nd rfl (.inl rfl) (pe_call G_zone_set (hr.mono (by decide)) (by rfl) T.g_zone_set T.F_zone_set.kp T.b_zone_set .nil pass0 (pa_cons (pv 2) (pa_cons (pe_call G__law_sorted (hr.mono (by decide)) (by rfl) T.g__law_sorted T.F__law_sorted.kp T.b__law_sorted .nil pass0 (pa_cons (pe_lst (pa_cons (pe_call G__law_take (hr.mono (by decide)) (by rfl) T.g__law_take T.F__law_take.kp T.b__law_take .nil pass0 (pa_cons (pv 0) (pa_cons (pv 1) pa_nil))) pa_nil)) pa_nil)) pa_nil))))) (pss_one (ps_if (pt_cmpR op_eq (pv 4) pe_int (nomark _)) (pss_one (ps_set (i := 2) sc__law_zone.nd rfl (.inl rfl) (pe_call G_later_zone (hr.mono (by decide)) (by rfl) T.g_later_zone T.F_later_zone.kp T.b_later_zone .nil pass0 (pa_cons (pv 2) pa_nil)))) (pss_cons (ps_set (i := 5) sc__law_zone.nd rfl (.inl rfl) (pe_call G_zone_with (hr.mono (by decide)) (by rfl) T.g_zone_with T.F_zone_with.kp T.b_zone_with .nil pass0 (pa_cons (pe_call G_later_zone (hr.mono (by decide)) (by rfl) T.g_later_zone T.F_later_zone.kp T.b_later_zone .nil pass0 (pa_cons (pv 2) pa_nil)) (pa_cons (pe_call G__law_guard (hr.mono (by decide)) (by rfl) T.g__law_guard T.F__law_guard.kp T.b__law_guard .nil pass0 (pa_cons (pv 0) (pa_cons (pv 1) (pa_cons (pe_op op_add pe_int (pe_call G__law_take (hr.mono (by decide)) (by rfl) T.g__law_take T.F__law_take.kp T.b__law_take .nil pass0 (pa_cons (pv 0) (pa_cons pe_int pa_nil)))) pa_nil)))) pa_nil))))
  (pss_one (ps_set (i := 2) sc__law_zone.nd rfl (.inl rfl) (pe_ifExp (pt_cmpR op_isN (pv 5) pe_non (nomark _)) (pv 2) (pv 5)))))))))))
  (pss_one (ps_ret (pv 2))))), ?_⟩
    refine q_asgP (P := IsT K (Vi (List.replicate ((k + 1) * (k + 1)) 1))) (evp_kw (ea_cons (ev_var rfl) ea_nil) fun H1 e1 Q q E => ⟨k, rfl, h1, h2, q⟩) fun v H1 e1 hv => ?_
    obtain ⟨z0, rfl, hz0⟩ := hv
    refine tFor_ta ?_
    refine ⟨.ref p, rfl, p, n, 6, rfl, hp.ex e1, by omega, by decide, by decide, fun laps H2 l0 l1 b2 p2 => ?_⟩
    refine ⟨1, laps, rfl, rfl, ?_⟩
    refine q_forR1 (ta := taC [.int (1 + laps)]) ea_C (by omega) (fun i σ' H' => ∃ z m y3 y4 y5, σ' = [some (.ref p), some (.int (k : Int)), some (.ref z), y3, y4, y5] ∧ But p H H' ∧ Pot H' p (n + 1 + i * 8) ∧ SqT K H' z (Vi m) ∧ Zone (k + 1) i m)
      (fun H3 e3 => ⟨z0, _, none, none, none, rfl, ((But.of e1).trans b2).trans (But.of e3), by simpa using p2.ex e3, ex_t e3 ((hp.ex e1).tup b2 hz0), Zn.first_zone (by omega)⟩) ?_ ?_
    · rintro i σ' H3 hi ⟨z, m, y3, y4, y5, rfl, b3, p3, hz, zn⟩
      have i8 : i * 8 ≤ 48 := by omega
      refine tSeq_asg ?_
      refine ⟨.ref p, rfl, p, _, 4, rfl, p3, by omega, by decide, by decide, fun way H4 w0 w1 b4 p4 => ?_⟩
      have hz4 := p3.tup b4 hz
      have b04 := b3.trans b4
      refine s_if (et_test (ev_op (ev_var rfl) ev_c (rv_eq rfl))) (fun hb H5 e5 => ?_) (fun hb H5 e5 => ?_)
      · -- zone_set
        refine tAsg_ ?_
        have p5 := p4.ex e5
        refine ⟨.ref z, rfl, .ref p, rfl, .int (k : Int), rfl, p, _, (k : Int), rfl, p5, by omega, by omega, by omega, fun d H6 d0 d1 b6 p6 => ⟨by show 1 ≤ sizeLine; decide, fun l nl => ?_⟩⟩
        refine ⟨l, [d], rfl, sql_of upd_same, by simp, fun t ms H7 e7 ht hms hml => ?_⟩
        obtain ⟨cs, c1, c2, c3, c4⟩ := nats_of (k := k) (ms := ms) fun x hx => by
          have := List.mem_singleton.mp ((hms x).mp hx)
          omega
        have e67 := (Evl.Ex.new (o := .lst [.int d]) nl).trans e7
        have hz7 := ex_t e67 (p5.tup b6 (ex_t e5 hz4))
        refine ⟨z, t, k + 1, i, m, cs, rfl, ⟨hz7, zn, by omega⟩, sqt_of (by rw [ht, c1]), fun x hx => by have := c3 x hx; omega, Nat.le_trans (Nat.le_of_eq c2) (Nat.le_trans hml (by simp)), fun v H8 e8 hv => ?_⟩
        obtain ⟨z', rfl, hz'⟩ := hv
        refine ⟨z', _, _, _, _, rfl, (((b04.trans (But.of e5)).trans b6).trans (But.of e67)).trans (But.of e8), ((p6.ex e67).ex e8).le (by omega), hz', (Zn.set_zone zn fun x hx => by have := c3 x hx; omega).mono (Nat.le_succ i)⟩
      · refine s_if (et_test (ev_op (ev_var rfl) ev_c (rv_eq rfl))) (fun hb H6 e6 => ?_) (fun hb H6 e6 => ?_)
        · refine tAsg_ ?_
          refine ⟨.ref z, rfl, z, k + 1, i, m, rfl, ⟨ex_t (e5.trans e6) hz4, zn, by omega⟩, fun v H7 e7 hv => ?_⟩
          obtain ⟨z', rfl, hz'⟩ := hv
          exact ⟨z', _, _, _, _, rfl, b04.trans (But.of ((e5.trans e6).trans e7)), (p4.ex ((e5.trans e6).trans e7)).le (by omega), hz', (Zn.pass_zone zn).mono (Nat.le_succ i)⟩
        · refine tSeq_asg ?_
          refine ⟨.ref z, rfl, z, k + 1, i, m, rfl, ⟨ex_t (e5.trans e6) hz4, zn, by omega⟩, fun v H7 e7 hv => ?_⟩
          obtain ⟨z', rfl, hz'⟩ := hv
          have e57 := (e5.trans e6).trans e7
          have p7 := p4.ex e57
          refine ⟨.ref p, rfl, .int (k : Int), rfl, .ref p, rfl, p, _, 2, rfl, p7, by omega, by decide, by decide, fun d H8 d0 d1 b8 p8 => ⟨1, d, rfl, rfl, ?_⟩⟩
          obtain ⟨dn, rfl⟩ := Int.eq_ofNat_of_zero_le d0
          refine ⟨p, _, k, 1 + dn, by simp, p8, by omega, by omega, by omega, by omega, fun q gs H9 hg gl ok b9 p9 => ?_⟩
          refine ⟨z', q, k + 1, i, _, gs, rfl, ⟨p8.tup b9 (p7.tup b8 hz'), Zn.pass_zone zn, by omega⟩, hg, ok, by omega, fun v H10 e10 hv => ?_⟩
          have bb := (((b04.trans (But.of e57)).trans b8).trans b9).trans (But.of e10)
          have pp := (p9.ex e10).le (m := n + 1 + (i + 1) * 8) (by omega)
          have hzz := ex_t e10 (p8.tup b9 (p7.tup b8 (ex_t e57 hz4)))
          refine tAsg_ ?_
          refine et_test (ev_isN (ev_var rfl)) H10 (Evl.Ex.refl _) _ fun H11 e11 => ite2 (fun hb => ?_) (fun hb => ?_)
          · exact ⟨.ref z, rfl, z, m, _, _, _, rfl, bb.trans (But.of e11), pp.ex e11, ex_t e11 hzz, zn.mono (Nat.le_succ i)⟩
          · have mt := Zn.with_meet (Zn.pass_zone zn) (by omega) ok
            cases hw : withF (k + 1) (passF (k + 1) m) gs with
            | none =>
              rw [hw] at hv
              obtain rfl := (show v = .non from hv)
              simp at hb
            | some r =>
              rw [hw] at hv mt
              obtain ⟨y, rfl, hy⟩ := hv
              exact ⟨.ref y, rfl, y, r, _, _, _, rfl, bb.trans (But.of e11), pp.ex e11, ex_t e11 hy, Zn.with_zone (Zn.pass_zone zn) ok mt⟩
    · rintro σ' H3 ⟨z, m, y3, y4, y5, rfl, b3, p3, hz, zn⟩
      exact s_ret (ev_var rfl) fun H4 e4 => q z m H4 (ex_t e4 hz) (zn.mono (by omega)) (b3.trans (But.of e4)) ((p3.ex e4).le (by omega))
/-! ### a point keeps a guard -/
def cmpB (g : Gd) (a b : Int) : Bool := if g.up then (if g.le then decide (a ≤ b) else decide (a < b)) else (if g.le then decide (a ≥ b) else decide (a > b))
theorem ev_dsel {σ : L2.St} {H : Hp} {a b : Int} {g : Gd} (h5 : σ[5]? = some (some (.int a))) (h6 : σ[6]? = some (some (.int b))) (h3 : σ[3]? = some (some (.str (gStr g)))) :
    Ev (tDGet (tDisp [(tC (.str "<"), tOp (rI0 fun i j => .bl (decide (i < j))) (tVar 5) (tVar 6)), (tC (.str "<="), tOp (rI0 fun i j => .bl (decide (i ≤ j))) (tVar 5) (tVar 6)), (tC (.str ">"), tOp (rI0 fun i j => .bl (decide (j < i))) (tVar 5) (tVar 6)), (tC (.str ">="), tOp (rI0 fun i j => .bl (decide (j ≤ i))) (tVar 5) (tVar 6))]) (tVar 3)) σ H (.bl (cmpB g a b)) := fun H1 e Q q => by
  intro p np
  refine ⟨_, h5, _, h6, a, b, rfl, rfl, _, h5, _, h6, a, b, rfl, rfl, _, h5, _, h6, a, b, rfl, rfl, _, h5, _, h6, a, b, rfl, rfl, upd_same, [(.inr "<", .bl (decide (a < b))), (.inr "<=", .bl (decide (a ≤ b))), (.inr ">", .bl (decide (b < a))), (.inr ">=", .bl (decide (b ≤ a)))], rfl, by simp, _, h3, p, .bl (cmpB g a b), rfl, ?_, q _ ((Evl.Ex.new np).mut np)⟩
  refine .inl ⟨_, .inr (gStr g), .inl upd_same, rfl, ?_⟩
  unfold cmpB gStr
  cases g.up <;> cases g.le <;> rfl
def spKeep (K : PySem.W.Frag) : Sp := fun as H Q _ => ∃ (vp gp : Addr) (n : Nat) (vs : List Fr) (gs : List Gd), as = [.ref vp, .ref gp] ∧ FAt K H vp vs ∧ GAt K H gp gs ∧ (∀ g ∈ gs, g.Ok n) ∧ vs.length + 1 = n ∧ RetV (.bl (keepF vs gs)) H Q
theorem ok_law_does_keep (T : Top K mg) : FnOk P w K mg base CX0 1 T.f__law_does_keep T.d__law_does_keep ["values", "guard"] (spKeep K) := by
  refine T.F__law_does_keep.ok sc__law_does_keep (fun as H Q E h => ?_) (fun cdv A outer s H as Q E hr h => ?_)
  · obtain ⟨vp, gp, n, vs, gs, rfl, _⟩ := h
    rfl
  · obtain ⟨vp, gp, n, vs, gs, rfl, ⟨fs, f1, f2, f3⟩, ⟨rs, g1, g2, g3⟩, ok, hn, q⟩ := h
    refine ⟨_, (pss_cons (ps_for PassesOwn.never rfl (pi_tupK (K := K) rfl (pv 1)) (pg_tup rfl (pgs_cons (pg_name (i := 2) sc__law_does_keep.nd rfl (.inl rfl)) (pgs_cons (pg_name (i := 3) sc__law_does_keep.nd rfl (.inl rfl)) (pgs_cons (pg_name (i := 4) sc__law_does_keep.nd rfl (.inl rfl)) pgs_nil))))
    (pss_cons (ps_par (i := 5) (j := 6) (by rfl) sc__law_does_keep.nd rfl rfl (by decide) rfl rfl (pa_cons (pe_ix (ix_tupK (K := K) rfl) (pe_ix (ix_tupK (K := K) rfl) (pv 0) (pv 2) (fun _ _ => rfl)) pe_int (fun _ _ => rfl)) (pa_cons (pe_op op_mul (pv 4) (pe_ix (ix_tupK (K := K) rfl) (pe_ix (ix_tupK (K := K) rfl) (pv 0) (pv 2) (fun _ _ => rfl)) pe_int (fun _ _ => rfl))) pa_nil)) (by rfl))
  (pss_one (ps_if (pt_not (pt_val (pe_dget (hu_of hr) (pe_disp (pps_cons pe_str (pe_cmpR op_lt (pv 5) (pv 6) (nomark _)) (pps_cons pe_str (pe_cmpR op_le (pv 5) (pv 6) (nomark _)) (pps_cons pe_str (pe_cmpR op_gt (pv 5) (pv 6) (nomark _)) (pps_cons pe_str (pe_cmpR op_ge (pv 5) (pv 6) (nomark _)) pps_nil)))) (by rfl) (by rfl) (fun z => by cases z) (by decide)) (pv 3) (fun _ _ => rfl)))) (pss_one (ps_ret pe_bl)) pss_nil))))
  (pss_one (ps_ret pe_bl))), ?_⟩
    refine q_forT (ev_var rfl) g1 (fun i σ' H' => ∃ y2 y3 y4 y5 y6, σ' = [some (.ref vp), some (.ref gp), y2, y3, y4, y5, y6] ∧ Ex H H' ∧ (gs.take i).all (keep1 vs) = true)
      (fun H1 e1 => ⟨none, none, none, none, none, rfl, e1, rfl⟩) (fun i σ' H' _ ⟨_, _, _, _, _, _, e, _⟩ => ex_t e g1) ?_ ?_
    · rintro i x σ' H2 hx ⟨y2, y3, y4, y5, y6, rfl, e2, ha⟩
      rw [List.getElem?_map] at hx
      obtain ⟨r, hr1, rfl⟩ := Option.map_eq_some_iff.mp hx
      have hi : i < gs.length := by
        rw [← g2]
        exact (List.getElem?_eq_some_iff.mp hr1).1
      have hgi : gs[i]? = some gs[i] := List.getElem?_eq_getElem hi
      have okg := ok _ (List.getElem_mem hi)
      have hsr := g3 i r _ hr1 hgi
      have sc : (gs.take (i + 1)).all (keep1 vs) = keep1 vs gs[i] := by
        rw [List.take_add_one, hgi, List.all_append, ha]
        simp
      have whole : keep1 vs gs[i] = false → keepF vs gs = false := fun h => by
        unfold keepF
        exact List.all_eq_false.mpr ⟨gs[i], List.getElem_mem hi, by rw [h]; exact Bool.false_ne_true⟩
      generalize gs[i] = g at okg hsr hgi sc whole
      have hcl : g.cl < vs.length := by have := okg.1; omega
      have hf : fs[g.cl]? = some fs[g.cl] := List.getElem?_eq_getElem (by omega)
      have hv : vs[g.cl]? = some vs[g.cl] := List.getElem?_eq_getElem hcl
      have hfr := f3 g.cl _ _ hf hv
      have hk : keep1 vs g = cmpB g (vs[g.cl]).1 ((g.num : Int) * (vs[g.cl]).2) := by
        unfold keep1 cmpB
        rw [List.getD_eq_getElem?_getD, hv]
        rfl
      rw [hk] at sc whole
      generalize vs[g.cl] = x at hfr sc whole
      generalize fs[g.cl] = fr at hf hfr
      refine ⟨r, gV g, rfl, ex_t e2 hsr, rfl, _, _, rfl, _, _, rfl, _, _, rfl, rfl, ?_⟩
      have at0 : ∀ {H3 : Hp} {y5 y6}, Ex H H3 → Ev (tOp (rIxT K) (tVar 0) (tVar 2)) [some (.ref vp), some (.ref gp), some (.int (g.cl : Int)), some (.str (gStr g)), some (.int (g.num : Int)), y5, y6] H3 (.ref fr) := fun e3 =>
        ev_op (ev_var rfl) (ev_var rfl) (rv_ixT (ex_t e3 f1) (at_map hf))
      have hnum := okg.2
      refine q_par (x := .int x.1) (y := .int ((g.num : Int) * x.2)) (ea_cons (ev_op (at0 e2) ev_c (rv_ixT (ex_t e2 hfr) rfl)) (ea_cons (ev_op (ev_var rfl) (ev_op (at0 e2) ev_c (rv_ixT (ex_t e2 hfr) rfl)) (rv_mul (by omega))) ea_nil)) fun H3 e3 => ?_
      refine s_when (et_not (et_B (ev_dsel (g := g) rfl rfl rfl))) (fun hb H4 e4 => ?_) (fun hb H4 e4 => ?_)
      · refine s_ret ev_c fun H5 e5 => ?_
        have : cmpB g x.1 ((g.num : Int) * x.2) = false := by simpa using hb
        rw [← whole this]
        exact q H5 ((e2.trans e3).trans (e4.trans e5))
      · have : cmpB g x.1 ((g.num : Int) * x.2) = true := by simpa using hb
        exact ⟨_, _, _, _, _, rfl, (e2.trans e3).trans e4, sc.trans this⟩
    · rintro σ' H2 ⟨y2, y3, y4, y5, y6, rfl, e2, ha⟩
      refine s_ret ev_c fun H3 e3 => ?_
      have : keepF vs gs = true := by
        rw [List.length_map, g2, List.take_length] at ha
        exact ha
      rw [← this]
      exact q H3 (e2.trans e3)
end
end K33

namespace K33
open PySem PySem.Spec PyProof.Rows L2 Gz Evl
open Zn (ent Gd putG withF passF setF leF Zone lw OZ owF Fr keepF keep1 inF)
section
variable {P : Program} {w : World} {K : PySem.W.Frag} {mg : Str → Option Value} {base : Heap}
theorem GAt.tl {H H' : Hp} {p : Addr} {gs : List Gd} (t : TupLe K H H') (h : GAt K H p gs) : GAt K H' p gs := by
  obtain ⟨rs, h1, h2, h3⟩ := h
  exact ⟨rs, t _ _ h1, h2, fun i r g a b => t _ _ (h3 i r g a b)⟩
theorem FAt.tl {H H' : Hp} {p : Addr} {gs : List Fr} (t : TupLe K H H') (h : FAt K H p gs) : FAt K H' p gs := by
  obtain ⟨rs, h1, h2, h3⟩ := h
  exact ⟨rs, t _ _ h1, h2, fun i r g a b => t _ _ (h3 i r g a b)⟩
theorem sm_of {n c : Nat} {o : Option (List Int)} (h : OZ n c o) (hc : c ≤ 600) : Sm o := fun m e => by
  have z := h m e
  have hn := z.size
  have : n * n ≤ 4 * 4 := Nat.mul_le_mul hn.2 hn.2
  refine ⟨by have := z.len; omega, fun x hx => ?_⟩
  have := Zn.zone_mem z hx
  have hF : Zn.FAR = 1000000 := rfl
  have : (10 : Nat) ^ 12 = 1000000000000 := by decide
  omega
theorem ow_le {n c : Nat} {a b : List Int} (ha : Zone n c a) (hb : Zone n c b) (hc : c ≤ 600) (h : Zn.Le n a b) : owF (some a) (some b) = true := Zn.le_leF ha (by omega) hb h
/-- points -/
def IsF (K : PySem.W.Frag) : V → Hp → Prop := fun v H => ∃ (r : Addr) (x : Fr), v = .ref r ∧ SqT K H r [.int x.1, .int x.2] ∧ (Small x ∧ Nat.gcd x.1.natAbs x.2.natAbs = 1)
theorem pick_fracs {H : Hp} : ∀ {ys : List V}, (∀ y ∈ ys, IsF K y H) → ∃ (rs : List Addr) (vs : List Fr), ys = rs.map V.ref ∧ rs.length = vs.length ∧ (∀ (i : Nat) r (x : Fr), rs[i]? = some r → vs[i]? = some x → SqT K H r [.int x.1, .int x.2]) ∧ (∀ x ∈ vs, Small x ∧ Nat.gcd x.1.natAbs x.2.natAbs = 1)
  | [], _ => ⟨[], [], rfl, rfl, fun i r g h => by simp at h, fun _ h => absurd h List.not_mem_nil⟩
  | y :: ys, h => by
    obtain ⟨r, g, rfl, h1, h2⟩ := h y List.mem_cons_self
    obtain ⟨rs, gs, rfl, e2, e3, e4⟩ := pick_fracs (ys := ys) fun z hz => h z (List.mem_cons_of_mem _ hz)
    refine ⟨r :: rs, g :: gs, rfl, by rw [List.length_cons, List.length_cons, e2], fun i r' g' hr hg => ?_, fun g' hg => ?_⟩
    · cases i with
      | zero =>
        obtain rfl := Option.some.inj hr
        obtain rfl := Option.some.inj hg
        exact h1
      | succ i => exact e3 i r' g' (by simpa using hr) (by simpa using hg)
    · rcases List.mem_cons.mp hg with e | e
      · exact e ▸ h2
      · exact e4 g' e
theorem cut_ok {t l : Int} (t0 : 0 ≤ t) (t1 : t < 1000000) (l0 : 1 ≤ l) (l1 : l < 1000000) :
    Small (t / (Nat.gcd t.natAbs l.natAbs : Nat), l / (Nat.gcd t.natAbs l.natAbs : Nat)) ∧ Nat.gcd (t / (Nat.gcd t.natAbs l.natAbs : Nat)).natAbs (l / (Nat.gcd t.natAbs l.natAbs : Nat)).natAbs = 1 := by
  obtain ⟨a, rfl⟩ := Int.eq_ofNat_of_zero_le t0
  obtain ⟨b, rfl⟩ := Int.eq_ofNat_of_zero_le (show 0 ≤ l by omega)
  rw [Int.natAbs_natCast, Int.natAbs_natCast]
  have g0 : 0 < Nat.gcd a b := Nat.gcd_pos_of_pos_right _ (by omega)
  have ea : ((a : Int) / (Nat.gcd a b : Nat)) = ((a / Nat.gcd a b : Nat) : Int) := rfl
  have eb : ((b : Int) / (Nat.gcd a b : Nat)) = ((b / Nat.gcd a b : Nat) : Int) := rfl
  rw [ea, eb, Int.natAbs_natCast, Int.natAbs_natCast]
  have h1 : a / Nat.gcd a b ≤ a := Nat.div_le_self _ _
  have h2 : b / Nat.gcd a b ≤ b := Nat.div_le_self _ _
  have h3 : 0 < b / Nat.gcd a b := Nat.div_pos (Nat.gcd_le_right _ (by omega)) g0
  have hc := Nat.coprime_div_gcd_div_gcd g0
  generalize a / Nat.gcd a b = u at h1 hc
  generalize b / Nat.gcd a b = v at h2 h3 hc
  exact ⟨⟨⟨by show (-1000000 : Int) ≤ (u : Int); omega, by show (u : Int) ≤ (1000000 : Int); omega⟩, by show (1 : Int) ≤ (v : Int); omega, by show (v : Int) ≤ (1000000 : Int); omega⟩, hc⟩
def spGR (K : PySem.W.Frag) : Sp := fun as H Q _ => ∃ (p z : Addr) (n k : Nat) (m : List Int), as = [.ref p, .ref z, .int k] ∧ Pot H p n ∧ n + 10000 ≤ 100000 ∧ 1 ≤ k ∧ k ≤ 3 ∧ SqT K H z (Vi m) ∧ Zone (k + 1) 6 m ∧
  ∀ H', But p H H' → Pot H' p (n + 100) → Q (.bl true) H'
theorem ok_law_are_guards_right (T : Top K mg) : FnG P w K mg base 8 T.f__law_are_guards_right T.d__law_are_guards_right ["pot", "zone", "many"] (spGR K) := by
  have G__law_take := ok_law_take (P := P) (w := w) (base := base) T
  have G__law_guard := ok_law_guard (P := P) (w := w) (base := base) T
  have G__law_with := ok_law_with (P := P) (w := w) (base := base) T
  have G__law_is_within := ok_law_is_within (P := P) (w := w) (base := base) T
  have G__law_cut := ok_law_cut (P := P) (w := w) (base := base) T
  have G_is_in_zone := ok_is_in_zone (P := P) (w := w) (base := base) T
  have G__law_does_keep := ok_law_does_keep (P := P) (w := w) (base := base) T
  refine okG T.F__law_are_guards_right sc__law_are_guards_right (fun as H Q E h => ?_) (fun cdv A outer s H as Q E hrG h => ?_)
  · obtain ⟨p, z, n, k, m, rfl, _⟩ := h
    rfl
  · obtain ⟨p, z, n, k, m, rfl, hp, hn, h1, h2, hz, zn, q⟩ := h
    have hr := hrG.rm
    have hgd := hrG.gd
    have hu66 := units66 hr
    refine ⟨_, (pss_cons (ps_par (i := 3) (j := 4) (by rfl) sc__law_are_guards_right.nd rfl rfl (by decide) rfl rfl (pa_cons (pe_call G__law_guard (hr.mono (by decide)) (by rfl) T.g__law_guard T.F__law_guard.kp T.b__law_guard .nil pass0 (pa_cons (pv 0) (pa_cons (pv 2) (pa_cons (pe_call G__law_take (hr.mono (by decide)) (by rfl) T.g__law_take T.F__law_take.kp T.b__law_take .nil pass0 (pa_cons (pv 0) (pa_cons pe_int pa_nil))) pa_nil)))) (pa_cons (pe_call G__law_guard (hr.mono (by decide)) (by rfl) T.g__law_guard T.F__law_guard.kp T.b__law_guard .nil pass0 (pa_cons (pv 0) (pa_cons (pv 2) (pa_cons (pe_op op_add pe_int (pe_call G__law_take (hr.mono (by decide)) (by rfl) T.g__law_take T.F__law_take.kp T.b__law_take .nil pass0 (pa_cons (pv 0) (pa_cons pe_int pa_nil)))) pa_nil)))) pa_nil)) (by rfl))
  (pss_cons (ps_set (i := 5) sc__law_are_guards_right.nd rfl (.inl rfl) (pe_call G__law_with (hr.mono (by decide)) (by rfl) T.g__law_with T.F__law_with.kp T.b__law_with .nil pass0 (pa_cons (pe_call G__law_with (hr.mono (by decide)) (by rfl) T.g__law_with T.F__law_with.kp T.b__law_with .nil pass0 (pa_cons (pv 1) (pa_cons (pv 3) pa_nil))) (pa_cons (pv 4) pa_nil))))
  (pss_cons (ps_set (i := 6) sc__law_are_guards_right.nd rfl (.inl rfl) (pe_lst (pa_cons (pe_call G__law_with (hr.mono (by decide)) (by rfl) T.g__law_with T.F__law_with.kp T.b__law_with .nil pass0 (pa_cons (pe_call G__law_with (hr.mono (by decide)) (by rfl) T.g__law_with T.F__law_with.kp T.b__law_with .nil pass0 (pa_cons (pv 1) (pa_cons (pv 4) pa_nil))) (pa_cons (pv 3) pa_nil))) (pa_cons (pe_call G__law_with (hr.mono (by decide)) (by rfl) T.g__law_with T.F__law_with.kp T.b__law_with .nil pass0 (pa_cons (pv 1) (pa_cons (pe_op (op_catAK (K := K) rfl) (pv 3) (pv 4)) pa_nil))) (pa_cons (pe_call G__law_with (hr.mono (by decide)) (by rfl) T.g__law_with T.F__law_with.kp T.b__law_with .nil pass0 (pa_cons (pv 5) (pa_cons (pv 3) pa_nil))) pa_nil)))))
  (pss_cons (ps_if (pt_cmpR (op_neDK (K := K) rfl hr.units) (pe_lc (own := [("its", 11)]) (g := gName 11) (tt := tYes) rfl sc__law_are_guards_right.nd (pi_listK (K := K) rfl (pv 6)) (blkOk_by (own := [("its", 11)]) (N := N__law_are_guards_right) (sc := defScope s__law_are_guards_right) (by decide +kernel)) (fun _ _ _ _ _ => (pg_name (i := 11) sc__law_are_guards_right.nd rfl (.inl rfl))) (fun _ _ _ _ _ => pts_nil) (fun _ _ _ _ _ => (pe_callB (call_reprK (K := K) rfl hgd hu66) (by rfl) T.m_repr (by decide +kernel) (pa_cons (pv 11) pa_nil)))) (pe_op op_rep (pe_lst (pa_cons (pe_callB (call_reprK (K := K) rfl hgd hu66) (by rfl) T.m_repr (by decide +kernel) (pa_cons (pv 5) pa_nil)) pa_nil)) pe_int) (nomark _)) (pss_one (ps_ret pe_bl)) pss_nil)
  (pss_cons (ps_if (PW.pt (pw_or (pt_not (pt_val (pe_call G__law_is_within (hr.mono (by decide)) (by rfl) T.g__law_is_within T.F__law_is_within.kp T.b__law_is_within .nil pass0 (pa_cons (pv 5) (pa_cons (pe_call G__law_with (hr.mono (by decide)) (by rfl) T.g__law_with T.F__law_with.kp T.b__law_with .nil pass0 (pa_cons (pv 1) (pa_cons (pv 3) pa_nil))) pa_nil))))) (pw_or1 (pt_not (pt_val (pe_call G__law_is_within (hr.mono (by decide)) (by rfl) T.g__law_is_within T.F__law_is_within.kp T.b__law_is_within .nil pass0 (pa_cons (pe_call G__law_with (hr.mono (by decide)) (by rfl) T.g__law_with T.F__law_with.kp T.b__law_with .nil pass0 (pa_cons (pv 1) (pa_cons (pv 3) pa_nil))) (pa_cons (pv 1) pa_nil)))))))) (pss_one (ps_ret pe_bl)) pss_nil)
  (pss_cons (ps_for PassesOwn.never rfl (pi_range1 (by rfl) T.m_range (pa_cons pe_int pa_nil)) (pg_name (i := 7) sc__law_are_guards_right.nd rfl (.inl rfl))
    (pss_cons (ps_set (i := 8) sc__law_are_guards_right.nd rfl (.inl rfl) (pe_callTy (call_tupleK (K := K) rfl) (by rfl) T.m_tuple (by decide +kernel) (pa_cons (pe_lc (own := [("clock", 12)]) (g := gName 12) (tt := tYes) rfl sc__law_are_guards_right.nd (pi_range1 (by rfl) T.m_range (pa_cons (pv 2) pa_nil)) (blkOk_by (own := [("clock", 12)]) (N := N__law_are_guards_right) (sc := defScope s__law_are_guards_right) (by decide +kernel)) (fun _ _ _ _ _ => (pg_name (i := 12) sc__law_are_guards_right.nd rfl (.inl rfl))) (fun _ _ _ _ _ => pts_nil) (fun _ _ _ _ _ => (pe_call G__law_cut (hr.mono (by decide)) (by rfl) T.g__law_cut T.F__law_cut.kp T.b__law_cut .nil pass0 (pa_cons (pe_call G__law_take (hr.mono (by decide)) (by rfl) T.g__law_take T.F__law_take.kp T.b__law_take .nil pass0 (pa_cons (pv 0) (pa_cons pe_int pa_nil))) (pa_cons (pe_op op_add pe_int (pe_call G__law_take (hr.mono (by decide)) (by rfl) T.g__law_take T.F__law_take.kp T.b__law_take .nil pass0 (pa_cons (pv 0) (pa_cons pe_int pa_nil)))) pa_nil))))) pa_nil)))
  (pss_cons (ps_set (i := 9) sc__law_are_guards_right.nd rfl (.inl rfl) (pe_and (pe_kw (E := E0) G_is_in_zone (hr.mono (by decide)) (by rfl) T.g_is_in_zone T.F_is_in_zone.kp T.w_is_in_zone (pk_cons (pv 1) (pk_cons (pv 8) pk_nil))) (pe_one (pe_call G__law_does_keep (hr.mono (by decide)) (by rfl) T.g__law_does_keep T.F__law_does_keep.kp T.b__law_does_keep .nil pass0 (pa_cons (pv 8) (pa_cons (pv 3) pa_nil))))))
  (pss_cons (ps_set (i := 10) sc__law_are_guards_right.nd rfl (.inl rfl) (pe_call G__law_with (hr.mono (by decide)) (by rfl) T.g__law_with T.F__law_with.kp T.b__law_with .nil pass0 (pa_cons (pv 1) (pa_cons (pv 3) pa_nil))))
  (pss_one (ps_if (pt_cmpR op_ne (pe_and (pe_cmpR op_notN (pv 10) pe_non (nomark _)) (pe_one (pe_call G_is_in_zone (hr.mono (by decide)) (by rfl) T.g_is_in_zone T.F_is_in_zone.kp T.b_is_in_zone .nil pass0 (pa_cons (pv 10) (pa_cons (pv 8) pa_nil))))) (pv 9) (nomark _)) (pss_one (ps_ret pe_bl)) pss_nil))))))
  (pss_one (ps_ret pe_bl)))))))), ?_⟩
    refine tSeq_par ?_
    -- the guards
    refine ⟨.ref p, rfl, .int (k : Int), rfl, .ref p, rfl, p, n, 3, rfl, hp, by omega, by decide, by decide, fun c1 H1 a1 a2 b1 p1 => ?_⟩
    obtain ⟨c1, rfl⟩ := Int.eq_ofNat_of_zero_le a1
    refine ⟨p, _, k, c1, rfl, p1, by omega, by omega, by omega, by omega, fun g1 gs H2 hg1 gl1 ok1 b2 p2 => ?_⟩
    refine ⟨.ref p, rfl, .int (k : Int), rfl, .ref p, rfl, p, _, 2, rfl, p2, by omega, by decide, by decide, fun c2 H3 a3 a4 b3 p3 => ⟨1, c2, rfl, rfl, ?_⟩⟩
    obtain ⟨c2, rfl⟩ := Int.eq_ofNat_of_zero_le a3
    refine ⟨p, _, k, 1 + c2, by simp, p3, by omega, by omega, by omega, by omega, fun g2 hs H4 hg2 gl2 ok2 b4 p4 => ⟨_, _, rfl, ?_⟩⟩
    have b04 := ((b1.trans b2).trans b3).trans b4
    have tl24 := (TupLe.pot (K := K) p2 b3).trans (TupLe.pot p3 b4)
    have tl04 := ((TupLe.pot (K := K) hp b1).trans (TupLe.pot p1 b2)).trans tl24
    have hg1 := GAt.tl tl24 hg1
    have hz := tl04 _ _ hz
    have pot4 := p4.le (m := n + 14) (by omega)
    clear p1 p2 p3 p4 b1 b2 b3 b4 tl24
    -- both
    have zO : IsO K ((some m).map Vi) (.ref z) H4 := ⟨z, rfl, hz⟩
    have zN : OZ (k + 1) 6 (some m) := Zn.oz_some zn
    have GR : lw (k + 1) (lw (k + 1) (some m) hs) gs = lw (k + 1) (lw (k + 1) (some m) gs) hs ∧ lw (k + 1) (some m) (gs ++ hs) = lw (k + 1) (lw (k + 1) (some m) gs) hs ∧ lw (k + 1) (lw (k + 1) (lw (k + 1) (some m) gs) hs) gs = lw (k + 1) (lw (k + 1) (some m) gs) hs := Zn.guards_right (gs := gs) (hs := hs) zn (by omega) ok1 ok2
    have oN1 : OZ (k + 1) 7 (lw (k + 1) (some m) gs) := Zn.lw_zone zN (by omega) ok1
    have oN2 : OZ (k + 1) 7 (lw (k + 1) (some m) hs) := Zn.lw_zone zN (by omega) ok2
    have oNb : OZ (k + 1) 8 (lw (k + 1) (lw (k + 1) (some m) gs) hs) := Zn.lw_zone oN1 (by omega) ok2
    refine tSeq_asg ?_
    refine ⟨.ref z, rfl, .ref g1, rfl, .ref z, g1, k + 1, 6, some m, gs, rfl, zO, zN, by omega, hg1, ok1, by omega, fun v1 H5 e5 hv1 => ?_⟩
    refine ⟨.ref g2, rfl, v1, g2, k + 1, 7, _, hs, rfl, hv1, oN1, by omega, hg2.ex e5, ok2, by omega, fun vb H6 e6 hvb => ?_⟩
    have e46 := e5.trans e6
    -- some
    refine tSeq_asg ?_
    refine ⟨.ref z, rfl, .ref g2, rfl, .ref z, g2, k + 1, 6, some m, hs, rfl, IsO.mono e46 zO, zN, by omega, hg2.ex e46, ok2, by omega, fun w1 H7 e7 hw1 => ?_⟩
    refine ⟨.ref g1, rfl, w1, g1, k + 1, 7, _, gs, rfl, hw1, oN2, by omega, hg1.ex (e46.trans e7), ok1, by omega, fun w2 H8 e8 hw2 => ?_⟩
    have e48 := (e46.trans e7).trans e8
    have hw2 : IsO K ((lw (k + 1) (lw (k + 1) (some m) gs) hs).map Vi) w2 H8 := by
      rw [GR.1] at hw2
      exact hw2
    refine ⟨.ref z, rfl, .ref g1, rfl, .ref g2, rfl, ?_⟩
    have cat : ∀ Q1 : VK, (∀ a H9, Ex H8 H9 → GAt K H9 a (gs ++ hs) → Q1 (.ref a) H9) → rCatA K (.ref g1) (.ref g2) H8 Q1 := fun Q1 q1 => by
      obtain ⟨rs1, r1, r2, r3⟩ := hg1.ex e48
      obtain ⟨rs2, t1, t2, t3⟩ := hg2.ex e48
      have both : ∀ H9, Ex H8 H9 → ∀ a, SqT K H9 a ((rs1 ++ rs2).map V.ref) → GAt K H9 a (gs ++ hs) := fun H9 e9 a ha => ⟨rs1 ++ rs2, ha, by rw [List.length_append, List.length_append, r2, t2], fun i r g hr hg => by
        by_cases hi : i < rs1.length
        · rw [List.getElem?_append_left hi] at hr
          rw [List.getElem?_append_left (by omega)] at hg
          exact ex_t e9 (r3 i r g hr hg)
        · rw [List.getElem?_append_right (by omega)] at hr hg
          rw [← r2] at hg
          exact ex_t e9 (t3 _ r g hr hg)⟩
      refine ⟨g1, g2, _, _, rfl, rfl, r1, t1, sz_of (by simp; omega), fun e => ?_, fun e e' => ?_, fun e e' p np => ?_⟩
      · refine q1 g2 H8 (Evl.Ex.refl _) (both _ (Evl.Ex.refl _) _ ?_)
        have : rs1 = [] := by simpa using e
        rw [this]
        exact t1
      · refine q1 g1 H8 (Evl.Ex.refl _) (both _ (Evl.Ex.refl _) _ ?_)
        have : rs2 = [] := by simpa using e'
        rw [this, List.append_nil]
        exact r1
      · refine q1 p _ (Evl.Ex.new np) (both _ (Evl.Ex.new np) _ (sqt_of ?_))
        rw [upd_same, List.map_append]
    refine cat _ fun gc H9 e9 hgc => ?_
    have okc : ∀ g ∈ gs ++ hs, g.Ok (k + 1) := fun g hg => (List.mem_append.mp hg).elim (ok1 g) (ok2 g)
    have e49 := e48.trans e9
    refine ⟨.ref z, gc, k + 1, 6, some m, gs ++ hs, rfl, IsO.mono e49 zO, zN, by omega, hgc, okc, by rw [List.length_append]; omega, fun w3 H10 e10 hw3 => ?_⟩
    have hw3 : IsO K ((lw (k + 1) (lw (k + 1) (some m) gs) hs).map Vi) w3 H10 := by
      rw [GR.2.1] at hw3
      exact hw3
    have e410 := e49.trans e10
    have e610 := ((e7.trans e8).trans e9).trans e10
    refine ⟨vb, rfl, .ref g1, rfl, vb, g1, k + 1, 8, _, gs, rfl, IsO.mono e610 hvb, oNb, by omega, hg1.ex e410, ok1, by omega, fun w4 H11 e11 hw4 => ?_⟩
    have hw4 : IsO K ((lw (k + 1) (lw (k + 1) (some m) gs) hs).map Vi) w4 H11 := by
      rw [GR.2.2] at hw4
      exact hw4
    refine ⟨by show 3 ≤ sizeLine; decide, fun l nl => ?_⟩
    have hl : (L2.upd H11 l (.lst [w2, w3, w4])) l = some (.lst [w2, w3, w4]) := upd_same
    have e11' := Evl.Ex.new (o := .lst [w2, w3, w4]) nl
    have W2 := IsO.mono (((e9.trans e10).trans e11).trans e11') hw2
    have W3 := IsO.mono (e11.trans e11') hw3
    have W4 := IsO.mono e11' hw4
    have WB := IsO.mono ((e610.trans e11).trans e11') hvb
    have e412 := (e410.trans e11).trans e11'
    generalize L2.upd H11 l (.lst [w2, w3, w4]) = H12 at hl W2 W3 W4 WB e412
    clear e11' nl e11 e610 e410 e10 e49 e9 e48 e8 e7 e46 e6 e5 hw2 hw3 hw4 hvb hv1 hw1 cat hgc
    -- the reprs
    have smb := sm_of oNb (by omega)
    generalize hB : lw (k + 1) (lw (k + 1) (some m) gs) hs = B at *
    refine q_skip (et_test (ev_neSame (K := K) (ss := [(dd B).shown, (dd B).shown, (dd B).shown]) (fun s hs => ?_) (el_mapL (ev_var rfl) (sql_of hl) rfl (by simp) (fun x => rfl) fun i x y H13 e13 hx hy => ?_) (el_rep (k := 3) (xs := [.str (dd B).shown]) (el_lst (ea_cons (ev_reprO (ev_var rfl) WB smb) ea_nil) (by simp)) ev_c (by decide) (by simp)))) fun H13 e13 => ?_
    · have : s = (dd B).shown := by simpa using hs
      rw [this]
      exact cp_dd B
    · have hy : y = .str (dd B).shown := by
        rcases i with _ | _ | _ | i
        · exact (Option.some.inj hy).symm
        · exact (Option.some.inj hy).symm
        · exact (Option.some.inj hy).symm
        · simp at hy
      have hx : IsO K (B.map Vi) x H12 := by
        rcases i with _ | _ | _ | i
        · exact Option.some.inj hx ▸ W2
        · exact Option.some.inj hx ▸ W3
        · exact Option.some.inj hx ▸ W4
        · simp at hx
      rw [hy]
      exact ev_reprO (ev_var rfl) (IsO.mono e13 hx) smb
    have e413 := e412.trans e13
    have WB := IsO.mono e13 WB
    clear W2 W3 W4 hl e412 e13
    -- within
    have in1 : owF B (lw (k + 1) (some m) gs) = true := by
      cases eB : B with
      | none => rfl
      | some r =>
        rw [eB] at hB
        obtain ⟨s, es, hle⟩ := Zn.lw_le (gs := gs) (hs := hs) zn (by omega) ok1 ok2 hB
        rw [show lw (k + 1) (some m) gs = some s from es]
        rw [eB] at oNb
        exact ow_le (oNb r rfl) ((oN1 s es).mono (by omega)) (by omega) hle
    have in2 : owF (lw (k + 1) (some m) gs) (some m) = true := by
      cases e1 : lw (k + 1) (some m) gs with
      | none => rfl
      | some r => exact ow_le (oN1 r e1) (zn.mono (by omega)) (by omega) (Zn.with_le zn (by omega) ok1 e1)
    refine q_skip (et_is (et_or (a := false) (b := false) (et_is (et_not (et_B (b := true) fun H14 e14 Q' q' => ?_)) rfl) fun _ => et_is (et_not (et_B (b := true) fun H14 e14 Q' q' => ?_)) rfl) rfl) fun H14 e14 => ?_
    · have e := e413.trans e14
      exact ⟨vb, rfl, .ref z, rfl, .ref g1, rfl, .ref z, g1, k + 1, 6, some m, gs, rfl, IsO.mono e zO, zN, by omega, hg1.ex e, ok1, by omega, fun v H15 e15 hv => ⟨vb, v, k + 1, 8, B, _, rfl, IsO.mono (e14.trans e15) WB, hv, oNb, oN1.mono (by omega), by omega, fun H16 e16 => by
        rw [in1]
        exact q' H16 (e15.trans e16)⟩⟩
    · have e := e413.trans e14
      exact ⟨.ref z, rfl, .ref g1, rfl, .ref z, g1, k + 1, 6, some m, gs, rfl, IsO.mono e zO, zN, by omega, hg1.ex e, ok1, by omega, fun v H15 e15 hv => ⟨.ref z, rfl, v, .ref z, k + 1, 8, _, some m, rfl, hv, IsO.mono (e.trans e15) zO, oN1.mono (by omega), zN.mono (by omega), by omega, fun H16 e16 => by
        rw [in2]
        exact q' H16 (e15.trans e16)⟩⟩
    have e414 := e413.trans e14
    clear e14 e413 WB
    -- the points
    refine q_forR1 (n := 4) (ea_cons ev_c ea_nil) (by decide) (fun i σ' H' => ∃ y7 y8 y9 y10, σ' = [some (.ref p), some (.ref z), some (.int (k : Int)), some (.ref g1), some (.ref g2), some vb, some (.ref l), y7, y8, y9, y10, none, none] ∧ But p H H' ∧ Pot H' p (n + 14 + i * 6) ∧ TupLe K H4 H')
      (fun H15 e15 => ⟨none, none, none, none, rfl, b04.trans (But.of (e414.trans e15)), by simpa using pot4.ex (e414.trans e15), TupLe.of (e414.trans e15)⟩) ?_ ?_
    · rintro i σ' H15 hi ⟨y7, y8, y9, y10, rfl, b15, p15, t15⟩
      refine tSeq_asg (tCB1 (tLc_ta ?_))
      refine use_ea (ea_cons (ev_var rfl) ea_nil) fun H16 e16 => ?_
      have i6 : i * 6 ≤ 24 := by omega
      refine lc_pot (K := K) (s := 2) rfl (IsF K) (fun y H H' t ⟨r, x, e, h, ok⟩ => ⟨r, x, e, t _ _ h, ok⟩) (p15.ex e16) (by omega) (fun x => rfl) (fun j H17 hj b17 p17 Q' q' => ?_) fun a ys H17 na nea b17 p17 ha hl2 hR => ?_
      · have j6 : j * 2 ≤ 6 := by omega
        refine ⟨.ref p, rfl, p, _, 80, rfl, p17, by omega, by decide, by decide, fun t H18 t0 t1 b18 p18 => ?_⟩
        refine ⟨.ref p, rfl, p, _, 6, rfl, p18, by omega, by decide, by decide, fun u H19 u0 u1 b19 p19 => ⟨1, u, rfl, rfl, ?_⟩⟩
        refine ⟨t, 1 + u, rfl, by omega, by omega, fun r H20 e20 hr20 => ?_⟩
        exact q' _ H20 ((b18.trans b19).trans (But.of e20)) ((p19.ex e20).le (by omega)) ⟨r, _, rfl, sqt_of hr20, cut_ok t0 (by omega) (by omega) (by omega)⟩
      · refine ⟨a, ys, rfl, .inl ⟨sql_of ha, fun vt nt => ?_⟩⟩
        have e18 := Evl.Ex.new (o := .tup ys) nt
        obtain ⟨fs, vs, rfl, f2, f3, f4⟩ := pick_fracs hR
        have hvl : vs.length = k := by simpa [f2] using hl2
        have hF : FAt K (L2.upd H17 vt (.tup (fs.map V.ref))) vt vs := ⟨fs, sqt_of upd_same, f2, fun i r x a b => ex_t e18 (f3 i r x a b)⟩
        have b18 := (b15.trans (But.of e16)).trans (b17.trans (But.of e18))
        have p18 := (p17.ex e18).le (m := n + 14 + (i + 1) * 6) (by omega)
        have t18 := ((t15.trans (TupLe.of e16)).trans (TupLe.pot (p15.ex e16) b17)).trans (TupLe.of e18)
        generalize L2.upd H17 vt (.tup (fs.map V.ref)) = H18 at hF b18 p18 t18
        clear e18 ha hR b17 p17 p15 b15 t15
        have z18 : ZAt K H18 z (k + 1) 6 m := ⟨t18 _ _ hz, zn, by omega⟩
        have g18 := GAt.tl t18 hg1
        -- due
        refine q_asg (v := .bl (inF (k + 1) m vs && keepF vs gs)) (ev_andV (ev_kw (ea_cons (ev_var rfl) (ea_cons (ev_var rfl) ea_nil)) fun H19 e19 Q q E => ⟨z, vt, k + 1, 6, m, vs, rfl, z18.ex e19, hF.ex e19, by omega, f4, q⟩)
          fun _ => ev_call (ea_cons (ev_var rfl) (ea_cons (ev_var rfl) ea_nil)) fun H19 e19 Q q E => ⟨vt, g1, k + 1, vs, gs, rfl, hF.ex e19, g18.ex e19, ok1, by omega, q⟩) fun H19 e19 => ?_
        -- less
        refine q_asgP (P := IsO K ((lw (k + 1) (some m) gs).map Vi)) (evp_call (ea_cons (ev_var rfl) (ea_cons (ev_var rfl) ea_nil)) fun H20 e20 Q q E => ⟨.ref z, g1, k + 1, 6, some m, gs, rfl, ⟨z, rfl, ((z18.ex e19).ex e20).1⟩, zN, by omega, (g18.ex e19).ex e20, ok1, by omega, q⟩) fun less H20 e20 hless => ?_
        have IW := Zn.in_with (gs := gs) (vs := vs) zn (by omega) ok1 fun x hx => (f4 x hx).1.2.1
        have hF20 := (hF.ex e19).ex e20
        refine s_when (b := false) (et_is (et_test (ev_op (x := .bl (inF (k + 1) m vs && keepF vs gs)) ?_ (ev_var rfl) (rv_ne rfl))) (by simp)) (fun z => nomatch z) fun _ H21 e21 => ⟨_, _, _, _, rfl, b18.trans (But.of ((e19.trans e20).trans e21)), p18.ex ((e19.trans e20).trans e21), t18.trans (TupLe.of ((e19.trans e20).trans e21))⟩
        rw [← IW]
        have hless : IsO K ((withF (k + 1) m gs).map Vi) less H20 := hless
        have oN1 : OZ (k + 1) 7 (withF (k + 1) m gs) := oN1
        cases hW : withF (k + 1) m gs with
        | none =>
          rw [hW] at hless
          obtain rfl := (show less = .non from hless)
          exact ev_is (ev_andV (b := false) (ev_notN (ev_var rfl)) fun z => by simp at z) (by simp)
        | some r =>
          rw [hW] at hless
          obtain ⟨lp, rfl, hlp⟩ := hless
          exact ev_is (ev_andV (b := inF (k + 1) r vs) (ev_notN (ev_var rfl)) fun _ => ev_call (ea_cons (ev_var rfl) (ea_cons (ev_var rfl) ea_nil)) fun H21 e21 Q q E => ⟨lp, vt, k + 1, 7, r, vs, rfl, ⟨ex_t e21 hlp, oN1 r hW, by omega⟩, hF20.ex e21, by omega, f4, q⟩) (by simp)
    · rintro σ' H15 ⟨y7, y8, y9, y10, rfl, b15, p15, t15⟩
      refine s_ret ev_c fun H16 e16 => q H16 (b15.trans (But.of e16)) ((p15.ex e16).le ?_)
      show n + 14 + 4 * 6 ≤ n + 100
      omega
end
end K33

namespace K33
open PySem PySem.Spec PyProof.Rows L2 Gz Evl
open Zn (ent Gd putG withF passF setF leF Zone lw OZ owF Fr keepF keep1 inF)
section
variable {P : Program} {w : World} {K : PySem.W.Frag} {mg : Str → Option Value} {base : Heap}
/-- the same of a tuple -/
def spSortedT (K : PySem.W.Frag) : Sp := fun as H Q _ => ∃ (a : Addr) (ns : List Int), as = [.ref a] ∧ SqT K H a (ns.map V.int) ∧ ns.length < 64 ∧
  ∀ p (ms : List Int) H', Ex H H' → H' p = some (.tup (ms.map V.int)) → (∀ x, x ∈ ms ↔ x ∈ ns) → ms.length ≤ ns.length → Q (.ref p) H'
theorem ok_law_sortedT (T : Top K mg) : FnOk P w K mg base CX0 1 T.f__law_sorted T.d__law_sorted ["some"] (spSortedT K) := by
  refine T.F__law_sorted.ok sc__law_sorted (fun as H Q E h => ?_) (fun cdv A outer s H as Q E hr h => ?_)
  · obtain ⟨a, ns, rfl, _⟩ := h
    rfl
  · obtain ⟨a, ns, rfl, hs, hl, q⟩ := h
    refine ⟨_, (pss_one (ps_ret (pe_callTy (call_tupleK (K := K) rfl) (by rfl) T.m_tuple (by decide +kernel) (pa_cons (pe_callB (call_sortedDI rfl) (by rfl) T.m_sorted (by decide +kernel) (pa_cons (pe_callTy (call_dictP rfl) (by rfl) T.m_dict (by decide +kernel) (pa_cons (pe_lc (own := [("one", 1)]) (g := gName 1) (tt := tYes) rfl sc__law_sorted.nd (pi_tupK (K := K) rfl (pv 0)) (blkOk_by (own := [("one", 1)]) (N := N__law_sorted) (sc := defScope s__law_sorted) (by decide +kernel)) (fun _ _ _ _ _ => (pg_name (i := 1) sc__law_sorted.nd rfl (.inl rfl))) (fun _ _ _ _ _ => pts_nil) (fun _ _ _ _ _ => (pe_tup (pa_cons (pv 1) (pa_cons pe_bl pa_nil))))) pa_nil)) pa_nil)) pa_nil)))), ?_⟩
    refine s_ret3 ?_
    refine elp_mapT (K := K) (σ := L2.start N__law_sorted [.ref a]) (tl := tVar 0) (vs := [1]) (j := 1) (te := tTup (tCons (tVar 1) (tCons (tC (.bl true)) tNil))) (R := fun x y H => ∃ r, y = .ref r ∧ SqT K H r [x, .bl true]) (fun x y H H' t ⟨r, e, h⟩ => ⟨r, e, t _ _ h⟩) (ev_var rfl) hs (by simp; omega) (fun x => rfl)
      (fun i x H1 e hx H2 e2 Q' q' => ⟨x, rfl, by show 2 ≤ sizeLine; decide, fun r nr => q' _ _ (Evl.Ex.new nr) ⟨r, rfl, sqt_of upd_same⟩⟩) H (Evl.Ex.refl _) _ fun p ys H1 np e1 hp ⟨hyl, hy⟩ => ?_
    obtain ⟨ps, rfl, hps⟩ := paired_refs (K := K) (H := H1) (.bl true) ns ys (by rw [hyl, List.length_map]) fun i n y hn hy' => hy i (.int n) y (by rw [List.getElem?_map, hn]; rfl) hy'
    refine ⟨p, ps, _, rfl, sql_of hp, hps, fun d nd => ?_⟩
    obtain ⟨ks, k1, k2, k3⟩ := merge_keys (ns.map fun n => ((Sum.inl n : Key), V.bl true)) [] [] rfl ns (by simp)
    refine ⟨d, _, ks, rfl, .inl upd_same, k1, by simp at k3; omega, fun ms l hperm hsort nl => ?_⟩
    refine ⟨l, ms.map V.int, rfl, .inl ⟨sql_of upd_same, fun t nt => ?_⟩⟩
    refine q t ms _ (((e1.trans (Evl.Ex.new nd)).trans (Evl.Ex.new nl)).trans (Evl.Ex.new nt)) upd_same (fun x => ?_) ?_
    · rw [hperm.mem_iff, k2]
      simp
    · rw [hperm.length_eq]
      simpa using k3
/-- the block of the outer comprehension, as the inner one sees it -/
abbrev sc_outer : Scope := { kind := .function, names := [(".0", .local), ("turn", .local), ("_law_sorted", .globalImplicit), ("range", .globalImplicit), ("_law_take", .globalImplicit), ("many", .cell), ("pot", .cell)], isGenerator := false, isCoroutine := false }
theorem tSeq_asgG {te : TE} {g : TG} {tz : TS} {D : Ends} {σ : L2.St} {H : Hp} (h : te σ H fun v H1 => g v σ H1 fun σ2 H2 => tz D σ2 H2) : tSeq (tAsg te g) tz D σ H := h
/-- places -/
def IsS (K : PySem.W.Frag) (k : Nat) : V → Hp → Prop := fun v H => ∃ (r : Addr) (cs : List Nat), v = .ref r ∧ SqT K H r (Vn cs) ∧ (∀ c ∈ cs, c < k) ∧ cs.length ≤ 2
def spSR (K : PySem.W.Frag) : Sp := fun as H Q _ => ∃ (p z : Addr) (n k : Nat) (m : List Int), as = [.ref p, .ref z, .int k] ∧ Pot H p n ∧ n + 10000 ≤ 100000 ∧ 1 ≤ k ∧ k ≤ 3 ∧ SqT K H z (Vi m) ∧ Zone (k + 1) 6 m ∧
  ∀ H', But p H H' → Pot H' p (n + 100) → Q (.bl true) H'
theorem ok_law_are_sets_right (T : Top K mg) : FnG P w K mg base 8 T.f__law_are_sets_right T.d__law_are_sets_right ["pot", "zone", "many"] (spSR K) := by
  have G__law_take := ok_law_take (P := P) (w := w) (base := base) T
  have G__law_sorted := ok_law_sorted (P := P) (w := w) (base := base) T
  have G__law_sortedT := ok_law_sortedT (P := P) (w := w) (base := base) T
  have G__law_set := ok_law_set (P := P) (w := w) (base := base) T
  have G__law_with := ok_law_with (P := P) (w := w) (base := base) T
  have G__law_is_within := ok_law_is_within (P := P) (w := w) (base := base) T
  refine okG T.F__law_are_sets_right sc__law_are_sets_right (fun as H Q E h => ?_) (fun cdv A outer s H as Q E hrG h => ?_)
  · obtain ⟨p, z, n, k, m, rfl, _⟩ := h
    rfl
  · obtain ⟨p, z, n, k, m, rfl, hp, hn, h1, h2, hz, zn, q⟩ := h
    have hr := hrG.rm
    have hgd := hrG.gd
    have hu66 := units66 hr
    refine ⟨_, (pss_cons (ps_asg (pe_lc (own := [("turn", 7)]) (g := gName 7) (tt := tYes) rfl sc__law_are_sets_right.nd (pi_range1 (by rfl) T.m_range (pa_cons pe_int pa_nil)) (blkOk_by (own := [("turn", 7)]) (N := N__law_are_sets_right) (sc := defScope s__law_are_sets_right) (by decide +kernel)) (fun _ _ _ _ _ => (pg_name (i := 7) sc__law_are_sets_right.nd rfl (.inl rfl))) (fun _ _ _ _ _ => pts_nil) (fun _ _ _ _ _ => (pe_call G__law_sorted (hr.mono (by decide)) (by rfl) T.g__law_sorted T.F__law_sorted.kp T.b__law_sorted .nil pass0 (pa_cons (pe_lc (own := [("lap", 8)]) (g := gName 8) (tt := tYes) rfl sc__law_are_sets_right.nd (pi_range1 (by rfl) T.m_range (pa_cons (pe_call G__law_take (hr.mono (by decide)) (by rfl) T.g__law_take T.F__law_take.kp T.b__law_take .nil pass0 (pa_cons (pv 0) (pa_cons pe_int pa_nil))) pa_nil)) (blkOk_by (own := [("lap", 8)]) (N := N__law_are_sets_right) (sc := sc_outer) (by decide +kernel)) (fun _ _ _ _ _ => (pg_name (i := 8) sc__law_are_sets_right.nd rfl (.inl rfl))) (fun _ _ _ _ _ => pts_nil) (fun _ _ _ _ _ => (pe_call G__law_take (hr.mono (by decide)) (by rfl) T.g__law_take T.F__law_take.kp T.b__law_take .nil pass0 (pa_cons (pv 0) (pa_cons (pv 2) pa_nil))))) pa_nil)))) (pg_unl rfl (pgs_cons (pg_name (i := 3) sc__law_are_sets_right.nd rfl (.inl rfl)) (pgs_cons (pg_name (i := 4) sc__law_are_sets_right.nd rfl (.inl rfl)) pgs_nil))))
  (pss_cons (ps_set (i := 5) sc__law_are_sets_right.nd rfl (.inr rfl) (pe_call G__law_set (hr.mono (by decide)) (by rfl) T.g__law_set T.F__law_set.kp T.b__law_set .nil pass0 (pa_cons (pe_call G__law_set (hr.mono (by decide)) (by rfl) T.g__law_set T.F__law_set.kp T.b__law_set .nil pass0 (pa_cons (pv 1) (pa_cons (pv 3) pa_nil))) (pa_cons (pv 4) pa_nil))))
  (pss_cons (ps_set (i := 6) sc__law_are_sets_right.nd rfl (.inl rfl) (pe_lst (pa_cons (pe_call G__law_set (hr.mono (by decide)) (by rfl) T.g__law_set T.F__law_set.kp T.b__law_set .nil pass0 (pa_cons (pe_call G__law_set (hr.mono (by decide)) (by rfl) T.g__law_set T.F__law_set.kp T.b__law_set .nil pass0 (pa_cons (pv 1) (pa_cons (pv 4) pa_nil))) (pa_cons (pv 3) pa_nil))) (pa_cons (pe_call G__law_set (hr.mono (by decide)) (by rfl) T.g__law_set T.F__law_set.kp T.b__law_set .nil pass0 (pa_cons (pv 1) (pa_cons (pe_call G__law_sortedT (hr.mono (by decide)) (by rfl) T.g__law_sorted T.F__law_sorted.kp T.b__law_sorted .nil pass0 (pa_cons (pe_op (op_catAK (K := K) rfl) (pv 3) (pv 4)) pa_nil)) pa_nil))) (pa_cons (pe_call G__law_set (hr.mono (by decide)) (by rfl) T.g__law_set T.F__law_set.kp T.b__law_set .nil pass0 (pa_cons (pv 5) (pa_cons (pv 3) pa_nil))) pa_nil)))))
  (pss_cons (ps_if (pt_cmpR (op_neDK (K := K) rfl hr.units) (pe_lc (own := [("its", 9)]) (g := gName 9) (tt := tYes) rfl sc__law_are_sets_right.nd (pi_listK (K := K) rfl (pv 6)) (blkOk_by (own := [("its", 9)]) (N := N__law_are_sets_right) (sc := defScope s__law_are_sets_right) (by decide +kernel)) (fun _ _ _ _ _ => (pg_name (i := 9) sc__law_are_sets_right.nd rfl (.inl rfl))) (fun _ _ _ _ _ => pts_nil) (fun _ _ _ _ _ => (pe_callB (call_reprK (K := K) rfl hgd hu66) (by rfl) T.m_repr (by decide +kernel) (pa_cons (pv 9) pa_nil)))) (pe_op op_rep (pe_lst (pa_cons (pe_callB (call_reprK (K := K) rfl hgd hu66) (by rfl) T.m_repr (by decide +kernel) (pa_cons (pv 5) pa_nil)) pa_nil)) pe_int) (nomark _)) (pss_one (ps_ret pe_bl)) pss_nil)
  (pss_cons (ps_if (pt_val (pe_callB (cr_anyK (K := K) rfl rfl) (by rfl) T.m_any (by decide +kernel) (pa_cons (pe_lc (own := [("place", 10)]) (g := gName 10) (tt := tYes) rfl sc__law_are_sets_right.nd (pi_tupK (K := K) rfl (pv 3)) (blkOk_by (own := [("place", 10)]) (N := N__law_are_sets_right) (sc := defScope s__law_are_sets_right) (by decide +kernel)) (fun _ _ _ _ _ => (pg_name (i := 10) sc__law_are_sets_right.nd rfl (.inl rfl))) (fun _ _ _ _ _ => pts_nil) (fun _ _ _ _ _ => (pe_not (pe_call G__law_is_within (hr.mono (by decide)) (by rfl) T.g__law_is_within T.F__law_is_within.kp T.b__law_is_within .nil pass0 (pa_cons (pv 5) (pa_cons (pe_call G__law_with (hr.mono (by decide)) (by rfl) T.g__law_with T.F__law_with.kp T.b__law_with .nil pass0 (pa_cons (pv 5) (pa_cons (pe_tup (pa_cons (pe_tup (pa_cons (pv 10) (pa_cons pe_str (pa_cons pe_int pa_nil)))) pa_nil)) pa_nil))) pa_nil)))))) pa_nil))) (pss_one (ps_ret pe_bl)) pss_nil)
  (pss_one (ps_ret pe_bl))))))), ?_⟩
    refine tSeq_asgG (tLc_ta ?_)
    refine use_ea (ea_cons ev_c ea_nil) fun H1 e1 => ?_
    refine lc_pot (K := K) (c := 2) (s := 3) rfl (IsS K k) (fun y H H' t ⟨r, x, e, h, ok⟩ => ⟨r, x, e, t _ _ h, ok⟩) (hp.ex e1) (by decide) (fun x => rfl) (fun j H2 hj b2 p2 Q' q' => ?_) fun a ys H2 na nea b2 p2 ha hl2 hR => ?_
    · refine tCall1 (tLc_ta (tCons1 ?_))
      refine ⟨.ref p, rfl, p, _, 3, rfl, p2, by omega, by decide, by decide, fun c H3 c0 c1 b3 p3 => ?_⟩
      obtain ⟨c, rfl⟩ := Int.eq_ofNat_of_zero_le c0
      refine lc_pot (K := K) (c := c) (s := 1) rfl (IsI k) (fun y H H' t h => h) p3 (by omega) (fun x => rfl) (fun i H4 hi b4 p4 Q2 q2 => ?_) fun b zs H4 nb neb b4 p4 hb hl4 hR4 => ?_
      · exact ⟨.ref p, rfl, .int (k : Int), rfl, p, _, (k : Int), rfl, p4, by omega, by omega, by omega, fun d H5 d0 d1 b5 p5 => q2 _ H5 b5 (p5.le (by omega)) ⟨d, rfl, d0, d1⟩⟩
      · obtain ⟨ns, rfl, hns⟩ := pick_ints hR4
        have hnl : ns.length = c := by simpa using hl4
        refine ⟨b, ns, rfl, sql_of hb, by omega, fun t ms H5 e5 ht hms hml => ?_⟩
        obtain ⟨cs, c1, c2, c3, c4⟩ := nats_of (k := k) (ms := ms) fun x hx => hns x ((hms x).mp hx)
        exact q' _ H5 ((b3.trans b4).trans (But.of e5)) ((p4.ex e5).le (by omega)) ⟨t, cs, rfl, sqt_of (by rw [ht, c1]), c3, by omega⟩
    · obtain ⟨y0, y1, rfl⟩ : ∃ y0 y1, ys = [y0, y1] := by
        match ys, hl2 with
        | [a, b], _ => exact ⟨a, b, rfl⟩
      obtain ⟨r0, cs, rfl, s0, k0, l0⟩ := hR y0 List.mem_cons_self
      obtain ⟨r1, ds, rfl, s1, k1, l1⟩ := hR y1 (List.mem_cons_of_mem _ List.mem_cons_self)
      refine ⟨a, _, rfl, sql_of ha, rfl, _, _, rfl, _, _, rfl, rfl, ?_⟩
      have t02 := (TupLe.of (K := K) e1).trans (TupLe.pot (hp.ex e1) b2)
      have hz := t02 _ _ hz
      have b02 := (But.of (p := p) e1).trans b2
      have p02 := p2.le (m := n + 100) (by omega)
      clear t02 b2 p2 hR ha nea na hl2 e1
      have zO : IsO K ((some m).map Vi) (.ref z) H2 := ⟨z, rfl, hz⟩
      have zN : OZ (k + 1) 6 (some m) := Zn.oz_some zn
      have kk : ∀ x ∈ cs, 1 + x < k + 1 := fun x hx => by have := k0 x hx; omega
      have kd : ∀ x ∈ ds, 1 + x < k + 1 := fun x hx => by have := k1 x hx; omega
      have kc : ∀ x ∈ cs ++ ds, 1 + x < k + 1 := fun x hx => (List.mem_append.mp hx).elim (kk x) (kd x)
      have zc := Zn.set_zone zn kk
      have zd := Zn.set_zone zn kd
      have zb := Zn.set_zone zc kd
      have E0' : setF (k + 1) ds (setF (k + 1) cs m) = setF (k + 1) (cs ++ ds) m := Zn.set_set zn kk kd fun x => List.mem_append
      have E1' : setF (k + 1) cs (setF (k + 1) ds m) = setF (k + 1) ds (setF (k + 1) cs m) := (Zn.set_set zn kd kk (es := cs ++ ds) fun x => by rw [List.mem_append]; exact or_comm).trans E0'.symm
      have E2' : setF (k + 1) cs (setF (k + 1) ds (setF (k + 1) cs m)) = setF (k + 1) ds (setF (k + 1) cs m) := by
        rw [E0']
        exact Zn.set_set zn kc kk fun x => by
          rw [List.mem_append]
          constructor
          · exact .inl
          · rintro (h | h)
            · exact h
            · exact .inl h
      -- both
      refine tSeq_asg ?_
      refine ⟨.ref z, rfl, .ref r0, rfl, .ref z, r0, k + 1, 6, some m, cs, rfl, zO, zN, by omega, s0, kk, by omega, fun v1 H5 e5 hv1 => ?_⟩
      refine ⟨.ref r1, rfl, v1, r1, k + 1, 6, some (setF (k + 1) cs m), ds, rfl, hv1, Zn.oz_some zc, by omega, ex_t e5 s1, kd, by omega, fun vb H6 e6 hvb => ?_⟩
      have e46 := e5.trans e6
      -- some
      refine tSeq_asg ?_
      refine ⟨.ref z, rfl, .ref r1, rfl, .ref z, r1, k + 1, 6, some m, ds, rfl, IsO.mono e46 zO, zN, by omega, ex_t e46 s1, kd, by omega, fun w1 H7 e7 hw1 => ?_⟩
      refine ⟨.ref r0, rfl, w1, r0, k + 1, 6, some (setF (k + 1) ds m), cs, rfl, hw1, Zn.oz_some zd, by omega, ex_t (e46.trans e7) s0, kk, by omega, fun w2 H8 e8 hw2 => ?_⟩
      have e48 := (e46.trans e7).trans e8
      have hw2 : IsO K ((some (setF (k + 1) ds (setF (k + 1) cs m))).map Vi) w2 H8 := by
        rw [← E1']
        exact hw2
      refine ⟨.ref z, rfl, .ref r0, rfl, .ref r1, rfl, ?_⟩
      refine cat_use (ex_t e48 s0) (ex_t e48 s1) (by simp; omega) fun gc H9 e9 hgc => ?_
      have e49 := e48.trans e9
      have hgc : SqT K H9 gc (((cs ++ ds).map fun c : Nat => (c : Int)).map V.int) := by
        rw [List.map_map, List.map_append]
        exact hgc
      refine ⟨gc, _, rfl, hgc, by simp; omega, fun t ms H9' e9' ht hms hml => ?_⟩
      obtain ⟨es, c1, c2, c3, c4⟩ := nats_of (k := k) (ms := ms) fun x hx => by
        obtain ⟨c, hc, rfl⟩ := List.mem_map.mp ((hms x).mp hx)
        have := kc c hc
        omega
      have hes : ∀ x, x ∈ es ↔ (x ∈ cs ∨ x ∈ ds) := fun x => by
        rw [c4, hms, ← List.mem_append]
        constructor
        · intro h
          obtain ⟨c, hc, e⟩ := List.mem_map.mp h
          rw [show x = c by omega]
          exact hc
        · exact fun h => List.mem_map.mpr ⟨x, h, rfl⟩
      have E3' : setF (k + 1) es m = setF (k + 1) ds (setF (k + 1) cs m) := (Zn.set_set zn kk kd hes).symm
      have e49' := e49.trans e9'
      refine ⟨.ref z, t, k + 1, 6, some m, es, rfl, IsO.mono e49' zO, zN, by omega, sqt_of (by rw [ht, c1]), fun x hx => by have := c3 x hx; omega, by simp at hml; omega, fun w3 H10 e10 hw3 => ?_⟩
      have hw3 : IsO K ((some (setF (k + 1) ds (setF (k + 1) cs m))).map Vi) w3 H10 := by
        rw [← E3']
        exact hw3
      have e410 := e49'.trans e10
      have e610 := (((e7.trans e8).trans e9).trans e9').trans e10
      refine ⟨vb, rfl, .ref r0, rfl, vb, r0, k + 1, 6, some (setF (k + 1) ds (setF (k + 1) cs m)), cs, rfl, IsO.mono e610 hvb, Zn.oz_some zb, by omega, ex_t e410 s0, kk, by omega, fun w4 H11 e11 hw4 => ?_⟩
      have hw4 : IsO K ((some (setF (k + 1) ds (setF (k + 1) cs m))).map Vi) w4 H11 := by
        rw [← E2']
        exact hw4
      refine ⟨by show 3 ≤ sizeLine; decide, fun l nl => ?_⟩
      have hl : (L2.upd H11 l (.lst [w2, w3, w4])) l = some (.lst [w2, w3, w4]) := upd_same
      have e11' := Evl.Ex.new (o := .lst [w2, w3, w4]) nl
      have W2 := IsO.mono ((((e9.trans e9').trans e10).trans e11).trans e11') hw2
      have W3 := IsO.mono (e11.trans e11') hw3
      have W4 := IsO.mono e11' hw4
      have WB := IsO.mono ((e610.trans e11).trans e11') (show IsO K ((some (setF (k + 1) ds (setF (k + 1) cs m))).map Vi) vb H6 from hvb)
      have e412 := (e410.trans e11).trans e11'
      generalize L2.upd H11 l (.lst [w2, w3, w4]) = H12 at hl W2 W3 W4 WB e412
      clear e11' nl e11 e610 e410 e10 e49 e9 e48 e8 e7 e46 e6 e5 hw2 hw3 hw4 hvb hv1 hw1 hgc e9' e49' ht
      -- the reprs
      have oNb : OZ (k + 1) 6 (some (setF (k + 1) ds (setF (k + 1) cs m))) := Zn.oz_some zb
      have smb := sm_of oNb (by omega)
      have SB := fun x (hx : x ∈ cs) => Zn.set_back_zero (ds := ds) zn (by omega) kk kd hx
      generalize setF (k + 1) ds (setF (k + 1) cs m) = B at *
      refine q_skip (et_test (ev_neSame (K := K) (ss := [(dd (some B)).shown, (dd (some B)).shown, (dd (some B)).shown]) (fun s hs => ?_) (el_mapL (ev_var rfl) (sql_of hl) rfl (by simp) (fun x => rfl) fun i x y H13 e13 hx hy => ?_) (el_rep (k := 3) (xs := [.str (dd (some B)).shown]) (el_lst (ea_cons (ev_reprO (ev_var rfl) WB smb) ea_nil) (by simp)) ev_c (by decide) (by simp)))) fun H13 e13 => ?_
      · have : s = (dd (some B)).shown := by simpa using hs
        rw [this]
        exact cp_dd (some B)
      · have hy : y = .str (dd (some B)).shown := by
          rcases i with _ | _ | _ | i
          · exact (Option.some.inj hy).symm
          · exact (Option.some.inj hy).symm
          · exact (Option.some.inj hy).symm
          · simp at hy
        have hx : IsO K ((some B).map Vi) x H12 := by
          rcases i with _ | _ | _ | i
          · exact Option.some.inj hx ▸ W2
          · exact Option.some.inj hx ▸ W3
          · exact Option.some.inj hx ▸ W4
          · simp at hx
        rw [hy]
        exact ev_reprO (ev_var rfl) (IsO.mono e13 hx) smb
      have e413 := e412.trans e13
      have WB := IsO.mono e13 WB
      clear W2 W3 W4 hl e412 e13
      -- set back is at nought
      have s0' := ex_t e413 s0
      refine q_skip (et_is (et_B (ev_any (bs := cs.map fun _ => false) (el_mapT (ev_var rfl) s0' (by simp) (by simp; omega) (fun x => rfl) fun i x y H14 e14 hx hy => ?_))) (any_rep cs)) fun H14 e14 => ?_
      · rw [List.getElem?_map] at hx
        obtain ⟨c, hc, rfl⟩ := Option.map_eq_some_iff.mp hx
        rw [rep_at hy]
        have hcm := List.mem_of_getElem? hc
        refine ev_is (ev_notV (a := true) fun H15 e15 Q' q' => ?_) rfl
        refine ⟨vb, rfl, vb, rfl, .int (c : Int), rfl, by show 3 ≤ sizeLine; decide, fun r nr => ⟨by show 1 ≤ sizeLine; decide, fun t nt => ?_⟩⟩
        have e16 := Evl.Ex.new (o := .tup [.int (c : Int), .str "<=", .int 0]) nr
        have e17 := Evl.Ex.new (o := .tup [.ref r]) nt
        have hg : GAt K _ t [⟨c, true, true, 0⟩] := ⟨[r], sqt_of (H := L2.upd (L2.upd H15 r (.tup [.int (c : Int), .str "<=", .int 0])) t (.tup [.ref r])) upd_same, rfl, fun i r' g hr hg => by
          rcases i with _ | i
          · obtain rfl := Option.some.inj hr
            obtain rfl := Option.some.inj hg
            exact ex_t e17 (sqt_of upd_same)
          · simp at hr⟩
        have WB := IsO.mono (((e14.trans e15).trans e16).trans e17) WB
        refine ⟨vb, t, k + 1, 6, some B, _, rfl, WB, oNb, by omega, hg, fun g hg => ?_, by simp, fun v H17 e18 hv => ?_⟩
        · rw [List.mem_singleton.mp hg]
          exact ⟨kk c hcm, Nat.zero_le _⟩
        · have hv : IsO K ((some B).map Vi) v H17 := by
            have h' : IsO K ((withF (k + 1) B [⟨c, true, true, 0⟩]).map Vi) v H17 := hv
            rw [SB c hcm] at h'
            exact h'
          refine ⟨vb, v, k + 1, 6, some B, some B, rfl, IsO.mono e18 WB, hv, oNb, oNb, by omega, fun H18 e19 => ?_⟩
          rw [ow_le zb zb (by omega) (Zn.Le.refl _ _)]
          exact q' H18 (((e16.trans e17).trans e18).trans e19)
      · exact s_ret ev_c fun H15 e15 => q H15 (b02.trans (But.of ((e413.trans e14).trans e15))) (p02.ex ((e413.trans e14).trans e15))
end
end K33

namespace K33
open PySem PySem.Spec PyProof.Rows L2 Gz Evl
open Zn (ent Gd putG withF passF setF leF Zone lw OZ owF Fr keepF keep1 inF)
section
variable {P : Program} {w : World} {K : PySem.W.Frag} {mg : Str → Option Value} {base : Heap}
theorem GAt.take {H : Hp} {q : Addr} {gs : List Gd} {rs : List Addr} (h2 : rs.length = gs.length) (h3 : ∀ (i : Nat) r g, rs[i]? = some r → gs[i]? = some g → SqT K H r (gV g)) {k : Nat} (hq : SqT K H q ((rs.map V.ref).take k)) : GAt K H q (gs.take k) := by
  refine ⟨rs.take k, ?_, by rw [List.length_take, List.length_take, h2], fun i r g hr hg => ?_⟩
  · rw [← List.map_take] at hq
    exact hq
  · rw [List.getElem?_take] at hr hg
    split at hr
    · rename_i hi
      rw [if_pos hi] at hg
      exact h3 i r g hr hg
    · cases hr
/-- the guards from above -/
theorem el_above {σ : L2.St} {H : Hp} {tl : TE} {p : Addr} {gs : List Gd} {i1 i2 i3 : Nat} {vs : List Nat} (h : Ev tl σ H (.ref p)) (hg : GAt K H p gs) (hm : gs.length ≤ 1000)
    (hw : ∀ x y z, wipe ((((wipe σ vs).set i1 (some x)).set i2 (some y)).set i3 (some z)) vs = wipe σ vs)
    (h1 : ∀ x y z, ((((wipe σ vs).set i1 (some x)).set i2 (some y)).set i3 (some z))[i1]? = some (some x)) (h2 : ∀ x y z, ((((wipe σ vs).set i1 (some x)).set i2 (some y)).set i3 (some z))[i2]? = some (some y)) (h3 : ∀ x y z, ((((wipe σ vs).set i1 (some x)).set i2 (some y)).set i3 (some z))[i3]? = some (some z)) {Q : VK}
    (q : ∀ (D : Addr) (rs : List Addr) (H' : Hp), H D = none → Ex H H' → H' D = some (.lst (rs.map V.ref)) → rs.length = (gs.filter fun g => g.up).length → (∀ (i : Nat) r g, rs[i]? = some r → (gs.filter fun g => g.up)[i]? = some g → SqT K H' r (gV g)) → Q (.ref D) H') :
    tLc (iTup K tl) (gTup K 3 (gCons (gName i1) (gCons (gName i2) (gCons (gName i3) gNil)))) (tTest (tOp (rIn K false) (tVar i2) (tTup (tCons (tC (.str "<")) (tCons (tC (.str "<=")) tNil))))) (tTup (tCons (tVar i1) (tCons (tVar i2) (tCons (tVar i3) tNil)))) vs σ H Q := by
  obtain ⟨rs0, g1, g2, g3⟩ := hg
  refine h H (Evl.Ex.refl H) _ fun H1 e1 => ⟨p, rfl, ⟨_, ex_t e1 g1⟩, fun Dl hD => ?_⟩
  refine lc_tup (xs := rs0.map V.ref) (fun i H' => Ex H1 H' ∧ ∃ rs : List Addr, H' Dl = some (.lst (rs.map V.ref)) ∧ rs.length = ((gs.take i).filter fun g => g.up).length ∧ ∀ (j : Nat) r g, rs[j]? = some r → ((gs.take i).filter fun g => g.up)[j]? = some g → SqT K H' r (gV g))
    ⟨Evl.Ex.new hD, [], upd_same, rfl, fun j r g hr => by simp at hr⟩ (fun i H' _ pp => ex_t (e1.trans pp.1) g1) ?_ ?_
  · rintro i x H' hx ⟨e2, rs, r1, r2, r3⟩
    rw [List.getElem?_map] at hx
    obtain ⟨r, hr1, rfl⟩ := Option.map_eq_some_iff.mp hx
    have hi : i < gs.length := by
      rw [← g2]
      exact (List.getElem?_eq_some_iff.mp hr1).1
    have hgi : gs[i]? = some gs[i] := List.getElem?_eq_getElem hi
    have hsr := ex_t (e1.trans e2) (g3 i r _ hr1 hgi)
    have sc : ((gs.take (i + 1)).filter fun g => g.up) = ((gs.take i).filter fun g => g.up) ++ (if gs[i].up then [gs[i]] else []) := by
      rw [List.take_add_one, hgi, List.filter_append]
      cases hu : gs[i].up <;> simp [hu]
    have rsl : rs.length ≤ 1000 := by
      rw [r2]
      have := List.length_filter_le (fun g : Gd => g.up) (gs.take i)
      have := List.length_take_le i gs
      omega
    rw [sc]
    generalize gs[i] = g at sc hsr hgi
    refine ⟨r, gV g, rfl, hsr, rfl, _, _, rfl, _, _, rfl, _, _, rfl, rfl, hw _ _ _, ?_⟩
    refine use_et (b := g.up) (et_is (et_test (ev_inU (ev_var (h2 _ _ _)) (eu_tup (ea_cons ev_c (ea_cons ev_c ea_nil)) (by simp)) rfl rfl)) (gStr_up g)) fun H3 e3 => ?_
    cases hu : g.up with
    | false =>
      refine iteF ⟨e2.trans e3, rs, e3 Dl _ r1, ?_, fun j r' g' a b => ex_t e3 (r3 j r' g' a ?_)⟩
      · simpa using r2
      · simpa using b
    | true =>
      refine iteT ?_
      refine ⟨_, h1 _ _ _, _, h2 _ _ _, _, h3 _ _ _, by show 3 ≤ sizeLine; decide, fun c nc => ?_⟩
      have e4 := Evl.Ex.new (o := .tup [.int (g.cl : Int), .str (gStr g), .int (g.num : Int)]) nc
      have hc : (L2.upd H3 c (.tup [.int (g.cl : Int), .str (gStr g), .int (g.num : Int)])) c = some (.tup (gV g)) := upd_same
      have rD := e4 Dl _ (e3 Dl _ r1)
      refine ⟨_, rD, sz_lt (by rw [List.length_map]; omega), ((e2.trans e3).trans e4).mut hD, rs ++ [c], by rw [upd_same, List.map_append]; rfl, by rw [List.length_append, r2]; simp, fun j r' g' a b => ?_⟩
      have tl : TupLe K _ (L2.upd (L2.upd H3 c (.tup [.int (g.cl : Int), .str (gStr g), .int (g.num : Int)])) Dl (.lst (rs.map V.ref ++ [.ref c]))) := TupLe.but rD But.upd
      by_cases hj : j < rs.length
      · rw [List.getElem?_append_left hj] at a
        rw [List.getElem?_append_left (by omega)] at b
        exact tl _ _ (ex_t (e3.trans e4) (r3 j r' g' a b))
      · rw [List.getElem?_append_right (by omega)] at a b
        rw [← r2] at b
        have hj0 : j - rs.length = 0 := by
          have := (List.getElem?_eq_some_iff.mp a).1
          have : ([c] : List Addr).length = 1 := rfl
          omega
        rw [hj0] at a b
        obtain rfl := Option.some.inj a
        obtain rfl := Option.some.inj (show some g = some g' by simpa using b)
        exact tl _ _ (sqt_of hc)
  · rintro H' ⟨e2, rs, r1, r2, r3⟩
    rw [List.length_map, g2, List.take_length] at r2 r3
    exact q Dl rs H' (fresh_back e1 hD) ((e1.trans (Evl.Ex.refl _)).trans e2) r1 r2 r3
def spRight : Sp := fun as H Q _ => ∃ (p : Addr) (n : Nat), as = [.ref p] ∧ Pot H p n ∧ n + 20000 ≤ 100000 ∧ ∀ H', But p H H' → Pot H' p (n + 1000) → Q (.bl true) H'
set_option maxHeartbeats 0 in
theorem ok_law_right (T : Top K mg) : FnG P w K mg base 9 T.f__law_right T.d__law_right ["pot"] spRight := by
  have G__law_take := ok_law_take (P := P) (w := w) (base := base) T
  have G__law_zone := ok_law_zone (P := P) (w := w) (base := base) T
  have G__law_guard := ok_law_guard (P := P) (w := w) (base := base) T
  have G__law_with := ok_law_with (P := P) (w := w) (base := base) T
  have G_is_zone := ok_is_zone (P := P) (w := w) (base := base) T
  have G__law_are_guards_right := ok_law_are_guards_right (P := P) (w := w) (base := base) T
  have G__law_are_sets_right := ok_law_are_sets_right (P := P) (w := w) (base := base) T
  have G__law_later := ok_law_later (P := P) (w := w) (base := base) T
  have G__law_is_within := ok_law_is_within (P := P) (w := w) (base := base) T
  have G__law_sorted := ok_law_sorted (P := P) (w := w) (base := base) T
  have G__law_set := ok_law_set (P := P) (w := w) (base := base) T
  refine okG T.F__law_right sc__law_right (fun as H Q E h => ?_) (fun cdv A outer s H as Q E hrG h => ?_)
  · obtain ⟨p, n, rfl, _⟩ := h
    rfl
  · obtain ⟨p, n, rfl, hp, hn, q⟩ := h
    have hr := hrG.rm
    have hgd := hrG.gd
    have hu66 := units66 hr
    refine ⟨_, (pss_cons (ps_set (i := 1) sc__law_right.nd rfl (.inl rfl) (pe_op op_add pe_int (pe_call G__law_take (hr.mono (by decide)) (by rfl) T.g__law_take T.F__law_take.kp T.b__law_take .nil pass0 (pa_cons (pv 0) (pa_cons pe_int pa_nil)))))
  (pss_cons (ps_par (i := 2) (j := 3) (by rfl) sc__law_right.nd rfl rfl (by decide) rfl rfl (pa_cons (pe_call G__law_zone (hr.mono (by decide)) (by rfl) T.g__law_zone T.F__law_zone.kp T.b__law_zone .nil pass0 (pa_cons (pv 0) (pa_cons (pv 1) pa_nil))) (pa_cons (pe_call G__law_guard (hr.mono (by decide)) (by rfl) T.g__law_guard T.F__law_guard.kp T.b__law_guard .nil pass0 (pa_cons (pv 0) (pa_cons (pv 1) (pa_cons (pe_op op_add pe_int (pe_call G__law_take (hr.mono (by decide)) (by rfl) T.g__law_take T.F__law_take.kp T.b__law_take .nil pass0 (pa_cons (pv 0) (pa_cons pe_int pa_nil)))) pa_nil)))) pa_nil)) (by rfl))
  (pss_cons (ps_set (i := 4) sc__law_right.nd rfl (.inl rfl) (pe_call G__law_with (hr.mono (by decide)) (by rfl) T.g__law_with T.F__law_with.kp T.b__law_with .nil pass0 (pa_cons (pv 2) (pa_cons (pv 3) pa_nil))))
  (pss_cons (ps_if (PW.pt (pw_or (pt_cmpR op_notBl (pe_kw (E := E0) G_is_zone (hr.mono (by decide)) (by rfl) T.g_is_zone T.F_is_zone.kp T.w_is_zone (pk_cons (pv 2) pk_nil)) pe_bl (nomark _)) (pw_or1 (pt_not (pt_val (pe_callG (E := E0) G__law_are_guards_right (hrG.mono (by decide)) (by rfl) T.g__law_are_guards_right T.F__law_are_guards_right.kp T.b__law_are_guards_right (pa_cons (pv 0) (pa_cons (pv 2) (pa_cons (pv 1) pa_nil))))))))) (pss_one (ps_ret pe_bl)) pss_nil)
  (pss_cons (ps_if (pt_not (pt_val (pe_callG (E := E0) G__law_are_sets_right (hrG.mono (by decide)) (by rfl) T.g__law_are_sets_right T.F__law_are_sets_right.kp T.b__law_are_sets_right (pa_cons (pv 0) (pa_cons (pv 2) (pa_cons (pv 1) pa_nil)))))) (pss_one (ps_ret pe_bl)) pss_nil)
  (pss_cons (ps_set (i := 5) sc__law_right.nd rfl (.inl rfl) (pe_call G__law_later (hr.mono (by decide)) (by rfl) T.g__law_later T.F__law_later.kp T.b__law_later .nil pass0 (pa_cons (pv 2) pa_nil)))
  (pss_cons (ps_if (PW.pt (pw_or (pt_cmpR op_ne (pe_callB (call_reprK (K := K) rfl hgd hu66) (by rfl) T.m_repr (by decide +kernel) (pa_cons (pe_call G__law_later (hr.mono (by decide)) (by rfl) T.g__law_later T.F__law_later.kp T.b__law_later .nil pass0 (pa_cons (pv 5) pa_nil)) pa_nil)) (pe_callB (call_reprK (K := K) rfl hgd hu66) (by rfl) T.m_repr (by decide +kernel) (pa_cons (pv 5) pa_nil)) (nomark _)) (pw_or1 (pt_not (pt_val (pe_call G__law_is_within (hr.mono (by decide)) (by rfl) T.g__law_is_within T.F__law_is_within.kp T.b__law_is_within .nil pass0 (pa_cons (pv 2) (pa_cons (pv 5) pa_nil)))))))) (pss_one (ps_ret pe_bl)) pss_nil)
  (pss_cons (ps_set (i := 6) sc__law_right.nd rfl (.inl rfl) (pe_call G__law_sorted (hr.mono (by decide)) (by rfl) T.g__law_sorted T.F__law_sorted.kp T.b__law_sorted .nil pass0 (pa_cons (pe_lst (pa_cons (pe_call G__law_take (hr.mono (by decide)) (by rfl) T.g__law_take T.F__law_take.kp T.b__law_take .nil pass0 (pa_cons (pv 0) (pa_cons (pv 1) pa_nil))) pa_nil)) pa_nil)))
  (pss_cons (ps_set (i := 7) sc__law_right.nd rfl (.inl rfl) (pe_lst (pa_cons (pe_tup (pa_cons (pe_call G__law_later (hr.mono (by decide)) (by rfl) T.g__law_later T.F__law_later.kp T.b__law_later .nil pass0 (pa_cons (pv 4) pa_nil)) (pa_cons (pv 5) pa_nil))) (pa_cons (pe_tup (pa_cons (pe_call G__law_set (hr.mono (by decide)) (by rfl) T.g__law_set T.F__law_set.kp T.b__law_set .nil pass0 (pa_cons (pv 4) (pa_cons (pv 6) pa_nil))) (pa_cons (pe_call G__law_set (hr.mono (by decide)) (by rfl) T.g__law_set T.F__law_set.kp T.b__law_set .nil pass0 (pa_cons (pv 2) (pa_cons (pv 6) pa_nil))) pa_nil))) pa_nil))))
  (pss_cons (ps_expr (pe_bm PySem.F.plainAttrs_list PySem.F.slot_list_append PySem.F.type_list_append mt_append (pv 7) (pa_cons (pe_tup (pa_cons (pe_call G__law_with (hr.mono (by decide)) (by rfl) T.g__law_with T.F__law_with.kp T.b__law_with .nil pass0 (pa_cons (pv 4) (pa_cons (pe_slice (sl_tupK (K := K) rfl) (pv 3) po_none (po_some pe_int)) pa_nil))) (pa_cons (pe_call G__law_with (hr.mono (by decide)) (by rfl) T.g__law_with T.F__law_with.kp T.b__law_with .nil pass0 (pa_cons (pv 2) (pa_cons (pe_slice (sl_tupK (K := K) rfl) (pv 3) po_none (po_some pe_int)) pa_nil))) pa_nil))) pa_nil)))
  (pss_cons (ps_if (pt_not (pt_val (pe_callB (cr_allK (K := K) rfl rfl) (by rfl) T.m_all (by decide +kernel) (pa_cons (pe_lc (own := [("mine", 9), ("its", 10)]) (g := gTup K 2 (gCons (gName 9) (gCons (gName 10) gNil))) (tt := tYes) rfl sc__law_right.nd (pi_listK (K := K) rfl (pv 7)) (blkOk_by (own := [("mine", 9), ("its", 10)]) (N := N__law_right) (sc := defScope s__law_right) (by decide +kernel)) (fun _ _ _ _ _ => (pg_tup rfl (pgs_cons (pg_name (i := 9) sc__law_right.nd rfl (.inl rfl)) (pgs_cons (pg_name (i := 10) sc__law_right.nd rfl (.inl rfl)) pgs_nil)))) (fun _ _ _ _ _ => pts_nil) (fun _ _ _ _ _ => (pe_call G__law_is_within (hr.mono (by decide)) (by rfl) T.g__law_is_within T.F__law_is_within.kp T.b__law_is_within .nil pass0 (pa_cons (pv 9) (pa_cons (pv 10) pa_nil))))) pa_nil)))) (pss_one (ps_ret pe_bl)) pss_nil)
  (pss_cons (ps_set (i := 8) sc__law_right.nd rfl (.inl rfl) (pe_callTy (call_tupleK (K := K) rfl) (by rfl) T.m_tuple (by decide +kernel) (pa_cons (pe_lc (own := [("place", 11), ("compare", 12), ("number", 13)]) (g := gTup K 3 (gCons (gName 11) (gCons (gName 12) (gCons (gName 13) gNil))))  rfl sc__law_right.nd (pi_tupK (K := K) rfl (pv 3)) (blkOk_by (own := [("place", 11), ("compare", 12), ("number", 13)]) (N := N__law_right) (sc := defScope s__law_right) (by decide +kernel)) (fun _ _ _ _ _ => (pg_tup rfl (pgs_cons (pg_name (i := 11) sc__law_right.nd rfl (.inl rfl)) (pgs_cons (pg_name (i := 12) sc__law_right.nd rfl (.inl rfl)) (pgs_cons (pg_name (i := 13) sc__law_right.nd rfl (.inl rfl)) pgs_nil))))) (fun _ _ _ _ _ => pts_one (pt_cmpR (op_inK (K := K) rfl) (pv 12) (pe_tup (pa_cons pe_str (pa_cons pe_str pa_nil))) (by rfl))) (fun _ _ _ _ _ => (pe_tup (pa_cons (pv 11) (pa_cons (pv 12) (pa_cons (pv 13) pa_nil)))))) pa_nil)))
  (pss_one (ps_ret (pe_cmpR op_eq (pe_callB (call_reprK (K := K) rfl hgd hu66) (by rfl) T.m_repr (by decide +kernel) (pa_cons (pe_call G__law_with (hr.mono (by decide)) (by rfl) T.g__law_with T.F__law_with.kp T.b__law_with .nil pass0 (pa_cons (pe_call G__law_later (hr.mono (by decide)) (by rfl) T.g__law_later T.F__law_later.kp T.b__law_later .nil pass0 (pa_cons (pe_call G__law_with (hr.mono (by decide)) (by rfl) T.g__law_with T.F__law_with.kp T.b__law_with .nil pass0 (pa_cons (pv 2) (pa_cons (pv 8) pa_nil))) pa_nil)) (pa_cons (pv 8) pa_nil))) pa_nil)) (pe_callB (call_reprK (K := K) rfl hgd hu66) (by rfl) T.m_repr (by decide +kernel) (pa_cons (pe_call G__law_with (hr.mono (by decide)) (by rfl) T.g__law_with T.F__law_with.kp T.b__law_with .nil pass0 (pa_cons (pv 5) (pa_cons (pv 8) pa_nil))) pa_nil)) (nomark _)))))))))))))))), ?_⟩
    refine tSeq_asg ?_
    refine ⟨.ref p, rfl, p, n, 3, rfl, hp, by omega, by decide, by decide, fun d H1 d0 d1 b1 p1 => ⟨1, d, rfl, rfl, ?_⟩⟩
    obtain ⟨k, hk⟩ := Int.eq_ofNat_of_zero_le (show 0 ≤ 1 + d by omega)
    show tSeq _ _ _ ((L2.start N__law_right [.ref p]).set 1 (some (.int (1 + d)))) _
    rw [hk]
    have k1 : 1 ≤ k ∧ k ≤ 3 := by omega
    -- the zone and the guard
    refine tSeq_par ?_
    refine ⟨.ref p, rfl, .int (k : Int), rfl, p, _, k, rfl, p1, by omega, k1.1, k1.2, fun z m H2 hz zn b2 p2 => ?_⟩
    refine ⟨.ref p, rfl, .int (k : Int), rfl, .ref p, rfl, p, _, 2, rfl, p2, by omega, by decide, by decide, fun c H3 c0 c1 b3 p3 => ⟨1, c, rfl, rfl, ?_⟩⟩
    obtain ⟨c, rfl⟩ := Int.eq_ofNat_of_zero_le c0
    refine ⟨p, _, k, 1 + c, by simp, p3, by omega, by omega, by omega, by omega, fun g gs H4 hg gl ok b4 p4 => ⟨_, _, rfl, ?_⟩⟩
    have tl24 := (TupLe.pot (K := K) p2 b3).trans (TupLe.pot p3 b4)
    have hz := tl24 _ _ hz
    have b04 := ((b1.trans b2).trans b3).trans b4
    have pot4 := p4.le (m := n + 60) (by omega)
    clear p1 p2 p3 p4 b1 b2 b3 b4 tl24
    have zN : OZ (k + 1) 6 (some m) := Zn.oz_some zn
    have oN1 : OZ (k + 1) 7 (lw (k + 1) (some m) gs) := Zn.lw_zone zN (by omega) ok
    -- less
    refine tSeq_asg ?_
    refine ⟨.ref z, rfl, .ref g, rfl, .ref z, g, k + 1, 6, some m, gs, rfl, ⟨z, rfl, hz⟩, zN, by omega, hg, ok, by omega, fun lv H5 e5 hlv => ?_⟩
    have hz := ex_t e5 hz
    have hg := hg.ex e5
    have b05 := b04.trans (But.of e5)
    have p5 := pot4.ex e5
    clear b04 pot4 e5
    -- is_zone, guards
    refine tSeq_if (tOr_f (et_is (et_test (ev_op (x := .bl true) (ev_kw (ea_cons (ev_var rfl) ea_nil) fun H6 e6 Q q E => ⟨z, k + 1, 6, m, rfl, ⟨ex_t e6 hz, zn, by omega⟩, q⟩) ev_c rv_notBl)) rfl) fun H6 e6 => ?_)
    refine ⟨.ref p, rfl, .ref z, rfl, .int (k : Int), rfl, p, z, _, k, m, rfl, p5.ex e6, by omega, k1.1, k1.2, ex_t e6 hz, zn, fun H7 b7 p7 => ⟨true, rfl, iteF ?_⟩⟩
    have t57 := (TupLe.of (K := K) e6).trans (TupLe.pot (p5.ex e6) b7)
    have b07 := (b05.trans (But.of e6)).trans b7
    have hz := t57 _ _ hz
    have hg := GAt.tl t57 hg
    have hlv := IsO.tl t57 hlv
    clear t57 b7 e6 p5 b05
    -- sets
    refine tSeq_if ?_
    refine ⟨.ref p, rfl, .ref z, rfl, .int (k : Int), rfl, p, z, _, k, m, rfl, p7, by omega, k1.1, k1.2, hz, zn, fun H8 b8 p8 => ⟨true, rfl, iteF ?_⟩⟩
    have t78 := TupLe.pot (K := K) p7 b8
    have b08 := b07.trans b8
    have hz := t78 _ _ hz
    have hg := GAt.tl t78 hg
    have hlv := IsO.tl t78 hlv
    clear t78 b8 b07 p7
    -- later
    refine q_asgP (P := IsO K ((some (passF (k + 1) m)).map Vi)) (evp_call (ea_cons (ev_var rfl) ea_nil) fun H9 e9 Q q E => ⟨.ref z, k + 1, 6, some m, rfl, ⟨z, rfl, ex_t e9 hz⟩, zN, by omega, q⟩) fun v H9 e9 hv => ?_
    obtain ⟨l, rfl, hl⟩ := hv
    have zp := Zn.pass_zone zn
    have zP : OZ (k + 1) 6 (some (passF (k + 1) m)) := Zn.oz_some zp
    have PP := Zn.pass_pass zn.len
    have hz := ex_t e9 hz
    have hg := hg.ex e9
    have hlv := IsO.mono e9 hlv
    have b09 := b08.trans (But.of e9)
    have p9 := p8.ex e9
    clear e9 b08 p8
    have leP : Zn.Le (k + 1) m (passF (k + 1) m) := fun i j hi hj => Zn.pass_up zn.len hi hj
    have fitP := dd_fits (sm_of zP (by omega))
    refine q_skip (et_is (et_or (a := false) (b := false) (et_is (et_test (ev_op (x := .str (dd (some (passF (k + 1) m))).shown) (y := .str (dd (some (passF (k + 1) m))).shown) (fun H10 e10 Q' q' => ?_) (ev_reprO (o := some (passF (k + 1) m)) (ev_var rfl) ⟨l, rfl, hl⟩ (sm_of zP (by omega))) (rv_ne rfl))) (by simp)) fun _ => et_is (et_not (et_B (b := true) (ev_is (ev_call (ea_cons (ev_var rfl) (ea_cons (ev_var rfl) ea_nil)) fun H10 e10 Q q E => ⟨.ref z, .ref l, k + 1, 6, some m, some (passF (k + 1) m), rfl, ⟨z, rfl, ex_t e10 hz⟩, ⟨l, rfl, ex_t e10 hl⟩, zN, zP, by omega, q⟩) (by rw [ow_le zn zp (by omega) leP])))) rfl) rfl) fun H10 e10 => ?_
    · refine ⟨.ref l, rfl, .ref l, k + 1, 6, some (passF (k + 1) m), rfl, ⟨l, rfl, ex_t e10 hl⟩, zP, by omega, fun v H11 e11 hv => ?_⟩
      have hv : IsO K ((some (passF (k + 1) m)).map Vi) v H11 := by
        have h' : IsO K ((some (passF (k + 1) (passF (k + 1) m))).map Vi) v H11 := hv
        rw [PP] at h'
        exact h'
      exact ⟨v, dd (some (passF (k + 1) m)), rfl, dp_O hv, fitP.1, fitP.2.1, fitP.2.2, q' H11 e11⟩
    have hz := ex_t e10 hz
    have hg := hg.ex e10
    have hl := ex_t e10 hl
    have hlv := IsO.mono e10 hlv
    have b010 := b09.trans (But.of e10)
    have p10 := p9.ex e10
    clear e10 b09 p9
    -- places
    refine tSeq_asg ?_
    refine ⟨.ref p, rfl, .int (k : Int), rfl, p, _, (k : Int), rfl, p10, by omega, by omega, by omega, fun d H11 d0 d1 b11 p11 => ⟨by show 1 ≤ sizeLine; decide, fun a na => ?_⟩⟩
    refine ⟨a, [d], rfl, sql_of upd_same, by simp, fun s ms H12 e12 hs hms hml => ?_⟩
    obtain ⟨cs, c2, c3, c4, c5⟩ := nats_of (k := k) (ms := ms) fun x hx => by
      have := List.mem_singleton.mp ((hms x).mp hx)
      omega
    have e12' := (Evl.Ex.new (o := .lst [.int d]) na).trans e12
    have t12 := (TupLe.pot (K := K) p10 b11).trans (TupLe.of e12')
    have kc : ∀ x ∈ cs, 1 + x < k + 1 := fun x hx => by have := c4 x hx; omega
    have hsq : SqT K H12 s (Vn cs) := sqt_of (by rw [hs, c2])
    have hz := t12 _ _ hz
    have hg := GAt.tl t12 hg
    have hl := t12 _ _ hl
    have hlv := IsO.tl t12 hlv
    have b012 := (b010.trans b11).trans (But.of e12')
    have p12 := p11.ex e12'
    have csl : cs.length ≤ 1 := by
      rw [c3]
      simpa using hml
    clear e12 e12' t12 b11 p11 b010 p10 hs hms hml c2 c3 c5 na
    -- pairs
    have O1 : OZ (k + 1) 7 ((lw (k + 1) (some m) gs).map (passF (k + 1))) := Zn.oz_map oN1 fun _ h => Zn.pass_zone h
    have O2 : OZ (k + 1) 7 ((lw (k + 1) (some m) gs).map (setF (k + 1) cs)) := Zn.oz_map oN1 fun _ h => Zn.set_zone h kc
    refine tSeq_asg ?_
    refine ⟨lv, rfl, lv, k + 1, 7, lw (k + 1) (some m) gs, rfl, hlv, oN1, by omega, fun v1 H13 e13 hv1 => ⟨.ref l, rfl, by show 2 ≤ sizeLine; decide, fun t1 nt1 => ?_⟩⟩
    have e13' := e13.trans (Evl.Ex.new (o := .tup [v1, .ref l]) nt1)
    have ht1 : SqT K (L2.upd H13 t1 (.tup [v1, .ref l])) t1 [v1, .ref l] := sqt_of upd_same
    have hv1 := IsO.mono (Evl.Ex.new (o := .tup [v1, .ref l]) nt1) hv1
    generalize L2.upd H13 t1 (.tup [v1, .ref l]) = H14 at e13' ht1 hv1
    refine ⟨lv, rfl, .ref s, rfl, lv, s, k + 1, 7, lw (k + 1) (some m) gs, cs, rfl, IsO.mono e13' hlv, oN1, by omega, ex_t e13' hsq, kc, by omega, fun v2 H15 e15 hv2 => ?_⟩
    refine ⟨.ref z, rfl, .ref s, rfl, .ref z, s, k + 1, 6, some m, cs, rfl, ⟨z, rfl, ex_t (e13'.trans e15) hz⟩, zN, by omega, ex_t (e13'.trans e15) hsq, kc, by omega, fun v3 H16 e16 hv3 => ⟨by show 2 ≤ sizeLine; decide, fun t2 nt2 => ?_⟩⟩
    have e16' := e16.trans (Evl.Ex.new (o := .tup [v2, v3]) nt2)
    have ht2 : SqT K (L2.upd H16 t2 (.tup [v2, v3])) t2 [v2, v3] := sqt_of upd_same
    have hv3 := IsO.mono (Evl.Ex.new (o := .tup [v2, v3]) nt2) hv3
    generalize L2.upd H16 t2 (.tup [v2, v3]) = H17 at e16' ht2 hv3
    refine ⟨by show 2 ≤ sizeLine; decide, fun b nb => ?_⟩
    have e17 := Evl.Ex.new (o := .lst [.ref t1, .ref t2]) nb
    have hb : (L2.upd H17 b (.lst [.ref t1, .ref t2])) b = some (.lst [.ref t1, .ref t2]) := upd_same
    generalize L2.upd H17 b (.lst [.ref t1, .ref t2]) = H18 at e17 hb
    have neb : b ≠ p := by
      rintro rfl
      obtain ⟨x, y, w, hx, _⟩ := (p12.ex (e13'.trans (e15.trans e16'))).at'
      rw [hx] at nb
      cases nb
    have hbn : H b = none := But.free (b012.trans (But.of (e13'.trans (e15.trans e16')))) neb nb
    have e14_18 := (e15.trans e16').trans e17
    have e12_18 := e13'.trans e14_18
    have ht1 := ex_t e14_18 ht1
    have hv1 := IsO.mono e14_18 hv1
    have hv2 := IsO.mono (e16'.trans e17) hv2
    have ht2 := ex_t e17 ht2
    have hv3 := IsO.mono e17 hv3
    have hz := ex_t e12_18 hz
    have hl := ex_t e12_18 hl
    have hlv := IsO.mono e12_18 hlv
    have hg := hg.ex e12_18
    have b018 := b012.trans (But.of e12_18)
    have p18 := p12.ex e12_18
    clear e12_18 e14_18 e17 e16' e16 e15 e13' e13 b012 p12 hsq nb nt1 nt2
    -- pairs.append
    obtain ⟨rs, r1, r2, r3⟩ := hg
    have ok1 : ∀ g ∈ gs.take 1, g.Ok (k + 1) := fun g hg => ok g (List.mem_of_mem_take hg)
    have O3 : OZ (k + 1) 8 (lw (k + 1) (lw (k + 1) (some m) gs) (gs.take 1)) := Zn.lw_zone oN1 (by omega) ok1
    have O4 : OZ (k + 1) 7 (lw (k + 1) (some m) (gs.take 1)) := Zn.lw_zone zN (by omega) ok1
    have tk1 : (gs.take 1).length ≤ 1000 := by
      rw [List.length_take]
      omega
    refine ⟨.ref b, rfl, .inl ⟨rfl, _, sq_of hb⟩, lv, rfl, use_evp (evp_sl1 (ev_var rfl) r1) fun s1 H19 e19 hs1 => ?_⟩
    obtain ⟨s1, rfl, hs1⟩ := hs1
    refine ⟨lv, s1, k + 1, 7, _, gs.take 1, rfl, IsO.mono e19 hlv, oN1, by omega, GAt.take r2 (fun i r g a b => ex_t e19 (r3 i r g a b)) hs1, ok1, tk1, fun v4 H20 e20 hv4 => ?_⟩
    have e18_20 := e19.trans e20
    refine ⟨.ref z, rfl, use_evp (evp_sl1 (ev_var rfl) (ex_t e18_20 r1)) fun s2 H21 e21 hs2 => ?_⟩
    obtain ⟨s2, rfl, hs2⟩ := hs2
    refine ⟨.ref z, s2, k + 1, 6, some m, gs.take 1, rfl, ⟨z, rfl, ex_t (e18_20.trans e21) hz⟩, zN, by omega, GAt.take r2 (fun i r g a b => ex_t (e18_20.trans e21) (r3 i r g a b)) hs2, ok1, tk1, fun v5 H22 e22 hv5 => ⟨by show 2 ≤ sizeLine; decide, fun t3 nt3 => ?_⟩⟩
    have e22' := e22.trans (Evl.Ex.new (o := .tup [v4, v5]) nt3)
    have ht3 : SqT K (L2.upd H22 t3 (.tup [v4, v5])) t3 [v4, v5] := sqt_of upd_same
    have hv5 := IsO.mono (Evl.Ex.new (o := .tup [v4, v5]) nt3) hv5
    generalize L2.upd H22 t3 (.tup [v4, v5]) = H23 at e22' ht3 hv5
    have hv4 := IsO.mono (e21.trans e22') hv4
    have e18_23 := (e18_20.trans e21).trans e22'
    have hb23 := e18_23 b _ hb
    refine ⟨b, _, .ref t3, rfl, rfl, hb23, sz_lt (by simp), ?_⟩
    have hb24 : (L2.upd H23 b (.lst [.ref t1, .ref t2, .ref t3])) b = some (.lst [.ref t1, .ref t2, .ref t3]) := upd_same
    have t24 : TupLe K H23 (L2.upd H23 b (.lst [.ref t1, .ref t2, .ref t3])) := TupLe.but hb23 But.upd
    have b024 : But p H (L2.upd H23 b (.lst [.ref t1, .ref t2, .ref t3])) := But.mut (b018.trans (But.of e18_23)) hbn
    have p024 : Pot (L2.upd H23 b (.lst [.ref t1, .ref t2, .ref t3])) p (n + 1000) := by
      obtain ⟨x, y, w, q1, q2⟩ := ((p18.ex e18_23).le (m := n + 1000) (by omega)).at'
      exact ⟨x, y, w, by rw [upd_ne (fun e => neb e.symm)]; exact q1, q2⟩
    have T24 := (TupLe.of (K := K) e18_23).trans t24
    have ht1 := T24 _ _ ht1
    have ht2 := T24 _ _ ht2
    have ht3 := t24 _ _ ht3
    have hv1 := IsO.tl T24 hv1
    have hv2 := IsO.tl T24 hv2
    have hv3 := IsO.tl T24 hv3
    have hv4 := IsO.tl t24 hv4
    have hv5 := IsO.tl t24 hv5
    have hz := T24 _ _ hz
    have hl := T24 _ _ hl
    have hg : GAt K (L2.upd H23 b (.lst [.ref t1, .ref t2, .ref t3])) g gs := GAt.tl T24 ⟨rs, r1, r2, r3⟩
    show tSeq _ _ _ _ (L2.upd H23 b (.lst [.ref t1, .ref t2, .ref t3]))
    generalize L2.upd H23 b (.lst [.ref t1, .ref t2, .ref t3]) = H24 at *
    clear T24 t24 e18_23 e18_20 e22' e22 e21 e20 e19 hs1 hs2 r1 r3 hb hb23 p18 b018 nt3
    -- within, all
    have in1 : owF ((lw (k + 1) (some m) gs).map (passF (k + 1))) (some (passF (k + 1) m)) = true := by
      cases e : lw (k + 1) (some m) gs with
      | none => rfl
      | some r => exact ow_le (Zn.pass_zone (oN1 r e)) (zp.mono (by omega)) (by omega) (Zn.pass_le (oN1 r e).len zn.len (Zn.with_le zn (by omega) ok e))
    have in2 : owF ((lw (k + 1) (some m) gs).map (setF (k + 1) cs)) (some (setF (k + 1) cs m)) = true := by
      cases e : lw (k + 1) (some m) gs with
      | none => rfl
      | some r => exact ow_le (Zn.set_zone (oN1 r e) kc) ((Zn.set_zone zn kc).mono (by omega)) (by omega) (Zn.set_le (oN1 r e) zn kc (Zn.with_le zn (by omega) ok e))
    have in3 : owF (lw (k + 1) (lw (k + 1) (some m) gs) (gs.take 1)) (lw (k + 1) (some m) (gs.take 1)) = true := by
      cases e : lw (k + 1) (some m) gs with
      | none => rfl
      | some r =>
        rw [e] at O3
        cases e3 : lw (k + 1) (some r) (gs.take 1) with
        | none => rfl
        | some x =>
          obtain ⟨y, e4, hle⟩ := Zn.with_mono (oN1 r e) zn (by omega) (by omega) ok1 (Zn.with_le zn (by omega) ok e) e3
          rw [show lw (k + 1) (some m) (gs.take 1) = some y from e4]
          exact ow_le (O3 x e3) ((O4 y e4).mono (by omega)) (by omega) hle
    refine q_skip (et_is (et_not (et_B (ev_all (bs := [true, true, true]) (el_mapL2 (K := K) (ev_var rfl) (sql_of hb24) rfl (by simp) (fun x y => rfl) fun i x y H25 e25 hx hy => ?_)))) rfl) fun H25 e25 => ?_
    · rcases i with _ | _ | _ | i
      · obtain rfl := Option.some.inj hx
        obtain rfl := Option.some.inj hy
        exact ⟨t1, v1, .ref l, rfl, ex_t e25 ht1, ev_is (ev_call (ea_cons (ev_var rfl) (ea_cons (ev_var rfl) ea_nil)) fun H26 e26 Q q E => ⟨v1, .ref l, k + 1, 7, _, some (passF (k + 1) m), rfl, IsO.mono (e25.trans e26) hv1, ⟨l, rfl, ex_t (e25.trans e26) hl⟩, O1, zP.mono (by omega), by omega, q⟩) (by rw [in1])⟩
      · obtain rfl := Option.some.inj hx
        obtain rfl := Option.some.inj hy
        exact ⟨t2, v2, v3, rfl, ex_t e25 ht2, ev_is (ev_call (ea_cons (ev_var rfl) (ea_cons (ev_var rfl) ea_nil)) fun H26 e26 Q q E => ⟨v2, v3, k + 1, 7, _, some (setF (k + 1) cs m), rfl, IsO.mono (e25.trans e26) hv2, IsO.mono (e25.trans e26) hv3, O2, Zn.oz_some ((Zn.set_zone zn kc).mono (by omega)), by omega, q⟩) (by rw [in2])⟩
      · obtain rfl := Option.some.inj hx
        obtain rfl := Option.some.inj hy
        exact ⟨t3, v4, v5, rfl, ex_t e25 ht3, ev_is (ev_call (ea_cons (ev_var rfl) (ea_cons (ev_var rfl) ea_nil)) fun H26 e26 Q q E => ⟨v4, v5, k + 1, 8, _, _, rfl, IsO.mono (e25.trans e26) hv4, IsO.mono (e25.trans e26) hv5, O3, O4.mono (by omega), by omega, q⟩) (by rw [in3])⟩
      · simp at hx
    have hz := ex_t e25 hz
    have hl := ex_t e25 hl
    have hg := hg.ex e25
    have b025 := b024.trans (But.of e25)
    have p25 := p024.ex e25
    clear e25 hv1 hv2 hv3 hv4 hv5 ht1 ht2 ht3 b024 p024 hlv
    -- above
    refine tSeq_asg (tCB1 (el_above (ev_var rfl) hg (by omega) (fun x y z => rfl) (fun x y z => rfl) (fun x y z => rfl) (fun x y z => rfl) fun D rs' H26 nD e26 hD hrl hr3 => ⟨D, _, rfl, .inl ⟨sql_of hD, fun t nt => ?_⟩⟩))
    have e27 := Evl.Ex.new (o := .tup (rs'.map V.ref)) nt
    have hA : GAt K (L2.upd H26 t (.tup (rs'.map V.ref))) t (gs.filter fun g => g.up) := ⟨rs', sqt_of upd_same, hrl, fun i r g a b => ex_t e27 (hr3 i r g a b)⟩
    have e27' := e26.trans e27
    generalize L2.upd H26 t (.tup (rs'.map V.ref)) = H27 at e27' hA
    have hz := ex_t e27' hz
    have hl := ex_t e27' hl
    have okA : ∀ g ∈ gs.filter (fun g => g.up), g.Ok (k + 1) := fun g hg => ok g (List.mem_filter.mp hg).1
    have upA : ∀ g ∈ gs.filter (fun g => g.up), g.up = true := fun g hg => by simpa using (List.mem_filter.mp hg).2
    have lenA : (gs.filter fun g => g.up).length ≤ 1000 := Nat.le_trans (List.length_filter_le _ _) (by omega)
    have LA := Zn.later_above zn (by omega) okA upA
    generalize gs.filter (fun g => g.up) = AA at *
    have OA : OZ (k + 1) 7 (lw (k + 1) (some m) AA) := Zn.lw_zone zN (by omega) okA
    have OB : OZ (k + 1) 7 (lw (k + 1) (some (passF (k + 1) m)) AA) := Zn.lw_zone zP (by omega) okA
    have OP : OZ (k + 1) 7 ((lw (k + 1) (some m) AA).map (passF (k + 1))) := Zn.oz_map OA fun _ h => Zn.pass_zone h
    have fit := dd_fits (sm_of OB (by omega))
    refine s_ret (v := .bl true) (ev_is (ev_op (x := .str (dd (lw (k + 1) (some (passF (k + 1) m)) AA)).shown) (y := .str (dd (lw (k + 1) (some (passF (k + 1) m)) AA)).shown) (fun H28 e28 Q' q' => ?_) (fun H28 e28 Q' q' => ?_) (rv_eq rfl)) (by simp)) fun H28 e28 => q H28 (b025.trans (But.of (e27'.trans e28))) (p25.ex (e27'.trans e28))
    · refine ⟨.ref z, rfl, .ref t, rfl, .ref z, t, k + 1, 6, some m, AA, rfl, ⟨z, rfl, ex_t e28 hz⟩, zN, by omega, hA.ex e28, okA, lenA, fun v H29 e29 hv => ?_⟩
      refine ⟨v, k + 1, 7, lw (k + 1) (some m) AA, rfl, hv, OA, by omega, fun v' H30 e30 hv' => ?_⟩
      refine ⟨.ref t, rfl, v', t, k + 1, 7, _, AA, rfl, hv', OP, by omega, hA.ex ((e28.trans e29).trans e30), okA, lenA, fun v'' H31 e31 hv'' => ?_⟩
      have hv'' : IsO K ((lw (k + 1) (some (passF (k + 1) m)) AA).map Vi) v'' H31 := by
        have h' : IsO K ((lw (k + 1) ((withF (k + 1) m AA).map (passF (k + 1))) AA).map Vi) v'' H31 := hv''
        rw [LA] at h'
        exact h'
      exact ⟨v'', _, rfl, dp_O hv'', fit.1, fit.2.1, fit.2.2, q' H31 ((e29.trans e30).trans e31)⟩
    · refine ⟨.ref l, rfl, .ref t, rfl, .ref l, t, k + 1, 6, some (passF (k + 1) m), AA, rfl, ⟨l, rfl, ex_t e28 hl⟩, zP, by omega, hA.ex e28, okA, lenA, fun v H29 e29 hv => ?_⟩
      exact ⟨v, _, rfl, dp_O hv, fit.1, fit.2.1, fit.2.2, q' H29 e29⟩
end
end K33

namespace K33
open PySem PySem.Spec PyProof.Rows L2 Gz Evl
section
variable {P : Program} {w : World} {K : PySem.W.Frag} {mg : Str → Option Value} {base : Heap}
def teC (x : V) : TE := fun _ H Q => Q x H
theorem tFor_tl {tl : TE} {g : TG} {tu tz : TS} {D : Ends} {σ : L2.St} {H : Hp} (h : tl σ H fun x H1 => tSeq (tFor (iList K (teC x)) g tu) tz D σ H1) : tSeq (tFor (iList K tl) g tu) tz D σ H := h
theorem tIfS_ {t : TT} {tu : TS} {D : Ends} {σ : L2.St} {H : Hp} (h : t σ H fun b H1 => if b = true then tu D σ H1 else D.nx σ H1) : tIfS t tu tNext D σ H := h
theorem tNB {te : TE} {σ : L2.St} {H : Hp} {Q : Bool → Hp → Prop} (h : te σ H fun x H1 => ∃ c, x = .bl c ∧ Q (!c) H1) : tNot (tB te) σ H Q := h
theorem lst_over {H H1 H2 : Hp} {p a : Addr} {xs : List V} (np : H p = none) (e : Ex H H1) (b : But p H1 H2) (h : SqL K H a xs) : SqL K H2 a xs := by
  rcases h with (h | ⟨o, h⟩) | h
  · exact .inl (.inl (b a _ (ne_of_none h np) (e a _ h)))
  · exact .inl (.inr ⟨o, b a _ (ne_of_none h np) (e a _ h)⟩)
  · exact .inr h
theorem all_true : ∀ {ys : List V}, (∀ y ∈ ys, y = .bl true) → ∃ bs : List Bool, ys = bs.map V.bl ∧ bs.all id = true
  | [], _ => ⟨[], rfl, rfl⟩
  | y :: ys, h => by
    obtain ⟨bs, rfl, hb⟩ := all_true (ys := ys) fun z hz => h z (List.mem_cons_of_mem _ hz)
    exact ⟨true :: bs, by rw [h y List.mem_cons_self]; rfl, by rw [List.all_cons, hb]; rfl⟩
def spLaw (K : PySem.W.Frag) : Sp := fun as H Q _ => ∃ (a : Addr) (ns : List Int), as = [.ref a] ∧ SqL K H a (ns.map V.int) ∧ ns.length ≤ 63 ∧ ∀ H', Q (.bl true) H'
theorem ok_law (T : Top K mg) : FnG P w K mg base 10 T.f_law T.d_law ["script"] (spLaw K) := by
  have G__law_cells := ok_law_cells (P := P) (w := w) (base := base) T
  have G__law_pot := ok_law_pot (P := P) (w := w) (base := base) T
  have G__law_right := ok_law_right (P := P) (w := w) (base := base) T
  refine okG T.F_law sc_law (fun as H Q E h => ?_) (fun cdv A outer s H as Q E hrG h => ?_)
  · obtain ⟨a, ns, rfl, _⟩ := h
    rfl
  · obtain ⟨a, ns, rfl, hs, hl, q⟩ := h
    have hr := hrG.rm
    refine ⟨_, (pss_cons (ps_for PassesOwn.never rfl (pi_listK (K := K) rfl (pe_call G__law_cells (hr.mono (by decide)) (by rfl) T.g__law_cells T.F__law_cells.kp T.b__law_cells .nil pass0 (pa_cons (pv 0) (pa_cons pe_int pa_nil)))) (pg_name (i := 1) sc_law.nd rfl (.inl rfl))
    (pss_cons (ps_set (i := 2) sc_law.nd rfl (.inr rfl) (pe_call G__law_pot (hr.mono (by decide)) (by rfl) T.g__law_pot T.F__law_pot.kp T.b__law_pot .nil pass0 (pa_cons (pv 0) (pa_cons (pv 1) pa_nil))))
  (pss_one (ps_if (pt_not (pt_val (pe_callB (cr_allK (K := K) rfl rfl) (by rfl) T.m_all (by decide +kernel) (pa_cons (pe_lc (own := [("lap", 3)]) (g := gName 3) (tt := tYes) rfl sc_law.nd (pi_range1 (by rfl) T.m_range (pa_cons pe_int pa_nil)) (blkOk_by (own := [("lap", 3)]) (N := N_law) (sc := defScope s_law) (by decide +kernel)) (fun _ _ _ _ _ => (pg_name (i := 3) sc_law.nd rfl (.inl rfl))) (fun _ _ _ _ _ => pts_nil) (fun _ _ _ _ _ => (pe_callG (E := E0) G__law_right (hrG.mono (by decide)) (by rfl) T.g__law_right T.F__law_right.kp T.b__law_right (pa_cons (pv 2) pa_nil)))) pa_nil)))) (pss_one (ps_ret pe_bl)) pss_nil))))
  (pss_one (ps_ret pe_bl))), ?_⟩
    refine tFor_tl ?_
    refine ⟨.ref a, rfl, a, ns, 2, rfl, hs, hl, by decide, by decide, fun j l H1 j1 j2 nl e1 h1 => ?_⟩
    refine q_forLn (a := l) (xs := rgV 0 (j : Int)) (fun H2 e2 Q q => q H2 (Evl.Ex.refl _)) (sql_of h1) (fun i σ' H' => ∃ y1 y2, σ' = [some (.ref a), y1, y2, none] ∧ SqL K H' a (ns.map V.int) ∧ SqL K H' l (rgV 0 (j : Int)))
      (fun H2 e2 => ⟨none, none, rfl, ex_l (e1.trans e2) hs, ex_l e2 (sql_of h1)⟩) (fun i σ' H' _ ⟨_, _, _, _, h⟩ => h) ?_ ?_
    · rintro i x σ' H2 hx ⟨y1, y2, rfl, hs2, hl2⟩
      have hi : i < j := by
        have := (List.getElem?_eq_some_iff.mp hx).1
        unfold rgV at this
        rw [List.length_map, List.length_range] at this
        omega
      rw [rg_at hi] at hx
      obtain rfl := Option.some.inj hx
      refine tSeq_asg ?_
      refine ⟨.ref a, rfl, .int (i : Int), rfl, a, ns, i, rfl, hs2, hl, by omega, fun p H3 np e3 hp => ?_⟩
      refine tIfS_ (tNB (tCB1 (tLc_ta ?_)))
      refine use_ea (ea_cons ev_c ea_nil) fun H4 e4 => ?_
      refine lc_pot (K := K) (c := 6) (s := 1000) rfl (fun y _ => y = .bl true) (fun y H H' t h => h) (hp.ex e4) (by decide) (fun x => rfl) (fun t H5 ht b5 p5 Q' q' => ?_) fun b ys H5 nb neb b5 p5 hb hyl hR => ?_
      · have t6 : t * 1000 ≤ 5000 := by omega
        exact ⟨.ref p, rfl, p, _, rfl, p5, by omega, fun H6 b6 p6 => q' _ H6 b6 (p6.le (by omega)) rfl⟩
      · obtain ⟨bs, rfl, hbs⟩ := all_true hR
        refine ⟨b, bs, rfl, sql_of hb, ?_⟩
        rw [hbs]
        refine ⟨true, rfl, iteF ⟨_, _, rfl, lst_over np (e3.trans e4) b5 hs2, lst_over np (e3.trans e4) b5 hl2⟩⟩
    · rintro σ' H2 ⟨y1, y2, rfl, hs2, hl2⟩
      exact s_ret ev_c fun H3 _ => q H3
end
end K33

namespace K33
open PySem PySem.Spec PyProof.Rows L2 Gz Evl
/-! ### what the top has written -/
def top_mk {K : PySem.W.Frag} {h : Heap} {mg : Str → Option Value} (X : K.In h) (G : h.Ns mainGlobals mg)
  {f0 : Addr} {od0 an0 : Option Addr} {sl0 : Array (Option Value)} {oc0 kV0 dc0 pm0 cd0 ct0 : Value}
  {f1 : Addr} {od1 an1 : Option Addr} {sl1 : Array (Option Value)} {oc1 kV1 dc1 pm1 cd1 ct1 : Value}
  {f2 : Addr} {od2 an2 : Option Addr} {sl2 : Array (Option Value)} {oc2 kV2 dc2 pm2 cd2 ct2 : Value}
  {f3 : Addr} {od3 an3 : Option Addr} {sl3 : Array (Option Value)} {oc3 kV3 dc3 pm3 cd3 ct3 : Value}
  {f4 : Addr} {od4 an4 : Option Addr} {sl4 : Array (Option Value)} {oc4 kV4 dc4 pm4 cd4 ct4 : Value}
  {f5 : Addr} {od5 an5 : Option Addr} {sl5 : Array (Option Value)} {oc5 kV5 dc5 pm5 cd5 ct5 : Value}
  {f6 : Addr} {od6 an6 : Option Addr} {sl6 : Array (Option Value)} {oc6 kV6 dc6 pm6 cd6 ct6 : Value}
  {f7 : Addr} {od7 an7 : Option Addr} {sl7 : Array (Option Value)} {oc7 kV7 dc7 pm7 cd7 ct7 : Value}
  {f8 : Addr} {od8 an8 : Option Addr} {sl8 : Array (Option Value)} {oc8 kV8 dc8 pm8 cd8 ct8 : Value}
  {f9 : Addr} {od9 an9 : Option Addr} {sl9 : Array (Option Value)} {oc9 kV9 dc9 pm9 cd9 ct9 : Value}
  {f10 : Addr} {od10 an10 : Option Addr} {sl10 : Array (Option Value)} {oc10 kV10 dc10 pm10 cd10 ct10 : Value}
  {f11 : Addr} {od11 an11 : Option Addr} {sl11 : Array (Option Value)} {oc11 kV11 dc11 pm11 cd11 ct11 : Value}
  {f12 : Addr} {od12 an12 : Option Addr} {sl12 : Array (Option Value)} {oc12 kV12 dc12 pm12 cd12 ct12 : Value}
  {f13 : Addr} {od13 an13 : Option Addr} {sl13 : Array (Option Value)} {oc13 kV13 dc13 pm13 cd13 ct13 : Value}
  {f14 : Addr} {od14 an14 : Option Addr} {sl14 : Array (Option Value)} {oc14 kV14 dc14 pm14 cd14 ct14 : Value}
  {f15 : Addr} {od15 an15 : Option Addr} {sl15 : Array (Option Value)} {oc15 kV15 dc15 pm15 cd15 ct15 : Value}
  {f16 : Addr} {od16 an16 : Option Addr} {sl16 : Array (Option Value)} {oc16 kV16 dc16 pm16 cd16 ct16 : Value}
  {f17 : Addr} {od17 an17 : Option Addr} {sl17 : Array (Option Value)} {oc17 kV17 dc17 pm17 cd17 ct17 : Value}
  {f18 : Addr} {od18 an18 : Option Addr} {sl18 : Array (Option Value)} {oc18 kV18 dc18 pm18 cd18 ct18 : Value}
  {f19 : Addr} {od19 an19 : Option Addr} {sl19 : Array (Option Value)} {oc19 kV19 dc19 pm19 cd19 ct19 : Value}
  {f20 : Addr} {od20 an20 : Option Addr} {sl20 : Array (Option Value)} {oc20 kV20 dc20 pm20 cd20 ct20 : Value}
  {f21 : Addr} {od21 an21 : Option Addr} {sl21 : Array (Option Value)} {oc21 kV21 dc21 pm21 cd21 ct21 : Value}
  {f22 : Addr} {od22 an22 : Option Addr} {sl22 : Array (Option Value)} {oc22 kV22 dc22 pm22 cd22 ct22 : Value}
  {f23 : Addr} {od23 an23 : Option Addr} {sl23 : Array (Option Value)} {oc23 kV23 dc23 pm23 cd23 ct23 : Value}
  {f24 : Addr} {od24 an24 : Option Addr} {sl24 : Array (Option Value)} {oc24 kV24 dc24 pm24 cd24 ct24 : Value}
  {f25 : Addr} {od25 an25 : Option Addr} {sl25 : Array (Option Value)} {oc25 kV25 dc25 pm25 cd25 ct25 : Value}
  {f26 : Addr} {od26 an26 : Option Addr} {sl26 : Array (Option Value)} {oc26 kV26 dc26 pm26 cd26 ct26 : Value}
  {f27 : Addr} {od27 an27 : Option Addr} {sl27 : Array (Option Value)} {oc27 kV27 dc27 pm27 cd27 ct27 : Value}
  {f28 : Addr} {od28 an28 : Option Addr} {sl28 : Array (Option Value)} {oc28 kV28 dc28 pm28 cd28 ct28 : Value}
  {f29 : Addr} {od29 an29 : Option Addr} {sl29 : Array (Option Value)} {oc29 kV29 dc29 pm29 cd29 ct29 : Value}
  {f30 : Addr} {od30 an30 : Option Addr} {sl30 : Array (Option Value)} {oc30 kV30 dc30 pm30 cd30 ct30 : Value}
  {f31 : Addr} {od31 an31 : Option Addr} {sl31 : Array (Option Value)} {oc31 kV31 dc31 pm31 cd31 ct31 : Value}
  {f32 : Addr} {od32 an32 : Option Addr} {sl32 : Array (Option Value)} {oc32 kV32 dc32 pm32 cd32 ct32 : Value}
  {f33 : Addr} {od33 an33 : Option Addr} {sl33 : Array (Option Value)} {oc33 kV33 dc33 pm33 cd33 ct33 : Value}
  {f34 : Addr} {od34 an34 : Option Addr} {sl34 : Array (Option Value)} {oc34 kV34 dc34 pm34 cd34 ct34 : Value}
  {f35 : Addr} {od35 an35 : Option Addr} {sl35 : Array (Option Value)} {oc35 kV35 dc35 pm35 cd35 ct35 : Value}
  {f36 : Addr} {od36 an36 : Option Addr} {sl36 : Array (Option Value)} {oc36 kV36 dc36 pm36 cd36 ct36 : Value}
  {f37 : Addr} {od37 an37 : Option Addr} {sl37 : Array (Option Value)} {oc37 kV37 dc37 pm37 cd37 ct37 : Value}
  {f38 : Addr} {od38 an38 : Option Addr} {sl38 : Array (Option Value)} {oc38 kV38 dc38 pm38 cd38 ct38 : Value}
  {f39 : Addr} {od39 an39 : Option Addr} {sl39 : Array (Option Value)} {oc39 kV39 dc39 pm39 cd39 ct39 : Value}
  {f40 : Addr} {od40 an40 : Option Addr} {sl40 : Array (Option Value)} {oc40 kV40 dc40 pm40 cd40 ct40 : Value}
  {u0 : Addr} {ud0 : Option Addr} {ui0 : Array Value} {un0 : Nat} {us0 : Array (Option Value)}
  {t1 : Tok}
  {t2 : Tok}
  {t3 : Tok}
  {t4 : Tok}
  {t5 : Tok}
  {t6 : Tok}
  {t7 : Tok}
  {u8 : Addr} {ud8 : Option Addr} {ui8 : Array Value} {un8 : Nat} {us8 : Array (Option Value)}
  (a0 : PySem.W.nsIn K mainGlobals "_law_cells" = some (some (.ref f0)))
  (l0 : K.lookup f0 = some ⟨oc0, od0, .func (PySem.W.fnOf "_law_cells" "_law_cells" (defArgs s__law_cells) (defBody s__law_cells) (defScope s__law_cells) .none kV0 dc0 pm0 an0 cd0 ct0), sl0⟩)
  (c0 : PySem.W.codeIn K cd0 "_law_cells" = true) (k0 : PySem.W.keepIn K (.ref f0) = true)
  (a1 : PySem.W.nsIn K mainGlobals "_law_pot" = some (some (.ref f1)))
  (l1 : K.lookup f1 = some ⟨oc1, od1, .func (PySem.W.fnOf "_law_pot" "_law_pot" (defArgs s__law_pot) (defBody s__law_pot) (defScope s__law_pot) .none kV1 dc1 pm1 an1 cd1 ct1), sl1⟩)
  (c1 : PySem.W.codeIn K cd1 "_law_pot" = true) (k1 : PySem.W.keepIn K (.ref f1) = true)
  (a2 : PySem.W.nsIn K mainGlobals "_law_cut" = some (some (.ref f2)))
  (l2 : K.lookup f2 = some ⟨oc2, od2, .func (PySem.W.fnOf "_law_cut" "_law_cut" (defArgs s__law_cut) (defBody s__law_cut) (defScope s__law_cut) .none kV2 dc2 pm2 an2 cd2 ct2), sl2⟩)
  (c2 : PySem.W.codeIn K cd2 "_law_cut" = true) (k2 : PySem.W.keepIn K (.ref f2) = true)
  (a3 : PySem.W.nsIn K mainGlobals "_law_does_keep" = some (some (.ref f3)))
  (l3 : K.lookup f3 = some ⟨oc3, od3, .func (PySem.W.fnOf "_law_does_keep" "_law_does_keep" (defArgs s__law_does_keep) (defBody s__law_does_keep) (defScope s__law_does_keep) .none kV3 dc3 pm3 an3 cd3 ct3), sl3⟩)
  (c3 : PySem.W.codeIn K cd3 "_law_does_keep" = true) (k3 : PySem.W.keepIn K (.ref f3) = true)
  (a4 : PySem.W.nsIn K mainGlobals "_law_take" = some (some (.ref f4)))
  (l4 : K.lookup f4 = some ⟨oc4, od4, .func (PySem.W.fnOf "_law_take" "_law_take" (defArgs s__law_take) (defBody s__law_take) (defScope s__law_take) .none kV4 dc4 pm4 an4 cd4 ct4), sl4⟩)
  (c4 : PySem.W.codeIn K cd4 "_law_take" = true) (k4 : PySem.W.keepIn K (.ref f4) = true)
  (a5 : PySem.W.nsIn K mainGlobals "_law_of" = some (some (.ref f5)))
  (l5 : K.lookup f5 = some ⟨oc5, od5, .func (PySem.W.fnOf "_law_of" "_law_of" (defArgs s__law_of) (defBody s__law_of) (defScope s__law_of) .none kV5 dc5 pm5 an5 cd5 ct5), sl5⟩)
  (c5 : PySem.W.codeIn K cd5 "_law_of" = true) (k5 : PySem.W.keepIn K (.ref f5) = true)
  (a6 : PySem.W.nsIn K mainGlobals "_law_guard" = some (some (.ref f6)))
  (l6 : K.lookup f6 = some ⟨oc6, od6, .func (PySem.W.fnOf "_law_guard" "_law_guard" (defArgs s__law_guard) (defBody s__law_guard) (defScope s__law_guard) .none kV6 dc6 pm6 an6 cd6 ct6), sl6⟩)
  (c6 : PySem.W.codeIn K cd6 "_law_guard" = true) (k6 : PySem.W.keepIn K (.ref f6) = true)
  (a7 : PySem.W.nsIn K mainGlobals "is_integer" = some (some (.ref f7)))
  (l7 : K.lookup f7 = some ⟨oc7, od7, .func (PySem.W.fnOf "is_integer" "is_integer" (defArgs s_is_integer) (defBody s_is_integer) (defScope s_is_integer) .none kV7 dc7 pm7 an7 cd7 ct7), sl7⟩)
  (c7 : PySem.W.codeIn K cd7 "is_integer" = true) (k7 : PySem.W.keepIn K (.ref f7) = true)
  (a8 : PySem.W.nsIn K mainGlobals "is_between" = some (some (.ref f8)))
  (l8 : K.lookup f8 = some ⟨oc8, od8, .func (PySem.W.fnOf "is_between" "is_between" (defArgs s_is_between) (defBody s_is_between) (defScope s_is_between) .none kV8 dc8 pm8 an8 cd8 ct8), sl8⟩)
  (c8 : PySem.W.codeIn K cd8 "is_between" = true) (k8 : PySem.W.keepIn K (.ref f8) = true)
  (a9 : PySem.W.nsIn K mainGlobals "sum_of_bounds" = some (some (.ref f9)))
  (l9 : K.lookup f9 = some ⟨oc9, od9, .func (PySem.W.fnOf "sum_of_bounds" "sum_of_bounds" (defArgs s_sum_of_bounds) (defBody s_sum_of_bounds) (defScope s_sum_of_bounds) .none kV9 dc9 pm9 an9 cd9 ct9), sl9⟩)
  (c9 : PySem.W.codeIn K cd9 "sum_of_bounds" = true) (k9 : PySem.W.keepIn K (.ref f9) = true)
  (a10 : PySem.W.nsIn K mainGlobals "tight" = some (some (.ref f10)))
  (l10 : K.lookup f10 = some ⟨oc10, od10, .func (PySem.W.fnOf "tight" "tight" (defArgs s_tight) (defBody s_tight) (defScope s_tight) .none kV10 dc10 pm10 an10 cd10 ct10), sl10⟩)
  (c10 : PySem.W.codeIn K cd10 "tight" = true) (k10 : PySem.W.keepIn K (.ref f10) = true)
  (a11 : PySem.W.nsIn K mainGlobals "is_zone_of" = some (some (.ref f11)))
  (l11 : K.lookup f11 = some ⟨oc11, od11, .func (PySem.W.fnOf "is_zone_of" "is_zone_of" (defArgs s_is_zone_of) (defBody s_is_zone_of) (defScope s_is_zone_of) .none kV11 dc11 pm11 an11 cd11 ct11), sl11⟩)
  (c11 : PySem.W.codeIn K cd11 "is_zone_of" = true) (k11 : PySem.W.keepIn K (.ref f11) = true)
  (a12 : PySem.W.nsIn K mainGlobals "is_zone" = some (some (.ref f12)))
  (l12 : K.lookup f12 = some ⟨oc12, od12, .func (PySem.W.fnOf "is_zone" "is_zone" (defArgs s_is_zone) (defBody s_is_zone) (defScope s_is_zone) .none kV12 dc12 pm12 an12 cd12 ct12), sl12⟩)
  (c12 : PySem.W.codeIn K cd12 "is_zone" = true) (k12 : PySem.W.keepIn K (.ref f12) = true)
  (a13 : PySem.W.nsIn K mainGlobals "check_zone" = some (some (.ref f13)))
  (l13 : K.lookup f13 = some ⟨oc13, od13, .func (PySem.W.fnOf "check_zone" "check_zone" (defArgs s_check_zone) (defBody s_check_zone) (defScope s_check_zone) .none kV13 dc13 pm13 an13 cd13 ct13), sl13⟩)
  (c13 : PySem.W.codeIn K cd13 "check_zone" = true) (k13 : PySem.W.keepIn K (.ref f13) = true)
  (a14 : PySem.W.nsIn K mainGlobals "lies_within" = some (some (.ref f14)))
  (l14 : K.lookup f14 = some ⟨oc14, od14, .func (PySem.W.fnOf "lies_within" "lies_within" (defArgs s_lies_within) (defBody s_lies_within) (defScope s_lies_within) .none kV14 dc14 pm14 an14 cd14 ct14), sl14⟩)
  (c14 : PySem.W.codeIn K cd14 "lies_within" = true) (k14 : PySem.W.keepIn K (.ref f14) = true)
  (a15 : PySem.W.nsIn K mainGlobals "is_zone_within" = some (some (.ref f15)))
  (l15 : K.lookup f15 = some ⟨oc15, od15, .func (PySem.W.fnOf "is_zone_within" "is_zone_within" (defArgs s_is_zone_within) (defBody s_is_zone_within) (defScope s_is_zone_within) .none kV15 dc15 pm15 an15 cd15 ct15), sl15⟩)
  (c15 : PySem.W.codeIn K cd15 "is_zone_within" = true) (k15 : PySem.W.keepIn K (.ref f15) = true)
  (a16 : PySem.W.nsIn K mainGlobals "_law_is_within" = some (some (.ref f16)))
  (l16 : K.lookup f16 = some ⟨oc16, od16, .func (PySem.W.fnOf "_law_is_within" "_law_is_within" (defArgs s__law_is_within) (defBody s__law_is_within) (defScope s__law_is_within) .none kV16 dc16 pm16 an16 cd16 ct16), sl16⟩)
  (c16 : PySem.W.codeIn K cd16 "_law_is_within" = true) (k16 : PySem.W.keepIn K (.ref f16) = true)
  (a17 : PySem.W.nsIn K mainGlobals "are_bounds" = some (some (.ref f17)))
  (l17 : K.lookup f17 = some ⟨oc17, od17, .func (PySem.W.fnOf "are_bounds" "are_bounds" (defArgs s_are_bounds) (defBody s_are_bounds) (defScope s_are_bounds) .none kV17 dc17 pm17 an17 cd17 ct17), sl17⟩)
  (c17 : PySem.W.codeIn K cd17 "are_bounds" = true) (k17 : PySem.W.keepIn K (.ref f17) = true)
  (a18 : PySem.W.nsIn K mainGlobals "bound_of" = some (some (.ref f18)))
  (l18 : K.lookup f18 = some ⟨oc18, od18, .func (PySem.W.fnOf "bound_of" "bound_of" (defArgs s_bound_of) (defBody s_bound_of) (defScope s_bound_of) .none kV18 dc18 pm18 an18 cd18 ct18), sl18⟩)
  (c18 : PySem.W.codeIn K cd18 "bound_of" = true) (k18 : PySem.W.keepIn K (.ref f18) = true)
  (a19 : PySem.W.nsIn K mainGlobals "side_of" = some (some (.ref f19)))
  (l19 : K.lookup f19 = some ⟨oc19, od19, .func (PySem.W.fnOf "side_of" "side_of" (defArgs s_side_of) (defBody s_side_of) (defScope s_side_of) .none kV19 dc19 pm19 an19 cd19 ct19), sl19⟩)
  (c19 : PySem.W.codeIn K cd19 "side_of" = true) (k19 : PySem.W.keepIn K (.ref f19) = true)
  (a20 : PySem.W.nsIn K mainGlobals "guarded" = some (some (.ref f20)))
  (l20 : K.lookup f20 = some ⟨oc20, od20, .func (PySem.W.fnOf "guarded" "guarded" (defArgs s_guarded) (defBody s_guarded) (defScope s_guarded) .none kV20 dc20 pm20 an20 cd20 ct20), sl20⟩)
  (c20 : PySem.W.codeIn K cd20 "guarded" = true) (k20 : PySem.W.keepIn K (.ref f20) = true)
  (a21 : PySem.W.nsIn K mainGlobals "zone_with" = some (some (.ref f21)))
  (l21 : K.lookup f21 = some ⟨oc21, od21, .func (PySem.W.fnOf "zone_with" "zone_with" (defArgs s_zone_with) (defBody s_zone_with) (defScope s_zone_with) .none kV21 dc21 pm21 an21 cd21 ct21), sl21⟩)
  (c21 : PySem.W.codeIn K cd21 "zone_with" = true) (k21 : PySem.W.keepIn K (.ref f21) = true)
  (a22 : PySem.W.nsIn K mainGlobals "_law_with" = some (some (.ref f22)))
  (l22 : K.lookup f22 = some ⟨oc22, od22, .func (PySem.W.fnOf "_law_with" "_law_with" (defArgs s__law_with) (defBody s__law_with) (defScope s__law_with) .none kV22 dc22 pm22 an22 cd22 ct22), sl22⟩)
  (c22 : PySem.W.codeIn K cd22 "_law_with" = true) (k22 : PySem.W.keepIn K (.ref f22) = true)
  (a23 : PySem.W.nsIn K mainGlobals "has_values" = some (some (.ref f23)))
  (l23 : K.lookup f23 = some ⟨oc23, od23, .func (PySem.W.fnOf "has_values" "has_values" (defArgs s_has_values) (defBody s_has_values) (defScope s_has_values) .none kV23 dc23 pm23 an23 cd23 ct23), sl23⟩)
  (c23 : PySem.W.codeIn K cd23 "has_values" = true) (k23 : PySem.W.keepIn K (.ref f23) = true)
  (a24 : PySem.W.nsIn K mainGlobals "common" = some (some (.ref f24)))
  (l24 : K.lookup f24 = some ⟨oc24, od24, .func (PySem.W.fnOf "common" "common" (defArgs s_common) (defBody s_common) (defScope s_common) .none kV24 dc24 pm24 an24 cd24 ct24), sl24⟩)
  (c24 : PySem.W.codeIn K cd24 "common" = true) (k24 : PySem.W.keepIn K (.ref f24) = true)
  (a25 : PySem.W.nsIn K mainGlobals "is_fraction" = some (some (.ref f25)))
  (l25 : K.lookup f25 = some ⟨oc25, od25, .func (PySem.W.fnOf "is_fraction" "is_fraction" (defArgs s_is_fraction) (defBody s_is_fraction) (defScope s_is_fraction) .none kV25 dc25 pm25 an25 cd25 ct25), sl25⟩)
  (c25 : PySem.W.codeIn K cd25 "is_fraction" = true) (k25 : PySem.W.keepIn K (.ref f25) = true)
  (a26 : PySem.W.nsIn K mainGlobals "is_in_zone" = some (some (.ref f26)))
  (l26 : K.lookup f26 = some ⟨oc26, od26, .func (PySem.W.fnOf "is_in_zone" "is_in_zone" (defArgs s_is_in_zone) (defBody s_is_in_zone) (defScope s_is_in_zone) .none kV26 dc26 pm26 an26 cd26 ct26), sl26⟩)
  (c26 : PySem.W.codeIn K cd26 "is_in_zone" = true) (k26 : PySem.W.keepIn K (.ref f26) = true)
  (a27 : PySem.W.nsIn K mainGlobals "_law_are_guards_right" = some (some (.ref f27)))
  (l27 : K.lookup f27 = some ⟨oc27, od27, .func (PySem.W.fnOf "_law_are_guards_right" "_law_are_guards_right" (defArgs s__law_are_guards_right) (defBody s__law_are_guards_right) (defScope s__law_are_guards_right) .none kV27 dc27 pm27 an27 cd27 ct27), sl27⟩)
  (c27 : PySem.W.codeIn K cd27 "_law_are_guards_right" = true) (k27 : PySem.W.keepIn K (.ref f27) = true)
  (a28 : PySem.W.nsIn K mainGlobals "set_back" = some (some (.ref f28)))
  (l28 : K.lookup f28 = some ⟨oc28, od28, .func (PySem.W.fnOf "set_back" "set_back" (defArgs s_set_back) (defBody s_set_back) (defScope s_set_back) .none kV28 dc28 pm28 an28 cd28 ct28), sl28⟩)
  (c28 : PySem.W.codeIn K cd28 "set_back" = true) (k28 : PySem.W.keepIn K (.ref f28) = true)
  (a29 : PySem.W.nsIn K mainGlobals "zone_set" = some (some (.ref f29)))
  (l29 : K.lookup f29 = some ⟨oc29, od29, .func (PySem.W.fnOf "zone_set" "zone_set" (defArgs s_zone_set) (defBody s_zone_set) (defScope s_zone_set) .none kV29 dc29 pm29 an29 cd29 ct29), sl29⟩)
  (c29 : PySem.W.codeIn K cd29 "zone_set" = true) (k29 : PySem.W.keepIn K (.ref f29) = true)
  (a30 : PySem.W.nsIn K mainGlobals "_law_set" = some (some (.ref f30)))
  (l30 : K.lookup f30 = some ⟨oc30, od30, .func (PySem.W.fnOf "_law_set" "_law_set" (defArgs s__law_set) (defBody s__law_set) (defScope s__law_set) .none kV30 dc30 pm30 an30 cd30 ct30), sl30⟩)
  (c30 : PySem.W.codeIn K cd30 "_law_set" = true) (k30 : PySem.W.keepIn K (.ref f30) = true)
  (a31 : PySem.W.nsIn K mainGlobals "_law_sorted" = some (some (.ref f31)))
  (l31 : K.lookup f31 = some ⟨oc31, od31, .func (PySem.W.fnOf "_law_sorted" "_law_sorted" (defArgs s__law_sorted) (defBody s__law_sorted) (defScope s__law_sorted) .none kV31 dc31 pm31 an31 cd31 ct31), sl31⟩)
  (c31 : PySem.W.codeIn K cd31 "_law_sorted" = true) (k31 : PySem.W.keepIn K (.ref f31) = true)
  (a32 : PySem.W.nsIn K mainGlobals "_law_are_sets_right" = some (some (.ref f32)))
  (l32 : K.lookup f32 = some ⟨oc32, od32, .func (PySem.W.fnOf "_law_are_sets_right" "_law_are_sets_right" (defArgs s__law_are_sets_right) (defBody s__law_are_sets_right) (defScope s__law_are_sets_right) .none kV32 dc32 pm32 an32 cd32 ct32), sl32⟩)
  (c32 : PySem.W.codeIn K cd32 "_law_are_sets_right" = true) (k32 : PySem.W.keepIn K (.ref f32) = true)
  (a33 : PySem.W.nsIn K mainGlobals "passed" = some (some (.ref f33)))
  (l33 : K.lookup f33 = some ⟨oc33, od33, .func (PySem.W.fnOf "passed" "passed" (defArgs s_passed) (defBody s_passed) (defScope s_passed) .none kV33 dc33 pm33 an33 cd33 ct33), sl33⟩)
  (c33 : PySem.W.codeIn K cd33 "passed" = true) (k33 : PySem.W.keepIn K (.ref f33) = true)
  (a34 : PySem.W.nsIn K mainGlobals "later_zone" = some (some (.ref f34)))
  (l34 : K.lookup f34 = some ⟨oc34, od34, .func (PySem.W.fnOf "later_zone" "later_zone" (defArgs s_later_zone) (defBody s_later_zone) (defScope s_later_zone) .none kV34 dc34 pm34 an34 cd34 ct34), sl34⟩)
  (c34 : PySem.W.codeIn K cd34 "later_zone" = true) (k34 : PySem.W.keepIn K (.ref f34) = true)
  (a35 : PySem.W.nsIn K mainGlobals "_law_later" = some (some (.ref f35)))
  (l35 : K.lookup f35 = some ⟨oc35, od35, .func (PySem.W.fnOf "_law_later" "_law_later" (defArgs s__law_later) (defBody s__law_later) (defScope s__law_later) .none kV35 dc35 pm35 an35 cd35 ct35), sl35⟩)
  (c35 : PySem.W.codeIn K cd35 "_law_later" = true) (k35 : PySem.W.keepIn K (.ref f35) = true)
  (a36 : PySem.W.nsIn K mainGlobals "begin_zone" = some (some (.ref f36)))
  (l36 : K.lookup f36 = some ⟨oc36, od36, .func (PySem.W.fnOf "begin_zone" "begin_zone" (defArgs s_begin_zone) (defBody s_begin_zone) (defScope s_begin_zone) .none kV36 dc36 pm36 an36 cd36 ct36), sl36⟩)
  (c36 : PySem.W.codeIn K cd36 "begin_zone" = true) (k36 : PySem.W.keepIn K (.ref f36) = true)
  (a37 : PySem.W.nsIn K mainGlobals "first_zone" = some (some (.ref f37)))
  (l37 : K.lookup f37 = some ⟨oc37, od37, .func (PySem.W.fnOf "first_zone" "first_zone" (defArgs s_first_zone) (defBody s_first_zone) (defScope s_first_zone) .none kV37 dc37 pm37 an37 cd37 ct37), sl37⟩)
  (c37 : PySem.W.codeIn K cd37 "first_zone" = true) (k37 : PySem.W.keepIn K (.ref f37) = true)
  (a38 : PySem.W.nsIn K mainGlobals "_law_zone" = some (some (.ref f38)))
  (l38 : K.lookup f38 = some ⟨oc38, od38, .func (PySem.W.fnOf "_law_zone" "_law_zone" (defArgs s__law_zone) (defBody s__law_zone) (defScope s__law_zone) .none kV38 dc38 pm38 an38 cd38 ct38), sl38⟩)
  (c38 : PySem.W.codeIn K cd38 "_law_zone" = true) (k38 : PySem.W.keepIn K (.ref f38) = true)
  (a39 : PySem.W.nsIn K mainGlobals "_law_right" = some (some (.ref f39)))
  (l39 : K.lookup f39 = some ⟨oc39, od39, .func (PySem.W.fnOf "_law_right" "_law_right" (defArgs s__law_right) (defBody s__law_right) (defScope s__law_right) .none kV39 dc39 pm39 an39 cd39 ct39), sl39⟩)
  (c39 : PySem.W.codeIn K cd39 "_law_right" = true) (k39 : PySem.W.keepIn K (.ref f39) = true)
  (a40 : PySem.W.nsIn K mainGlobals "law" = some (some (.ref f40)))
  (l40 : K.lookup f40 = some ⟨oc40, od40, .func (PySem.W.fnOf "law" "law" (defArgs s_law) (defBody s_law) (defScope s_law) .none kV40 dc40 pm40 an40 cd40 ct40), sl40⟩)
  (c40 : PySem.W.codeIn K cd40 "law" = true) (k40 : PySem.W.keepIn K (.ref f40) = true)
  (z0 : PySem.W.nsIn K mainGlobals "abs" = some none)
  (z1 : PySem.W.nsIn K mainGlobals "all" = some none)
  (z2 : PySem.W.nsIn K mainGlobals "any" = some none)
  (z3 : PySem.W.nsIn K mainGlobals "bool" = some none)
  (z4 : PySem.W.nsIn K mainGlobals "dict" = some none)
  (z5 : PySem.W.nsIn K mainGlobals "int" = some none)
  (z6 : PySem.W.nsIn K mainGlobals "isinstance" = some none)
  (z7 : PySem.W.nsIn K mainGlobals "len" = some none)
  (z8 : PySem.W.nsIn K mainGlobals "list" = some none)
  (z9 : PySem.W.nsIn K mainGlobals "max" = some none)
  (z10 : PySem.W.nsIn K mainGlobals "min" = some none)
  (z11 : PySem.W.nsIn K mainGlobals "range" = some none)
  (z12 : PySem.W.nsIn K mainGlobals "repr" = some none)
  (z13 : PySem.W.nsIn K mainGlobals "sorted" = some none)
  (z14 : PySem.W.nsIn K mainGlobals "str" = some none)
  (z15 : PySem.W.nsIn K mainGlobals "sum" = some none)
  (z16 : PySem.W.nsIn K mainGlobals "tuple" = some none)
  (z17 : PySem.W.nsIn K mainGlobals "zip" = some none)
  (q0 : PySem.W.nsIn K mainGlobals "COMPARES" = some (some (.ref u0)))
  (y0 : K.lookup u0 = some ⟨.type "tuple", ud0, .seq ui0 un0, us0⟩)
  (h0 : ui0.size ≤ sizeLine) (r0 : Vals [V.str "<", V.str "<=", V.str ">", V.str ">="] ui0.toList)
  (q1 : PySem.W.nsIn K mainGlobals "FAR" = some (some (.int 1000000 t1)))
  (q2 : PySem.W.nsIn K mainGlobals "MOST_BOUND" = some (some (.int 200000 t2)))
  (q3 : PySem.W.nsIn K mainGlobals "MOST_CLOCKS" = some (some (.int 3 t3)))
  (q4 : PySem.W.nsIn K mainGlobals "MOST_MOMENT" = some (some (.int 12 t4)))
  (q5 : PySem.W.nsIn K mainGlobals "MOST_NUMBER" = some (some (.int 100000 t5)))
  (q6 : PySem.W.nsIn K mainGlobals "NOUGHT" = some (some (.int 1 t6)))
  (q7 : PySem.W.nsIn K mainGlobals "REACHED" = some (some (.int 1 t7)))
  (q8 : PySem.W.nsIn K mainGlobals "UPPER" = some (some (.ref u8)))
  (y8 : K.lookup u8 = some ⟨.type "tuple", ud8, .seq ui8 un8, us8⟩)
  (h8 : ui8.size ≤ sizeLine) (r8 : Vals [V.str "<", V.str "<="] ui8.toList) : Top K mg where
  f__law_cells := f0
  d__law_cells := _
  F__law_cells := fun_mk (st := s__law_cells) l0 c0 k0
  b__law_cells := (fun_mk (st := s__law_cells) l0 c0 k0).binds (ps := ["script", "most"]) fun _ _ _ _ _ _ us hl => match us, hl with | [_, _], _ => rfl
  g__law_cells := PySem.W.mg_of X G a0
  f__law_pot := f1
  d__law_pot := _
  F__law_pot := fun_mk (st := s__law_pot) l1 c1 k1
  b__law_pot := (fun_mk (st := s__law_pot) l1 c1 k1).binds (ps := ["script", "place"]) fun _ _ _ _ _ _ us hl => match us, hl with | [_, _], _ => rfl
  g__law_pot := PySem.W.mg_of X G a1
  f__law_cut := f2
  d__law_cut := _
  F__law_cut := fun_mk (st := s__law_cut) l2 c2 k2
  b__law_cut := (fun_mk (st := s__law_cut) l2 c2 k2).binds (ps := ["top", "low"]) fun _ _ _ _ _ _ us hl => match us, hl with | [_, _], _ => rfl
  g__law_cut := PySem.W.mg_of X G a2
  f__law_does_keep := f3
  d__law_does_keep := _
  F__law_does_keep := fun_mk (st := s__law_does_keep) l3 c3 k3
  b__law_does_keep := (fun_mk (st := s__law_does_keep) l3 c3 k3).binds (ps := ["values", "guard"]) fun _ _ _ _ _ _ us hl => match us, hl with | [_, _], _ => rfl
  g__law_does_keep := PySem.W.mg_of X G a3
  f__law_take := f4
  d__law_take := _
  F__law_take := fun_mk (st := s__law_take) l4 c4 k4
  b__law_take := (fun_mk (st := s__law_take) l4 c4 k4).binds (ps := ["pot", "upto"]) fun _ _ _ _ _ _ us hl => match us, hl with | [_, _], _ => rfl
  g__law_take := PySem.W.mg_of X G a4
  f__law_of := f5
  d__law_of := _
  F__law_of := fun_mk (st := s__law_of) l5 c5 k5
  b__law_of := (fun_mk (st := s__law_of) l5 c5 k5).binds (ps := ["pot", "some"]) fun _ _ _ _ _ _ us hl => match us, hl with | [_, _], _ => rfl
  g__law_of := PySem.W.mg_of X G a5
  f__law_guard := f6
  d__law_guard := _
  F__law_guard := fun_mk (st := s__law_guard) l6 c6 k6
  b__law_guard := (fun_mk (st := s__law_guard) l6 c6 k6).binds (ps := ["pot", "many", "most"]) fun _ _ _ _ _ _ us hl => match us, hl with | [_, _, _], _ => rfl
  g__law_guard := PySem.W.mg_of X G a6
  f_is_integer := f7
  d_is_integer := _
  F_is_integer := fun_mk (st := s_is_integer) l7 c7 k7
  b_is_integer := (fun_mk (st := s_is_integer) l7 c7 k7).binds (ps := ["value"]) fun _ _ _ _ _ _ us hl => match us, hl with | [_], _ => rfl
  g_is_integer := PySem.W.mg_of X G a7
  f_is_between := f8
  d_is_between := _
  F_is_between := fun_mk (st := s_is_between) l8 c8 k8
  b_is_between := (fun_mk (st := s_is_between) l8 c8 k8).binds (ps := ["value", "low", "high"]) fun _ _ _ _ _ _ us hl => match us, hl with | [_, _, _], _ => rfl
  g_is_between := PySem.W.mg_of X G a8
  f_sum_of_bounds := f9
  d_sum_of_bounds := _
  F_sum_of_bounds := fun_mk (st := s_sum_of_bounds) l9 c9 k9
  b_sum_of_bounds := (fun_mk (st := s_sum_of_bounds) l9 c9 k9).binds (ps := ["one", "other"]) fun _ _ _ _ _ _ us hl => match us, hl with | [_, _], _ => rfl
  g_sum_of_bounds := PySem.W.mg_of X G a9
  f_tight := f10
  d_tight := _
  F_tight := fun_mk (st := s_tight) l10 c10 k10
  b_tight := (fun_mk (st := s_tight) l10 c10 k10).binds (ps := ["bounds", "size"]) fun _ _ _ _ _ _ us hl => match us, hl with | [_, _], _ => rfl
  g_tight := PySem.W.mg_of X G a10
  f_is_zone_of := f11
  d_is_zone_of := _
  F_is_zone_of := fun_mk (st := s_is_zone_of) l11 c11 k11
  b_is_zone_of := (fun_mk (st := s_is_zone_of) l11 c11 k11).binds (ps := ["many", "value"]) fun _ _ _ _ _ _ us hl => match us, hl with | [_, _], _ => rfl
  g_is_zone_of := PySem.W.mg_of X G a11
  f_is_zone := f12
  d_is_zone := _
  F_is_zone := fun_mk (st := s_is_zone) l12 c12 k12
  b_is_zone := (fun_mk (st := s_is_zone) l12 c12 k12).binds (ps := ["value"]) fun _ _ _ _ _ _ us hl => match us, hl with | [_], _ => rfl
  g_is_zone := PySem.W.mg_of X G a12
  w_is_zone := fun us hl => match us, hl with | [_], _ => rfl
  f_check_zone := f13
  d_check_zone := _
  F_check_zone := fun_mk (st := s_check_zone) l13 c13 k13
  b_check_zone := (fun_mk (st := s_check_zone) l13 c13 k13).binds (ps := ["zone"]) fun _ _ _ _ _ _ us hl => match us, hl with | [_], _ => rfl
  g_check_zone := PySem.W.mg_of X G a13
  f_lies_within := f14
  d_lies_within := _
  F_lies_within := fun_mk (st := s_lies_within) l14 c14 k14
  b_lies_within := (fun_mk (st := s_lies_within) l14 c14 k14).binds (ps := ["one", "other"]) fun _ _ _ _ _ _ us hl => match us, hl with | [_, _], _ => rfl
  g_lies_within := PySem.W.mg_of X G a14
  f_is_zone_within := f15
  d_is_zone_within := _
  F_is_zone_within := fun_mk (st := s_is_zone_within) l15 c15 k15
  b_is_zone_within := (fun_mk (st := s_is_zone_within) l15 c15 k15).binds (ps := ["one", "other"]) fun _ _ _ _ _ _ us hl => match us, hl with | [_, _], _ => rfl
  g_is_zone_within := PySem.W.mg_of X G a15
  w_is_zone_within := fun us hl => match us, hl with | [_, _], _ => rfl
  f__law_is_within := f16
  d__law_is_within := _
  F__law_is_within := fun_mk (st := s__law_is_within) l16 c16 k16
  b__law_is_within := (fun_mk (st := s__law_is_within) l16 c16 k16).binds (ps := ["one", "other"]) fun _ _ _ _ _ _ us hl => match us, hl with | [_, _], _ => rfl
  g__law_is_within := PySem.W.mg_of X G a16
  f_are_bounds := f17
  d_are_bounds := _
  F_are_bounds := fun_mk (st := s_are_bounds) l17 c17 k17
  b_are_bounds := (fun_mk (st := s_are_bounds) l17 c17 k17).binds (ps := ["many", "value"]) fun _ _ _ _ _ _ us hl => match us, hl with | [_, _], _ => rfl
  g_are_bounds := PySem.W.mg_of X G a17
  f_bound_of := f18
  d_bound_of := _
  F_bound_of := fun_mk (st := s_bound_of) l18 c18 k18
  b_bound_of := (fun_mk (st := s_bound_of) l18 c18 k18).binds (ps := ["number", "is_reached"]) fun _ _ _ _ _ _ us hl => match us, hl with | [_, _], _ => rfl
  g_bound_of := PySem.W.mg_of X G a18
  f_side_of := f19
  d_side_of := _
  F_side_of := fun_mk (st := s_side_of) l19 c19 k19
  b_side_of := (fun_mk (st := s_side_of) l19 c19 k19).binds (ps := ["zone"]) fun _ _ _ _ _ _ us hl => match us, hl with | [_], _ => rfl
  g_side_of := PySem.W.mg_of X G a19
  f_guarded := f20
  d_guarded := _
  F_guarded := fun_mk (st := s_guarded) l20 c20 k20
  b_guarded := (fun_mk (st := s_guarded) l20 c20 k20).binds (ps := ["zone", "clocks", "guard"]) fun _ _ _ _ _ _ us hl => match us, hl with | [_, _, _], _ => rfl
  g_guarded := PySem.W.mg_of X G a20
  f_zone_with := f21
  d_zone_with := _
  F_zone_with := fun_mk (st := s_zone_with) l21 c21 k21
  b_zone_with := (fun_mk (st := s_zone_with) l21 c21 k21).binds (ps := ["zone", "guard"]) fun _ _ _ _ _ _ us hl => match us, hl with | [_, _], _ => rfl
  g_zone_with := PySem.W.mg_of X G a21
  w_zone_with := fun us hl => match us, hl with | [_, _], _ => rfl
  f__law_with := f22
  d__law_with := _
  F__law_with := fun_mk (st := s__law_with) l22 c22 k22
  b__law_with := (fun_mk (st := s__law_with) l22 c22 k22).binds (ps := ["zone", "guard"]) fun _ _ _ _ _ _ us hl => match us, hl with | [_, _], _ => rfl
  g__law_with := PySem.W.mg_of X G a22
  f_has_values := f23
  d_has_values := _
  F_has_values := fun_mk (st := s_has_values) l23 c23 k23
  b_has_values := (fun_mk (st := s_has_values) l23 c23 k23).binds (ps := ["zone", "values"]) fun _ _ _ _ _ _ us hl => match us, hl with | [_, _], _ => rfl
  g_has_values := PySem.W.mg_of X G a23
  f_common := f24
  d_common := _
  F_common := fun_mk (st := s_common) l24 c24 k24
  b_common := (fun_mk (st := s_common) l24 c24 k24).binds (ps := ["one", "other"]) fun _ _ _ _ _ _ us hl => match us, hl with | [_, _], _ => rfl
  g_common := PySem.W.mg_of X G a24
  f_is_fraction := f25
  d_is_fraction := _
  F_is_fraction := fun_mk (st := s_is_fraction) l25 c25 k25
  b_is_fraction := (fun_mk (st := s_is_fraction) l25 c25 k25).binds (ps := ["value"]) fun _ _ _ _ _ _ us hl => match us, hl with | [_], _ => rfl
  g_is_fraction := PySem.W.mg_of X G a25
  f_is_in_zone := f26
  d_is_in_zone := _
  F_is_in_zone := fun_mk (st := s_is_in_zone) l26 c26 k26
  b_is_in_zone := (fun_mk (st := s_is_in_zone) l26 c26 k26).binds (ps := ["zone", "values"]) fun _ _ _ _ _ _ us hl => match us, hl with | [_, _], _ => rfl
  g_is_in_zone := PySem.W.mg_of X G a26
  w_is_in_zone := fun us hl => match us, hl with | [_, _], _ => rfl
  f__law_are_guards_right := f27
  d__law_are_guards_right := _
  F__law_are_guards_right := fun_mk (st := s__law_are_guards_right) l27 c27 k27
  b__law_are_guards_right := (fun_mk (st := s__law_are_guards_right) l27 c27 k27).binds (ps := ["pot", "zone", "many"]) fun _ _ _ _ _ _ us hl => match us, hl with | [_, _, _], _ => rfl
  g__law_are_guards_right := PySem.W.mg_of X G a27
  f_set_back := f28
  d_set_back := _
  F_set_back := fun_mk (st := s_set_back) l28 c28 k28
  b_set_back := (fun_mk (st := s_set_back) l28 c28 k28).binds (ps := ["zone", "clocks", "resets"]) fun _ _ _ _ _ _ us hl => match us, hl with | [_, _, _], _ => rfl
  g_set_back := PySem.W.mg_of X G a28
  f_zone_set := f29
  d_zone_set := _
  F_zone_set := fun_mk (st := s_zone_set) l29 c29 k29
  b_zone_set := (fun_mk (st := s_zone_set) l29 c29 k29).binds (ps := ["zone", "places"]) fun _ _ _ _ _ _ us hl => match us, hl with | [_, _], _ => rfl
  g_zone_set := PySem.W.mg_of X G a29
  w_zone_set := fun us hl => match us, hl with | [_, _], _ => rfl
  f__law_set := f30
  d__law_set := _
  F__law_set := fun_mk (st := s__law_set) l30 c30 k30
  b__law_set := (fun_mk (st := s__law_set) l30 c30 k30).binds (ps := ["zone", "places"]) fun _ _ _ _ _ _ us hl => match us, hl with | [_, _], _ => rfl
  g__law_set := PySem.W.mg_of X G a30
  f__law_sorted := f31
  d__law_sorted := _
  F__law_sorted := fun_mk (st := s__law_sorted) l31 c31 k31
  b__law_sorted := (fun_mk (st := s__law_sorted) l31 c31 k31).binds (ps := ["some"]) fun _ _ _ _ _ _ us hl => match us, hl with | [_], _ => rfl
  g__law_sorted := PySem.W.mg_of X G a31
  f__law_are_sets_right := f32
  d__law_are_sets_right := _
  F__law_are_sets_right := fun_mk (st := s__law_are_sets_right) l32 c32 k32
  b__law_are_sets_right := (fun_mk (st := s__law_are_sets_right) l32 c32 k32).binds (ps := ["pot", "zone", "many"]) fun _ _ _ _ _ _ us hl => match us, hl with | [_, _, _], _ => rfl
  g__law_are_sets_right := PySem.W.mg_of X G a32
  f_passed := f33
  d_passed := _
  F_passed := fun_mk (st := s_passed) l33 c33 k33
  b_passed := (fun_mk (st := s_passed) l33 c33 k33).binds (ps := ["zone"]) fun _ _ _ _ _ _ us hl => match us, hl with | [_], _ => rfl
  g_passed := PySem.W.mg_of X G a33
  f_later_zone := f34
  d_later_zone := _
  F_later_zone := fun_mk (st := s_later_zone) l34 c34 k34
  b_later_zone := (fun_mk (st := s_later_zone) l34 c34 k34).binds (ps := ["zone"]) fun _ _ _ _ _ _ us hl => match us, hl with | [_], _ => rfl
  g_later_zone := PySem.W.mg_of X G a34
  w_later_zone := fun us hl => match us, hl with | [_], _ => rfl
  f__law_later := f35
  d__law_later := _
  F__law_later := fun_mk (st := s__law_later) l35 c35 k35
  b__law_later := (fun_mk (st := s__law_later) l35 c35 k35).binds (ps := ["zone"]) fun _ _ _ _ _ _ us hl => match us, hl with | [_], _ => rfl
  g__law_later := PySem.W.mg_of X G a35
  f_begin_zone := f36
  d_begin_zone := _
  F_begin_zone := fun_mk (st := s_begin_zone) l36 c36 k36
  b_begin_zone := (fun_mk (st := s_begin_zone) l36 c36 k36).binds (ps := ["many"]) fun _ _ _ _ _ _ us hl => match us, hl with | [_], _ => rfl
  g_begin_zone := PySem.W.mg_of X G a36
  f_first_zone := f37
  d_first_zone := _
  F_first_zone := fun_mk (st := s_first_zone) l37 c37 k37
  b_first_zone := (fun_mk (st := s_first_zone) l37 c37 k37).binds (ps := ["many"]) fun _ _ _ _ _ _ us hl => match us, hl with | [_], _ => rfl
  g_first_zone := PySem.W.mg_of X G a37
  w_first_zone := fun us hl => match us, hl with | [_], _ => rfl
  f__law_zone := f38
  d__law_zone := _
  F__law_zone := fun_mk (st := s__law_zone) l38 c38 k38
  b__law_zone := (fun_mk (st := s__law_zone) l38 c38 k38).binds (ps := ["pot", "many"]) fun _ _ _ _ _ _ us hl => match us, hl with | [_, _], _ => rfl
  g__law_zone := PySem.W.mg_of X G a38
  f__law_right := f39
  d__law_right := _
  F__law_right := fun_mk (st := s__law_right) l39 c39 k39
  b__law_right := (fun_mk (st := s__law_right) l39 c39 k39).binds (ps := ["pot"]) fun _ _ _ _ _ _ us hl => match us, hl with | [_], _ => rfl
  g__law_right := PySem.W.mg_of X G a39
  f_law := f40
  d_law := _
  F_law := fun_mk (st := s_law) l40 c40 k40
  b_law := (fun_mk (st := s_law) l40 c40 k40).binds (ps := ["script"]) fun _ _ _ _ _ _ us hl => match us, hl with | [_], _ => rfl
  g_law := PySem.W.mg_of X G a40
  m_abs := PySem.W.mg_none_of X G z0
  m_all := PySem.W.mg_none_of X G z1
  m_any := PySem.W.mg_none_of X G z2
  m_bool := PySem.W.mg_none_of X G z3
  m_dict := PySem.W.mg_none_of X G z4
  m_int := PySem.W.mg_none_of X G z5
  m_isinstance := PySem.W.mg_none_of X G z6
  m_len := PySem.W.mg_none_of X G z7
  m_list := PySem.W.mg_none_of X G z8
  m_max := PySem.W.mg_none_of X G z9
  m_min := PySem.W.mg_none_of X G z10
  m_range := PySem.W.mg_none_of X G z11
  m_repr := PySem.W.mg_none_of X G z12
  m_sorted := PySem.W.mg_none_of X G z13
  m_str := PySem.W.mg_none_of X G z14
  m_sum := PySem.W.mg_none_of X G z15
  m_tuple := PySem.W.mg_none_of X G z16
  m_zip := PySem.W.mg_none_of X G z17
  u_COMPARES := u0
  c_COMPARES := PySem.W.mg_of X G q0
  q_COMPARES := fun _ => .inr ⟨_, _, _, y0, rfl, rfl, h0, r0⟩
  t_FAR := t1
  c_FAR := PySem.W.mg_of X G q1
  t_MOST_BOUND := t2
  c_MOST_BOUND := PySem.W.mg_of X G q2
  t_MOST_CLOCKS := t3
  c_MOST_CLOCKS := PySem.W.mg_of X G q3
  t_MOST_MOMENT := t4
  c_MOST_MOMENT := PySem.W.mg_of X G q4
  t_MOST_NUMBER := t5
  c_MOST_NUMBER := PySem.W.mg_of X G q5
  t_NOUGHT := t6
  c_NOUGHT := PySem.W.mg_of X G q6
  t_REACHED := t7
  c_REACHED := PySem.W.mg_of X G q7
  u_UPPER := u8
  c_UPPER := PySem.W.mg_of X G q8
  q_UPPER := fun _ => .inr ⟨_, _, _, y8, rfl, rfl, h8, r8⟩

theorem law_mk {l : PySem.W.OpenLaw} {w : World} {K : PySem.W.Frag} {mg : Str → Option Value} {fa : Addr} (T : Top K mg) (hfa : mg "law" = some (.ref fa)) :
    ∃ fd : FuncData, (∀ (s : Shared) (u : Value), BindsTo s fd ⟨[u], []⟩ [("script", u)]) ∧ ∀ base : Heap, K.In base → base.Ns mainGlobals mg → FnG l.prog w K mg base 10 fa fd ["script"] (spLaw K) := by
  have e := hfa.symm.trans T.g_law
  cases e
  refine ⟨T.d_law, fun s u => ?_, fun base _ _ => ok_law T⟩
  obtain ⟨oc, od, kV, doc, pm, an, cdv, ct, osl, hd, _, _⟩ := T.F_law.ex
  rw [hd]
  exact .of_eq rfl
end K33

open PySem PySem.W PyProof.Rows
set_option maxHeartbeats 0 in
theorem PySem.Challenge.cw_holdsfailsopen_k33_whole_zones_as_an_alg_holds : PySem.Challenge.rw_holdsfailsopen_k33_whole_zones_as_an_alg.Holds := by
  w_on; o_law; k_head; (case hw => w_witness2)
  k_fill
  refine Gz.walk_G (l := PySem.Challenge.rw_holdsfailsopen_k33_whole_zones_as_an_alg) (n := 63) (k := 10) (x := "script") (sp := fun w => K33.spLaw _) rfl (by decide) rfl ⟨rfl, by decide, by decide⟩ (fun w h Y => PySem.W.kIn_of Y) ?F (fun _ _ a ns hl _ hS => ⟨a, ns, rfl, hS, hl, fun _ => rfl⟩)
  case F =>
    intro w mg fa h KX G hmg
    refine' K33.law_mk (K33.top_mk KX G ?a0 ?l0 ?c0 ?k0 ?a1 ?l1 ?c1 ?k1 ?a2 ?l2 ?c2 ?k2 ?a3 ?l3 ?c3 ?k3 ?a4 ?l4 ?c4 ?k4 ?a5 ?l5 ?c5 ?k5 ?a6 ?l6 ?c6 ?k6 ?a7 ?l7 ?c7 ?k7 ?a8 ?l8 ?c8 ?k8 ?a9 ?l9 ?c9 ?k9 ?a10 ?l10 ?c10 ?k10 ?a11 ?l11 ?c11 ?k11 ?a12 ?l12 ?c12 ?k12 ?a13 ?l13 ?c13 ?k13 ?a14 ?l14 ?c14 ?k14 ?a15 ?l15 ?c15 ?k15 ?a16 ?l16 ?c16 ?k16 ?a17 ?l17 ?c17 ?k17 ?a18 ?l18 ?c18 ?k18 ?a19 ?l19 ?c19 ?k19 ?a20 ?l20 ?c20 ?k20 ?a21 ?l21 ?c21 ?k21 ?a22 ?l22 ?c22 ?k22 ?a23 ?l23 ?c23 ?k23 ?a24 ?l24 ?c24 ?k24 ?a25 ?l25 ?c25 ?k25 ?a26 ?l26 ?c26 ?k26 ?a27 ?l27 ?c27 ?k27 ?a28 ?l28 ?c28 ?k28 ?a29 ?l29 ?c29 ?k29 ?a30 ?l30 ?c30 ?k30 ?a31 ?l31 ?c31 ?k31 ?a32 ?l32 ?c32 ?k32 ?a33 ?l33 ?c33 ?k33 ?a34 ?l34 ?c34 ?k34 ?a35 ?l35 ?c35 ?k35 ?a36 ?l36 ?c36 ?k36 ?a37 ?l37 ?c37 ?k37 ?a38 ?l38 ?c38 ?k38 ?a39 ?l39 ?c39 ?k39 ?a40 ?l40 ?c40 ?k40 ?z0 ?z1 ?z2 ?z3 ?z4 ?z5 ?z6 ?z7 ?z8 ?z9 ?z10 ?z11 ?z12 ?z13 ?z14 ?z15 ?z16 ?z17 ?q0 ?y0 ?h0 ?r0 ?q1 ?q2 ?q3 ?q4 ?q5 ?q6 ?q7 ?q8 ?y8 ?h8 ?r8) hmg
    (case a0 => k_is); (case l0 => k_is); (case c0 => k_is); (case k0 => k_is); (case a1 => k_is); (case l1 => k_is)
    (case c1 => k_is); (case k1 => k_is); (case a2 => k_is); (case l2 => k_is); (case c2 => k_is); (case k2 => k_is)
    (case a3 => k_is); (case l3 => k_is); (case c3 => k_is); (case k3 => k_is); (case a4 => k_is); (case l4 => k_is)
    (case c4 => k_is); (case k4 => k_is); (case a5 => k_is); (case l5 => k_is); (case c5 => k_is); (case k5 => k_is)
    (case a6 => k_is); (case l6 => k_is); (case c6 => k_is); (case k6 => k_is); (case a7 => k_is); (case l7 => k_is)
    (case c7 => k_is); (case k7 => k_is); (case a8 => k_is); (case l8 => k_is); (case c8 => k_is); (case k8 => k_is)
    (case a9 => k_is); (case l9 => k_is); (case c9 => k_is); (case k9 => k_is); (case a10 => k_is); (case l10 => k_is)
    (case c10 => k_is); (case k10 => k_is); (case a11 => k_is); (case l11 => k_is); (case c11 => k_is); (case k11 => k_is)
    (case a12 => k_is); (case l12 => k_is); (case c12 => k_is); (case k12 => k_is); (case a13 => k_is); (case l13 => k_is)
    (case c13 => k_is); (case k13 => k_is); (case a14 => k_is); (case l14 => k_is); (case c14 => k_is); (case k14 => k_is)
    (case a15 => k_is); (case l15 => k_is); (case c15 => k_is); (case k15 => k_is); (case a16 => k_is); (case l16 => k_is)
    (case c16 => k_is); (case k16 => k_is); (case a17 => k_is); (case l17 => k_is); (case c17 => k_is); (case k17 => k_is)
    (case a18 => k_is); (case l18 => k_is); (case c18 => k_is); (case k18 => k_is); (case a19 => k_is); (case l19 => k_is)
    (case c19 => k_is); (case k19 => k_is); (case a20 => k_is); (case l20 => k_is); (case c20 => k_is); (case k20 => k_is)
    (case a21 => k_is); (case l21 => k_is); (case c21 => k_is); (case k21 => k_is); (case a22 => k_is); (case l22 => k_is)
    (case c22 => k_is); (case k22 => k_is); (case a23 => k_is); (case l23 => k_is); (case c23 => k_is); (case k23 => k_is)
    (case a24 => k_is); (case l24 => k_is); (case c24 => k_is); (case k24 => k_is); (case a25 => k_is); (case l25 => k_is)
    (case c25 => k_is); (case k25 => k_is); (case a26 => k_is); (case l26 => k_is); (case c26 => k_is); (case k26 => k_is)
    (case a27 => k_is); (case l27 => k_is); (case c27 => k_is); (case k27 => k_is); (case a28 => k_is); (case l28 => k_is)
    (case c28 => k_is); (case k28 => k_is); (case a29 => k_is); (case l29 => k_is); (case c29 => k_is); (case k29 => k_is)
    (case a30 => k_is); (case l30 => k_is); (case c30 => k_is); (case k30 => k_is); (case a31 => k_is); (case l31 => k_is)
    (case c31 => k_is); (case k31 => k_is); (case a32 => k_is); (case l32 => k_is); (case c32 => k_is); (case k32 => k_is)
    (case a33 => k_is); (case l33 => k_is); (case c33 => k_is); (case k33 => k_is); (case a34 => k_is); (case l34 => k_is)
    (case c34 => k_is); (case k34 => k_is); (case a35 => k_is); (case l35 => k_is); (case c35 => k_is); (case k35 => k_is)
    (case a36 => k_is); (case l36 => k_is); (case c36 => k_is); (case k36 => k_is); (case a37 => k_is); (case l37 => k_is)
    (case c37 => k_is); (case k37 => k_is); (case a38 => k_is); (case l38 => k_is); (case c38 => k_is); (case k38 => k_is)
    (case a39 => k_is); (case l39 => k_is); (case c39 => k_is); (case k39 => k_is); (case a40 => k_is); (case l40 => k_is)
    (case c40 => k_is); (case k40 => k_is); (case z0 => k_is); (case z1 => k_is); (case z2 => k_is); (case z3 => k_is)
    (case z4 => k_is); (case z5 => k_is); (case z6 => k_is); (case z7 => k_is); (case z8 => k_is); (case z9 => k_is)
    (case z10 => k_is); (case z11 => k_is); (case z12 => k_is); (case z13 => k_is); (case z14 => k_is); (case z15 => k_is)
    (case z16 => k_is); (case z17 => k_is); (case q0 => k_is); (case y0 => k_is); (case h0 => decide); (case r0 => exact (.cons ⟨_, rfl⟩ (.cons ⟨_, rfl⟩ (.cons ⟨_, rfl⟩ (.cons ⟨_, rfl⟩ .nil)))))
    (case q1 => k_is); (case q2 => k_is); (case q3 => k_is); (case q4 => k_is); (case q5 => k_is); (case q6 => k_is)
    (case q7 => k_is); (case q8 => k_is); (case y8 => k_is); (case h8 => decide); (case r8 => exact (.cons ⟨_, rfl⟩ (.cons ⟨_, rfl⟩ .nil)))

