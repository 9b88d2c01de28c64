import PyProof.Rows.All
import Wide.All
import OpenK.AllK
import Wide.FinOn
import HandS.ForMost
import HandS.More
import HandS.Sort
import HandS.DictComp
import HandS.Conv
import HandS.NoneIn
import HandS.Property
import HandS.Wide
import HandS.IsInst
import HandS.TupAny
import HandS.TupSets
import HandS.Replace
import HandS.Flow
import KE.GoesMore
import HandS.Walk
import KE.GoesRev
import HandS.Defaults
import PyProof.ListStr
import HandS.DictSub
import HandS.Codes
import PyProof.StrLaws
import HandS.HeadHook2
import HandS.Head2
import HandS.HeadEnd
import KE.KStateDown
import Lean
import HandS.Head0
import HandS.Head1
import PySem.Challenge.RW_rankedjoins_k48_whole_begins_is_the_sum
set_option linter.all false
namespace Rj
/-- all places of the pair (x, y), from the left, put together into z -/
def jn (x y z : Nat) : List Nat → List Nat
  | [] => []
  | [a] => [a]
  | a :: b :: r => if a = x ∧ b = y then z :: jn x y z r else a :: jn x y z (b :: r)
/-- one join after the other, the first makes the piece z -/
def stg : Nat → List (Nat × Nat) → List Nat → List Nat
  | _, [], R => R
  | z, p :: ps, R => stg (z + 1) ps (jn p.1 p.2 z R)

theorem jn_ne {x y z a : Nat} {r : List Nat} : jn x y z (a :: r) ≠ [] := by
  cases r with
  | nil => simp [jn]
  | cons b r => rw [jn]; split <;> simp
theorem jn_nil_iff {x y z : Nat} {R : List Nat} : jn x y z R = [] ↔ R = [] := by
  cases R with
  | nil => simp [jn]
  | cons a r => simp [jn_ne]
theorem jn_split {x y z : Nat} (R : List Nat) : ∀ A' B', jn x y z R = A' ++ B' → ∃ A B, R = A ++ B ∧ jn x y z A = A' ∧ jn x y z B = B' := by
  induction R using jn.induct (x := x) (y := y) with
  | case1 =>
    intro A' B' h
    rw [jn] at h
    have := List.append_eq_nil_iff.mp h.symm
    exact ⟨[], [], rfl, by simp [jn, this.1], by simp [jn, this.2]⟩
  | case2 a =>
    intro A' B' h
    cases A' with
    | nil => exact ⟨[], [a], rfl, rfl, by simpa using h⟩
    | cons c A'' =>
      rw [jn, List.cons_append] at h
      injection h with h1 h2
      have := List.append_eq_nil_iff.mp h2.symm
      exact ⟨[a], [], rfl, by simp [jn, h1, this.1], by simp [jn, this.2]⟩
  | case3 a b r hc ih =>
    intro A' B' h
    cases A' with
    | nil => exact ⟨[], _, rfl, rfl, by simpa using h⟩
    | cons c A'' =>
      rw [jn, if_pos hc, List.cons_append] at h
      injection h with h1 h2
      obtain ⟨A, B, e1, e2, e3⟩ := ih A'' B' h2
      refine ⟨a :: b :: A, B, by rw [e1]; rfl, ?_, e3⟩
      rw [jn, if_pos hc, e2, h1]
  | case4 a b r hc ih =>
    intro A' B' h
    cases A' with
    | nil => exact ⟨[], _, rfl, rfl, by simpa using h⟩
    | cons c A'' =>
      rw [jn, if_neg hc, List.cons_append] at h
      injection h with h1 h2
      obtain ⟨A, B, e1, e2, e3⟩ := ih A'' B' h2
      refine ⟨a :: A, B, by rw [e1]; rfl, ?_, e3⟩
      cases A with
      | nil => rw [jn] at e2; rw [← e2, ← h1]; rfl
      | cons d A2 =>
        rw [List.cons_append] at e1
        injection e1 with e4 e5
        subst e4
        rw [jn, if_neg hc, e2, h1]
theorem last_cons_of {α : Type} {l : List α} {a x : α} (h : l.getLast? = some x) : (a :: l).getLast? = some x := by
  cases l with
  | nil => simp at h
  | cons b r => rw [List.getLast?_cons_cons]; exact h
theorem last_cons_ne {α : Type} {l : List α} {a x : α} (hl : l ≠ []) (h : (a :: l).getLast? = some x) : l.getLast? = some x := by
  cases l with
  | nil => exact absurd rfl hl
  | cons b r => rw [List.getLast?_cons_cons] at h; exact h
theorem last_app {α : Type} {l m : List α} (h : m ≠ []) : (l ++ m).getLast? = m.getLast? := by
  rw [List.getLast?_append]
  cases m with
  | nil => exact absurd rfl h
  | cons a r => simp [List.getLast?_cons]
theorem head_app {α : Type} {l m : List α} (h : l ≠ []) : (l ++ m).head? = l.head? := by
  cases l with
  | nil => exact absurd rfl h
  | cons a r => rfl
theorem jn_app {x y z : Nat} (B : List Nat) (A : List Nat) : ¬ ((jn x y z A).getLast? = some x ∧ B.head? = some y) → jn x y z (A ++ B) = jn x y z A ++ jn x y z B := by
  induction A using jn.induct (x := x) (y := y) with
  | case1 => intro _; rfl
  | case2 a =>
    intro h
    cases B with
    | nil => simp [jn]
    | cons b r =>
      have hc : ¬ (a = x ∧ b = y) := by
        rintro ⟨rfl, rfl⟩
        exact h ⟨by simp [jn], rfl⟩
      have e : jn x y z (a :: b :: r) = a :: jn x y z (b :: r) := by rw [jn, if_neg hc]
      exact e
  | case3 a b r hc ih =>
    intro h
    show jn x y z (a :: b :: (r ++ B)) = _
    rw [jn, if_pos hc, jn, if_pos hc, ih, List.cons_append]
    rintro ⟨h1, h2⟩
    refine h ⟨?_, h2⟩
    rw [jn, if_pos hc]
    exact last_cons_of h1
  | case4 a b r hc ih =>
    intro h
    show jn x y z (a :: b :: (r ++ B)) = _
    rw [jn, if_neg hc, jn, if_neg hc, List.cons_append]
    refine congrArg _ (ih ?_)
    rintro ⟨h1, h2⟩
    refine h ⟨?_, h2⟩
    rw [jn, if_neg hc]
    exact last_cons_of h1
theorem jn_cross {x y z : Nat} (hz : z ≠ x) (B : List Nat) (hB : B.head? = some y) (A : List Nat) : (jn x y z A).getLast? = some x → jn x y z (A ++ B) ≠ jn x y z A ++ jn x y z B := by
  induction A using jn.induct (x := x) (y := y) with
  | case1 => intro h; simp [jn] at h
  | case2 a =>
    intro h e
    have ha : a = x := by simpa [jn] using h
    subst ha
    cases B with
    | nil => simp at hB
    | cons b r =>
      have hb : b = y := by simpa using hB
      subst hb
      have e' : jn a b z (a :: b :: r) = a :: jn a b z (b :: r) := e
      rw [jn, if_pos ⟨rfl, rfl⟩] at e'
      injection e' with e1 _
      exact hz e1
  | case3 a b r hc ih =>
    intro h e
    rw [jn, if_pos hc] at h
    have e' : jn x y z (a :: b :: (r ++ B)) = jn x y z (a :: b :: r) ++ jn x y z B := e
    rw [jn, if_pos hc, jn, if_pos hc, List.cons_append] at e'
    injection e' with _ e2
    by_cases hr : jn x y z r = []
    · rw [hr] at h
      have : z = x := by simpa using h
      exact hz this
    · exact ih (last_cons_ne hr h) e2
  | case4 a b r hc ih =>
    intro h e
    rw [jn, if_neg hc] at h
    have e' : jn x y z (a :: b :: (r ++ B)) = jn x y z (a :: b :: r) ++ jn x y z B := e
    rw [jn, if_neg hc, jn, if_neg hc, List.cons_append] at e'
    injection e' with _ e2
    exact ih (last_cons_ne jn_ne h) e2
/-- many rows: no join goes over a border if none goes over the border of two neighbors -/
def nbr (R : List Nat → List Nat → Prop) : List (List Nat) → Prop
  | [] => True
  | [_] => True
  | A :: B :: r => R A B ∧ nbr R (B :: r)
theorem jn_many {x y z : Nat} (hz : z ≠ x) : ∀ (Ls : List (List Nat)), (∀ A ∈ Ls, A ≠ []) → nbr (fun A B => jn x y z (A ++ B) = jn x y z A ++ jn x y z B) Ls → jn x y z Ls.flatten = (Ls.map (jn x y z)).flatten
  | [], _, _ => rfl
  | [A], _, _ => by simp
  | A :: B :: r, hne, ⟨h1, h2⟩ => by
    have ih := jn_many hz (B :: r) (fun C hC => hne C (List.mem_cons_of_mem _ hC)) h2
    have hBn : B ≠ [] := hne B (by simp)
    have hh : (B :: r).flatten.head? = B.head? := by
      cases B with
      | nil => exact absurd rfl hBn
      | cons b t => simp
    have h3 : jn x y z (A ++ (B :: r).flatten) = jn x y z A ++ jn x y z (B :: r).flatten := jn_app _ _ (by
      rintro ⟨q1, q2⟩
      exact jn_cross hz B (hh ▸ q2) A q1 h1)
    show jn x y z (A ++ (B :: r).flatten) = jn x y z A ++ ((B :: r).map (jn x y z)).flatten
    rw [h3, ih]

/-! ### stages -/
theorem stg_append : ∀ (ps qs : List (Nat × Nat)) (z : Nat) (R : List Nat), stg z (ps ++ qs) R = stg (z + ps.length) qs (stg z ps R)
  | [], qs, z, R => rfl
  | p :: ps, qs, z, R => by
    show stg (z + 1) (ps ++ qs) _ = _
    rw [stg_append ps qs (z + 1)]
    show _ = stg (z + (ps.length + 1)) qs (stg (z + 1) ps (jn p.1 p.2 z R))
    rw [show z + 1 + ps.length = z + (ps.length + 1) by omega]
theorem stg_succ {z : Nat} {ps : List (Nat × Nat)} {k : Nat} {p : Nat × Nat} (h : ps[k]? = some p) (R : List Nat) : stg z (ps.take (k + 1)) R = jn p.1 p.2 (z + k) (stg z (ps.take k) R) := by
  have hl : k < ps.length := (List.getElem?_eq_some_iff.mp h).1
  have e : ps.take (k + 1) = ps.take k ++ [p] := by
    rw [List.take_succ, h]; rfl
  rw [e, stg_append, List.length_take, Nat.min_eq_left (Nat.le_of_lt hl)]
  rfl
theorem stg_one : ∀ (ps : List (Nat × Nat)) (z a : Nat), stg z ps [a] = [a]
  | [], _, _ => rfl
  | p :: ps, z, a => by
    show stg (z + 1) ps (jn p.1 p.2 z [a]) = _
    rw [jn]
    exact stg_one ps (z + 1) a
theorem stg_ne : ∀ (ps : List (Nat × Nat)) (z : Nat) (R : List Nat), R ≠ [] → stg z ps R ≠ []
  | [], _, _, h => h
  | p :: ps, z, R, h => stg_ne ps (z + 1) _ fun e => h (jn_nil_iff.mp e)
theorem stg_nil : ∀ (ps : List (Nat × Nat)) (z : Nat), stg z ps [] = []
  | [], _ => rfl
  | p :: ps, z => stg_nil ps (z + 1)
theorem stg_split : ∀ (ps : List (Nat × Nat)) (z : Nat) (R A' B' : List Nat), stg z ps R = A' ++ B' →
    ∃ A B, R = A ++ B ∧ stg z ps A = A' ∧ stg z ps B = B' ∧ ∀ k, k ≤ ps.length → stg z (ps.take k) R = stg z (ps.take k) A ++ stg z (ps.take k) B
  | [], z, R, A', B', h => ⟨A', B', h, rfl, rfl, fun k _ => by simpa [stg] using h⟩
  | p :: ps, z, R, A', B', h => by
    obtain ⟨A1, B1, e1, e2, e3, e4⟩ := stg_split ps (z + 1) (jn p.1 p.2 z R) A' B' h
    obtain ⟨A, B, f1, f2, f3⟩ := jn_split R A1 B1 e1
    subst f2 f3
    refine ⟨A, B, f1, e2, e3, fun k hk => ?_⟩
    cases k with
    | zero => exact f1
    | succ k => exact e4 k (by simpa using hk)

/-! ### pieces: their letters -/
/-- the letters of all pieces -/
def tx (b : Nat) (ps : List (Nat × Nat)) : List (List Nat) := ps.foldl (fun T p => T ++ [T.getD p.1 [] ++ T.getD p.2 []]) ((List.range b).map fun i => [i])
def ltr (b : Nat) (ps : List (Nat × Nat)) (p : Nat) : List Nat := (tx b ps).getD p []
theorem tx_snoc (b : Nat) (ps : List (Nat × Nat)) (p : Nat × Nat) : tx b (ps ++ [p]) = tx b ps ++ [(tx b ps).getD p.1 [] ++ (tx b ps).getD p.2 []] := by
  unfold tx
  rw [List.foldl_append]
  rfl
theorem snoc_ind {α : Type} {P : List α → Prop} (h0 : P []) (h1 : ∀ l a, P l → P (l ++ [a])) (l : List α) : P l := by
  have h : ∀ m : List α, P m.reverse := by
    intro m
    induction m with
    | nil => exact h0
    | cons a m ih => rw [List.reverse_cons]; exact h1 _ _ ih
  have := h l.reverse
  rwa [List.reverse_reverse] at this
theorem tx_len (b : Nat) (ps : List (Nat × Nat)) : (tx b ps).length = b + ps.length := by
  refine snoc_ind (P := fun ps => (tx b ps).length = b + ps.length) (by simp [tx]) (fun ps p ih => ?_) ps
  rw [tx_snoc, List.length_append, ih, List.length_append]; simp; omega
theorem getD_left {α : Type} {l m : List α} {i : Nat} {d : α} (h : i < l.length) : (l ++ m).getD i d = l.getD i d := by
  rw [List.getD_eq_getElem?_getD, List.getD_eq_getElem?_getD, List.getElem?_append_left h]
theorem ltr_snoc {b : Nat} {ps : List (Nat × Nat)} {p : Nat} (q : Nat × Nat) (h : p < b + ps.length) : ltr b (ps ++ [q]) p = ltr b ps p := by
  unfold ltr
  rw [tx_snoc, getD_left (by rw [tx_len]; exact h)]
theorem ltr_new {b : Nat} {ps : List (Nat × Nat)} (q : Nat × Nat) : ltr b (ps ++ [q]) (b + ps.length) = ltr b ps q.1 ++ ltr b ps q.2 := by
  unfold ltr
  rw [tx_snoc, List.getD_eq_getElem?_getD, List.getElem?_append_right (by rw [tx_len]; exact Nat.le_refl _), tx_len, Nat.sub_self]
  rfl
theorem ltr_take {b : Nat} {p : Nat} (qs : List (Nat × Nat)) : ∀ (ps : List (Nat × Nat)), p < b + ps.length → ltr b (ps ++ qs) p = ltr b ps p := by
  refine snoc_ind (P := fun qs => ∀ (ps : List (Nat × Nat)), p < b + ps.length → ltr b (ps ++ qs) p = ltr b ps p) (fun ps _ => by rw [List.append_nil]) (fun qs q ih ps h => ?_) qs
  rw [← List.append_assoc, ltr_snoc _ (by rw [List.length_append]; omega)]
  exact ih ps h
theorem ltr_letter {b : Nat} (ps : List (Nat × Nat)) {p : Nat} (h : p < b) : ltr b ps p = [p] := by
  have := ltr_take (b := b) (p := p) ps [] (by simpa using h)
  rw [List.nil_append] at this
  rw [this]
  unfold ltr tx
  rw [List.getD_eq_getElem?_getD]
  simp [h]
theorem take_cons_drop {α : Type} {l : List α} {k : Nat} {a : α} (h : l[k]? = some a) : l = l.take k ++ a :: l.drop (k + 1) := by
  obtain ⟨hk, e⟩ := List.getElem?_eq_some_iff.mp h
  rw [← e, ← List.drop_eq_getElem_cons hk, List.take_append_drop]
theorem ltr_join {b : Nat} {ps : List (Nat × Nat)} (hw : ∀ (r : Nat) (p : Nat × Nat), ps[r]? = some p → p.1 < b + r ∧ p.2 < b + r) {r : Nat} {q : Nat × Nat} (h : ps[r]? = some q) :
    ltr b ps (b + r) = ltr b ps q.1 ++ ltr b ps q.2 := by
  have hr : r < ps.length := (List.getElem?_eq_some_iff.mp h).1
  obtain ⟨h1, h2⟩ := hw r q h
  have hl : (ps.take r).length = r := by rw [List.length_take]; omega
  have key : ∀ p, p < b + r → ltr b ps p = ltr b (ps.take r) p := fun p hp => by
    have := ltr_take (b := b) (p := p) (ps.drop r) (ps.take r) (by rw [hl]; exact hp)
    rwa [List.take_append_drop] at this
  rw [key _ h1, key _ h2]
  have e : ps = (ps.take r ++ [q]) ++ ps.drop (r + 1) := by
    rw [List.append_assoc]; exact take_cons_drop h
  have := ltr_take (b := b) (p := b + r) (ps.drop (r + 1)) (ps.take r ++ [q]) (by rw [List.length_append, hl]; simp)
  rw [← e] at this
  rw [this]
  have := ltr_new (b := b) (ps := ps.take r) q
  rwa [hl] at this
/-- what a proper list of joins keeps -/
structure Proper (b : Nat) (ps : List (Nat × Nat)) : Prop where
  lt : ∀ (r : Nat) (p : Nat × Nat), ps[r]? = some p → p.1 < b + r ∧ p.2 < b + r
  cut : ∀ (r : Nat) (p : Nat × Nat), ps[r]? = some p → stg b (ps.take r) (ltr b ps p.1 ++ ltr b ps p.2) = [p.1, p.2]
theorem Proper.nil (b : Nat) : Proper b [] := ⟨fun _ _ h => by simp at h, fun _ _ h => by simp at h⟩
theorem Proper.snoc {b : Nat} {ps : List (Nat × Nat)} {q : Nat × Nat} (P : Proper b ps) (h1 : q.1 < b + ps.length) (h2 : q.2 < b + ps.length) (hc : stg b ps (ltr b ps q.1 ++ ltr b ps q.2) = [q.1, q.2]) : Proper b (ps ++ [q]) := by
  have cases_ : ∀ (r : Nat) (p : Nat × Nat), (ps ++ [q])[r]? = some p → (r < ps.length ∧ ps[r]? = some p) ∨ (r = ps.length ∧ p = q) := fun r p h => by
    by_cases hr : r < ps.length
    · rw [List.getElem?_append_left hr] at h; exact .inl ⟨hr, h⟩
    · rw [List.getElem?_append_right (by omega)] at h
      have : r - ps.length = 0 := by
        have := (List.getElem?_eq_some_iff.mp h).1
        simp at this; omega
      rw [this] at h
      exact .inr ⟨by omega, by simpa using h.symm⟩
  constructor
  · intro r p h
    rcases cases_ r p h with ⟨_, h⟩ | ⟨rfl, rfl⟩
    · exact P.lt r p h
    · exact ⟨h1, h2⟩
  · intro r p h
    rcases cases_ r p h with ⟨hr, h⟩ | ⟨rfl, rfl⟩
    · have := P.lt r p h
      rw [ltr_snoc _ (by omega), ltr_snoc _ (by omega), List.take_append_of_le_length (Nat.le_of_lt hr)]
      exact P.cut r p h
    · rw [ltr_snoc _ h1, ltr_snoc _ h2, List.take_left]
      exact hc
section
variable {b : Nat} {ps : List (Nat × Nat)} (P : Proper b ps)
include P
theorem Proper.piece {p : Nat} (h : p < b + ps.length) : p < b ∨ ∃ r q, ps[r]? = some q ∧ p = b + r := by
  by_cases hp : p < b
  · exact .inl hp
  · exact .inr ⟨p - b, ps[p - b]'(by omega), List.getElem?_eq_getElem (by omega), by omega⟩
/-- by strong induction over pieces -/
theorem Proper.rec' {Q : Nat → Prop} (h0 : ∀ p, p < b → Q p) (h1 : ∀ (r : Nat) (q : Nat × Nat), ps[r]? = some q → Q q.1 → Q q.2 → Q (b + r)) (p : Nat) (h : p < b + ps.length) : Q p := by
  induction p using Nat.strongRecOn with
  | ind p ih =>
    rcases P.piece h with hp | ⟨r, q, hq, rfl⟩
    · exact h0 p hp
    · obtain ⟨l1, l2⟩ := P.lt r q hq
      exact h1 r q hq (ih _ l1 (by omega)) (ih _ l2 (by omega))
theorem Proper.ltr_lt (p : Nat) (h : p < b + ps.length) : ∀ a ∈ ltr b ps p, a < b := by
  refine P.rec' (Q := fun p => ∀ a ∈ ltr b ps p, a < b) (fun p hp a ha => ?_) (fun r q hq i1 i2 a ha => ?_) p h
  · rw [ltr_letter ps hp] at ha
    have : a = p := by simpa using ha
    omega
  · rw [ltr_join P.lt hq] at ha
    rcases List.mem_append.mp ha with z | z
    · exact i1 a z
    · exact i2 a z
theorem Proper.ltr_ne (p : Nat) (h : p < b + ps.length) : ltr b ps p ≠ [] := by
  refine P.rec' (Q := fun p => ltr b ps p ≠ []) (fun p hp => ?_) (fun r q hq i1 i2 => ?_) p h
  · rw [ltr_letter ps hp]; simp
  · rw [ltr_join P.lt hq]; simp [i1]
/-- the letters of a row -/
theorem Proper.ex_jn {r : Nat} {q : Nat × Nat} (hq : ps[r]? = some q) (R : List Nat) : (jn q.1 q.2 (b + r) R).flatMap (ltr b ps) = R.flatMap (ltr b ps) := by
  induction R using jn.induct (x := q.1) (y := q.2) with
  | case1 => rfl
  | case2 a => rfl
  | case3 a c r' hc ih =>
    rw [jn, if_pos hc]
    simp only [List.flatMap_cons]
    rw [ih, ltr_join P.lt hq, hc.1, hc.2, List.append_assoc]
  | case4 a c r' hc ih =>
    rw [jn, if_neg hc]
    simp only [List.flatMap_cons] at ih ⊢
    rw [ih]
theorem Proper.ex_stg (k : Nat) (R : List Nat) (hk : k ≤ ps.length) : (stg b (ps.take k) R).flatMap (ltr b ps) = R.flatMap (ltr b ps) := by
  induction k with
  | zero => rfl
  | succ k ih =>
    have hk' : k < ps.length := hk
    have e : ps[k]? = some ps[k] := List.getElem?_eq_getElem hk'
    rw [stg_succ e, P.ex_jn e, ih (by omega)]
theorem Proper.ex_letters {R : List Nat} (h : ∀ a ∈ R, a < b) : R.flatMap (ltr b ps) = R := by
  induction R with
  | nil => rfl
  | cons a r ih =>
    rw [List.flatMap_cons, ltr_letter ps (h a (by simp)), ih fun c hc => h c (List.mem_cons_of_mem _ hc)]
    rfl
/-- no join up to stage k goes over the border of u and v -/
def NCk (b : Nat) (ps : List (Nat × Nat)) (k : Nat) (u v : List Nat) : Prop := ∀ j, j ≤ k → stg b (ps.take j) (u ++ v) = stg b (ps.take j) u ++ stg b (ps.take j) v
theorem Proper.nc_of {k : Nat} (hk : k ≤ ps.length) {p q : Nat} (hp : p < b + ps.length) (hq : q < b + ps.length) (h : stg b (ps.take k) (ltr b ps p ++ ltr b ps q) = [p, q]) : NCk b ps k (ltr b ps p) (ltr b ps q) := by
  obtain ⟨A, B, e1, e2, e3, e4⟩ := stg_split (ps.take k) b _ [p] [q] h
  have hl := P.ltr_lt p hp
  have hl2 := P.ltr_lt q hq
  have hA : ∀ a ∈ A ++ B, a < b := fun a ha => by
    rw [← e1] at ha
    rcases List.mem_append.mp ha with z | z
    · exact hl a z
    · exact hl2 a z
  have fA := P.ex_stg k A hk
  have fB := P.ex_stg k B hk
  rw [e2, P.ex_letters fun a ha => hA a (List.mem_append_left _ ha)] at fA
  rw [e3, P.ex_letters fun a ha => hA a (List.mem_append_right _ ha)] at fB
  have fA' : ltr b ps p = A := by simpa using fA
  have fB' : ltr b ps q = B := by simpa using fB
  intro j hj
  have := e4 j (by rw [List.length_take]; omega)
  rw [List.take_take, Nat.min_eq_left hj] at this
  rw [fA', fB'] at this ⊢
  exact this
/-- a piece's own cut, at any stage from its making on -/
theorem Proper.own (p : Nat) (k : Nat) (hk : k ≤ ps.length) (hp : p < b + k) : stg b (ps.take k) (ltr b ps p) = [p] := by
  rcases P.piece (p := p) (by omega) with h | ⟨r, q, hq, rfl⟩
  · rw [ltr_letter ps h]; exact stg_one _ _ _
  · have hr : r < k := by omega
    rw [ltr_join P.lt hq]
    have e : ps.take k = ps.take r ++ (q :: (ps.take k).drop (r + 1)) := by
      have h2 : (ps.take k)[r]? = some q := by rw [List.getElem?_take_of_lt hr]; exact hq
      have := take_cons_drop h2
      rwa [List.take_take, Nat.min_eq_left (by omega)] at this
    rw [e, stg_append, P.cut r q hq, List.length_take, Nat.min_eq_left (by omega)]
    show stg (b + r + 1) _ (jn q.1 q.2 (b + r) [q.1, q.2]) = _
    rw [jn, if_pos ⟨rfl, rfl⟩, jn]
    exact stg_one _ _ _
theorem Proper.nc_join {r : Nat} {q : Nat × Nat} (hq : ps[r]? = some q) : NCk b ps r (ltr b ps q.1) (ltr b ps q.2) := by
  have hr : r < ps.length := (List.getElem?_eq_some_iff.mp hq).1
  obtain ⟨l1, l2⟩ := P.lt r q hq
  exact P.nc_of (by omega) (by omega) (by omega) (P.cut r q hq)
/-- the pairs differ -/
theorem Proper.inj {i j : Nat} {q : Nat × Nat} (hi : ps[i]? = some q) (hj : ps[j]? = some q) (h : i < j) : False := by
  have hjl : j < ps.length := (List.getElem?_eq_some_iff.mp hj).1
  have nc := P.nc_join hj
  obtain ⟨l1, l2⟩ := P.lt i q hi
  have e0 := nc i (by omega)
  have e1 := nc (i + 1) (by omega)
  rw [P.own q.1 i (by omega) l1, P.own q.2 i (by omega) l2] at e0
  rw [P.own q.1 (i + 1) (by omega) (by omega), P.own q.2 (i + 1) (by omega) (by omega), stg_succ hi, e0] at e1
  have e2 : jn q.1 q.2 (b + i) [q.1, q.2] = [b + i] := by
    rw [jn, if_pos ⟨rfl, rfl⟩, jn]
  have e3 : jn q.1 q.2 (b + i) [q.1, q.2] = [q.1, q.2] := e1
  rw [e2] at e3
  injection e3 with _ e4
  cases e4
theorem Proper.nodup : ps.Nodup := by
  rw [List.nodup_iff_pairwise_ne, List.pairwise_iff_getElem]
  intro i j hi hj hij e
  exact P.inj (List.getElem?_eq_getElem hi) (by rw [e]; exact List.getElem?_eq_getElem hj) hij
/-- THE MAIN PROMISE: a row of pieces whose neighbors are the cuts of their texts is the cut of its text -/
def nbrP (b : Nat) (ps : List (Nat × Nat)) : List Nat → Prop
  | [] => True
  | [_] => True
  | p :: q :: r => NCk b ps ps.length (ltr b ps p) (ltr b ps q) ∧ nbrP b ps (q :: r)
theorem Proper.row_stage (row : List Nat) (hr : ∀ p ∈ row, p < b + ps.length) (hn : nbrP b ps row) (k : Nat) (hk : k ≤ ps.length) :
    stg b (ps.take k) (row.flatMap (ltr b ps)) = row.flatMap fun p => stg b (ps.take k) (ltr b ps p) := by
  induction k with
  | zero => rfl
  | succ k ih =>
    have hk' : k < ps.length := hk
    have e : ps[k]? = some ps[k] := List.getElem?_eq_getElem hk'
    obtain ⟨l1, l2⟩ := P.lt k _ e
    have e2 : ∀ p, stg b (ps.take (k + 1)) (ltr b ps p) = jn ps[k].1 ps[k].2 (b + k) (stg b (ps.take k) (ltr b ps p)) := fun p => stg_succ e _
    rw [stg_succ e, ih (by omega)]
    have nb : ∀ row : List Nat, nbrP b ps row → nbr (fun A B => jn ps[k].1 ps[k].2 (b + k) (A ++ B) = jn ps[k].1 ps[k].2 (b + k) A ++ jn ps[k].1 ps[k].2 (b + k) B) (row.map fun p => stg b (ps.take k) (ltr b ps p)) := by
      intro row
      induction row with
      | nil => exact fun h => h
      | cons p r ih2 =>
        cases r with
        | nil => exact fun h => h
        | cons q r =>
          rintro ⟨h1, h2⟩
          refine ⟨?_, ih2 h2⟩
          have c1 := h1 k (by omega)
          have c2 := h1 (k + 1) (by omega)
          rw [stg_succ e, stg_succ e, stg_succ e, c1] at c2
          exact c2
    have := jn_many (x := ps[k].1) (y := ps[k].2) (z := b + k) (by omega) (row.map fun p => stg b (ps.take k) (ltr b ps p)) (fun A hA => ?_) (nb row hn)
    · rw [List.flatMap_def, this, List.map_map, List.flatMap_def]
      congr 1
      refine List.map_congr_left fun p _ => ?_
      exact (e2 p).symm
    · obtain ⟨p, hp, rfl⟩ := List.mem_map.mp hA
      exact stg_ne _ _ _ (P.ltr_ne p (hr p hp))
theorem Proper.row_cut (row : List Nat) (hr : ∀ p ∈ row, p < b + ps.length) (hn : nbrP b ps row) : stg b ps (row.flatMap (ltr b ps)) = row := by
  have := P.row_stage row hr hn ps.length (Nat.le_refl _)
  rw [List.take_length] at this
  rw [this]
  induction row with
  | nil => rfl
  | cons p r ih =>
    rw [List.flatMap_cons]
    have h1 := P.own p ps.length (Nat.le_refl _) (hr p (by simp))
    rw [List.take_length] at h1
    rw [h1]
    have hn' : nbrP b ps r := by
      cases r with
      | nil => trivial
      | cons q r => exact hn.2
    have hr' : ∀ q ∈ r, q < b + ps.length := fun q hq => hr q (List.mem_cons_of_mem _ hq)
    have := ih hr' hn' (by have := P.row_stage r hr' hn' ps.length (Nat.le_refl _); rwa [List.take_length] at this)
    rw [this]; rfl

/-! ### spines -/
/-- (x, bound) stands on the right spine of p; on the left one -/
inductive RS (b : Nat) (ps : List (Nat × Nat)) (p : Nat) : Nat → Option Nat → Prop
  | top : RS b ps p p none
  | step {t : Nat} {bd : Option Nat} {q : Nat × Nat} : RS b ps p (b + t) bd → ps[t]? = some q → RS b ps p q.2 (some t)
inductive LS (b : Nat) (ps : List (Nat × Nat)) (p : Nat) : Nat → Option Nat → Prop
  | top : LS b ps p p none
  | step {t : Nat} {bd : Option Nat} {q : Nat × Nat} : LS b ps p (b + t) bd → ps[t]? = some q → LS b ps p q.1 (some t)
theorem Proper.rs_lt {p x : Nat} {bd : Option Nat} (hp : p < b + ps.length) (h : RS b ps p x bd) : x < b + ps.length ∧ ∀ t, bd = some t → x < b + t := by
  cases h with
  | top => exact ⟨hp, fun t e => nomatch e⟩
  | step h hq =>
    obtain ⟨l1, l2⟩ := P.lt _ _ hq
    have := (List.getElem?_eq_some_iff.mp hq).1
    exact ⟨by omega, fun t e => by cases e; exact l2⟩
theorem Proper.ls_lt {p x : Nat} {bd : Option Nat} (hp : p < b + ps.length) (h : LS b ps p x bd) : x < b + ps.length ∧ ∀ t, bd = some t → x < b + t := by
  cases h with
  | top => exact ⟨hp, fun t e => nomatch e⟩
  | step h hq =>
    obtain ⟨l1, l2⟩ := P.lt _ _ hq
    have := (List.getElem?_eq_some_iff.mp hq).1
    exact ⟨by omega, fun t e => by cases e; exact l1⟩
theorem Proper.rs_last {p x : Nat} {bd : Option Nat} (hp : p < b + ps.length) {j : Nat} (h : RS b ps p x bd) : (∀ t, bd = some t → j ≤ t) → (stg b (ps.take j) (ltr b ps p)).getLast? = (stg b (ps.take j) (ltr b ps x)).getLast? := by
  induction h with
  | top => intro _; rfl
  | @step t bd q h hq ih =>
    intro hj
    have hjt : j ≤ t := hj t rfl
    have h2 := P.rs_lt hp h
    rw [ih fun t' e => by have := h2.2 t' e; omega]
    rw [ltr_join P.lt hq, P.nc_join hq j hjt]
    have l2 := P.lt t q hq
    have := (List.getElem?_eq_some_iff.mp hq).1
    exact last_app (stg_ne _ _ _ (P.ltr_ne _ (by omega)))
theorem Proper.ls_head {p x : Nat} {bd : Option Nat} (hp : p < b + ps.length) {j : Nat} (h : LS b ps p x bd) : (∀ t, bd = some t → j ≤ t) → (stg b (ps.take j) (ltr b ps p)).head? = (stg b (ps.take j) (ltr b ps x)).head? := by
  induction h with
  | top => intro _; rfl
  | @step t bd q h hq ih =>
    intro hj
    have hjt : j ≤ t := hj t rfl
    have h2 := P.ls_lt hp h
    rw [ih fun t' e => by have := h2.2 t' e; omega]
    rw [ltr_join P.lt hq, P.nc_join hq j hjt]
    have l2 := P.lt t q hq
    have := (List.getElem?_eq_some_iff.mp hq).1
    exact head_app (stg_ne _ _ _ (P.ltr_ne _ (by omega)))
/-- pieces whose cut together is these two have no crossing -/
theorem Proper.no_cross {p q : Nat} (hp : p < b + ps.length) (hq : q < b + ps.length) (nc : NCk b ps ps.length (ltr b ps p) (ltr b ps q)) {x y k : Nat} {xb yb : Option Nat} (hx : RS b ps p x xb) (hy : LS b ps q y yb)
    (hk : ps[k]? = some (x, y)) (h1 : ∀ t, xb = some t → k < t) (h2 : ∀ t, yb = some t → k ≤ t) : False := by
  obtain ⟨l1, l2⟩ := P.lt k _ hk
  have hkl := (List.getElem?_eq_some_iff.mp hk).1
  have e1 := P.rs_last hp (j := k + 1) hx fun t e => h1 t e
  have e2 := P.ls_head hq (j := k) hy h2
  rw [P.own x (k + 1) (by omega) (by simp at l1; omega)] at e1
  rw [P.own y k (by omega) (by simpa using l2)] at e2
  have c1 := nc k (by omega)
  have c2 := nc (k + 1) (by omega)
  rw [stg_succ hk, stg_succ hk, stg_succ hk, c1] at c2
  rw [stg_succ hk] at e1
  refine jn_cross (x := x) (y := y) (z := b + k) (by simp at l1; omega) _ ?_ _ ?_ c2
  · exact e2
  · exact e1
end

/-! ### neighbors, and the two ways of cutting -/
def Adj (p : Nat × Nat) (R : List Nat) : Prop := ∃ A B, R = A ++ p.1 :: p.2 :: B
theorem Adj.cons {p : Nat × Nat} {a : Nat} {R : List Nat} (h : Adj p R) : Adj p (a :: R) := by
  obtain ⟨A, B, e⟩ := h
  exact ⟨a :: A, B, by rw [e]; rfl⟩
theorem adj_cons {p : Nat × Nat} {a c : Nat} {R : List Nat} (h : Adj p (a :: c :: R)) : (a = p.1 ∧ c = p.2) ∨ Adj p (c :: R) := by
  obtain ⟨A, B, e⟩ := h
  cases A with
  | nil =>
    injection e with e1 e2
    injection e2 with e2 _
    exact .inl ⟨e1, e2⟩
  | cons d A =>
    injection e with e1 e2
    exact .inr ⟨A, B, e2⟩
theorem adj_nil {p : Nat × Nat} : ¬ Adj p [] := fun ⟨A, B, e⟩ => by cases A <;> cases e
theorem adj_one {p : Nat × Nat} {a : Nat} : ¬ Adj p [a] := fun ⟨A, B, e⟩ => by
  cases A with
  | nil => cases e
  | cons d A => injection e with _ e; exact adj_nil ⟨A, B, e⟩
theorem jn_id {p : Nat × Nat} {z : Nat} {R : List Nat} : ¬ Adj p R → jn p.1 p.2 z R = R := by
  induction R using jn.induct (x := p.1) (y := p.2) with
  | case1 => intro _; rfl
  | case2 a => intro _; rfl
  | case3 a c r hc ih => intro h; exact absurd ⟨[], r, by rw [hc.1, hc.2]; rfl⟩ h
  | case4 a c r hc ih => intro h; rw [jn, if_neg hc, ih fun q => h q.cons]
/-- the neighbors behind a join: they stood before, or the new piece is among them -/
theorem adj_jn {p q : Nat × Nat} {z : Nat} (h1 : q.1 ≠ z) (h2 : q.2 ≠ z) {R : List Nat} : Adj q (jn p.1 p.2 z R) → Adj q R := by
  induction R using jn.induct (x := p.1) (y := p.2) with
  | case1 => intro h; exact absurd h adj_nil
  | case2 a => intro h; exact absurd h adj_one
  | case3 a c r hc ih =>
    intro h
    rw [jn, if_pos hc] at h
    cases e : jn p.1 p.2 z r with
    | nil => rw [e] at h; exact absurd h adj_one
    | cons d t =>
      rw [e] at h
      rcases adj_cons h with ⟨q1, _⟩ | h
      · exact absurd q1.symm h1
      · rw [← e] at h; exact (ih h).cons.cons
  | case4 a c r hc ih =>
    intro h
    rw [jn, if_neg hc] at h
    cases e : jn p.1 p.2 z (c :: r) with
    | nil => exact absurd e jn_ne
    | cons d t =>
      rw [e] at h
      rcases adj_cons h with ⟨q1, q2⟩ | h
      · have hd : d = c := by
          cases r with
          | nil => rw [jn] at e; injection e with e _; exact e.symm
          | cons f r =>
            rw [jn] at e
            split at e
            · injection e with e _; exact absurd (e.trans q2).symm h2
            · injection e with e _; exact e.symm
        subst hd
        exact ⟨[], r, by rw [q1, q2]; rfl⟩
      · rw [← e] at h; exact (ih h).cons
/-- the pair itself is gone -/
theorem adj_gone {p : Nat × Nat} {z : Nat} (h1 : p.1 ≠ z) (h2 : p.2 ≠ z) {R : List Nat} : ¬ Adj p (jn p.1 p.2 z R) := by
  induction R using jn.induct (x := p.1) (y := p.2) with
  | case1 => exact adj_nil
  | case2 a => exact adj_one
  | case3 a c r hc ih =>
    intro h
    rw [jn, if_pos hc] at h
    cases e : jn p.1 p.2 z r with
    | nil => rw [e] at h; exact adj_one h
    | cons d t =>
      rw [e] at h
      rcases adj_cons h with ⟨q1, _⟩ | h
      · exact h1 q1.symm
      · rw [← e] at h; exact ih h
  | case4 a c r hc ih =>
    intro h
    rw [jn, if_neg hc] at h
    cases e : jn p.1 p.2 z (c :: r) with
    | nil => exact jn_ne e
    | cons d t =>
      rw [e] at h
      rcases adj_cons h with ⟨q1, q2⟩ | h
      · have hd : d = c := by
          cases r with
          | nil => rw [jn] at e; injection e with e _; exact e.symm
          | cons f r =>
            rw [jn] at e
            split at e
            · injection e with e _; exact absurd (e.trans q2).symm h2
            · injection e with e _; exact e.symm
        exact hc ⟨q1, hd ▸ q2⟩
      · rw [← e] at h; exact ih h
/-- no pair of a lower rank stands there -/
def NoLow (ps : List (Nat × Nat)) (k : Nat) (R : List Nat) : Prop := ∀ (r : Nat) (p : Nat × Nat), r < k → ps[r]? = some p → ¬ Adj p R
theorem stg_id {b : Nat} {ps : List (Nat × Nat)} {R : List Nat} (k : Nat) (hk : k ≤ ps.length) (h : NoLow ps k R) : stg b (ps.take k) R = R := by
  induction k with
  | zero => rfl
  | succ k ih =>
    have e : ps[k]? = some ps[k] := List.getElem?_eq_getElem hk
    rw [stg_succ e, ih (by omega) fun r p hr => h r p (by omega)]
    exact jn_id (h k _ (by omega) e)
theorem stg_done {b : Nat} {ps : List (Nat × Nat)} {R : List Nat} (h : ∀ p ∈ ps, ¬ Adj p R) : stg b ps R = R := by
  have := stg_id (b := b) (R := R) ps.length (Nat.le_refl _) fun r p _ e => h p (List.mem_of_getElem? e)
  rwa [List.take_length] at this
theorem stg_rest {b : Nat} {ps : List (Nat × Nat)} {k : Nat} {p : Nat × Nat} (e : ps[k]? = some p) (R : List Nat) : stg b ps R = stg (b + (k + 1)) (ps.drop (k + 1)) (jn p.1 p.2 (b + k) (stg b (ps.take k) R)) := by
  have hk := (List.getElem?_eq_some_iff.mp e).1
  have := stg_append (ps.take (k + 1)) (ps.drop (k + 1)) b R
  rw [List.take_append_drop, List.length_take, Nat.min_eq_left hk, stg_succ e] at this
  exact this
section
variable {b : Nat} {ps : List (Nat × Nat)} (hw : ∀ (r : Nat) (p : Nat × Nat), ps[r]? = some p → p.1 < b + r ∧ p.2 < b + r)
include hw
/-- the program's step -/
theorem stg_batch {k : Nat} {p : Nat × Nat} (e : ps[k]? = some p) {R : List Nat} (h : NoLow ps k R) : stg b ps (jn p.1 p.2 (b + k) R) = stg b ps R := by
  have hk := (List.getElem?_eq_some_iff.mp e).1
  obtain ⟨l1, l2⟩ := hw k p e
  have h' : NoLow ps k (jn p.1 p.2 (b + k) R) := fun r q hr eq a => by
    obtain ⟨m1, m2⟩ := hw r q eq
    exact h r q hr eq (adj_jn (by omega) (by omega) a)
  rw [stg_rest e R, stg_rest e (jn _ _ _ R), stg_id k (by omega) h, stg_id k (by omega) h']
  rw [jn_id (p := p) (adj_gone (p := p) (by omega) (by omega))]
/-- the law's step: the leftmost place -/
theorem stg_left {k : Nat} {p : Nat × Nat} (e : ps[k]? = some p) {A B : List Nat} (h : NoLow ps k (A ++ p.1 :: p.2 :: B)) (hl : ¬ Adj p (A ++ [p.1])) : stg b ps (A ++ (b + k) :: B) = stg b ps (A ++ p.1 :: p.2 :: B) := by
  have hk := (List.getElem?_eq_some_iff.mp e).1
  obtain ⟨l1, l2⟩ := hw k p e
  have h' : NoLow ps k (A ++ (b + k) :: B) := fun r q hr eq a => by
    obtain ⟨m1, m2⟩ := hw r q eq
    refine h r q hr eq ?_
    clear h hl
    induction A with
    | nil =>
      cases B with
      | nil => exact absurd a adj_one
      | cons c B =>
        rcases adj_cons a with ⟨q1, _⟩ | a
        · omega
        · exact a.cons.cons
    | cons c A ih =>
      cases A with
      | nil =>
        rcases adj_cons a with ⟨_, q2⟩ | a
        · omega
        · exact (ih a).cons
      | cons d A =>
        rcases adj_cons a with ⟨q1, q2⟩ | a
        · exact ⟨[], A ++ p.1 :: p.2 :: B, by rw [← q1, ← q2]; rfl⟩
        · exact (ih a).cons
  have hA : jn p.1 p.2 (b + k) A = A := jn_id fun ⟨C, D, q⟩ => hl ⟨C, D ++ [p.1], by rw [q]; simp⟩
  have j1 : jn p.1 p.2 (b + k) (A ++ p.1 :: p.2 :: B) = A ++ (b + k) :: jn p.1 p.2 (b + k) B := by
    rw [jn_app, hA, jn, if_pos ⟨rfl, rfl⟩]
    rintro ⟨q1, q2⟩
    rw [hA] at q1
    have q3 : p.1 = p.2 := by simpa using q2
    obtain ⟨A', hA'⟩ := List.getLast?_eq_some_iff.mp q1
    exact hl ⟨A', [], by rw [hA']; simp [q3]⟩
  have j2 : jn p.1 p.2 (b + k) (A ++ (b + k) :: B) = A ++ (b + k) :: jn p.1 p.2 (b + k) B := by
    rw [jn_app, hA]
    · congr 1
      cases B with
      | nil => rfl
      | cons c B =>
        have hc : ¬ (b + k = p.1 ∧ c = p.2) := by omega
        rw [jn, if_neg hc]
    · rintro ⟨_, q2⟩
      have q3 : b + k = p.2 := by simpa using q2
      omega
  rw [stg_rest e, stg_rest e (A ++ p.1 :: p.2 :: B), stg_id k (by omega) h, stg_id k (by omega) h', j1, j2]
end
end Rj
set_option linter.all false
namespace Rj
/-- n / d stands in lowest terms and is N / T -/
structure IsFr (n d N T : Int) : Prop where
  pos : 0 < d
  cop : Int.gcd n d = 1
  eq : n * T = N * d
theorem mul_cancel {a b c : Int} (hc : 0 < c) (h : a * c = b * c) : a = b := Int.eq_of_mul_eq_mul_right (by omega) h
theorem IsFr.move {n d N T N' T' : Int} (h : IsFr n d N T) (hT : 0 < T) (e : N * T' = N' * T) : IsFr n d N' T' := by
  refine ⟨h.pos, h.cop, mul_cancel hT ?_⟩
  have := h.eq
  grind
theorem dvd_eq {a b : Int} (ha : 0 < a) (hb : 0 < b) (h1 : a ∣ b) (h2 : b ∣ a) : a = b := Int.le_antisymm (Int.le_of_dvd hb h1) (Int.le_of_dvd ha h2)
theorem dvd_of_cop {d n m : Int} (h : Int.gcd n d = 1) (hd : d ∣ n * m) : d ∣ m := by
  have := Int.dvd_gcd_mul_iff_dvd_mul.mpr hd
  rw [Int.gcd_comm, h] at this
  simpa using this
theorem IsFr.uniq {n d n' d' N T : Int} (h : IsFr n d N T) (h' : IsFr n' d' N T) (hT : 0 < T) : n = n' ∧ d = d' := by
  have e : n * d' = n' * d := by
    refine mul_cancel hT ?_
    have h1 := h.eq
    have h2 := h'.eq
    grind
  have d1 : d ∣ d' := by
    have : d ∣ n * d' := ⟨n', by rw [e, Int.mul_comm]⟩
    exact dvd_of_cop h.cop this
  have d2 : d' ∣ d := by
    have : d' ∣ n' * d := ⟨n, by rw [← e, Int.mul_comm]⟩
    exact dvd_of_cop h'.cop this
  have ed := dvd_eq h.pos h'.pos d1 d2
  subst ed
  exact ⟨mul_cancel h.pos e, rfl⟩
/-- what the constructor makes -/
theorem IsFr.of {N T : Int} (hT : 0 < T) : IsFr (N / (Int.gcd N T : Int)) (T / (Int.gcd N T : Int)) N T := by
  have hg : 0 < Int.gcd N T := Int.gcd_pos_of_ne_zero_right _ (by omega)
  have hg' : (0 : Int) < (Int.gcd N T : Int) := by omega
  obtain ⟨a, ha⟩ := Int.gcd_dvd_left N T
  obtain ⟨c, hc⟩ := Int.gcd_dvd_right N T
  refine ⟨?_, Int.gcd_ediv_gcd_ediv_gcd hg, ?_⟩
  · exact Int.ediv_pos_of_pos_of_dvd hT (by omega) (Int.gcd_dvd_right N T)
  · have e1 : N / (Int.gcd N T : Int) = a := by
      rw [Int.ediv_eq_of_eq_mul_right (by omega) ha]
    have e2 : T / (Int.gcd N T : Int) = c := by
      rw [Int.ediv_eq_of_eq_mul_right (by omega) hc]
    rw [e1, e2]
    generalize (Int.gcd N T : Int) = g at ha hc
    subst ha hc
    grind
theorem IsFr.mk' {n d N T : Int} {g : Int} (hT : 0 < T) (hg : g = (Int.gcd N T : Int)) (hn : n = N / g) (hd : d = T / g) : IsFr n d N T := by
  subst hg hn hd
  exact .of hT
theorem IsFr.le {n d N T : Int} (h : IsFr n d N T) (hT : 0 < T) (hN : 0 ≤ N) : 0 ≤ n ∧ n ≤ N ∧ d ≤ T := by
  have hd := h.pos
  have e := h.eq
  have dd : d ∣ T := by
    have : d ∣ n * T := ⟨N, by rw [e, Int.mul_comm]⟩
    exact dvd_of_cop h.cop this
  obtain ⟨c, hc⟩ := dd
  have hc0 : 0 < c := by
    by_cases h0 : 0 < c
    · exact h0
    · have : d * c ≤ 0 := Int.mul_nonpos_of_nonneg_of_nonpos (by omega) (by omega)
      omega
  have en : N = n * c := by
    refine mul_cancel hd ?_
    rw [← e, hc]
    grind
  have hn : 0 ≤ n := by
    by_cases h0 : 0 ≤ n
    · exact h0
    · have : n * c < 0 := Int.mul_neg_of_neg_of_pos (by omega) hc0
      omega
  have m1 : n * 1 ≤ n * c := Int.mul_le_mul_of_nonneg_left (by omega) hn
  have m2 : d * 1 ≤ d * c := Int.mul_le_mul_of_nonneg_left (by omega) (by omega)
  exact ⟨hn, by omega, by omega⟩
theorem IsFr.add {n1 d1 N1 n2 d2 N2 n d T : Int} (h1 : IsFr n1 d1 N1 T) (h2 : IsFr n2 d2 N2 T) (h : IsFr n d (n1 * d2 + n2 * d1) (d1 * d2)) : IsFr n d (N1 + N2) T := by
  refine h.move (Int.mul_pos h1.pos h2.pos) ?_
  have e1 := h1.eq
  have e2 := h2.eq
  grind
theorem IsFr.mul {n1 d1 P n2 d2 w W n d T c : Int} (h1 : IsFr n1 d1 P T) (h2 : IsFr n2 d2 w W) (hW : 0 < W) (hP : P = c * W) (h : IsFr n d (n1 * n2) (d1 * d2)) : IsFr n d (c * w) T := by
  refine h.move (Int.mul_pos h1.pos h2.pos) ?_
  have e1 := h1.eq
  have e2 := h2.eq
  refine mul_cancel hW ?_
  grind
theorem IsFr.zero {T : Int} : IsFr 0 1 0 T := ⟨by omega, by decide, by omega⟩
theorem IsFr.one {T : Int} : IsFr 1 1 T T := ⟨by omega, by decide, by omega⟩
/-! ### Euclid -/
theorem euclid_step {a b G k M : Nat} (hg : Nat.gcd a b = G) (ha : 0 < a) (hab : a ≤ b) (hm : a * b * 2 ^ k ≤ M) : Nat.gcd (b % a) a = G ∧ 0 < a ∧ b % a ≤ a ∧ b % a * a * 2 ^ (k + 1) ≤ M := by
  refine ⟨by rw [← hg, Nat.gcd_rec a b], ha, Nat.le_of_lt (Nat.mod_lt _ ha), ?_⟩
  refine Nat.le_trans ?_ hm
  have h1 : 2 * (b % a) ≤ b := by
    have e := Nat.div_add_mod b a
    have hq : 1 ≤ b / a := Nat.div_pos hab ha
    have : a * 1 ≤ a * (b / a) := Nat.mul_le_mul_left a hq
    have := Nat.mod_lt b ha
    omega
  rw [Nat.pow_succ]
  calc b % a * a * (2 ^ k * 2) = (2 * (b % a)) * (a * 2 ^ k) := by grind
    _ ≤ b * (a * 2 ^ k) := Nat.mul_le_mul_right _ h1
    _ = a * b * 2 ^ k := by grind
theorem euclid_end {a b k M : Nat} (hb : 0 < b) (hm : a * b * 2 ^ k ≤ M) (hM : M < 2 ^ k) : a = 0 := by
  rcases Nat.eq_zero_or_pos a with h | h
  · exact h
  · have : 1 ≤ a * b := Nat.mul_pos h hb
    have := Nat.mul_le_mul_right (2 ^ k) this
    omega
end Rj
set_option linter.all false
namespace Rj
/-! ### what is left of s behind t -/
def rm : List Nat → List Nat → Option (List Nat)
  | [], s => some s
  | _ :: _, [] => some []
  | a :: t, c :: s => if a = c then rm t s else none
theorem rm_nil (t : List Nat) : rm t [] = some [] := by cases t <;> rfl
theorem rm_app (u : List Nat) : ∀ t s, rm (t ++ u) s = (rm t s).bind (rm u)
  | [], s => rfl
  | a :: t, [] => by rw [rm_nil, rm_nil]; exact (rm_nil u).symm
  | a :: t, c :: s => by
    show (if a = c then rm (t ++ u) s else none) = (if a = c then rm t s else none).bind (rm u)
    split
    · exact rm_app u t s
    · rfl
theorem rm_done : ∀ {t s : List Nat}, rm t s = some [] ↔ s <+: t
  | [], s => by
    show some s = some [] ↔ s <+: []
    rw [List.prefix_nil]; simp
  | a :: t, [] => by simp [rm]
  | a :: t, c :: s => by
    show (if a = c then rm t s else none) = some [] ↔ _
    rw [List.cons_prefix_cons]
    by_cases h : a = c
    · rw [if_pos h, rm_done]; simp [h]
    · rw [if_neg h]; simp [Ne.symm h]
theorem rm_drop : ∀ {t s r : List Nat}, rm t s = some r → r = s.drop t.length
  | [], s, r, h => by cases h; rfl
  | a :: t, [], r, h => by cases h; simp
  | a :: t, c :: s, r, h => by
    have h' : (if a = c then rm t s else none) = some r := h
    split at h'
    · have := rm_drop (t := t) (s := s) h'
      simpa using this
    · cases h'
theorem rm_fits : ∀ {t s : List Nat}, (rm t s).isSome = true ↔ (t <+: s ∨ s <+: t)
  | [], s => by simp [rm]
  | a :: t, [] => by simp [rm]
  | a :: t, c :: s => by
    show (if a = c then rm t s else none).isSome = true ↔ _
    rw [List.cons_prefix_cons, List.cons_prefix_cons]
    by_cases h : a = c
    · rw [if_pos h, rm_fits]; simp [h]
    · rw [if_neg h]; simp [h, Ne.symm h]

/-! ### sums -/
def sumf {α : Type} (f : α → Int) (l : List α) : Int := (l.map f).sum
theorem sumf_nil {α : Type} (f : α → Int) : sumf f [] = 0 := rfl
theorem sumf_cons {α : Type} (f : α → Int) (a : α) (l : List α) : sumf f (a :: l) = f a + sumf f l := by simp [sumf]
theorem sumf_app {α : Type} (f : α → Int) (l m : List α) : sumf f (l ++ m) = sumf f l + sumf f m := by
  induction l with
  | nil => simp [sumf_nil]
  | cons a l ih => rw [List.cons_append, sumf_cons, sumf_cons, ih]; omega
theorem sumf_congr {α : Type} {f g : α → Int} : ∀ {l : List α}, (∀ a ∈ l, f a = g a) → sumf f l = sumf g l
  | [], _ => rfl
  | a :: l, h => by rw [sumf_cons, sumf_cons, h a (by simp), sumf_congr fun c hc => h c (List.mem_cons_of_mem _ hc)]
theorem sumf_mul {α : Type} (f : α → Int) (c : Int) : ∀ l : List α, sumf (fun a => c * f a) l = c * sumf f l
  | [] => by simp [sumf_nil]
  | a :: l => by rw [sumf_cons, sumf_cons, sumf_mul f c l, Int.mul_add]
theorem sumf_perm {α : Type} (f : α → Int) {l m : List α} (h : l.Perm m) : sumf f l = sumf f m := by
  induction h with
  | nil => rfl
  | cons a _ ih => rw [sumf_cons, sumf_cons, ih]
  | swap a b l => simp only [sumf_cons]; omega
  | trans _ _ i1 i2 => rw [i1, i2]
theorem sumf_nonneg {α : Type} {f : α → Int} : ∀ {l : List α}, (∀ a ∈ l, 0 ≤ f a) → 0 ≤ sumf f l
  | [], _ => by rw [sumf_nil]; omega
  | a :: l, h => by
    rw [sumf_cons]
    have := h a (by simp)
    have := sumf_nonneg (f := f) fun c hc => h c (List.mem_cons_of_mem _ hc)
    omega
theorem sumf_le {α : Type} {f g : α → Int} : ∀ {l : List α}, (∀ a ∈ l, f a ≤ g a) → sumf f l ≤ sumf g l
  | [], _ => by rw [sumf_nil, sumf_nil]; omega
  | a :: l, h => by
    rw [sumf_cons, sumf_cons]
    have := h a (by simp)
    have := sumf_le (f := f) (g := g) fun c hc => h c (List.mem_cons_of_mem _ hc)
    omega
theorem sumf_mem {α : Type} {f : α → Int} {l : List α} {a : α} (h : ∀ a ∈ l, 0 ≤ f a) (ha : a ∈ l) : f a ≤ sumf f l := by
  obtain ⟨l1, l2, rfl⟩ := List.append_of_mem ha
  rw [sumf_app, sumf_cons]
  have := sumf_nonneg (f := f) (l := l1) fun c hc => h c (by simp [hc])
  have := sumf_nonneg (f := f) (l := l2) fun c hc => h c (by simp [hc])
  omega

/-! ### a model: choices with weights behind a last piece -/
abbrev Ch := Option Nat × Int
/-- the model's data: the keys, the choices of each, the pieces' texts -/
structure Mdl where
  keys : List (Option Nat)
  wt : Option Nat → List Ch
  txt : Nat → List Nat
  n : Nat
def Mdl.W (M : Mdl) (l : Option Nat) : Int := sumf (·.2) (M.wt l)
def rk : Option Nat → Nat
  | none => 0
  | some p => p + 1
theorem rk_inj {a b : Option Nat} (h : rk a = rk b) : a = b := by
  cases a <;> cases b <;> simp [rk] at h ⊢ <;> exact h
structure Mdl.Ok (M : Mdl) : Prop where
  nd : M.keys.Nodup
  none_ : none ∈ M.keys
  keyn : ∀ p, some p ∈ M.keys → p < M.n
  pos : ∀ l ∈ M.keys, ∀ c ∈ M.wt l, 1 ≤ c.2
  ne : ∀ l ∈ M.keys, M.wt l ≠ []
  key : ∀ l ∈ M.keys, ∀ p w, (some p, w) ∈ M.wt l → some p ∈ M.keys ∧ rk l < rk (some p)
  ndc : ∀ l ∈ M.keys, ((M.wt l).map (·.1)).Nodup
  txt : ∀ p, p < M.n → M.txt p ≠ []
/-- the product of the sums of the keys from rank k on -/
def prod : List Int → Int
  | [] => 1
  | a :: l => a * prod l
def Mdl.pr (M : Mdl) (k : Nat) : Int := prod ((M.keys.filter fun l => decide (k ≤ rk l)).map M.W)
def Mdl.T (M : Mdl) : Int := prod (M.keys.map M.W)
/-- the weight of a choice -/
def wOf (l : List Ch) (c : Option Nat) : Int := ((l.find? fun x => x.1 == c).map (·.2)).getD 0
/-- the parts of a row's beginning, and its last piece -/
def Mdl.go (M : Mdl) (r : List Nat) : Int × Option Nat := r.foldl (fun st p => (st.1 / M.W st.2 * wOf (M.wt st.2) (some p), some p)) (M.T, none)
def Mdl.pts (M : Mdl) (r : List Nat) : Int := (M.go r).1
def lastO (r : List Nat) : Option Nat := r.getLast?
theorem Mdl.go_snoc (M : Mdl) (r : List Nat) (p : Nat) : M.go (r ++ [p]) = ((M.go r).1 / M.W (M.go r).2 * wOf (M.wt (M.go r).2) (some p), some p) := by
  unfold Mdl.go
  rw [List.foldl_append]
  rfl
theorem go_last (M : Mdl) (r : List Nat) : (M.go r).2 = lastO r := by
  rcases List.eq_nil_or_concat r with rfl | ⟨r, p, rfl⟩
  · rfl
  · rw [List.concat_eq_append, M.go_snoc]; simp [lastO]
theorem Mdl.pts_snoc (M : Mdl) (r : List Nat) (p : Nat) : M.pts (r ++ [p]) = M.pts r / M.W (lastO r) * wOf (M.wt (lastO r)) (some p) := by
  unfold Mdl.pts
  rw [M.go_snoc, go_last]
theorem Mdl.pts_nil (M : Mdl) : M.pts [] = M.T := rfl
theorem wOf_mem {l : List Ch} (hn : (l.map (·.1)).Nodup) {c : Option Nat} {w : Int} (h : (c, w) ∈ l) : wOf l c = w := by
  induction l with
  | nil => cases h
  | cons a l ih =>
    rw [List.map_cons, List.nodup_cons] at hn
    unfold wOf
    rw [List.find?_cons]
    by_cases e : a.1 = c
    · have e' : (a.1 == c) = true := by simp [e]
      rw [e']
      rcases List.mem_cons.mp h with rfl | h
      · rfl
      · exact absurd (List.mem_map.mpr ⟨_, h, e.symm⟩) hn.1
    · have e' : (a.1 == c) = false := by simp [e]
      rw [e']
      rcases List.mem_cons.mp h with rfl | h
      · exact absurd rfl e
      · exact ih hn.2 h
/-- rows that can come -/
inductive Mdl.Can (M : Mdl) : List Nat → Prop
  | nil : M.Can []
  | snoc {r : List Nat} {p : Nat} {w : Int} : M.Can r → (some p, w) ∈ M.wt (lastO r) → M.Can (r ++ [p])
section
variable {M : Mdl} (O : M.Ok)
include O
theorem Mdl.Ok.Wpos {l : Option Nat} (h : l ∈ M.keys) : 0 < M.W l := by
  unfold Mdl.W
  cases e : M.wt l with
  | nil => exact absurd e (O.ne l h)
  | cons c r =>
    rw [sumf_cons]
    have hp := O.pos l h
    rw [e] at hp
    have := hp c (by simp)
    have := sumf_nonneg (f := (·.2)) (l := r) fun x hx => by have := hp x (List.mem_cons_of_mem _ hx); omega
    omega
theorem Mdl.Ok.can_key {r : List Nat} (h : M.Can r) : lastO r ∈ M.keys := by
  induction h with
  | nil => exact O.none_
  | @snoc r p w h hw ih =>
    rw [show lastO (r ++ [p]) = some p by simp [lastO]]
    exact (O.key _ ih p w hw).1
theorem Mdl.Ok.can_lt {r : List Nat} (h : M.Can r) : ∀ p ∈ r, p < M.n := by
  induction h with
  | nil => intro p hp; cases hp
  | @snoc r q w h hw ih =>
    intro p hp
    rcases List.mem_append.mp hp with hp | hp
    · exact ih p hp
    · have e : p = q := by simpa using hp
      subst e
      exact O.keyn p (O.key _ (O.can_key h) p w hw).1
theorem Mdl.Ok.can_len {r : List Nat} (h : M.Can r) : r.length ≤ rk (lastO r) := by
  induction h with
  | nil => simp [lastO, rk]
  | @snoc r q w h hw ih =>
    rw [show lastO (r ++ [q]) = some q by simp [lastO], List.length_append]
    have := (O.key _ (O.can_key h) q w hw).2
    simp; omega
theorem Mdl.Ok.can_le {r : List Nat} (h : M.Can r) : r.length ≤ M.n := by
  have h1 := O.can_len h
  have h2 := O.can_key h
  cases e : lastO r with
  | none => rw [e] at h1; simp [rk] at h1; simp [h1]
  | some p =>
    rw [e] at h1 h2
    have := O.keyn p h2
    simp [rk] at h1; omega
omit O in
theorem prod_filter {ks : List (Option Nat)} {f : Option Nat → Int} {l : Option Nat} (hn : ks.Nodup) (hl : l ∈ ks) :
    prod ((ks.filter fun x => decide (rk l ≤ rk x)).map f) = f l * prod ((ks.filter fun x => decide (rk l + 1 ≤ rk x)).map f) := by
  induction ks with
  | nil => cases hl
  | cons a ks ih =>
    rw [List.nodup_cons] at hn
    by_cases e : a = l
    · subst e
      have h1 : decide (rk a ≤ rk a) = true := by simp
      have h2 : ¬ decide (rk a + 1 ≤ rk a) = true := by simp
      rw [List.filter_cons, if_pos h1, List.filter_cons, if_neg h2]
      have : (ks.filter fun x => decide (rk a ≤ rk x)) = ks.filter fun x => decide (rk a + 1 ≤ rk x) := by
        refine List.filter_congr fun x hx => ?_
        have : rk a ≠ rk x := fun q => hn.1 (rk_inj q ▸ hx)
        rw [decide_eq_decide]; omega
      rw [this]; rfl
    · have hl' : l ∈ ks := by
        rcases List.mem_cons.mp hl with q | q
        · exact absurd q.symm e
        · exact q
      have ih := ih hn.2 hl'
      have hne : rk l ≠ rk a := fun q => e (rk_inj q.symm)
      by_cases h : rk l ≤ rk a
      · rw [List.filter_cons, if_pos (by simpa using h), List.filter_cons, if_pos (by simp; omega)]
        show f a * prod _ = f l * (f a * prod _)
        rw [ih]; grind
      · rw [List.filter_cons, if_neg (by simpa using h), List.filter_cons, if_neg (by simp; omega)]
        exact ih
theorem Mdl.Ok.pr_key {l : Option Nat} (h : l ∈ M.keys) : M.pr (rk l) = M.W l * M.pr (rk l + 1) := prod_filter O.nd h
omit O in
theorem pr_dvd {ks : List (Option Nat)} {f : Option Nat → Int} {j k : Nat} (h : j ≤ k) : prod ((ks.filter fun x => decide (k ≤ rk x)).map f) ∣ prod ((ks.filter fun x => decide (j ≤ rk x)).map f) := by
  induction ks with
  | nil => exact Int.dvd_refl _
  | cons a ks ih =>
    by_cases h1 : k ≤ rk a
    · rw [List.filter_cons, if_pos (by simpa using h1), List.filter_cons, if_pos (by simp; omega)]
      exact Int.mul_dvd_mul (Int.dvd_refl _) ih
    · rw [List.filter_cons, if_neg (by simpa using h1)]
      by_cases h2 : j ≤ rk a
      · rw [List.filter_cons, if_pos (by simpa using h2)]
        exact Int.dvd_trans ih ⟨f a, by show f a * _ = _; rw [Int.mul_comm]⟩
      · rw [List.filter_cons, if_neg (by simpa using h2)]
        exact ih
omit O in
theorem Mdl.pr_zero : M.pr 0 = M.T := by
  unfold Mdl.pr Mdl.T
  rw [List.filter_eq_self.mpr (by simp)]
theorem Mdl.Ok.dv {r : List Nat} (h : M.Can r) : M.pr (rk (lastO r)) ∣ M.pts r := by
  induction h with
  | nil => rw [M.pts_nil]; exact (by rw [← M.pr_zero]; exact Int.dvd_refl _ : M.pr 0 ∣ M.T)
  | @snoc r q w h hw ih =>
    rw [show lastO (r ++ [q]) = some q by simp [lastO], M.pts_snoc]
    have hk := O.can_key h
    rw [O.pr_key hk] at ih
    obtain ⟨c, hc⟩ := ih
    have hW := O.Wpos hk
    have e : M.pts r / M.W (lastO r) = M.pr (rk (lastO r) + 1) * c := by
      rw [hc, Int.mul_assoc, Int.mul_ediv_cancel_left _ (by omega)]
    rw [e]
    have hd : M.pr (rk (some q)) ∣ M.pr (rk (lastO r) + 1) := pr_dvd (O.key _ hk q w hw).2
    exact Int.dvd_trans hd ⟨c * _, Int.mul_assoc _ _ _⟩
/-- the division goes out even -/
theorem Mdl.Ok.even {r : List Nat} (h : M.Can r) : M.pts r = M.pts r / M.W (lastO r) * M.W (lastO r) := by
  have hk := O.can_key h
  have d := O.dv h
  rw [O.pr_key hk] at d
  have : M.W (lastO r) ∣ M.pts r := Int.dvd_trans ⟨_, rfl⟩ d
  exact (Int.ediv_mul_cancel this).symm
omit O in
theorem prod_pos : ∀ {l : List Int}, (∀ a ∈ l, 0 < a) → 0 < prod l
  | [], _ => by decide
  | a :: l, h => Int.mul_pos (h a (by simp)) (prod_pos fun c hc => h c (List.mem_cons_of_mem _ hc))
theorem Mdl.Ok.Tpos : 0 < M.T := prod_pos fun a ha => by
  obtain ⟨l, hl, rfl⟩ := List.mem_map.mp ha
  exact O.Wpos hl
theorem Mdl.Ok.w_le {l : Option Nat} (h : l ∈ M.keys) {c : Ch} (hc : c ∈ M.wt l) : 1 ≤ c.2 ∧ c.2 ≤ M.W l :=
  ⟨O.pos l h c hc, sumf_mem (f := (·.2)) (fun x hx => by have := O.pos l h x hx; omega) hc⟩
theorem Mdl.Ok.part_le {P : Int} (hP : 0 ≤ P) {l : Option Nat} (h : l ∈ M.keys) {c : Ch} (hc : c ∈ M.wt l) : 0 ≤ P / M.W l * c.2 ∧ P / M.W l * c.2 ≤ P := by
  obtain ⟨h1, h2⟩ := O.w_le h hc
  have hW := O.Wpos h
  have hq : 0 ≤ P / M.W l := Int.ediv_nonneg hP (by omega)
  refine ⟨Int.mul_nonneg hq (by omega), ?_⟩
  have a := Int.mul_le_mul_of_nonneg_left h2 hq
  have b := Int.ediv_mul_le P (show M.W l ≠ 0 by omega)
  omega
theorem Mdl.Ok.pts_le {r : List Nat} (h : M.Can r) : 0 ≤ M.pts r ∧ M.pts r ≤ M.T := by
  induction h with
  | nil => have := O.Tpos; rw [M.pts_nil]; omega
  | @snoc r q w h hw ih =>
    rw [M.pts_snoc, wOf_mem (O.ndc _ (O.can_key h)) hw]
    have := O.part_le ih.1 (O.can_key h) hw
    simp only at this
    omega
end

/-! ### the chance that the text begins so, in parts: V fuel parts last (what is left of the text) -/
def Mdl.V (M : Mdl) : Nat → Int → Option Nat → List Nat → Int
  | 0, P, _, r => if r = [] then P else 0
  | k + 1, P, l, r => if r = [] then P else sumf (fun c => match c.1 with
    | none => 0
    | some p => match rm (M.txt p) r with
      | none => 0
      | some r' => M.V k (P / M.W l * c.2) (some p) r') (M.wt l)
def Mdl.Vo (M : Mdl) (k : Nat) (P : Int) (l : Option Nat) : Option (List Nat) → Int
  | none => 0
  | some r => M.V k P l r
theorem Mdl.V_done (M : Mdl) (k : Nat) (P : Int) (l : Option Nat) : M.V k P l [] = P := by cases k <;> simp [Mdl.V]
/-- one turn: what the children and the end bring -/
theorem Mdl.Vo_turn (M : Mdl) (k : Nat) (P : Int) (l : Option Nat) (t s : List Nat) (he : P = P / M.W l * M.W l) :
    M.Vo (k + 1) P l (rm t s) = sumf (fun c => match c.1 with
      | none => if s <+: t then P / M.W l * c.2 else 0
      | some p => M.Vo k (P / M.W l * c.2) (some p) (rm (t ++ M.txt p) s)) (M.wt l) := by
  cases e : rm t s with
  | none =>
    have hs : ¬ s <+: t := fun q => by rw [rm_done.mpr q] at e; cases e
    have : (sumf (fun c => match c.1 with
      | none => if s <+: t then P / M.W l * c.2 else 0
      | some p => M.Vo k (P / M.W l * c.2) (some p) (rm (t ++ M.txt p) s)) (M.wt l)) = sumf (fun c => 0 * c.2) (M.wt l) := by
      refine sumf_congr fun c _ => ?_
      cases c.1 with
      | none => simp [hs]
      | some p => dsimp only; rw [rm_app, e]; simp [Mdl.Vo]
    rw [this, sumf_mul, Int.zero_mul]; rfl
  | some r =>
    cases r with
    | nil =>
      have hs : s <+: t := rm_done.mp e
      have : (sumf (fun c => match c.1 with
        | none => if s <+: t then P / M.W l * c.2 else 0
        | some p => M.Vo k (P / M.W l * c.2) (some p) (rm (t ++ M.txt p) s)) (M.wt l)) = sumf (fun c => P / M.W l * c.2) (M.wt l) := by
        refine sumf_congr fun c _ => ?_
        cases c.1 with
        | none => simp [hs]
        | some p => dsimp only; rw [rm_app, e]; show M.Vo k _ _ (rm (M.txt p) []) = _; rw [rm_nil]; exact M.V_done _ _ _
      rw [this, sumf_mul]
      show M.V (k + 1) P l [] = _
      rw [M.V_done]; exact he
    | cons a r =>
      have hs : ¬ s <+: t := fun q => by rw [rm_done.mpr q] at e; cases e
      show M.V (k + 1) P l (a :: r) = _
      rw [Mdl.V, if_neg (by simp)]
      refine sumf_congr fun c _ => ?_
      cases c.1 with
      | none => simp [hs]
      | some p =>
        dsimp only
        rw [rm_app, e]
        show _ = M.Vo k _ _ (rm (M.txt p) (a :: r))
        cases rm (M.txt p) (a :: r) <;> rfl
theorem Mdl.Ok.V_le {M : Mdl} (O : M.Ok) : ∀ (k : Nat) (P : Int) (l : Option Nat) (r : List Nat), 0 ≤ P → l ∈ M.keys → 0 ≤ M.V k P l r ∧ M.V k P l r ≤ P
  | 0, P, l, r, hP, _ => by
    rw [Mdl.V]; split <;> omega
  | k + 1, P, l, r, hP, hl => by
    rw [Mdl.V]
    split
    · omega
    · have hW := O.Wpos hl
      have one : ∀ c ∈ M.wt l, (0 : Int) ≤ (match c.1 with
        | none => (0 : Int)
        | some p => match rm (M.txt p) r with
          | none => (0 : Int)
          | some r' => M.V k (P / M.W l * c.2) (some p) r') ∧ (match c.1 with
        | none => (0 : Int)
        | some p => match rm (M.txt p) r with
          | none => (0 : Int)
          | some r' => M.V k (P / M.W l * c.2) (some p) r') ≤ P / M.W l * c.2 := by
        intro c hc
        obtain ⟨p1, p2⟩ := O.part_le hP hl hc
        obtain ⟨o, w⟩ := c
        cases o with
        | none => dsimp only at p1 ⊢; omega
        | some p =>
          dsimp only at p1 ⊢
          cases rm (M.txt p) r with
          | none => dsimp only; omega
          | some r' => exact O.V_le k _ _ _ p1 (O.key l hl p w hc).1
      refine ⟨sumf_nonneg fun c hc => (one c hc).1, ?_⟩
      refine Int.le_trans (sumf_le fun c hc => (one c hc).2) ?_
      rw [sumf_mul]
      exact Int.ediv_mul_le P (show M.W l ≠ 0 by omega)
end Rj
set_option Elab.async false
set_option linter.all false
set_option maxRecDepth 100000
set_option maxHeartbeats 2000000
namespace Rj
open PySem PySem.Spec PyProof.Rows L2

/-! ### x + y, x * y of two instances, by the class's own method -/
def rOwn (C : Addr) (sp : Sp) : R2 := fun x y H Q => ∃ a dx fs b dy gs, x = .ref a ∧ y = .ref b ∧ H a = some (.ins C dx fs) ∧ H b = some (.ins C dy gs) ∧
  sp [.ref a, .ref b] H (fun v H' => (∃ r, v = .ref r) ∧ Q v H') E0
theorem op_own {X : Cx} {op : Operator} {C f : Addr} {fd : FuncData} {ps : List Str} {sp : Sp} {k : Nat} (hc : PySem.W.selfFirst X.K C = true)
    (hs : PySem.W.findIn X.K (.ref C) (PySem.dunder op.info.2) = some (some (.ref f))) (hf : PySem.W.isFn X.K (.ref f) = true)
    (F : FnOk X.prog X.w X.K X.mg X.base CX0 k f fd ps sp) (hr : Room k X.A) (hb : Binds X.K fd ps []) : OpR X (binaryOp op) (rOwn C sp) := by
  intro pins s σ H x y v u Q I rx ry h
  obtain ⟨a, dx, fs, b, dy, gs, rfl, rfl, ha, hb', h⟩ := h
  cases rx
  cases ry
  obtain ⟨m, Fm⟩ := I.fr
  obtain ⟨mA, O, _⟩ := ins_get I.hok ha
  obtain ⟨oa, J, _⟩ := O.look
  obtain ⟨mB, O', _⟩ := ins_get I.hok hb'
  obtain ⟨ob, J', _⟩ := O'.look
  refine PySem.W.binop_K Fm I.ok.mod.kin J J'.type hc hs hf ?_
  refine thn (run_fn (us := [.ref a, .ref b]) (vs := [.ref a, .ref b]) F hr hb .nil (pass0) I (.cons rfl (.cons rfl .nil)) h) fun w' s' ⟨z, H', I', rz, ⟨r, er⟩, q⟩ => ?_
  subst er
  cases rz
  exact ⟨.ref r, H', I', rfl, q⟩

/-! ### dicts whose keys are None, ints, texts -/
abbrev NKey := Option Key
def nV : NKey → V
  | none => .non
  | some k => kV k
/-- a dict of such keys at a -/
def DN (P : Program) (w : World) (a : Addr) (kvs : List (NKey × V)) : HO := .ext fun h => kvs.length ≤ sizeLine ∧ (a == sysModules) = false ∧ ∃ vs, KV kvs vs ∧ h.DictOf (noneKind P w) a vs
section
variable {P : Program} {w : World} {H : Hp} {h : Heap} {a : Addr} {kvs : List (NKey × V)}
theorem dn_rd (ok : HOk P w H h) (e : Rd H a (DN P w a kvs)) : kvs.length ≤ sizeLine ∧ (a == sysModules) = false ∧ ∃ vs, KV kvs vs ∧ h.DictOf (noneKind P w) a vs :=
  (show ObjOk P w H h a (DN P w a kvs) from e.ok ok).1
theorem dn_new {vs : List (NKey × Value)} (z : kvs.length ≤ sizeLine) (hd : (a == sysModules) = false) (rel : KV kvs vs) (dd : h.DictOf (noneKind P w) a vs) : ObjOk P w H h a (DN P w a kvs) := by
  refine ⟨⟨z, hd, vs, rel, dd⟩, ?_, fun h1 h2 q keep => ?_⟩
  · obtain ⟨o, _, _, e, _⟩ := dd
    exact ⟨o, e⟩
  · obtain ⟨z, hd, vs, rel, o, es, ep, e, r⟩ := q
    exact ⟨z, hd, vs, rel, o, es, ep, keep o e, r⟩
theorem nV_is {k : NKey} {u : Value} (r : RelV (nV k) u) : (noneKind P w).is k u = true := by
  cases k with
  | none => cases (show u = Value.none from r); rfl
  | some k => exact kV_is (P := P) (w := w) r
theorem nV_rel {k : NKey} {u : Value} (e : nkIs k u = true) : RelV (nV k) u := by
  cases k with
  | none => exact nk_none e
  | some k => exact relV_key e
end
/-- what the dict at a holds at the key y -/
def NGet (P : Program) (w : World) (H : Hp) (a : Addr) (y : V) (r : Option V) : Prop := ∃ kvs k, Rd H a (DN P w a kvs) ∧ y = nV k ∧ r = valV kvs k
section
variable {X : Cx} {pins : List (Addr × Obj)} {σ : L2.St} {H : Hp} {s : Shared} {a : Addr} {y v : V} {u r : Value} {o : Option V} {A : Around} {E : Value → Shared → Prop}
theorem ng_type (I : Inv X pins σ H s) (g : NGet X.prog X.w H a y o) : s.TypeIs (.ref a) "dict" := by
  obtain ⟨kvs, k, e, _, _⟩ := g
  obtain ⟨_, _, vs, _, dd⟩ := dn_rd I.hok e
  exact dd.typeIs
theorem n_getItem {Q : Value → Shared → Prop} (I : Inv X pins σ H s) (g : NGet X.prog X.w H a y (some v)) (ry : RelV y u) (h : ∀ w' s', Inv X pins σ H s' → RelV v w' → Q w' s') :
    wpAny (model X.prog X.w) A (getItem (.ref a) u) Q E s := by
  obtain ⟨kvs, k, e, rfl, l⟩ := g
  obtain ⟨z, hd, vs, rel, dd⟩ := dn_rd I.hok e
  obtain ⟨w', hw, rw'⟩ := RelO.some_of (v := v) (o := valueAt vs k) (by rw [l]; exact rel.val k)
  exact wpAny_getItem_of (nV_is ry) dd.mapOf hw (h w' _ (I.tok _) rw')
theorem n_in {Q : Value → Shared → Prop} (I : Inv X pins σ H s) (g : NGet X.prog X.w H a y o) (ry : RelV y u) (h : ∀ s', Inv X pins σ H s' → Q (.bool o.isSome) s') :
    wpAny (model X.prog X.w) A (compareOp .In u (.ref a)) Q E s := by
  obtain ⟨kvs, k, e, rfl, l⟩ := g
  obtain ⟨z, hd, vs, rel, dd⟩ := dn_rd I.hok e
  refine wpAny_in_of (nV_is ry) hd dd.mapOf ?_
  rw [← (rel.val k).isSome_eq, ← l]
  exact h _ (I.tok _)
theorem n_notIn {Q : Value → Shared → Prop} (I : Inv X pins σ H s) (g : NGet X.prog X.w H a y o) (ry : RelV y u) (h : ∀ s', Inv X pins σ H s' → Q (.bool (!o.isSome)) s') :
    wpAny (model X.prog X.w) A (compareOp .NotIn u (.ref a)) Q E s := by
  obtain ⟨kvs, k, e, rfl, l⟩ := g
  obtain ⟨z, hd, vs, rel, dd⟩ := dn_rd I.hok e
  refine wpAny_notIn_of (nV_is ry) hd dd.mapOf ?_
  rw [← (rel.val k).isSome_eq, ← l]
  exact h _ (I.tok _)
theorem n_setItem {Q : Unit → Shared → Prop} {kvs : List (NKey × V)} {k : NKey} (I : Inv X pins σ H s) (e : H a = some (DN X.prog X.w a kvs)) (hl : kvs.length < sizeLine) (ry : RelV (nV k) u) (rv : RelV v r)
    (h : ∀ s', Inv X pins σ (upd H a (DN X.prog X.w a (putK kvs k v))) s' → Q () s') : wpAny (model X.prog X.w) A (setItem (.ref a) u r) Q E s := by
  obtain ⟨z, hd, vs, rel, dd⟩ := dn_rd I.hok (.inl e)
  have hz : vs.length ≤ sizeLine := by rw [← rel.length]; exact z
  have hl' : (putK kvs k v).length ≤ sizeLine := by have := length_putK kvs k v; omega
  refine wpAny_setItem_pairs (hsz := hz) (nV_is ry) dd fun h' dd' hs => h _ ?_
  have he : ∃ q, h'.get? a = some q := let ⟨q, _, _, hq, _⟩ := dd'; ⟨q, hq⟩
  exact d_write I (by rw [e]; exact True.intro) hs he (dn_new hl' hd (rel.put k rv) dd')
theorem n_dictSet {Q : Unit → Shared → Prop} {kvs : List (NKey × V)} {k : NKey} (I : Inv X pins σ H s) (e : H a = some (DN X.prog X.w a kvs)) (hl : kvs.length < sizeLine) (ry : RelV (nV k) u) (rv : RelV v r)
    (h : ∀ s', Inv X pins σ (upd H a (DN X.prog X.w a (putK kvs k v))) s' → Q () s') : wpAny (model X.prog X.w) A (dictSet a u r) Q E s := by
  obtain ⟨z, hd, vs, rel, dd⟩ := dn_rd I.hok (.inl e)
  have hz : vs.length ≤ sizeLine := by rw [← rel.length]; exact z
  have hl' : (putK kvs k v).length ≤ sizeLine := by have := length_putK kvs k v; omega
  refine wpAny_dictSet_pairs (hsz := hz) (nV_is ry) dd fun h' dd' hs => h _ ?_
  have he : ∃ q, h'.get? a = some q := let ⟨q, _, _, hq, _⟩ := dd'; ⟨q, hq⟩
  exact d_write I (by rw [e]; exact True.intro) hs he (dn_new hl' hd (rel.put k rv) dd')
theorem n_get2 {d : V} {Q : Value → Shared → Prop} (I : Inv X pins σ H s) (g : NGet X.prog X.w H a y o) (ry : RelV y u) (rd : RelV d r) (h : ∀ w' s', Inv X pins σ H s' → RelV (o.getD d) w' → Q w' s') :
    wpAny (model X.prog X.w) A (call (.builtin "dict.get") [.ref a, u, r]) Q E s := by
  obtain ⟨kvs, k, e, rfl, l⟩ := g
  obtain ⟨z, hd, vs, rel, dd⟩ := dn_rd I.hok e
  refine call_meetsIn PySem.F.slot_dict_get dd.typeIs PySem.F.entry_dict_get (PySem.F.args_dict_get_3 _ _ _) (meets_dict_get_default (noneKind X.prog X.w) a (nV_is ry) hd r) ⟨_, dd.mapOf, h _ _ (I.tok _) ?_⟩
  rw [l]
  exact (rel.val k).getD rd
end
/-- {} -/
def tNew (P : Program) (w : World) : TE := fun _ H Q => ∀ p, H p = none → Q (.ref p) (upd H p (DN P w p []))
/-- d[y], y in d, y not in d, d.get(y, z), d[y] = v -/
def tNGet (P : Program) (w : World) (td ty : TE) : TE := fun σ H Q => td σ H fun x H1 => ty σ H1 fun y H2 => ∃ a v, x = .ref a ∧ NGet P w H2 a y (some v) ∧ Q v H2
def tNIn (P : Program) (w : World) (ty td : TE) : TE := fun σ H Q => ty σ H fun y H1 => td σ H1 fun x H2 => ∃ a o, x = .ref a ∧ NGet P w H2 a y o ∧ Q (.bl o.isSome) H2
def tNNotIn (P : Program) (w : World) (ty td : TE) : TE := fun σ H Q => ty σ H fun y H1 => td σ H1 fun x H2 => ∃ a o, x = .ref a ∧ NGet P w H2 a y o ∧ Q (.bl (!o.isSome)) H2
def tNGet2 (P : Program) (w : World) (td ty tx : TE) : TE := fun σ H Q => td σ H fun x H1 => ∃ a, x = .ref a ∧ (∃ kvs, Rd H1 a (DN P w a kvs)) ∧ ty σ H1 fun y H2 => tx σ H2 fun z H3 => ∃ o, NGet P w H3 a y o ∧ Q (o.getD z) H3
def sNPut (P : Program) (w : World) (td ty tv : TE) : TS := fun D σ H => tv σ H fun v H1 => td σ H1 fun x H2 => ty σ H2 fun y H3 => ∃ a kvs k, x = .ref a ∧ y = nV k ∧ H3 a = some (DN P w a kvs) ∧ kvs.length < sizeLine ∧
  D.nx σ (upd H3 a (DN P w a (putK kvs k v)))
section
variable {X : Cx} {o i e f value : Expr} {pos pos' apos cpos : Pos} {td ty tv tx : TE}
theorem pe_new : PE X (.Dict [] [] pos) (tNew X.prog X.w) := ⟨fun pins s σ H Q I h =>
  wpAny_Dict_empty ⟨.ref s.heap.objs.size, _, I.laid (a := s.heap.objs.size) (o := DN X.prog X.w s.heap.objs.size []) (t' := s.toks) (fun _ _ q => Heap.get?_push_of_some _ q) (Nat.le_refl _)
    (dn_new (Nat.zero_le _) (beq_eq_false_iff_ne.mpr (Ne.symm (Nat.ne_of_lt I.big))) .nil (Heap.DictOf.new s.heap)), rfl, h _ (I.hok.fresh (Nat.le_refl _))⟩⟩
theorem pe_nget (ho : PE X o td) (hi : PE X i ty) (hs : NoSl i) : PE X (.Subscript o i pos) (tNGet X.prog X.w td ty) := by
  refine ⟨fun pins s σ H Q I h => ?_⟩
  refine subD_of PySem.F.slot_dict_getitem.lookup hs (thn (ho.run pins s σ H _ I h) fun u s1 ⟨x, H1, I1, rx, q1⟩ => thn (hi.run pins s1 σ H1 _ I1 q1) fun iv s2 ⟨y, H2, I2, ry, a, v, ex, g, q2⟩ => ?_)
  subst ex
  cases (show u = Value.ref a from rx)
  exact ⟨ng_type I2 g, n_getItem I2 g ry fun w' s3 I3 rw' => ⟨v, H2, I3, rw', q2⟩⟩
theorem pc_nin (hi : PE X i ty) (ho : PE X o td) : PC X .In i o (tNIn X.prog X.w ty td) := by
  refine ⟨fun pins s σ H Q I h => ?_⟩
  refine thn (hi.run pins s σ H _ I h) fun iv s1 ⟨y, H1, I1, ry, q1⟩ => thn (ho.run pins s1 σ H1 _ I1 q1) fun u s2 ⟨x, H2, I2, rx, a, ov, ex, g, q2⟩ => ?_
  subst ex
  cases (show u = Value.ref a from rx)
  exact n_in I2 g ry fun s3 I3 => ⟨.bl ov.isSome, H2, I3, rfl, q2⟩
theorem pc_nnotin (hi : PE X i ty) (ho : PE X o td) : PC X .NotIn i o (tNNotIn X.prog X.w ty td) := by
  refine ⟨fun pins s σ H Q I h => ?_⟩
  refine thn (hi.run pins s σ H _ I h) fun iv s1 ⟨y, H1, I1, ry, q1⟩ => thn (ho.run pins s1 σ H1 _ I1 q1) fun u s2 ⟨x, H2, I2, rx, a, ov, ex, g, q2⟩ => ?_
  subst ex
  cases (show u = Value.ref a from rx)
  exact n_notIn I2 g ry fun s3 I3 => ⟨.bl (!ov.isSome), H2, I3, rfl, q2⟩
theorem ps_nput (ho : PE X o td) (hi : PE X i ty) (hv : PE X value tv) (hs : swapsWith value (some (.Subscript o i pos')) pos.line X.env = pure false) :
    PS X (.Assign [.Subscript o i pos'] value pos) (sNPut X.prog X.w td ty tv) := by
  refine ⟨fun pins s σ H D I h => ?_⟩
  refine wpAny_Assign_Subscript (thn (hv.run pins s σ H _ I h) fun r s1 ⟨v, H1, I1, rv, q1⟩ => thn (ho.run pins s1 σ H1 _ I1 q1) fun u s2 ⟨x, H2, I2, rx, q2⟩ => thn (hi.run pins s2 σ H2 _ I2 q2) fun iv s3 ⟨y, H3, I3, ry, a, kvs, k, ex, ey, hd, hl, q3⟩ => ?_) hs
  subst ex ey
  cases (show u = Value.ref a from rx)
  exact n_setItem I3 hd hl ry rv fun s4 I4 => ⟨σ, _, I4, q3⟩
theorem dn_at {pins : List (Addr × Obj)} {σ : L2.St} {H : Hp} {s : Shared} {a : Addr} (I : Inv X pins σ H s) (d : ∃ kvs, Rd H a (DN X.prog X.w a kvs)) : s.TypeIs (.ref a) "dict" ∧ (∀ b, Value.ref a = .ref b → ∃ ob, s.heap.get? b = some ob ∧ ob.dict = none) := by
  obtain ⟨kvs, e⟩ := d
  obtain ⟨_, _, vs, _, dd⟩ := dn_rd I.hok e
  refine ⟨dd.typeIs, fun b q => ?_⟩
  cases q
  obtain ⟨ob, _, _, h1, h2, _⟩ := dd
  exact ⟨ob, h1, h2.2.1⟩
theorem pe_nget2 (ho : PE X o td) (he : PE X e ty) (hf : PE X f tx) (m : M2 X o "get" apos e f cpos) : PE X (.Call (.Attribute o "get" apos) [e, f] [] cpos) (tNGet2 X.prog X.w td ty tx) := by
  refine ⟨fun pins s σ H Q I h => ?_⟩
  refine wpAny_Call_method m.base m.few m.line PySem.F.plainAttrs_dict PySem.F.slot_dict_get PySem.F.type_dict_get (thn (ho.run pins s σ H _ I h) fun u s1 ⟨x, H1, I1, rx, a, ex, d, q1⟩ => ?_)
  subst ex
  cases (show u = Value.ref a from rx)
  obtain ⟨t1, t2⟩ := dn_at I1 d
  refine ⟨t1, t2, ?_⟩
  rw [m.trees]
  refine Calls.callWith_builtin rfl (Calls.evalArgs_plain (Calls.spliced_cons (thn (he.run pins s1 σ H1 _ I1 q1) fun iv s2 ⟨y, H2, I2, ry, q2⟩ =>
    Calls.spliced_cons (thn (hf.run pins s2 σ H2 _ I2 q2) fun fv s3 ⟨z, H3, I3, rz, ov, g, q3⟩ => Calls.spliced_nil ?_))))
  exact n_get2 I3 g ry rz fun w' s4 I4 rw' => ⟨_, H3, I4, rw', q3⟩
end
end Rj
set_option Elab.async false
set_option linter.all false
set_option maxRecDepth 100000
set_option maxHeartbeats 2000000
namespace Rj
open PySem PySem.Spec PyProof.Rows L2

/-! ### for k in d -/
theorem dn_frz {X : Cx} {pins : List (Addr × Obj)} {σ : L2.St} {H : Hp} {s : Shared} {d : Addr} {o : Obj} {kvs : List (NKey × V)} (I : Inv X pins σ H s) (h : H d = some (.frz o (DN X.prog X.w d kvs))) :
    (d == sysModules) = false ∧ s.heap.get? d = some o ∧ o.ExactDict ∧ ∃ (es : Array DictEntry) (ep : Nat) (vs : List (NKey × Value)), o.data = .dict es ep ∧ es.size = kvs.length ∧ KV kvs vs ∧ s.heap.DictAt (noneKind X.prog X.w) d vs ep := by
  obtain ⟨hd, ⟨z, hs, vs, kv, o', es, ep, ho, hx, hdt, r⟩, _⟩ := I.hok d _ h
  rw [hd] at ho
  cases ho
  refine ⟨hs, hd, hx, es, ep, vs, hdt, ?_, kv, o, es, hd, hx, hdt, r⟩
  have l1 := r.2.1.length
  have l2 : kvs.length = vs.length := Paired.length kv
  rw [Array.length_toList] at l1
  omega
def Itn (P : Program) (w : World) (d : Addr) (o : Obj) (kvs : List (NKey × V)) : It :=
  ⟨fun i H => H d = some (.frz o (DN P w d kvs)) ∧ i < kvs.length, fun i H x H' => H' = H ∧ ∃ k v, kvs[i]? = some (k, v) ∧ x = nV k, fun i H => H d = some (.frz o (DN P w d kvs)) ∧ kvs.length ≤ i⟩
theorem turn_nkeys {P : Program} {w : World} {K : PySem.W.Frag} {tg : Expr} {d : Addr} {o : Obj} {es : Array DictEntry} {ep : Nat} {kvs : List (NKey × V)} (it : Addr) (hod : o.data = .dict es ep) :
    Turn P w K tg (Itn P w d o kvs) [it] it (fun i h => h.IsKeyIter it d i kvs.length ep) where
  mem := by simp
  obj := fun i h st b hb => by
    cases List.mem_singleton.mp hb
    obtain ⟨oi, e, c, dd⟩ := st
    exact ⟨oi, e, fun v z => by rw [dd] at z; cases z⟩
  keep := fun i h h' st k => st.at fun oi e => k it (by simp) oi e
  item := by
    rintro X rfl rfl rfl hc i pins s σ H E I hf st ⟨hd, hi⟩
    obtain ⟨f0, f1, f2, f3, f4, f5⟩ := hf it (by simp)
    obtain ⟨hs, hgd, hx, es', ep', vs, hdt, hsz, kv, hm⟩ := dn_frz I hd
    obtain ⟨rfl, rfl⟩ := dict_ep hod hdt
    obtain ⟨⟨k, v⟩, hkv⟩ : ∃ p, kvs[i]? = some p := ⟨kvs[i], List.getElem?_eq_getElem hi⟩
    obtain ⟨u, hu, ru⟩ := kv_get kv hkv
    have hl : kvs.length = vs.length := Paired.length kv
    rw [hl] at st
    refine wpAny_pyNext_dict_item st hm hu fun key h' hkey st' sb => ?_
    have I1 : Inv X pins σ H { s with heap := h' } := I.turned (t' := s.toks) (fun b ob hb e => (sb.2 b hb).trans e) f0 f1 f3 f4 f5
    obtain ⟨oi, e, c, dd⟩ := id st'
    refine ⟨key, rfl, go_of (s := { s with heap := h' }) e c dd (by decide) ⟨nV k, H, I1, nV_rel hkey, ⟨rfl, k, v, hkv, rfl⟩, ?_, fun b hb => (hf b hb).1⟩⟩
    rw [hl]
    exact st'
  done := by
    rintro X rfl rfl rfl hc i pins s σ H E I hf st ⟨hd, hi⟩
    obtain ⟨f0, f1, f2, f3, f4, f5⟩ := hf it (by simp)
    obtain ⟨hs, hgd, hx, es', ep', vs, hdt, hsz, kv, hm⟩ := dn_frz I hd
    obtain ⟨rfl, rfl⟩ := dict_ep hod hdt
    exact next_key_end (I.ok.hd hc) st hgd hdt hsz hi fun h' eb => ⟨rfl, I.turned (t' := s.toks) (fun b ob hb e => eb b ob hb e) f0 f1 f3 f4 f5⟩
  self := fun A i s Q E st h => wpAny_pyIter_keyiter st h
def iNKeys (P : Program) (w : World) (td : TE) : TI := fun σ H R => td σ H fun x H1 => ∃ d o kvs, x = .ref d ∧ H1 d = some (.frz o (DN P w d kvs)) ∧ R (Itn P w d o kvs) H1
theorem pi_nkeys {X : Cx} {tg e : Expr} {td : TE} (he : PE X e td) : PI X tg e (iNKeys X.prog X.w td) := by
  refine ⟨fun pins s σ H R I h => ?_⟩
  refine thn (he.run pins s σ H _ I h) fun u s1 ⟨x, H1, I1, rx, d, o, kvs, ex, hd, q⟩ => ?_
  subst ex
  cases (show u = Value.ref d from rx)
  obtain ⟨hs, hgd, hx, es, ep, vs, hdt, hsz, kv, hm⟩ := dn_frz I1 hd
  refine iter_keys hs hgd hx hdt (pi_one (tk := s1.toks) I1 _ (turn_nkeys _ hdt) ⟨_, Heap.get?_push_size _ rfl, rfl, ?_⟩ q)
  rw [hsz] <;> rfl
theorem it_nkeys {P : Program} {w : World} {d : Addr} {o : Obj} {kvs : List (NKey × V)} {g : TG} {tb : TS} {D : Ends} {σ : L2.St} {H : Hp} (Pv : Nat → L2.St → Hp → Prop) (h0 : Pv 0 σ H) (hl : ∀ i σ H, i ≤ kvs.length → Pv i σ H → H d = some (.frz o (DN P w d kvs)))
    (hs : ∀ i k v σ H, kvs[i]? = some (k, v) → Pv i σ H → g (nV k) σ H fun σ2 H2 => tb { D with nx := Pv (i + 1), ct := Pv (i + 1), bk := D.nx } σ2 H2) (hd : ∀ σ H, Pv kvs.length σ H → D.nx σ H) :
    ∃ W : Nat → Nat → L2.St → Hp → Prop, (∃ m, W 0 m σ H) ∧ ∀ i m σ H, W i m σ H →
      ((Itn P w d o kvs).stop i H ∧ D.nx σ H) ∨ ((Itn P w d o kvs).go i H ∧ ∃ N : L2.St → Hp → Prop, (∀ σ' H', N σ' H' → ∃ m', m' < m ∧ W (i + 1) m' σ' H') ∧ ∀ x H', (Itn P w d o kvs).yld i H x H' → g x σ H' fun σ2 H2 => tb { D with nx := N, ct := N, bk := D.nx } σ2 H2) := by
  refine ⟨fun i m σ H => m = kvs.length - i ∧ i ≤ kvs.length ∧ Pv i σ H, ⟨_, rfl, Nat.zero_le _, h0⟩, ?_⟩
  rintro i m σ H ⟨rfl, hi, p⟩
  have q := hl i σ H hi p
  rcases Nat.lt_or_ge i kvs.length with hlt | hge
  · refine .inr ⟨⟨q, hlt⟩, Pv (i + 1), fun σ' H' p' => ⟨kvs.length - (i + 1), by omega, rfl, hlt, p'⟩, ?_⟩
    rintro x H' ⟨rfl, k, v, hk, rfl⟩
    exact hs i k v σ _ hk p
  · cases (show i = kvs.length by omega)
    exact .inl ⟨⟨q, hge⟩, hd σ H p⟩
/-- the same in a comprehension -/
theorem lc_nkeys {P : Program} {w : World} {d : Addr} {o : Obj} {kvs : List (NKey × V)} {g : TG} {tt : TT} {te : TE} {vs : List Nat} {σ : L2.St} {H1 : Hp} {D : Addr} {Qd : Hp → Prop} (Pv : Nat → Hp → Prop) (h0 : Pv 0 (upd H1 D (.lst [])))
    (hl : ∀ i H, i ≤ kvs.length → Pv i H → H d = some (.frz o (DN P w d kvs)))
    (hs : ∀ i k v H, kvs[i]? = some (k, v) → Pv i H → g (nV k) (wipe σ vs) H fun σ2 H2 => wipe σ2 vs = wipe σ vs ∧ tt σ2 H2 fun b H3 =>
      if b = true then te σ2 H3 fun y H4 => ∃ acc, H4 D = some (.lst acc) ∧ acc.length < sizeLine ∧ Pv (i + 1) (upd H4 D (.lst (acc ++ [y]))) else Pv (i + 1) H3) (hd : ∀ H, Pv kvs.length H → Qd H) :
    ∃ W : Nat → Nat → Hp → Prop, (∃ m, W 0 m (upd H1 D (.lst []))) ∧ ∀ i m H, W i m H →
      ((Itn P w d o kvs).stop i H ∧ Qd H) ∨ ((Itn P w d o kvs).go i H ∧ ∃ Nx : Hp → Prop, (∀ H', Nx H' → ∃ m', m' < m ∧ W (i + 1) m' H') ∧ ∀ x H', (Itn P w d o kvs).yld i H x H' → g x (wipe σ vs) H' fun σ2 H2 => wipe σ2 vs = wipe σ vs ∧ tt σ2 H2 fun b H3 =>
        if b = true then te σ2 H3 fun y H4 => ∃ acc, H4 D = some (.lst acc) ∧ acc.length < sizeLine ∧ Nx (upd H4 D (.lst (acc ++ [y]))) else Nx H3) := by
  refine ⟨fun i m H => m = kvs.length - i ∧ i ≤ kvs.length ∧ Pv i H, ⟨_, rfl, Nat.zero_le _, h0⟩, ?_⟩
  rintro i m H ⟨rfl, hi, p⟩
  have q := hl i H hi p
  rcases Nat.lt_or_ge i kvs.length with hlt | hge
  · refine .inr ⟨⟨q, hlt⟩, Pv (i + 1), fun H' p' => ⟨kvs.length - (i + 1), by omega, rfl, hlt, p'⟩, ?_⟩
    rintro x H' ⟨rfl, k, v, hk, rfl⟩
    exact hs i k v _ hk p
  · cases (show i = kvs.length by omega)
    exact .inl ⟨⟨q, hge⟩, hd H p⟩

/-! ### list(d.values()) -/
def tVals (P : Program) (w : World) (td : TE) : TE := fun σ H Q => td σ H fun x H1 => ∃ d kvs, x = .ref d ∧ H1 d = some (DN P w d kvs) ∧ ∀ q, H1 q = none → Q (.ref q) (upd H1 q (.lst (kvs.map (·.2))))
theorem pe_vals {X : Cx} {e : Expr} {td : TE} {p apos cpos pos : Pos} (hc : X.calm = true) (he : PE X e td) (hg : Gl X "list") (hm : X.mg "list" = none) (hv : bootBuiltins "list" = some (.type "list"))
    (hbase : attributeBase e "values" X.env (eval e X.env) = eval e X.env := by rfl) (hline : (apos.endLine == cpos.line) = true := by rfl)
    (hs : starEach [.Call (.Attribute e "values" apos) [] [] cpos] X.env = (false, eval (.Call (.Attribute e "values" apos) [] [] cpos) X.env) :: starEach [] X.env := by rfl) :
    PE X (.Call (.Name "list" p) [.Call (.Attribute e "values" apos) [] [] cpos] [] pos) (tVals X.prog X.w td) := by
  refine ⟨fun pins s σ H Q I hq => ?_⟩
  refine wpAny_Call_Name_kw (ld_blt I hg hm hv ?_)
  refine PyProof.Rows.callWith_type1 ?_ hs rfl
  rw [hs]
  show wpAny _ _ (spliced ((false, eval (.Call (.Attribute e "values" apos) [] [] cpos) X.env) :: backTo pos (starEach [] X.env))) _ _ s
  refine Calls.spliced_cons ?_
  refine wpAny_Call_method (T := "dict") (id := "dict.values") hbase rfl hline F.plainAttrs_dict F.slot_dict_values F.type_dict_values (thn (he.run pins s σ H _ I hq) fun u s1 ⟨x, H1, I1, rx, d, kvs, ex, hd, q⟩ => ?_)
  subst ex
  cases (show u = Value.ref d from rx)
  obtain ⟨hz, hs0, vs, kv, hdo⟩ := dn_rd I1.hok (.inl hd)
  obtain ⟨t1, t2⟩ := dn_at I1 ⟨kvs, .inl hd⟩
  obtain ⟨ep, hat⟩ := hdo.dictAt
  have lk : kvs.length = vs.length := Paired.length kv
  have I2 : Inv X pins σ H1 { s1 with heap := s1.heap.push { cls := .type "dict_values", data := .fields #[.ref d] } } := I1.kept (t' := s1.toks) fun b ob q => Heap.get?_push_of_some _ q
  refine ⟨t1, t2, ?_⟩
  show wpAny _ _ (callWith cpos (.builtin "dict.values") [.ref d] [] []) _ X.xe s1
  refine method_meetsIn F.slot_dict_values F.entry_dict_values rfl (PySem.evalArgs_none ⟨rfl, t1, F.args_dict_values_1 _, _, meets_dict_values (noneKind X.prog X.w) d hs0, ⟨vs, hdo⟩, ?_⟩)
  refine Calls.spliced_nil ?_
  refine PySem.W.kdl_call (PySem.W.kdl_values (knd := noneKind X.prog X.w) (kvs := vs) (ep := ep)) (I1.ok.hd hc) ⟨⟨_, Heap.get?_push_size _ rfl, rfl, rfl⟩, hat.push _⟩ (by omega) fun h' tk acc c hk hS hacc => ?_
  have hlt : (s1.heap.push { cls := .type "dict_values", data := .fields #[.ref d] }).objs.size = s1.heap.objs.size + 1 := Heap.size_push _ _
  refine ⟨.ref _, upd H1 (s1.heap.push { cls := .type "dict_values", data := .fields #[.ref d] }).objs.size (.lst (kvs.map (·.2))), I2.laid hk (Nat.le_refl _) ⟨by rw [List.length_map]; exact hz, acc.toList, c, ?_, by rw [Array.toArray_toList]; exact hS⟩, rfl, q _ (I2.hok.fresh (Nat.le_refl _))⟩
  have el : acc.toList.length = acc.size := by simp
  refine vals_of_at (by rw [List.length_map, el, hacc.1, lk]) fun j x w h1 h2 => ?_
  obtain ⟨k, hky⟩ := hacc.2 j w (by rw [← Array.getElem?_toList]; exact h2)
  rw [List.getElem?_map] at h1
  obtain ⟨kx, hkx, rfl⟩ := Option.map_eq_some_iff.mp h1
  obtain ⟨y, hy, ry⟩ := paired_get kv hkx
  rw [hky] at hy
  cases hy
  exact ry.2

/-! ### for i, c in enumerate(text) -/
def Ites (x : Str) : It := ⟨fun i _ => i < x.cps.size, fun i H v H' => ∃ T c, v = .ref T ∧ H T = none ∧ H' = upd H T (.tup [.int (i : Nat), .str ⟨#[c]⟩]) ∧ x.cps[i]? = some c, fun i _ => i = x.cps.size⟩
theorem turn_ens {P : Program} {w : World} {K : PySem.W.Frag} {elts : List Expr} {kk : Nat} {tpos : Pos} (e it : Addr) (hne : e ≠ it) (x : Str) (t : Tok) :
    Turn P w K (.Tuple elts kk tpos) (Ites x) [e, it] e (fun i h => (∃ old, IsEnum h e it ((i : Nat) : Int) old) ∧ h.IsStrIter it (strIterType x) x t i) where
  mem := by simp
  obj := fun i h st b hb => by
    obtain ⟨⟨old, he⟩, ⟨o, ho, hc, hd⟩⟩ := st
    have e' : b = e ∨ b = it := by simpa using hb
    rcases e' with rfl | rfl
    · exact ⟨_, he, fun v q => nomatch q⟩
    · exact ⟨o, ho, fun v q => by rw [hd] at q; cases q⟩
  keep := fun i h h' st k => let ⟨⟨old, he⟩, ⟨o, ho, r⟩⟩ := st; ⟨⟨old, k e (by simp) _ he⟩, ⟨o, k it (by simp) _ ho, r⟩⟩
  item := by
    rintro X rfl rfl rfl hc i pins s σ H E I hf st hg
    have W := WalksT.enumerateD (Draws.text (prog := X.prog) (w := X.w) (A := X.A.in1) (I.ok.hd hc) it x t) e hne (by simpa using hne) (by simp)
    refine W.item i s _ _ hg st fun T vals h' tk hP hT htup hmid hk => ?_
    obtain ⟨tk1, y, ⟨c, u, hcx, rfl⟩, rfl⟩ := hP
    refine ⟨_, rfl, W.go elts kk tpos i T { s with heap := h', toks := tk } _ _ hmid fun h'' st'' hk2 => ?_⟩
    have hT2 : h''.IsTuple T #[.int i tk1, .str ⟨#[c]⟩ u] := by
      obtain ⟨o, ho, r⟩ := htup
      exact ⟨o, hk2 T o (W.apart _ _ _ hmid) ho, r⟩
    have new : ObjOk X.prog X.w (upd H T (.tup [.int (i : Nat), .str ⟨#[c]⟩])) h'' T (.tup [.int (i : Nat), .str ⟨#[c]⟩]) :=
      ⟨by show 2 ≤ sizeLine; decide, [.int i tk1, .str ⟨#[c]⟩ u], .cons ⟨_, rfl⟩ (.cons ⟨_, rfl⟩ .nil), hT2⟩
    have hfi : ∀ b ∈ [e, it], FpOk X pins H b := hf
    have I1 : Inv X pins σ (upd H T (.tup [.int (i : Nat), .str ⟨#[c]⟩])) { s with heap := h'', toks := tk } :=
      I.turnedNew (ch := [e, it]) (fun b ob hb q => hk2 b ob hb (hk b ob hb q)) hfi hT new
    refine ⟨.ref T, _, I1, rfl, ⟨T, c, rfl, I.hok.fresh hT, rfl, hcx⟩, st'', fun b hb => ?_⟩
    have hb' : b < s.heap.objs.size := by
      obtain ⟨⟨old, he⟩, ⟨o, ho, _⟩⟩ := st
      have e' : b = e ∨ b = it := by simpa using hb
      rcases e' with rfl | rfl
      · exact Heap.lt_size he
      · exact Heap.lt_size ho
    rw [upd_ne (Nat.ne_of_lt (Nat.lt_of_lt_of_le hb' hT))]
    exact (hf b hb).1
  done := by
    rintro X rfl rfl rfl hc i pins s σ H E I hf st hg
    cases (show i = x.cps.size from hg)
    have W := WalksT.enumerateD (Draws.text (prog := X.prog) (w := X.w) (A := X.A.in1) (I.ok.hd hc) it x t) e hne (by simpa using hne) (by simp)
    exact W.done s _ _ st fun h' tk hk => ⟨rfl, I.turnedL (ch := [e, it]) hk hf⟩
  self := fun A i s Q E st h => let ⟨⟨_, he⟩, _⟩ := st; wpAny_pyIter_enum he h
def iEns (ta : TA) : TI := fun σ H R => ta σ H fun vs H1 => ∃ x, vs = [.str x] ∧ R (Ites x) H1
theorem pi_ens {X : Cx} {e : Expr} {ta : TA} {p pos tpos : Pos} {elts : List Expr} {kk : Nat} (hg : Gl X "enumerate") (hm : X.mg "enumerate" = none) (ha : PA X [e] ta) (hs : starEach [e] X.env = [(false, eval e X.env)] := by rfl) :
    PI X (.Tuple elts kk tpos) (.Call (.Name "enumerate" p) [e] [] pos) (iEns ta) := by
  refine ⟨fun pins s σ H R I h => ?_⟩
  refine Call_ (ld_blt I hg hm boot_enumerate (PyProof.Rows.callWith_type1 (thn (ha.run pos pins s σ H _ I h) fun us s1 ⟨vs, H1, I1, r1, x, ex, q⟩ => ?_) hs rfl))
  subst ex
  obtain ⟨u, rfl, t, rfl⟩ := vals1 r1
  refine call_enumerate_str fun h' he hit hsz hk => wpAny_pyIter_enum he ?_
  have I2 : Inv X pins σ H1 { s1 with heap := h' } := I1.kept (t' := s1.toks) hk
  refine ⟨s1.heap.objs.size + 1, [s1.heap.objs.size + 1, s1.heap.objs.size], _, _, H1, rfl, I2, turn_ens (s1.heap.objs.size + 1) s1.heap.objs.size (Nat.succ_ne_self _) x t, ⟨⟨.none, he⟩, hit⟩, fun b hb => ?_, q⟩
  have hle : s1.heap.objs.size ≤ b := by
    have e' : b = s1.heap.objs.size + 1 ∨ b = s1.heap.objs.size := by simpa using hb
    rcases e' with rfl | rfl
    · exact Nat.le_add_right _ _
    · exact Nat.le_refl _
  exact I1.fpOk hle (I1.hok.fresh hle)
theorem it_ens {x : Str} {g : TG} {tb : TS} {D : Ends} {σ : L2.St} {H : Hp} (Pv : Nat → L2.St → Hp → Prop) (h0 : Pv 0 σ H)
    (hs : ∀ i c T σ H, x.cps[i]? = some c → Pv i σ H → H T = none → g (.ref T) σ (upd H T (.tup [.int (i : Nat), .str ⟨#[c]⟩])) fun σ2 H2 => tb { D with nx := Pv (i + 1), ct := Pv (i + 1), bk := D.nx } σ2 H2) (hd : ∀ σ H, Pv x.cps.size σ H → D.nx σ H) :
    ∃ W : Nat → Nat → L2.St → Hp → Prop, (∃ m, W 0 m σ H) ∧ ∀ i m σ H, W i m σ H →
      ((Ites x).stop i H ∧ D.nx σ H) ∨ ((Ites x).go i H ∧ ∃ N : L2.St → Hp → Prop, (∀ σ' H', N σ' H' → ∃ m', m' < m ∧ W (i + 1) m' σ' H') ∧ ∀ v H', (Ites x).yld i H v H' → g v σ H' fun σ2 H2 => tb { D with nx := N, ct := N, bk := D.nx } σ2 H2) := by
  refine ⟨fun i m σ H => m = x.cps.size - i ∧ i ≤ x.cps.size ∧ Pv i σ H, ⟨_, rfl, Nat.zero_le _, h0⟩, ?_⟩
  rintro i m σ H ⟨rfl, hi, p⟩
  rcases Nat.lt_or_ge i x.cps.size with hlt | hge
  · refine .inr ⟨hlt, Pv (i + 1), fun σ' H' p' => ⟨x.cps.size - (i + 1), by omega, rfl, hlt, p'⟩, ?_⟩
    rintro v H' ⟨T, c, rfl, hT, rfl, hc⟩
    exact hs i c T σ H hc p hT
  · cases (show i = x.cps.size by omega)
    exact .inl ⟨rfl, hd σ H p⟩
/-- .. in a dict comprehension -/
theorem dc_ens {x : Str} {g : TG} {tt : TT} {tk tv : TE} {vs : List Nat} {σ : L2.St} {H1 : Hp} {D : Addr} {Qd : Hp → Prop} (Pv : Nat → Hp → Prop) (h0 : Pv 0 (upd H1 D (.dK [])))
    (hs : ∀ i c T H, x.cps[i]? = some c → Pv i H → H T = none → g (.ref T) (wipe σ vs) (upd H T (.tup [.int (i : Nat), .str ⟨#[c]⟩])) fun σ2 H2 => wipe σ2 vs = wipe σ vs ∧ tt σ2 H2 fun b H3 =>
      if b = true then tk σ2 H3 fun y H4 => tv σ2 H4 fun z H5 => ∃ kvs k, y = kV k ∧ H5 D = some (.dK kvs) ∧ kvs.length < sizeLine ∧ Pv (i + 1) (upd H5 D (.dK (putK kvs k z))) else Pv (i + 1) H3) (hd : ∀ H, Pv x.cps.size H → Qd H) :
    ∃ W : Nat → Nat → Hp → Prop, (∃ m, W 0 m (upd H1 D (.dK []))) ∧ ∀ i m H, W i m H →
      ((Ites x).stop i H ∧ Qd H) ∨ ((Ites x).go i H ∧ ∃ Nx : Hp → Prop, (∀ H', Nx H' → ∃ m', m' < m ∧ W (i + 1) m' H') ∧ ∀ v H', (Ites x).yld i H v H' → g v (wipe σ vs) H' fun σ2 H2 => wipe σ2 vs = wipe σ vs ∧ tt σ2 H2 fun b H3 =>
        if b = true then tk σ2 H3 fun y H4 => tv σ2 H4 fun z H5 => ∃ kvs k, y = kV k ∧ H5 D = some (.dK kvs) ∧ kvs.length < sizeLine ∧ Nx (upd H5 D (.dK (putK kvs k z))) else Nx H3) := by
  refine ⟨fun i m H => m = x.cps.size - i ∧ i ≤ x.cps.size ∧ Pv i H, ⟨_, rfl, Nat.zero_le _, h0⟩, ?_⟩
  rintro i m H ⟨rfl, hi, p⟩
  rcases Nat.lt_or_ge i x.cps.size with hlt | hge
  · refine .inr ⟨hlt, Pv (i + 1), fun H' p' => ⟨x.cps.size - (i + 1), by omega, rfl, hlt, p'⟩, ?_⟩
    rintro v H' ⟨T, c, rfl, hT, rfl, hc⟩
    exact hs i c T H hc p hT
  · cases (show i = x.cps.size by omega)
    exact .inl ⟨rfl, hd H p⟩

/-! ### {k: v for target in iter}, keys None, ints, texts -/
def tDn (P : Program) (w : World) (wi : TI) (g : TG) (tt : TT) (tk tv : TE) (vs : List Nat) : TE := fun σ H Q => wi σ H fun J H1 => ∀ D, H1 D = none → ∃ W : Nat → Nat → Hp → Prop, (∃ m, W 0 m (upd H1 D (DN P w D []))) ∧ ∀ i m H, W i m H →
  (J.stop i H ∧ Q (.ref D) H) ∨ (J.go i H ∧ ∃ Nx : Hp → Prop, (∀ H', Nx H' → ∃ m', m' < m ∧ W (i + 1) m' H') ∧ ∀ x H', J.yld i H x H' → g x (wipe σ vs) H' fun σ2 H2 => wipe σ2 vs = wipe σ vs ∧ tt σ2 H2 fun b H3 =>
    if b = true then tk σ2 H3 fun y H4 => tv σ2 H4 fun z H5 => ∃ kvs k, y = nV k ∧ H5 D = some (DN P w D kvs) ∧ kvs.length < sizeLine ∧ Nx (upd H5 D (DN P w D (putK kvs k z))) else Nx H3)
section
variable {X : Cx}
theorem dn_core {pins : List (Addr × Obj)} {s : Shared} {σ : L2.St} {H : Hp} {Q : VK} {kx vx tg iter : Expr} {ifs : List Expr} {scope : Scope} {own : List (Str × Nat)} {pos pos' : Pos} {wi : TI} {g : TG} {tt : TT} {tk tv : TE} {use : Option (Value → Sem Unit)} {Qf : Value → Shared → Prop}
    (hc : X.calm = true) (hN : X.N.Nodup) (I : Inv X pins σ H s) (hi : PI X tg iter wi) (ok : BlkOk X.N X.env.scope scope own)
    (hg : ∀ (s : Shared) (H : Hp) (C : Addr) (cl : List (Str × Addr)) (fp : List Addr), PG (X.blk s H scope (compEnvC scope cl C X.env) fp) tg g)
    (ht : ∀ (s : Shared) (H : Hp) (C : Addr) (cl : List (Str × Addr)) (fp : List Addr), PTs (X.blk s H scope (compEnvC scope cl C X.env) fp) ifs tt)
    (hk : ∀ (s : Shared) (H : Hp) (C : Addr) (cl : List (Str × Addr)) (fp : List Addr), PE (X.blk s H scope (compEnvC scope cl C X.env) fp) kx tk)
    (he : ∀ (s : Shared) (H : Hp) (C : Addr) (cl : List (Str × Addr)) (fp : List Addr), PE (X.blk s H scope (compEnvC scope cl C X.env) fp) vx tv) (hs : ∀ x, foldedSetIterable iter X.env x = pure x)
    (h : tDn X.prog X.w wi g tt tk tv (own.map (·.2)) σ H Q)
    (hRR : ∀ D C s' m H', Inv X pins σ H' s' → Q (.ref D) H' → s'.heap.Ns C m → FpOk X pins H' C → compPost (model X.prog X.w) X.A X.xe use Qf (.ref D) C (.ok .next) s') :
    wpAny (model X.prog X.w) X.A (comprehension (.DictComp kx vx [⟨tg, iter, ifs, 0⟩] scope pos) scope X.env pos' newDict false (eval iter X.env) use) Qf X.xe s := by
  have hfree : ∀ y ∈ scope.names, y.2 = .free → ∃ c, X.env.cells.lookup y.1 = some c := fun y hy e =>
    (ok.free y hy e).elim (fun k => I.ok.has _ (.inl k)) fun k => I.ok.has _ (.inr k)
  refine wpAny_comprehension_free (use := use) rfl hs (closure_ok hfree) ok.kind (fun y hy e => by rw [ok.uniq y hy, e])
    (thn (hi.run pins s σ H _ I h) fun xv s1 hx => thn hx fun itv s2 h2 => ?_)
  obtain ⟨it, fp, tn, J, H2, rfl, I2, T, st2, f2, q⟩ := h2
  refine wpAny_newObj_type (newEnv_comp ?_)
  generalize hD : s2.heap.objs.size = D
  have hDn : H2 D = none := I2.hok.fresh (Nat.le_of_eq hD)
  obtain ⟨W, ⟨m0, w0⟩, turn⟩ := q D hDn
  generalize hs3 : ({ s2 with heap := s2.heap.push { cls := .type "dict", data := .dict #[] } } : Shared) = s3
  have I3 : Inv X pins σ (upd H2 D (DN X.prog X.w D [])) s3 := by
    rw [← hs3]
    refine I2.laid (t' := s2.toks) (fun b o e => Heap.get?_push_of_some _ e) (Nat.le_of_eq hD) ?_
    rw [← hD]
    exact dn_new (Nat.zero_le _) (beq_eq_false_iff_ne.mpr (Ne.symm (Nat.ne_of_lt I2.big))) .nil (Heap.DictOf.new s2.heap)
  have h3 : s3.heap = s2.heap.push { cls := .type "dict", data := .dict #[] } := by rw [← hs3]
  have f3 : ∀ b ∈ fp, FpOk X pins (upd H2 D (DN X.prog X.w D [])) b ∧ b < s3.heap.objs.size := fun b hb => by
    obtain ⟨o, e, _⟩ := T.obj _ _ st2 b hb
    have hlt := Heap.lt_size e
    refine ⟨⟨?_, (f2 b hb).2⟩, by rw [h3, Heap.size_push]; exact Nat.lt_succ_of_lt hlt⟩
    rw [upd_ne (by rw [← hD]; exact Nat.ne_of_lt hlt)]
    exact (f2 b hb).1
  have st3 : tn 0 s3.heap := T.keep _ _ _ st2 fun b _ o e => by rw [h3]; exact Heap.get?_push_of_some _ e
  have I4 := block_start I3 ok hN f3
  have pg := hg s3 (upd H2 D (DN X.prog X.w D [])) s3.heap.objs.size (cellsFrom (s3.heap.objs.size + 1) scope.names (cloFrom X.env.cells scope.names [])) fp
  have pt := ht s3 (upd H2 D (DN X.prog X.w D [])) s3.heap.objs.size (cellsFrom (s3.heap.objs.size + 1) scope.names (cloFrom X.env.cells scope.names [])) fp
  have pk := hk s3 (upd H2 D (DN X.prog X.w D [])) s3.heap.objs.size (cellsFrom (s3.heap.objs.size + 1) scope.names (cloFrom X.env.cells scope.names [])) fp
  have pe := he s3 (upd H2 D (DN X.prog X.w D [])) s3.heap.objs.size (cellsFrom (s3.heap.objs.size + 1) scope.names (cloFrom X.env.cells scope.names [])) fp
  show codeAny _ _ (.compStart (.DictComp kx vx [⟨tg, iter, ifs, 0⟩] scope pos) 0 (.ref it) (.ref D) (compEnvC scope (cellsFrom (s3.heap.objs.size + 1) scope.names (cloFrom X.env.cells scope.names [])) s3.heap.objs.size X.env)) (compPost (model X.prog X.w) X.A X.xe use Qf (.ref D) s3.heap.objs.size) { s3 with heap := pushCells (s3.heap.push { cls := .type "dict", data := .dict #[] }) scope.names }
  generalize hce : compEnvC scope (cellsFrom (s3.heap.objs.size + 1) scope.names (cloFrom X.env.cells scope.names [])) s3.heap.objs.size X.env = ce at I4 pg pt pk pe ⊢
  have cL : ce.locals = s3.heap.objs.size := by subst hce; rfl
  generalize hH3 : upd H2 D (DN X.prog X.w D []) = H3 at I3 I4 pg pt pk pe w0 f3
  generalize hs4 : ({ s3 with heap := pushCells (s3.heap.push { cls := .type "dict", data := .dict #[] }) scope.names } : Shared) = s4 at I4 ⊢
  have st4 : tn 0 s4.heap := T.keep _ _ _ st3 fun b _ o e => by rw [← hs4]; exact pushCells_keeps _ _ _ _ (Heap.get?_push_of_some _ e)
  have stat : ∀ {σ' : L2.St} {H' : Hp} {s' : Shared}, Inv (X.blk s3 H3 scope ce fp) [] σ' H' s' → (∀ b ∈ fp, H' b = none) → ∀ b ∈ fp, FpOk (X.blk s3 H3 scope ce fp) [] H' b := fun {σ' H' s'} I' hn b hb =>
    ⟨hn b hb, (I'.ok.exf b hb).1, I'.ok.exfs b hb, .inl hb, fun x c e => (I'.ok.exf b hb).2 x c e, fun p hp => absurd (show p ∈ ([] : List (Addr × Obj)) ++ [] from hp) (by simp)⟩
  have loop : codeAny (model X.prog X.w) X.A (.compLoop (.DictComp kx vx [⟨tg, iter, ifs, 0⟩] scope pos) 0 (.ref it) (.ref D) ce) (compPost (model X.prog X.w) X.A X.xe use Qf (.ref D) s3.heap.objs.size) s4 := by
    refine compLoop_anyD (fun n s' => ∃ i H', Inv (X.blk s3 H3 scope ce fp) [] (wipe σ (own.map (·.2))) H' s' ∧ tn i s'.heap ∧ (∀ b ∈ fp, H' b = none) ∧ W i n H') ?_ m0 ⟨0, H3, I4, st4, fun b hb => (f3 b hb).1.1, w0⟩
    rintro n s5 ⟨i, H5, I5, st5, n5, w5⟩
    rcases turn i n H5 w5 with ⟨stop, qq⟩ | ⟨go, Nx, hNx, step⟩
    · refine thnF (T.done (X.blk s3 H3 scope ce fp) rfl rfl rfl hc i [] s5 _ H5 (fun _ _ => False) I5 (stat I5 n5) st5 stop) fun r s6 ⟨hr, I6⟩ => ?_
      subst hr
      have I7 : Inv X pins σ H5 s6 := I3.call' (ch := fp) I6.os I6.base I6.hok I6.bare fun b hb => ⟨(f3 b hb).1.2.2.2.1, (f3 b hb).1.2.1, (f3 b hb).1.2.2.2.2.1, (f3 b hb).1.2.2.2.2.2⟩
      have nC : H5 s3.heap.objs.size = none := by
        rw [← cL]
        exact I6.free
      obtain ⟨m, hn, _⟩ := I6.loc
      have hn : s6.heap.Ns ce.locals m := hn
      rw [cL] at hn
      exact hRR D s3.heap.objs.size s6 m H5 I7 qq hn (I3.fpOk (Nat.le_refl _) nC)
    · refine thnF (T.item (X.blk s3 H3 scope ce fp) rfl rfl rfl hc i [] s5 _ H5 (fun _ _ => False) I5 (stat I5 n5) st5 go) fun r s6 ⟨u, hr, h6⟩ => ?_
      subst hr
      refine thnF h6 fun _ s7 ⟨x, H7, I7, r7, y7, st7, n7⟩ => ?_
      refine thnF (pg.run _ s7 _ H7 x u _ (I7.pinned (stat I7 n7) (T.obj _ _ st7)) r7 (step x H7 y7)) fun _ s8 ⟨σ8, H8, I8, hw8, q8⟩ => ?_
      refine thnF (pt.run _ s8 σ8 H8 _ I8 q8) fun b s9 ⟨H9, I9, q9⟩ => ?_
      have fin : ∀ {s' : Shared} {H' : Hp}, Inv (X.blk s3 H3 scope ce fp) ([] ++ pinsAt fp s7.heap) σ8 H' s' → Nx H' → ∃ m, m < n ∧ ∃ i H', Inv (X.blk s3 H3 scope ce fp) [] (wipe σ (own.map (·.2))) H' s' ∧ tn i s'.heap ∧ (∀ b ∈ fp, H' b = none) ∧ W i m H' := fun {s' H'} I' nx => by
        obtain ⟨m', hm, w'⟩ := hNx H' nx
        have pin' : ∀ b ∈ fp, ∀ o, s7.heap.get? b = some o → s'.heap.get? b = some o ∧ H' b = none := fun b hb o e =>
          ⟨(I'.pin (b, o) (List.mem_append_right _ (List.mem_append_right _ (mem_pinsAt hb e)))).1, (I'.pin (b, o) (List.mem_append_right _ (List.mem_append_right _ (mem_pinsAt hb e)))).2.1⟩
        have hl : (wipe σ (own.map (·.2))).length = σ8.length := by rw [← hw8, wipe_length]
        refine ⟨m', hm, i + 1, H', (I'.unpinned (pins := [])).weak hl (fun j v e => (wipe_some (by rw [← hw8] at e; exact e)).1), T.keep _ _ _ st7 fun b hb o e => (pin' b hb o e).1, fun b hb => ?_, w'⟩
        obtain ⟨o, e, _⟩ := T.obj _ _ st7 b hb
        exact (pin' b hb o e).2
      cases b with
      | false =>
        simp only [Bool.false_eq_true, if_false] at q9 ⊢
        exact fin I9 q9
      | true =>
        simp only [if_true] at q9 ⊢
        refine thnF (pk.run _ s9 σ8 H9 _ I9 q9) fun z s10 ⟨yk, H10, I10, r10, q10⟩ => ?_
        refine thnF (pe.run _ s10 σ8 H10 _ I10 q10) fun z2 s11 ⟨yv, H11, I11, r11, kvs, k, ek, hD11, hz11, nx⟩ => ?_
        subst ek
        exact n_dictSet (X := X.blk s3 H3 scope ce fp) I11 hD11 hz11 r10 r11 fun s12 I12 => fin I12 nx
  exact codeAny_compStart_dict loop (T.self X.A 0 _ _ _ st4 loop)
theorem pe_dn {kx vx tg iter : Expr} {ifs : List Expr} {scope : Scope} {own : List (Str × Nat)} {pos : Pos} {wi : TI} {g : TG} {tt : TT} {tk tv : TE} (hc : X.calm = true) (hN : X.N.Nodup) (hi : PI X tg iter wi) (ok : BlkOk X.N X.env.scope scope own)
    (hg : ∀ (s : Shared) (H : Hp) (C : Addr) (cl : List (Str × Addr)) (fp : List Addr), PG (X.blk s H scope (compEnvC scope cl C X.env) fp) tg g)
    (ht : ∀ (s : Shared) (H : Hp) (C : Addr) (cl : List (Str × Addr)) (fp : List Addr), PTs (X.blk s H scope (compEnvC scope cl C X.env) fp) ifs tt)
    (hk : ∀ (s : Shared) (H : Hp) (C : Addr) (cl : List (Str × Addr)) (fp : List Addr), PE (X.blk s H scope (compEnvC scope cl C X.env) fp) kx tk)
    (he : ∀ (s : Shared) (H : Hp) (C : Addr) (cl : List (Str × Addr)) (fp : List Addr), PE (X.blk s H scope (compEnvC scope cl C X.env) fp) vx tv)
    (hs : ∀ x, foldedSetIterable iter X.env x = pure x := by intro _; rfl) :
    PE X (.DictComp kx vx [⟨tg, iter, ifs, 0⟩] scope pos) (tDn X.prog X.w wi g tt tk tv (own.map (·.2))) := by
  refine ⟨fun pins s σ H Q I h => ?_⟩
  rw [arm_eval_DictComp]
  refine dn_core hc hN I hi ok hg ht hk he hs h fun D C s' m H' I' q hn ⟨f0, f1, f2, f3, f4, f5⟩ => ⟨m, hn, fun h'' sb => ?_⟩
  exact ⟨.ref D, H', I'.turned (t' := s'.toks) (fun b o hb e => (sb.2 b hb).trans e) f0 f1 f3 f4 f5, rfl, q⟩
/-- over a list or a tuple that stays -/
theorem dn_walk {P : Program} {w : World} {J : It} {n : Nat} {G : Hp → Prop} {Y : Nat → Hp → V → Hp → Prop} (wk : Walk J n G Y) {g : TG} {tt : TT} {tk tv : TE} {vs : List Nat} {σ : L2.St} {H1 : Hp} {D : Addr} {Qd : Hp → Prop} (Pv : Nat → Hp → Prop)
    (h0 : Pv 0 (upd H1 D (DN P w D []))) (hG : ∀ i H, i ≤ n → Pv i H → G H)
    (hs : ∀ i x H H', i < n → Pv i H → Y i H x H' → g x (wipe σ vs) H' fun σ2 H2 => wipe σ2 vs = wipe σ vs ∧ tt σ2 H2 fun b H3 =>
      if b = true then tk σ2 H3 fun y H4 => tv σ2 H4 fun z H5 => ∃ kvs k, y = nV k ∧ H5 D = some (DN P w D kvs) ∧ kvs.length < sizeLine ∧ Pv (i + 1) (upd H5 D (DN P w D (putK kvs k z))) else Pv (i + 1) H3) (hd : ∀ H, Pv n H → Qd H) :
    ∃ W : Nat → Nat → Hp → Prop, (∃ m, W 0 m (upd H1 D (DN P w D []))) ∧ ∀ i m H, W i m H →
      (J.stop i H ∧ Qd H) ∨ (J.go i H ∧ ∃ Nx : Hp → Prop, (∀ H', Nx H' → ∃ m', m' < m ∧ W (i + 1) m' H') ∧ ∀ x H', J.yld i H x H' → g x (wipe σ vs) H' fun σ2 H2 => wipe σ2 vs = wipe σ vs ∧ tt σ2 H2 fun b H3 =>
        if b = true then tk σ2 H3 fun y H4 => tv σ2 H4 fun z H5 => ∃ kvs k, y = nV k ∧ H5 D = some (DN P w D kvs) ∧ kvs.length < sizeLine ∧ Nx (upd H5 D (DN P w D (putK kvs k z))) else Nx H3) := by
  refine ⟨fun i m H => m = n - i ∧ i ≤ n ∧ Pv i H, ⟨_, rfl, Nat.zero_le _, h0⟩, ?_⟩
  rintro i m H ⟨rfl, hi, p⟩
  have q := hG i H hi p
  rcases Nat.lt_or_ge i n with hlt | hge
  · exact .inr ⟨wk.goes i H hlt q, Pv (i + 1), fun H' p' => ⟨n - (i + 1), by omega, rfl, hlt, p'⟩, fun x H' y => hs i x H H' hlt p (wk.yields i H x H' hlt q y)⟩
  · cases (show i = n by omega)
    exact .inl ⟨wk.stops H q, hd H p⟩
end
end Rj
set_option Elab.async false
set_option linter.all false
set_option maxRecDepth 100000
set_option maxHeartbeats 2000000
namespace Rj
open PySem PySem.Spec PyProof.Rows L2

/-! ### x in range(n) -/
theorem range_has {prog : Program} {w : World} {A : Around} {E : Value → Shared → Prop} {s : Shared} {r : Addr} {lo hi x : Int} {t u v t' : Tok} {Q : Bool → Shared → Prop} (hr : s.heap.get? r = some { cls := .type "range", data := .fields #[.int lo t, .int hi u, .int 1 v] })
    (h : Q (decide (lo ≤ x ∧ x < hi)) s) : wpAny (model prog w) A (contains (.ref r) (.int x t')) Q E s := by
  have hT : s.TypeIs (.ref r) "range" := ⟨_, hr, rfl⟩
  unfold contains
  try with_reducible refine wpAny_holding ?_
  refine wpAny_bind (wpAny_specialOf hT F.slot_range_contains.lookup ?_)
  show wpAny _ _ (if (some (Value.builtin "range.__contains__") == some Value.none) = true then _ else _) _ E s
  rw [if_neg (by rw [beq_builtin_none]; exact Bool.false_ne_true)]
  refine wpAny_bind (wpAny_callSpecialUnlessNone?_slot (name := Str.ofString "__contains__") hT F.slot_range_contains
    (wpAny_call_entry F.slot_range_contains hT F.entry_range_contains ?_ (F.args_range_contains_2 _ _)))
  show wpAny _ _ (rule "range.contains.reckoned" >>= fun _ => Builtin.Range.rangeFields (.ref r) >>= fun p => _) _ _ s
  refine wpAny_bind (wpAny_rule (wpAny_bind (wpAny_rangeFields hr (wpAny_pure ⟨_, rfl, wpAny_truthy_bool ?_⟩))))
  have e : (Builtin.Range.rangePlace? lo hi 1 x).isSome = decide (lo ≤ x ∧ x < hi) := by
    unfold Builtin.Range.rangePlace?
    have h1 : (x - lo) % 1 = 0 := Int.emod_one _
    by_cases c : lo ≤ x ∧ x < hi
    · simp [c.1, c.2, h1]
    · have c' : ¬ (decide (lo ≤ x) && decide (x < hi)) = true := by simpa using c
      simp only [show (1 : Int) > 0 by decide, if_true, c', Bool.false_and, Bool.false_eq_true, if_false, Option.isSome_none]
      rw [decide_eq_false c]
  rw [e]
  exact h
theorem op_notin_rng {X : Cx} : OpR X (compareOp .NotIn) (fun x y H Q => ∃ i p lo hi, x = .int i ∧ y = .ref p ∧ H p = some (.rng lo hi) ∧ Q (.bl (!decide (lo ≤ i ∧ i < hi))) H) := by
  intro pins s σ H x y v u Q I rx ry h
  obtain ⟨i, p, lo, hi, rfl, rfl, hp, q⟩ := h
  obtain ⟨t, rfl⟩ := rx
  cases ry
  obtain ⟨a, b, c, ho⟩ := (show ObjOk X.prog X.w H s.heap p (.rng lo hi) from I.hok p _ hp)
  show wpAny _ _ (do return Value.bool (!(← contains (.ref p) (.int i t)))) _ _ s
  exact wpAny_bind (range_has ho (wpAny_pure ⟨.bl _, H, I, rfl, q⟩))

/-! ### sorted(xs), xs a list of tuples of ints, of any lengths -/
/-- v is a tuple of ints in the heap -/
def IsTupI (h : Heap) (v : Value) (ns : List Int) : Prop := ∃ a o its n, v = .ref a ∧ h.get? a = some o ∧ o.cls = .type "tuple" ∧ o.data = .seq its n ∧ IntsAre its.toList ns
theorem IsTupI.keeps {h h' : Heap} {v : Value} {ns : List Int} (p : IsTupI h v ns) (k : ∀ b o, h.get? b = some o → o.cls = .type "tuple" → h'.get? b = some o) : IsTupI h' v ns := by
  obtain ⟨a, o, its, n, e, ho, hc, hd⟩ := p
  exact ⟨a, o, its, n, e, k _ _ ho hc, hc, hd⟩
def lexI (fin : Bool) : List Int → List Int → Bool
  | x :: xs, y :: ys => if x = y then lexI fin xs ys else decide (x < y)
  | _, _ => fin
section
variable {prog : Program} {w : World} {A : Around} {E : Value → Shared → Prop} {s : Shared}
theorem kat_ints {b fin : Bool} {Q : Bool → Shared → Prop} : ∀ {us vs : List Value} {ns ms : List Int}, IntsAre us ns → IntsAre vs ms → ∀ i, Q (lexI fin ns ms) s → PySem.W.KatLex prog w A b fin Q (us.zip vs) i s
  | [], vs, _, _, .nil, _, i, h => by
    refine PySem.W.kat_nil ?_
    cases ‹List Int› <;> exact h
  | u :: us, [], n :: ns, _, _, .nil, i, h => PySem.W.kat_nil h
  | _ :: us, _ :: vs, n :: ns, m :: ms, .cons _ _ h1, .cons _ _ h2, i, h => by
    show PySem.W.KatLex prog w A b fin Q ((_, _) :: us.zip vs) i s
    refine PySem.W.kat_cons (wpAny_eqBool_int ?_)
    refine PySem.W.kat_go (fun e => PySem.W.kat_yes (kat_ints h1 h2 (i + 1) ?_)) (fun e => PySem.W.kat_no ?_)
    · have e' : n = m := by simpa using e
      rw [lexI, if_pos e'] at h
      exact h
    · have e' : ¬ n = m := by simpa using e
      rw [lexI, if_neg e'] at h
      exact TS.oneLt_ints _ h
theorem tupI_sortable {a : Addr} {vs : List Value} (h0 : 0 < vs.length) (hp : ∀ v ∈ vs, ∃ ns, IsTupI s.heap v ns ∧ ns ≠ []) (ha : ∀ o, s.heap.get? a = some o → o.cls ≠ .type "tuple") : Srt.Sortable prog w A s a vs := by
  intro h' keep
  have hp' : ∀ v ∈ vs, ∃ ns, IsTupI h' v ns ∧ ns ≠ [] := fun v hm => by
    obtain ⟨ns, p, q⟩ := hp v hm
    exact ⟨ns, p.keeps fun b o e c => keep b o (fun z => by subst z; exact ha o e c) e, q⟩
  have firsts : ∀ vs : List Value, (∀ v ∈ vs, ∃ ns, IsTupI h' v ns ∧ ns ≠ []) → ∃ fs : List Value, PySem.W.KatTups h' vs fs ∧ fs.length = vs.length ∧ ∀ f ∈ fs, ∃ x t, f = Value.int x t := by
    intro vs
    induction vs with
    | nil => exact fun _ => ⟨[], PySem.W.KatTups.nil, rfl, fun _ hm => by simp at hm⟩
    | cons v vs ih =>
      intro hp
      obtain ⟨fs, h1, h2, h3⟩ := ih fun v' hm => hp v' (List.mem_cons_of_mem _ hm)
      obtain ⟨ns, ⟨a, o, its, n, e, ho, hc, hd, hi⟩, hne⟩ := hp v (List.mem_cons_self ..)
      subst e
      obtain ⟨x, t, hx⟩ : ∃ x t, its[0]? = some (Value.int x t) := by
        rw [← Array.getElem?_toList]
        generalize its.toList = L at hi
        cases hi with
        | nil => exact absurd rfl hne
        | cons x t _ => exact ⟨x, t, rfl⟩
      refine ⟨.int x t :: fs, PySem.W.KatTups.cons ho hc hd hx h1, by rw [List.length_cons, List.length_cons, h2], fun f hm => ?_⟩
      rcases List.mem_cons.mp hm with rfl | hm
      · exact ⟨x, t, rfl⟩
      · exact h3 f hm
  obtain ⟨fs, h1, h2, h3⟩ := firsts vs hp'
  refine ⟨tuples' true, fun Q E hq => ?_, fun p q hm hm' => ?_⟩
  · refine PySem.W.kat_kind (T := .type "int") h1 (by omega) (fun f hm => ?_) (by rfl) ?_
    · obtain ⟨x, t, rfl⟩ := h3 f hm
      exact PySem.W.Looks.now
    · have e : (Value.type "int" != Value.type "tuple") = true := by first | decide +kernel | rfl | decide
      rw [e]
      exact hq
  · obtain ⟨ns, ⟨a1, o1, i1, n1, e1, ho1, hc1, hd1, hi1⟩, _⟩ := hp' _ hm
    obtain ⟨ms, ⟨a2, o2, i2, n2, e2, ho2, hc2, hd2, hi2⟩, _⟩ := hp' _ hm'
    rw [e1, e2]
    exact ⟨_, PySem.W.kat_lt ho1 hd1 ho2 hd2 (kat_ints hi1 hi2 0 ⟨rfl, rfl⟩)⟩
theorem sorted_tupI {l : Addr} {vs : List Value} {Q : Value → Shared → Prop} (hl : s.heap.IsList l vs.toArray) (hz : vs.length ≤ sizeLine) (hp : ∀ v ∈ vs, ∃ ns, IsTupI s.heap v ns ∧ (2 ≤ vs.length → ns ≠ []))
    (h : ∀ (h' : Heap) (d : Addr) (out : List Value), out.Perm vs → (∀ b o, s.heap.get? b = some o → h'.get? b = some o) → s.heap.objs.size ≤ d → (∃ n, h'.get? d = some (seqObj "list" out.toArray n)) → Q (.ref d) { s with heap := h' }) :
    wpAny (model prog w) A (call (.builtin "sorted") [.ref l]) Q E s := by
  refine Srt.sorted_any hl hz (fun h2 h₁ a ha k => ?_) fun out ho => ?_
  · refine tupI_sortable (s := { s with heap := h₁ }) (by omega) (fun v hm => ?_) fun o e hc => ?_
    · obtain ⟨ns, p, q⟩ := hp v hm
      exact ⟨ns, p.keeps fun b o e _ => (k b o e).2, q h2⟩
    · have e' : some o = some (seqObj "list" vs.toArray 0) := e.symm.trans ha
      cases e'
      exact absurd (show Value.type "list" = Value.type "tuple" from hc) (by decide +kernel)
  · obtain ⟨ep, he'⟩ := sortedAll_at s.heap vs out.toArray
    exact h _ _ out ho (fun b o => sortedAll_old) (Nat.le_succ _) ⟨ep, by simpa using he'⟩
end
/-- sorted(xs): the same tuples in some order -/
def rSortT (K : PySem.W.Frag) : List V → Hp → VK → Prop := fun vs H Q => ∃ a xs, vs = [V.ref a] ∧ SqL K H a xs ∧ (∀ x ∈ xs, ∃ t ns, x = V.ref t ∧ H t = some (.tup (ns.map V.int)) ∧ (2 ≤ xs.length → ns ≠ [])) ∧
  ∀ ys p, ys.Perm xs → H p = none → Q (.ref p) (upd H p (.lst ys))
theorem cr_sortTI {X : Cx} : CallR X (.builtin "sorted") (rSortT X.K) := by
  intro pins s σ H vs us Q I r h
  obtain ⟨a, xs, rfl, hs, hx, q⟩ := h
  obtain ⟨its, rv, hl, hz⟩ := I.list hs
  obtain ⟨u, rfl, ru⟩ := vals1 r
  cases (show u = Value.ref a from ru)
  obtain ⟨e1, e2⟩ := refs_back rv fun x m => by
    obtain ⟨t, _, e, _⟩ := hx x m
    exact ⟨t, e⟩
  refine sorted_tupI hl.isList (by rw [← rv.length]; exact hz) (fun v hv => ?_) fun h' d out hp k hd hn => ?_
  · obtain ⟨t, rfl⟩ := e2 v hv
    have hm : V.ref t ∈ xs := by rw [e1]; exact List.mem_map.mpr ⟨_, hv, rfl⟩
    obtain ⟨t', ns, e, ht, hne⟩ := hx _ hm
    cases e
    obtain ⟨_, its2, r2, o, ho, hc, n, hd⟩ := I.hok _ _ ht
    exact ⟨ns, ⟨t, o, its2.toArray, n, rfl, ho, hc, hd, by simpa using r2.ints⟩, by rw [← rv.length]; exact hne⟩
  · obtain ⟨n, hn⟩ := hn
    have h3 : ∀ u ∈ out, ∃ a, u = Value.ref a := fun u hu => e2 u (hp.mem_iff.mp hu)
    have hp2 : (out.map backV).Perm xs := by
      rw [e1]
      exact hp.map backV
    refine ⟨.ref d, upd H d (.lst (out.map backV)), I.laid (t' := s.toks) k hd ⟨by rw [hp2.length_eq]; exact hz, out, n, vals_back h3, hn⟩, rfl, q _ _ hp2 (I.hok.fresh hd)⟩
end Rj
set_option Elab.async false
set_option linter.all false
set_option maxRecDepth 100000
set_option maxHeartbeats 2000000
namespace Rj
open PySem PySem.Spec PyProof.Rows L2

/-! ### the text by places -/
def top (i : Nat) : Stmt := PySem.Challenge.pw_rankedjoins_k48_whole_begins_is_the_sum.main.body.getD i (.Pass ⟨0, 0, 0, 0⟩)
/-- a method of this class -/
abbrev inC (i j : Nat) : Stmt := inClass (top i) j

/-! ### what stands behind the top -/
abbrev FnQ (K : PySem.W.Frag) (x q : Str) (st : Stmt) (f : Addr) (fd : FuncData) : Prop := FunD K x q (defArgs st) (defBody st) (defScope st) [] [] f fd
def Df (K : PySem.W.Frag) (mg : Str → Option Value) (x : Str) (st : Stmt) : Prop := ∃ f fd, FnQ K x x st f fd ∧ mg x = some (.ref f)
def Md (K : PySem.W.Frag) (C : Addr) (x q : Str) (st : Stmt) : Prop := ∃ f fd, FnQ K x q st f fd ∧ Meth K C x f
def Ci (K : PySem.W.Frag) (mg : Str → Option Value) (C : Addr) (x q : Str) (st : Stmt) : Prop := ∃ f fd, FnQ K "__init__" q st f fd ∧ Mk K C f ∧ mg x = some (.ref C)
section
variable (P : Program) (w : World) (K : PySem.W.Frag) (mg : Str → Option Value) (base : Heap)
def Has (x : Str) (k : Nat) (ps : List Str) (sp : Sp) : Prop := ∃ f fd, FnOk P w K mg base CX0 k f fd ps sp ∧ mg x = some (.ref f) ∧ PySem.W.keepIn K (.ref f) = true ∧ Binds K fd ps []
def HasM (C : Addr) (x : Str) (k : Nat) (ps : List Str) (sp : Sp) : Prop := ∃ f fd, FnOk P w K mg base CX0 k f fd ps sp ∧ Meth K C x f ∧ Binds K fd ps []
def HasI (C : Addr) (x : Str) (k : Nat) (ps : List Str) (sp : Sp) : Prop := ∃ f fd, FnOk P w K mg base CX0 k f fd ps sp ∧ Mk K C f ∧ Binds K fd ps [] ∧ mg x = some (.ref C)
end
/-- a property whose getter is this def -/
def HasP (P : Program) (w : World) (K : PySem.W.Frag) (mg : Str → Option Value) (base : Heap) (C : Addr) (x : Str) (k : Nat) (ps : List Str) (sp : Sp) : Prop := ∃ p g fd, FnOk P w K mg base CX0 k g fd ps sp ∧ PropOf K C x p g ∧ Binds K fd ps []
def Pd (K : PySem.W.Frag) (C : Addr) (x q : Str) (st : Stmt) : Prop := ∃ p g fd, FnQ K x q st g fd ∧ PropOf K C x p g
/-- how the arguments bind -/
def Bnd (x q : Str) (st : Stmt) (ps : List Str) : Prop := ∀ (kV doc pm : Value) (an : Option Addr) (cdv ct : Value) (us : List Value), us.length = ps.length →
  bindArgs (PySem.W.fnOf x q (defArgs st) (defBody st) (defScope st) .none kV doc pm an cdv ct) ⟨us, []⟩ = pure (ps.zip us)
/-- a def's body keeps its promise -/
def Body (P : Program) (w : World) (K : PySem.W.Frag) (mg : Str → Option Value) (base : Heap) (q : Str) (st : Stmt) (k : Nat) (N : List Str) (sp : Sp) : Prop :=
  ∀ (f : Addr) (cdv : Value) (A : Around) (outer : List Env) (s : Shared) (H : Hp) (vs : List V) (Q : VK) (E : XK), Room k (A.deeper (envOfC q (defScope st) s.heap.objs.size f cdv)) → sp vs H Q E →
    ∃ t, PSs (cxOf CX0 P w K mg base N q (defScope st) f cdv A outer s H E).nox (defBody st) t ∧ t { nx := fun _ H' => Q .non H', rt := Q } (start N vs) H
section
variable {P : Program} {w : World} {K : PySem.W.Frag} {mg : Str → Option Value} {base : Heap}
theorem fn_body {x q : Str} {st : Stmt} {f : Addr} {fd : FuncData} {N ps : List Str} {k : Nat} {sp : Sp} (F : FnQ K x q st f fd) (S : FnScope N ps (defScope st)) (len : ∀ vs H Q E, sp vs H Q E → vs.length = ps.length)
    (b : Body P w K mg base q st k N sp) : FnOk P w K mg base CX0 (k + 1) f fd ps sp :=
  F.ok S len fun cdv A outer s H vs Q E hr h => by
    obtain ⟨t, h1, h2⟩ := b f cdv A outer s H vs Q E hr h
    exact ⟨t, h1.nox, h2⟩
theorem Df.ok {x : Str} {st : Stmt} {N ps : List Str} {k : Nat} {sp : Sp} (D : Df K mg x st) (S : FnScope N ps (defScope st)) (hb : Bnd x x st ps) (len : ∀ vs H Q E, sp vs H Q E → vs.length = ps.length)
    (b : Body P w K mg base x st k N sp) : Has P w K mg base x (k + 1) ps sp := by
  obtain ⟨f, fd, F, g⟩ := D
  exact ⟨f, fd, fn_body F S len b, g, F.kp, F.bindsN hb⟩
theorem Md.ok {C : Addr} {x q : Str} {st : Stmt} {N ps : List Str} {k : Nat} {sp : Sp} (D : Md K C x q st) (S : FnScope N ps (defScope st)) (hb : Bnd x q st ps) (len : ∀ vs H Q E, sp vs H Q E → vs.length = ps.length)
    (b : Body P w K mg base q st k N sp) : HasM P w K mg base C x (k + 1) ps sp := by
  obtain ⟨f, fd, F, g⟩ := D
  exact ⟨f, fd, fn_body F S len b, g, F.bindsN hb⟩
theorem Ci.ok {C : Addr} {x q : Str} {st : Stmt} {N ps : List Str} {k : Nat} {sp : Sp} (D : Ci K mg C x q st) (S : FnScope N ps (defScope st)) (hb : Bnd "__init__" q st ps) (len : ∀ vs H Q E, sp vs H Q E → vs.length = ps.length)
    (b : Body P w K mg base q st k N sp) : HasI P w K mg base C x (k + 1) ps sp := by
  obtain ⟨f, fd, F, g, m⟩ := D
  exact ⟨f, fd, fn_body F S len b, g, F.bindsN hb, m⟩
end
theorem Pd.ok {P : Program} {w : World} {K : PySem.W.Frag} {mg : Str → Option Value} {base : Heap} {C : Addr} {x q : Str} {st : Stmt} {N ps : List Str} {k : Nat} {sp : Sp} (D : Pd K C x q st) (S : FnScope N ps (defScope st)) (hb : Bnd x q st ps) (len : ∀ vs H Q E, sp vs H Q E → vs.length = ps.length)
    (b : Body P w K mg base q st k N sp) : HasP P w K mg base C x (k + 1) ps sp := by
  obtain ⟨p, g, fd, F, M⟩ := D
  exact ⟨p, g, fd, fn_body F S len b, M, F.bindsN hb⟩
/-! ### calls -/
section
variable {X : Cx} {k j : Nat} {C : Addr} {ps : List Str} {sp : Sp} {x m : Str} {p pos apos : Pos} {e o : Expr} {es : List Expr} {ta : TE} {t : TA}
theorem c_fn (F : Has X.prog X.w X.K X.mg X.base x k ps sp) (hr : Room j X.A) (hg : Gl X x) (ha : PA X (e :: es) t) (hj : k ≤ j := by decide) (hdb : (x == ("__debug__" : Str)) = false := by decide)
    (he : starEach (e :: es) X.env = (false, eval e X.env) :: starEach es X.env := by rfl) (hpl : (backTo pos (starEach es X.env)).any (·.1) = false := by rfl) :
    PE X (.Call (.Name x p) (e :: es) [] pos) (tCall sp [] E0 t) := by
  obtain ⟨f, fd, F, g, kp, b⟩ := F
  exact pe_call F (hr.mono hj) hg g kp b .nil pass0 ha hdb he hpl
theorem c_fn0 (F : Has X.prog X.w X.K X.mg X.base x k ps sp) (hr : Room j X.A) (hg : Gl X x) (hj : k ≤ j := by decide) (hdb : (x == ("__debug__" : Str)) = false := by decide) : PE X (.Call (.Name x p) [] [] pos) (tCall sp [] E0 tNil) := by
  obtain ⟨f, fd, F, g, kp, b⟩ := F
  exact pe_call0 F (hr.mono hj) hg g kp b .nil pass0 hdb
theorem c_mk (F : HasI X.prog X.w X.K X.mg X.base C x k ps sp) (hr : Room j X.A) (hg : Gl X x) (ha : PA X (e :: es) t) (hj : k + 1 ≤ j := by decide) (hdb : (x == ("__debug__" : Str)) = false := by decide)
    (he : starEach (e :: es) X.env = (false, eval e X.env) :: starEach es X.env := by rfl) (hpl : (backTo pos (starEach es X.env)).any (·.1) = false := by rfl) :
    PE X (.Call (.Name x p) (e :: es) [] pos) (tMake C sp [] E0 t) := by
  obtain ⟨f, fd, F, M, b, g⟩ := F
  exact pe_make M F (hr.mono hj) hg g b .nil pass0 ha hdb he hpl
theorem c_me {pl : Sem Bool} (ho : PE X o ta) (c : Cls X.K C) (F : HasM X.prog X.w X.K X.mg X.base C m k ps sp) (hr : Room j X.A) (ha : PA X (e :: es) t) (hj : k ≤ j := by decide)
    (hst : starEach (e :: es) X.env = (false, eval e X.env) :: starEach es X.env := by rfl) (hpl : (backTo pos (starEach es X.env)).any (·.1) = false := by rfl)
    (ht : eval (.Call (.Attribute o m apos) (e :: es) [] pos) X.env = (do
      let ov ← eval o X.env
      standAt apos.atName
      let (f, first) ← holding [ov] (getMethod ov m pl)
      callWith pos f first (backTo pos (starEach (e :: es) X.env)) (backToKw pos (keywordEach [] X.env))) := by rfl) :
    PE X (.Call (.Attribute o m apos) (e :: es) [] pos) (tMeth C m sp [] E0 ta t) := by
  obtain ⟨f, fd, F, M, b⟩ := F
  exact pe_meth ho c M F (hr.mono hj) b .nil pass0 ha hst hpl ht
theorem c_pr (ho : PE X o ta) (c : Cls X.K C) (F : HasP X.prog X.w X.K X.mg X.base C m k ps sp) (hr : Room j X.A) (hj : k + 1 ≤ j := by decide) (hab : attributeBase o m X.env (eval o X.env) = eval o X.env := by rfl) :
    PE X (.Attribute o m pos) (tProp C sp [] E0 ta) := by
  obtain ⟨p, g, fd, F, M, b⟩ := F
  exact pe_prop ho c M F (hr.mono hj) b .nil pass0 hab
/-- isinstance(an int, int | bool) -/
theorem cr_isi {X : Cx} : CallR X (.builtin "isinstance") (fun xs H Q => ∃ i c b, xs = [.int i, .ty c] ∧ PySem.W.kitOne X.K (.type "int") (.type c) = some b ∧ Q (.bl b) H) := by
  intro pins s σ H xs us Q I r h
  obtain ⟨i, c, b, rfl, hk, q⟩ := h
  obtain ⟨u, v, rfl, ru, rv⟩ := vals2 r
  cases (show v = Value.type c from rv)
  exact isinst_ok I ru (.int i) hk fun tk => ⟨.bl b, H, I.tok _, rfl, q⟩
end

/-! ### heaps -/
theorem upd_keep {H : Hp} {p b : Addr} {o u : HO} (h : H b = some o) (np : H p = none) : upd H p u b = some o := by rw [upd_ne (ne_of_none h np)]; exact h
theorem snew {H : Hp} {p : Addr} {o : HO} (np : H p = none) : Same H (upd H p o) := fun b u e => upd_keep e np
theorem snw {H H' : Hp} {p : Addr} {o : HO} (s : Same H H') (np : H' p = none) : Same H (upd H' p o) := s.trans (snew np)
/-- what H does not know may change -/
theorem sch {H H' : Hp} {p : Addr} {o : HO} (s : Same H H') (np : H p = none) : Same H (upd H' p o) := fun b u e => by rw [upd_ne (ne_of_none e np)]; exact s b u e
theorem stu {K : PySem.W.Frag} {H H' : Hp} {a : Addr} {xs : List V} (e : Same H H') (h : SqT K H a xs) : SqT K H' a xs := by
  rcases h with (h | ⟨o, h⟩) | h
  · exact .inl (.inl (e _ _ h))
  · exact .inl (.inr ⟨o, e _ _ h⟩)
  · exact .inr h
theorem paired_mono {α β : Type} {F G : α → β → Prop} {xs : List α} {ys : List β} (h : Paired F xs ys) (f : ∀ a b, F a b → G a b) : Paired G xs ys := Paired.mapP h f
/-- a natural number as a value -/
abbrev iv (n : Nat) : V := .int (n : Int)
/-- the built-in names, the constants -/
structure Bi (K : PySem.W.Frag) (mg : Str → Option Value) : Prop where
  len : mg "len" = none
  range : mg "range" = none
  isinstance : mg "isinstance" = none
  int : mg "int" = none
  bool : mg "bool" = none
  tuple : mg "tuple" = none
  list : mg "list" = none
  enumerate : mg "enumerate" = none
  abs : mg "abs" = none
  sum : mg "sum" = none
  max : mg "max" = none
  sorted : mg "sorted" = none
  MOST_LETTERS : ∃ t, mg "MOST_LETTERS" = some (.int 30 t)
  LONGEST_PIECE : ∃ t, mg "LONGEST_PIECE" = some (.int 40 t)
theorem c_gi {X : Cx} {x : Str} {i : Int} {pos : Pos} (hg : Gl X x) (h : ∃ t, X.mg x = some (.int i t)) (hd : (x == ("__debug__" : Str)) = false := by decide) : PE X (.Name x pos) (tC (.int i)) := by
  obtain ⟨t, h⟩ := h
  exact pe_glob hg h ⟨t, rfl⟩ hd
theorem at_g {α : Type} {xs : List α} {z : Int} {j : Nat} {v : α} (e : z = (j : Int)) (h : xs[j]? = some v) : atI xs z = some v := by
  rw [e]
  exact atI_nat h
/-- a text of these signs -/
abbrev tv (L : List Nat) : V := .str ⟨L.toArray⟩
end Rj
set_option Elab.async false
set_option linter.all false
set_option maxRecDepth 100000
set_option maxHeartbeats 2000000
namespace Rj
open PySem PySem.Spec PyProof.Rows L2
/-! ### == of tuples, lists of ints -/
theorem lay_ints : ∀ ns : List Int, PyData.canLayAll0 (ns.map PyData.int) = true
  | [] => by simp [PyData.canLayAll0]
  | n :: ns => by simp [PyData.canLayAll0, PyData.canLay0, lay_ints ns]
theorem dep_ints : ∀ ns : List Int, PyData.depthAll (ns.map PyData.int) ≤ 1
  | [] => by simp [PyData.depthAll]
  | n :: ns => by
    have := dep_ints ns
    simp [PyData.depthAll, PyData.depth]; omega
theorem eqv_ints : ∀ ns ms : List Int, PyData.eqvAll (ns.map PyData.int) (ms.map PyData.int) = decide (ns = ms)
  | [], [] => by simp [PyData.eqvAll]
  | [], m :: ms => by simp [PyData.eqvAll]
  | n :: ns, [] => by simp [PyData.eqvAll]
  | n :: ns, m :: ms => by
    simp only [List.map_cons, PyData.eqvAll, PyData.eqv, eqv_ints ns ms]
    rw [Bool.eq_iff_iff]; simp
theorem dp_ints {K : PySem.W.Frag} {H : Hp} : ∀ ns : List Int, DpAll K H (ns.map V.int) (ns.map PyData.int)
  | [] => .nil
  | n :: ns => .cons (.int n) (dp_ints ns)
def rEqT (K : PySem.W.Frag) : R2 := fun x y H Q => ∃ (a b : Addr) (ns ms : List Int), x = .ref a ∧ y = .ref b ∧ SqT K H a (ns.map V.int) ∧ SqT K H b (ms.map V.int) ∧ Q (.bl (decide (ns = ms))) H
theorem op_eqT {X : Cx} (hu : X.A.units + 64 < cLine) : OpR X (compareOp .Eq) (rEqT X.K) := by
  intro pins s σ H x y v u Q I rx ry h
  obtain ⟨a, b, ns, ms, rfl, rfl, ha, hb, q⟩ := h
  have sh : ∀ ns : List Int, SeqAt.shaped (.tuple (ns.map PyData.int)) = true := fun ns => by
    have := dep_ints ns
    unfold SeqAt.shaped
    rw [Bool.and_eq_true]
    refine ⟨by simp [PyData.canLay0, lay_ints], decide_eq_true ?_⟩
    simp only [PyData.depth]
    omega
  refine op_eqD hu pins s σ H _ _ v u Q I rx ry ⟨_, _, .tup ha (dp_ints ns), .tup hb (dp_ints ms), sh ns, sh ms, ?_⟩
  show Q (.bl (PyData.eqvAll _ _)) H
  rw [eqv_ints]
  exact q
def rEqL (K : PySem.W.Frag) : R2 := fun x y H Q => ∃ (a b : Addr) (ns ms : List Int), x = .ref a ∧ y = .ref b ∧ SqL K H a (ns.map V.int) ∧ SqL K H b (ms.map V.int) ∧ Q (.bl (decide (ns = ms))) H
theorem op_eqL {X : Cx} (hu : X.A.units + 64 < cLine) : OpR X (compareOp .Eq) (rEqL X.K) := by
  intro pins s σ H x y v u Q I rx ry h
  obtain ⟨a, b, ns, ms, rfl, rfl, ha, hb, q⟩ := h
  have sh : ∀ ns : List Int, SeqAt.shaped (.list (ns.map PyData.int)) = true := fun ns => by
    have := dep_ints ns
    unfold SeqAt.shaped
    rw [Bool.and_eq_true]
    refine ⟨by simp [PyData.canLay0, lay_ints], decide_eq_true ?_⟩
    simp only [PyData.depth]
    omega
  refine op_eqD hu pins s σ H _ _ v u Q I rx ry ⟨_, _, .lst ha (dp_ints ns), .lst hb (dp_ints ms), sh ns, sh ms, ?_⟩
  show Q (.bl (PyData.eqvAll _ _)) H
  rw [eqv_ints]
  exact q
/-! ### list(text) -/
theorem cr_list_str {X : Cx} (hc : X.calm = true) : CallR X (.type "list") (fun xs H Q => ∃ L : List Nat, xs = [tv L] ∧ L.length ≤ 1000 ∧ ∀ p, H p = none → Q (.ref p) (upd H p (.lst (L.map fun c => tv [c])))) := by
  intro pins s σ H xs us Q I r h
  obtain ⟨L, rfl, hl, q⟩ := h
  obtain ⟨u, rfl, t, rfl⟩ := vals1 r
  have hz : (⟨L.toArray⟩ : Str).cps.size = L.length := by simp
  refine PySem.call_list_str (I.ok.hd hc) ⟨L.toArray⟩ t (fun h' tk acc c hk hS hacc => ?_) (by rw [hz]; exact Nat.le_trans hl (by decide))
  refine ⟨.ref _, upd H s.heap.objs.size (.lst (L.map fun c => tv [c])), I.laid hk (Nat.le_refl _) ⟨by rw [List.length_map]; exact Nat.le_trans hl (by decide), acc.toList, c, ?_, by rw [Array.toArray_toList]; exact hS⟩, rfl, q _ (I.hok.fresh (Nat.le_refl _))⟩
  have el : acc.toList.length = acc.size := by simp
  refine vals_of_at (by rw [List.length_map, el, hacc.1, hz]) fun j x w h1 h2 => ?_
  obtain ⟨c, u, hc', rfl⟩ := hacc.2 j w (by rw [← Array.getElem?_toList]; exact h2)
  have hc2 : L[j]? = some c := by simpa using hc'
  rw [List.getElem?_map, hc2] at h1
  cases h1
  exact ⟨u, rfl⟩
/-! ### rows of pieces -/
abbrev ivs (R : List Nat) : List V := R.map iv
theorem ivs_int (R : List Nat) : ivs R = (R.map fun n : Nat => (n : Int)).map V.int := by simp [ivs, iv, List.map_map, Function.comp_def]
theorem ivs_inj {R S : List Nat} : ((R.map fun n : Nat => (n : Int)) = S.map fun n : Nat => (n : Int)) ↔ R = S := by
  constructor
  · intro h
    have : ∀ (R S : List Nat), (R.map fun n : Nat => (n : Int)) = S.map (fun n : Nat => (n : Int)) → R = S := by
      intro R
      induction R with
      | nil => intro S h; cases S with
        | nil => rfl
        | cons => simp at h
      | cons a R ih => intro S h; cases S with
        | nil => simp at h
        | cons b S =>
          simp only [List.map_cons] at h
          injection h with h1 h2
          rw [ih S h2, Int.ofNat.inj h1]
    exact this R S h
  · rintro rfl; rfl
theorem ivs_get {R : List Nat} {i : Nat} (h : i < R.length) : (ivs R)[i]? = some (iv R[i]) := by simp [ivs, h]
/-! ### the ranks -/
def rkF : List (Nat × Nat) → Nat → Nat × Nat → Option Nat
  | [], _, _ => none
  | p :: ps, i, q => if p = q then some i else rkF ps (i + 1) q
abbrev kp (p : Nat × Nat) : List Key := [.inl (p.1 : Int), .inl (p.2 : Int)]
def rkv : List (Nat × Nat) → Nat → List (List Key × V)
  | [], _ => []
  | p :: ps, i => (kp p, iv i) :: rkv ps (i + 1)
theorem kp_inj {p q : Nat × Nat} (h : kp p = kp q) : p = q := by
  obtain ⟨a, b⟩ := p
  obtain ⟨c, d⟩ := q
  simp only [kp, List.cons.injEq, Sum.inl.injEq, and_true] at h
  exact Prod.ext (Int.ofNat.inj h.1) (Int.ofNat.inj h.2)
theorem rkv_val : ∀ (ps : List (Nat × Nat)) (i : Nat) (q : Nat × Nat), valV (rkv ps i) (kp q) = (rkF ps i q).map iv
  | [], _, _ => rfl
  | p :: ps, i, q => by
    by_cases h : p = q
    · rw [rkF, if_pos h]
      exact valV_pos (p := (kp p, iv i)) (by rw [h])
    · rw [rkF, if_neg h, ← rkv_val ps (i + 1) q]
      exact valV_neg (p := (kp p, iv i)) fun e => h (kp_inj e)
theorem rkF_some : ∀ {ps : List (Nat × Nat)} {i r : Nat} {q : Nat × Nat}, rkF ps i q = some r → i ≤ r ∧ ps[r - i]? = some q
  | [], _, _, _, h => by cases h
  | p :: ps, i, r, q, h => by
    rw [rkF] at h
    split at h
    · rename_i e
      cases h
      exact ⟨Nat.le_refl _, by simp [e]⟩
    · obtain ⟨h1, h2⟩ := rkF_some h
      refine ⟨by omega, ?_⟩
      have : r - i = (r - (i + 1)) + 1 := by omega
      rw [this]; exact h2
theorem rkF_none : ∀ {ps : List (Nat × Nat)} {i : Nat} {q : Nat × Nat}, rkF ps i q = none → q ∉ ps
  | [], _, _, _ => by simp
  | p :: ps, i, q, h => by
    rw [rkF] at h
    split at h
    · cases h
    · rename_i e
      intro m
      rcases List.mem_cons.mp m with z | z
      · exact e z.symm
      · exact rkF_none h z
theorem rkF_of : ∀ {ps : List (Nat × Nat)} {i r : Nat} {q : Nat × Nat}, ps.Nodup → ps[r]? = some q → rkF ps i q = some (i + r)
  | [], _, _, _, _, h => by simp at h
  | p :: ps, i, 0, q, hn, h => by
    have e : p = q := by simpa using h
    rw [rkF, if_pos e]; rfl
  | p :: ps, i, r + 1, q, hn, h => by
    rw [List.nodup_cons] at hn
    have h' : ps[r]? = some q := by simpa using h
    have e : ¬ p = q := fun e => hn.1 (e ▸ List.mem_of_getElem? h')
    rw [rkF, if_neg e, rkF_of hn.2 h']
    congr 1; omega
theorem rkv_app : ∀ (ps : List (Nat × Nat)) (i : Nat) (p : Nat × Nat), rkv (ps ++ [p]) i = rkv ps i ++ [(kp p, iv (i + ps.length))]
  | [], i, p => rfl
  | a :: ps, i, p => by
    show (kp a, iv i) :: rkv (ps ++ [p]) (i + 1) = (kp a, iv i) :: (rkv ps (i + 1) ++ [(kp p, iv (i + (ps.length + 1)))])
    rw [rkv_app ps (i + 1) p, show i + 1 + ps.length = i + (ps.length + 1) by omega]
theorem rkv_len : ∀ (ps : List (Nat × Nat)) (i : Nat), (rkv ps i).length = ps.length
  | [], _ => rfl
  | _ :: ps, i => congrArg (· + 1) (rkv_len ps (i + 1))
theorem rkF_new {ps : List (Nat × Nat)} {i : Nat} {q : Nat × Nat} (h : q ∉ ps) : rkF ps i q = none := by
  cases e : rkF ps i q with
  | none => rfl
  | some r => exact absurd (List.mem_of_getElem? (rkF_some e).2) h
theorem rkv_put {ps : List (Nat × Nat)} {p : Nat × Nat} (h : p ∉ ps) : putK (rkv ps 0) (kp p) (iv ps.length) = rkv (ps ++ [p]) 0 := by
  rw [putK_new _ (by rw [rkv_val, rkF_new h]; rfl), rkv_app, Nat.zero_add]
end Rj
set_option Elab.async false
set_option linter.all false
set_option maxRecDepth 100000
set_option maxHeartbeats 2000000
namespace Rj
open PySem PySem.Spec PyProof.Rows L2
section
variable {P : Program} {w : World} {K : PySem.W.Frag} {mg : Str → Option Value} {base : Heap}
abbrev st_is_between : Stmt := top 12
theorem sc_is_between : FnScope ["value", "least", "most"] ["value", "least", "most"] (defScope st_is_between) := ⟨rfl, rfl, rfl, by decide +kernel, rfl, by decide +kernel, by decide +kernel⟩
theorem bd_is_between : Bnd "is_between" "is_between" st_is_between ["value", "least", "most"] := fun _ _ _ _ _ _ us hl => match us, hl with | [_, _, _], _ => rfl
-- 0:value 1:least 2:most
def sp_is_between : Sp := fun vs H Q _ => ∃ v a b : Int, vs = [.int v, .int a, .int b] ∧ Q (.bl (decide (a ≤ v) && decide (v ≤ b))) H
theorem body_is_between (T : Bi K mg) : Body P w K mg base "is_between" st_is_between 0 ["value", "least", "most"] sp_is_between := by
  have nd := sc_is_between.nd
  intro f cdv A outer s H vs Q E hr h
  obtain ⟨v, a, b, rfl, k⟩ := h
  refine ⟨_, (pss_one (ps_ret (pe_and (pe_callB cr_isi (by rfl) T.isinstance (by decide +kernel) (pa_cons (pv 0) (pa_cons (pe_bltn (v := .ty "int") (by rfl) T.int (by decide +kernel) rfl) pa_nil))) (pe_and (pe_not (pe_callB cr_isi (by rfl) T.isinstance (by decide +kernel) (pa_cons (pv 0) (pa_cons (pe_bltn (v := .ty "bool") (by rfl) T.bool (by decide +kernel) rfl) pa_nil)))) (pe_one (pe_chain op_le op_le (pv 1) (pv 0) (pv 2))))))), ?_⟩

  refine ⟨_, rfl, _, _, _, rfl, kit_ty (by decide +kernel), true, rfl, iteT ?_⟩
  refine ⟨_, rfl, _, _, _, rfl, kit_ty (by decide +kernel), false, rfl, true, rfl, iteT ?_⟩
  refine ⟨_, rfl, _, rfl, _, _, rfl, rfl, _, rfl, ite2 (fun c => ?_) fun c => ?_⟩
  · refine ⟨_, rfl, _, _, rfl, rfl, ?_⟩
    rw [c] at k
    exact k
  · have c' : decide (a ≤ v) = false := by simpa using c
    rw [c'] at k
    exact k
theorem ok_is_between (T : Bi K mg) (D : Df K mg "is_between" st_is_between) : Has P w K mg base "is_between" 1 ["value", "least", "most"] sp_is_between :=
  D.ok sc_is_between bd_is_between (fun vs H Q E ⟨_, _, _, e, _⟩ => by rw [e]; rfl) (body_is_between T)
end
end Rj
set_option Elab.async false
set_option linter.all false
set_option maxRecDepth 100000
set_option maxHeartbeats 2000000
namespace Rj
open PySem PySem.Spec PyProof.Rows L2
section
variable {P : Program} {w : World} {K : PySem.W.Frag} {mg : Str → Option Value} {base : Heap}
/-- an alphabet: ascending signs -/
structure Alph (L : List Nat) : Prop where
  ne : L ≠ []
  len : L.length ≤ 30
  sign : ∀ c ∈ L, 32 ≤ c ∧ c ≤ 126
  asc : L.Pairwise (· < ·)
theorem blank_is : ((" " : Str)).cps.toList = [32] := by decide +kernel
theorem tilde_is : (("~" : Str)).cps.toList = [126] := by decide +kernel
theorem one_lt {a b : Nat} : decide (([a] : List Nat) < [b]) = decide (a < b) := by
  by_cases h : a < b
  · rw [decide_eq_true h, decide_eq_true]
    exact List.Lex.rel h
  · rw [decide_eq_false h, decide_eq_false]
    intro q
    cases q with
    | rel q => exact h q
    | cons q => cases q
theorem small_line {n : Nat} (h : n ≤ 1000) : n ≤ sizeLine := Nat.le_trans h (by decide)
def sp_is_alphabet : Sp := fun vs H Q _ => ∃ L, vs = [tv L] ∧ Alph L ∧ Q (.bl true) H
abbrev st_is_alphabet : Stmt := top 13
theorem sc_is_alphabet : FnScope ["alphabet", "sign", "at"] ["alphabet"] (defScope st_is_alphabet) := ⟨rfl, rfl, rfl, by decide +kernel, rfl, by decide +kernel, by decide +kernel⟩
theorem bd_is_alphabet : Bnd "is_alphabet" "is_alphabet" st_is_alphabet ["alphabet"] := fun _ _ _ _ _ _ us hl => match us, hl with | [_], _ => rfl
-- 0:alphabet 1:sign 2:at
theorem body_is_alphabet (T : Bi K mg) : Body P w K mg base "is_alphabet" st_is_alphabet 0 ["alphabet", "sign", "at"] sp_is_alphabet := by
  have nd := sc_is_alphabet.nd
  intro f cdv A outer s H vs Q E hr h
  obtain ⟨L, rfl, A1, k⟩ := h
  refine ⟨_, (pss_cons (ps_if (pt_not (pt_chain op_le op_le pe_int (pe_callB call_len (by rfl) T.len (by decide +kernel) (pa_cons (pv 0) pa_nil)) (c_gi (by rfl) T.MOST_LETTERS)))
      (pss_one (ps_ret pe_bl))
      pss_nil)
    (pss_cons (ps_for PassesOwn.never rfl (pi_str (pv 0)) (pg_name (i := 1) nd rfl (by first | exact .inl rfl | exact .inr rfl))
      (pss_one (ps_if (pt_not (pt_chain op_le_str op_le_str pe_str (pv 1) pe_str))
        (pss_one (ps_ret pe_bl))
        pss_nil)))
    (pss_cons (ps_for PassesOwn.never rfl (pi_range2 (by rfl) T.range (pa_cons pe_int (pa_cons (pe_callB call_len (by rfl) T.len (by decide +kernel) (pa_cons (pv 0) pa_nil)) pa_nil))) (pg_name (i := 2) nd rfl (by first | exact .inl rfl | exact .inr rfl))
      (pss_one (ps_if (pt_cmpR op_ge_str (pe_ix ix_str (pv 0) (pe_op op_sub (pv 2) pe_int) (fun _ _ => rfl)) (pe_ix ix_str (pv 0) (pv 2) (fun _ _ => rfl)) (nomark _))
        (pss_one (ps_ret pe_bl))
        pss_nil)))
    (pss_one (ps_ret pe_bl))))), ?_⟩

  have hl0 : 1 ≤ L.length := List.length_pos_iff.mpr A1.ne
  have hl := A1.len
  have hz : (⟨L.toArray⟩ : Str).length = L.length := by show L.toArray.size = _; simp
  have hz' : (⟨L.toArray⟩ : Str).length ≤ sizeLine := by rw [hz]; exact small_line (by omega)
  refine ⟨_, rfl, _, _, rfl, ⟨hz', rfl⟩, _, _, rfl, rfl, true, by rw [hz]; exact congrArg V.bl (decide_eq_true (by omega)), iteT ⟨_, _, rfl, rfl, true, by rw [hz]; exact congrArg V.bl (decide_eq_true (by omega)), iteF ?_⟩⟩
  refine ⟨_, rfl, _, rfl, for_it walk_str (fun i σ H' => H' = H ∧ ∃ v1, σ = [some (tv L), v1, none]) ⟨rfl, _, rfl⟩ (fun _ _ _ _ _ => True.intro) ?_ ?_⟩
  · rintro i x σ H1 H' hi ⟨rfl, v1, rfl⟩ ⟨rfl, c, hc, rfl⟩
    have hm : c ∈ L := by
      have : L[i]? = some c := by simpa using hc
      exact List.mem_of_getElem? this
    obtain ⟨c1, c2⟩ := A1.sign c hm
    have e1 : (!decide (([c] : List Nat) < ((" " : Str)).cps.toList)) = true := by rw [blank_is, one_lt]; simp; omega
    have e2 : (!decide (((("~" : Str)).cps.toList) < ([c] : List Nat))) = true := by rw [tilde_is, one_lt]; simp; omega
    refine ⟨_, rfl, _, _, rfl, rfl, true, congrArg V.bl e1, iteT ⟨_, _, rfl, rfl, true, congrArg V.bl e2, iteF ?_⟩⟩
    exact ⟨rfl, _, rfl⟩
  · rintro σ H1 ⟨rfl, v1, rfl⟩
    refine ⟨_, rfl, _, _, rfl, ⟨hz', rfl⟩, _, _, rfl, ⟨by decide, by decide, by rw [hz]; omega, by rw [hz]; omega⟩, for_range (lo := 1) (fun i σ H' => H' = H1 ∧ ∃ v2, σ = [some (tv L), v1, v2]) ⟨rfl, _, rfl⟩ ?_ ?_⟩
    · rintro i σ H' hi ⟨rfl, v2, rfl⟩
      rw [hz] at hi
      have h1 : i < L.length := by omega
      have h2 : i + 1 < L.length := by omega
      have a1 : atI (⟨L.toArray⟩ : Str).cps.toList ((1 : Int) + i - 1) = some L[i] := at_g (j := i) (by omega) (by simp [h1])
      have a2 : atI (⟨L.toArray⟩ : Str).cps.toList ((1 : Int) + i) = some L[i + 1] := at_g (j := i + 1) (by omega) (by simp [h2])
      have lt : L[i] < L[i + 1] := List.pairwise_iff_getElem.mp A1.asc i (i + 1) h1 h2 (by omega)
      have e1 : (!decide (([L[i]] : List Nat) < [L[i + 1]])) = false := by rw [one_lt]; simp [lt]
      refine ⟨_, rfl, _, rfl, _, _, rfl, rfl, _, _, _, rfl, rfl, hz', a1, _, rfl, _, rfl, _, _, _, rfl, rfl, hz', a2, _, _, rfl, rfl, false, congrArg V.bl e1, iteF ?_⟩
      exact ⟨rfl, _, rfl⟩
    · rintro σ H' ⟨rfl, v2, rfl⟩
      exact k
theorem ok_is_alphabet (T : Bi K mg) (D : Df K mg "is_alphabet" st_is_alphabet) : Has P w K mg base "is_alphabet" 1 ["alphabet"] sp_is_alphabet :=
  D.ok sc_is_alphabet bd_is_alphabet (fun vs H Q E ⟨_, e, _⟩ => by rw [e]; rfl) (body_is_alphabet T)
def sp_checked_alphabet : Sp := fun vs H Q _ => ∃ L, vs = [tv L] ∧ Alph L ∧ Q (tv L) H
abbrev st_checked_alphabet : Stmt := top 14
theorem sc_checked_alphabet : FnScope ["alphabet"] ["alphabet"] (defScope st_checked_alphabet) := ⟨rfl, rfl, rfl, by decide +kernel, rfl, by decide +kernel, by decide +kernel⟩
theorem bd_checked_alphabet : Bnd "checked_alphabet" "checked_alphabet" st_checked_alphabet ["alphabet"] := fun _ _ _ _ _ _ us hl => match us, hl with | [_], _ => rfl
-- 0:alphabet
theorem body_checked_alphabet (C_is_alphabet : Has P w K mg base "is_alphabet" 1 ["alphabet"] sp_is_alphabet) : Body P w K mg base "checked_alphabet" st_checked_alphabet 1 ["alphabet"] sp_checked_alphabet := by
  have nd := sc_checked_alphabet.nd
  intro f cdv A outer s H vs Q E hr h
  obtain ⟨L, rfl, A1, k⟩ := h
  refine ⟨_, (pss_cons (ps_if (pt_not (pt_val (c_fn C_is_alphabet hr (by rfl) (pa_cons (pv 0) pa_nil))))
      (pss_one ps_never)
      pss_nil)
    (pss_one (ps_ret (pv 0)))), ?_⟩

  refine ⟨_, rfl, L, rfl, A1, true, rfl, iteF ?_⟩
  exact ⟨_, rfl, k⟩
theorem ok_checked_alphabet (C : Has P w K mg base "is_alphabet" 1 ["alphabet"] sp_is_alphabet) (D : Df K mg "checked_alphabet" st_checked_alphabet) : Has P w K mg base "checked_alphabet" 2 ["alphabet"] sp_checked_alphabet :=
  D.ok sc_checked_alphabet bd_checked_alphabet (fun vs H Q E ⟨_, e, _⟩ => by rw [e]; rfl) (body_checked_alphabet C)
/-- the greatest common divisor -/
def sp_common_divisor : Sp := fun vs H Q _ => ∃ a b : Nat, vs = [iv a, iv b] ∧ Q (iv (Nat.gcd a b)) H
abbrev st_common_divisor : Stmt := top 24
theorem sc_common_divisor : FnScope ["one", "two"] ["one", "two"] (defScope st_common_divisor) := ⟨rfl, rfl, rfl, by decide +kernel, rfl, by decide +kernel, by decide +kernel⟩
theorem bd_common_divisor : Bnd "common_divisor" "common_divisor" st_common_divisor ["one", "two"] := fun _ _ _ _ _ _ us hl => match us, hl with | [_, _], _ => rfl
-- 0:one 1:two
theorem body_common_divisor  : Body P w K mg base "common_divisor" st_common_divisor 0 ["one", "two"] sp_common_divisor := by
  have nd := sc_common_divisor.nd
  intro f cdv A outer s H vs Q E hr h
  obtain ⟨a, b, rfl, k⟩ := h
  refine ⟨_, (pss_cons (ps_while PassesOwn.never (pt_cmpR op_gt (pv 1) pe_int (nomark _))
      (pss_one (ps_par (i := 0) (j := 1) rfl nd rfl rfl (by decide) rfl rfl (pa_cons (pv 1) (pa_cons (pe_op op_mod (pv 0) (pv 1)) pa_nil)) (by rfl))))
    (pss_one (ps_ret (pv 0)))), ?_⟩

  refine while_by (fun σ H' => H' = H ∧ ∃ c d : Nat, σ = [some (iv c), some (iv d)] ∧ Nat.gcd c d = Nat.gcd a b) (fun σ _ => match σ with | [_, some (.int d)] => d.toNat | _ => 0) ⟨rfl, a, b, rfl, rfl⟩ ?_ ?_
  · rintro σ H' ⟨rfl, c, d, rfl, hg⟩
    refine ⟨_, rfl, _, _, rfl, rfl, _, rfl, ?_⟩
    by_cases hd : 0 < d
    · have e : decide ((0 : Int) < (d : Int)) = true := decide_eq_true (by omega)
      rw [e]
      refine iteT ⟨_, rfl, _, rfl, _, rfl, _, _, rfl, rfl, (by show (0 : Int) < (d : Int); omega), _, _, rfl, ?_⟩
      refine ⟨⟨rfl, d, c % d, ?_, ?_⟩, ?_⟩
      · show [some (V.int d), some (V.int ((c : Int) % (d : Int)))] = _
        rw [← Int.natCast_emod]
      · rw [← hg, Nat.gcd_comm c d, Nat.gcd_rec d c, Nat.gcd_comm]
      · show ((c : Int) % (d : Int)).toNat < ((d : Int)).toNat
        have := Nat.mod_lt c hd
        rw [← Int.natCast_emod]
        omega
    · have e : decide ((0 : Int) < (d : Int)) = false := decide_eq_false (by omega)
      rw [e]
      have h0 : d = 0 := by omega
      subst h0
      refine iteF ⟨_, rfl, ?_⟩
      rw [Nat.gcd_zero_right] at hg
      rw [hg]
      exact k
  · rintro σ H' Q1 Q2 hq ⟨v, e1, i, j, e2, e3, b, e4, q⟩
    exact ⟨v, e1, i, j, e2, e3, b, e4, hq _ _ q⟩
theorem ok_common_divisor (D : Df K mg "common_divisor" st_common_divisor) : Has P w K mg base "common_divisor" 1 ["one", "two"] sp_common_divisor :=
  D.ok sc_common_divisor bd_common_divisor (fun vs H Q E ⟨_, _, e, _⟩ => by rw [e]; rfl) body_common_divisor
end
end Rj
set_option Elab.async false
set_option linter.all false
set_option maxRecDepth 100000
set_option maxHeartbeats 2000000
namespace Rj
open PySem PySem.Spec PyProof.Rows L2
section
variable {P : Program} {w : World} {K : PySem.W.Frag} {mg : Str → Option Value} {base : Heap}
def sp_put_together : Sp := fun vs H Q _ => ∃ (a b : Addr) (R : List Nat) (x y z : Nat), vs = [.ref a, .ref b, iv z] ∧ H a = some (.tup (ivs R)) ∧ H b = some (.tup [iv x, iv y]) ∧ R.length ≤ 1000 ∧
  ∀ H' p, Same H H' → H' p = some (.tup (ivs (jn x y z R))) → Q (.ref p) H'
/-- between two turns -/
def ptI (H : Hp) (a b l : Addr) (R : List Nat) (x y z : Nat) (σ : L2.St) (H' : Hp) : Prop := Same H H' ∧ ∃ (i : Nat) (F : List Nat), σ = [some (.ref a), some (.ref b), some (iv z), some (.ref l), some (iv i)] ∧ i ≤ R.length ∧ F.length ≤ i ∧ H' l = some (.lst (ivs F)) ∧ jn x y z R = F ++ jn x y z (R.drop i)
def ptM (R : List Nat) (σ : L2.St) (_ : Hp) : Nat := match σ with | [_, _, _, _, some (.int i)] => R.length - i.toNat | _ => 0
theorem jn_drop {x y z : Nat} {R : List Nat} {i : Nat} (h : i < R.length) (hc : ¬ ∃ h2 : i + 1 < R.length, R[i] = x ∧ R[i + 1] = y) : jn x y z (R.drop i) = R[i] :: jn x y z (R.drop (i + 1)) := by
  rw [List.drop_eq_getElem_cons h]
  by_cases h2 : i + 1 < R.length
  · rw [List.drop_eq_getElem_cons h2]
    have : ¬ (R[i] = x ∧ R[i + 1] = y) := fun q => hc ⟨h2, q⟩
    rw [jn, if_neg this]
  · rw [List.drop_of_length_le (by omega)]; simp [jn]
theorem jn_drop2 {x y z : Nat} {R : List Nat} {i : Nat} (h2 : i + 1 < R.length) (hc : R[i] = x ∧ R[i + 1] = y) : jn x y z (R.drop i) = z :: jn x y z (R.drop (i + 2)) := by
  rw [List.drop_eq_getElem_cons (by omega), List.drop_eq_getElem_cons h2, jn, if_pos hc]
abbrev st_put_together : Stmt := top 15
theorem sc_put_together : FnScope ["row", "pair", "piece", "found", "at"] ["row", "pair", "piece"] (defScope st_put_together) := ⟨rfl, rfl, rfl, by decide +kernel, rfl, by decide +kernel, by decide +kernel⟩
theorem bd_put_together : Bnd "put_together" "put_together" st_put_together ["row", "pair", "piece"] := fun _ _ _ _ _ _ us hl => match us, hl with | [_, _, _], _ => rfl
-- 0:row 1:pair 2:piece 3:found 4:at
theorem body_put_together (T : Bi K mg) : Body P w K mg base "put_together" st_put_together 0 ["row", "pair", "piece", "found", "at"] sp_put_together := by
  have nd := sc_put_together.nd
  intro f cdv A outer s H vs Q E hr h
  obtain ⟨a, b, R, x, y, z, rfl, ha, hb, hl, k⟩ := h
  refine ⟨_, (pss_cons (ps_set (i := 3) nd rfl (by first | exact .inl rfl | exact .inr rfl) (pe_lst pa_nil))
    (pss_cons (ps_set (i := 4) nd rfl (by first | exact .inl rfl | exact .inr rfl) pe_int)
    (pss_cons (ps_while PassesOwn.never (pt_cmpR op_lt (pv 4) (pe_callB call_len (by rfl) T.len (by decide +kernel) (pa_cons (pv 0) pa_nil)) (nomark _))
      (pss_one (ps_if (PW.pt (pw_and (pt_cmpR op_lt (pe_op op_add (pv 4) pe_int) (pe_callB call_len (by rfl) T.len (by decide +kernel) (pa_cons (pv 0) pa_nil)) (nomark _)) (pw_and1 (pt_cmpR (op_eqT hr.units) (pe_tup (pa_cons (pe_ix ix_tup (pv 0) (pv 4) (fun _ _ => rfl)) (pa_cons (pe_ix ix_tup (pv 0) (pe_op op_add (pv 4) pe_int) (fun _ _ => rfl)) pa_nil))) (pv 1) (nomark _)))))
        (pss_cons (ps_expr (pe_bm PySem.F.plainAttrs_list PySem.F.slot_list_append PySem.F.type_list_append mt_append (pv 3) (pa_cons (pv 2) pa_nil)))
        (pss_one (ps_aug (i := 4) nd rfl (by first | exact .inl rfl | exact .inr rfl) pe_int ip_add)))
        (pss_cons (ps_expr (pe_bm PySem.F.plainAttrs_list PySem.F.slot_list_append PySem.F.type_list_append mt_append (pv 3) (pa_cons (pe_ix ix_tup (pv 0) (pv 4) (fun _ _ => rfl)) pa_nil)))
        (pss_one (ps_aug (i := 4) nd rfl (by first | exact .inl rfl | exact .inr rfl) pe_int ip_add))))))
    (pss_one (ps_ret (pe_callTy call_tuple_of (by rfl) T.tuple (by decide +kernel) (pa_cons (pv 3) pa_nil))))))), ?_⟩

  refine ⟨small_line (by show 0 ≤ 1000; omega), fun l nl => ?_⟩
  have hla : a ≠ l := ne_of_none ha nl
  refine while_by (ptI H a b l R x y z) (ptM R) ⟨snew nl, 0, [], rfl, Nat.zero_le _, Nat.le_refl _, upd_same, rfl⟩ ?_ ?_
  · rintro σ H1 ⟨s1, i, F, rfl, hi, hF, h1, hj⟩
    refine ⟨_, rfl, _, rfl, _, _, rfl, .inr ⟨_, SqT.of (s1 a _ ha), rfl⟩, _, _, rfl, rfl, _, rfl, ?_⟩
    by_cases hlt : i < R.length
    · have e1 : decide ((i : Int) < ((ivs R).length : Nat)) = true := decide_eq_true (by simp [ivs]; omega)
      rw [e1]
      have a0 : atI (ivs R) (i : Int) = some (iv R[i]) := at_g rfl (ivs_get hlt)
      refine iteT ⟨_, rfl, _, _, rfl, rfl, _, rfl, _, _, rfl, .inr ⟨_, SqT.of (s1 a _ ha), rfl⟩, _, _, rfl, rfl, _, rfl, ?_⟩
      by_cases hlt2 : i + 1 < R.length
      · have e2 : decide ((i : Int) + 1 < ((ivs R).length : Nat)) = true := decide_eq_true (by simp [ivs]; omega)
        have a1 : atI (ivs R) ((i : Int) + 1) = some (iv R[i + 1]) := at_g (j := i + 1) (by omega) (ivs_get hlt2)
        rw [e2]
        refine iteT ⟨_, rfl, _, rfl, a, _, _, _, rfl, rfl, SqT.of (s1 a _ ha), a0, _, rfl, _, rfl, _, _, rfl, rfl, a, _, _, _, rfl, rfl, SqT.of (s1 a _ ha), a1, small_line (by show 2 ≤ 1000; omega), fun p np => ?_⟩
        have s2 := snw s1 np (o := .tup [iv R[i], iv R[i + 1]])
        have h2 := upd_keep (u := .tup [iv R[i], iv R[i + 1]]) h1 np
        refine ⟨_, rfl, p, b, [(R[i] : Int), (R[i + 1] : Int)], [(x : Int), (y : Int)], rfl, rfl, SqT.of upd_same, SqT.of (s2 b _ hb), _, rfl, ?_⟩
        refine ite2 (fun c => ?_) fun c => ?_
        · have c' : R[i] = x ∧ R[i + 1] = y := by
            have := of_decide_eq_true c
            simp only [List.cons.injEq, and_true] at this
            omega
          refine ⟨_, rfl, .inl ⟨rfl, _, SqL.of h2⟩, _, rfl, _, _, _, rfl, rfl, h2, by simp [ivs]; rw [sizeLine_eq]; omega, ?_⟩
          refine ⟨_, rfl, _, _, rfl, rfl, ⟨sch s2 nl, i + 2, F ++ [z], rfl, by omega, by simp; omega, ?_, ?_⟩, ?_⟩
          · rw [upd_same]; simp [ivs]
          · rw [hj, jn_drop2 hlt2 c']; simp
          · show R.length - ((i : Int) + 2).toNat < R.length - ((i : Int)).toNat
            omega
        · have c' : ¬ (∃ h2 : i + 1 < R.length, R[i] = x ∧ R[i + 1] = y) := by
            rintro ⟨_, q1, q2⟩
            apply c
            apply decide_eq_true
            rw [q1, q2]
          refine ⟨_, rfl, .inl ⟨rfl, _, SqL.of h2⟩, _, rfl, _, rfl, _, _, _, _, rfl, rfl, SqT.of (s2 a _ ha), a0, _, _, _, rfl, rfl, h2, by simp [ivs]; rw [sizeLine_eq]; omega, ?_⟩
          refine ⟨_, rfl, _, _, rfl, rfl, ⟨sch s2 nl, i + 1, F ++ [R[i]], rfl, by omega, by simp; omega, ?_, ?_⟩, ?_⟩
          · rw [upd_same]; simp [ivs]
          · rw [hj, jn_drop hlt c']; simp
          · show R.length - ((i : Int) + 1).toNat < R.length - ((i : Int)).toNat
            omega
      · have e2 : decide ((i : Int) + 1 < ((ivs R).length : Nat)) = false := decide_eq_false (by simp [ivs]; omega)
        rw [e2]
        refine iteF (iteF ?_)
        refine ⟨_, rfl, .inl ⟨rfl, _, SqL.of h1⟩, _, rfl, _, rfl, _, _, _, _, rfl, rfl, SqT.of (s1 a _ ha), a0, _, _, _, rfl, rfl, h1, by simp [ivs]; rw [sizeLine_eq]; omega, ?_⟩
        refine ⟨_, rfl, _, _, rfl, rfl, ⟨sch s1 nl, i + 1, F ++ [R[i]], rfl, by omega, by simp; omega, ?_, ?_⟩, ?_⟩
        · rw [upd_same]; simp [ivs]
        · rw [hj, jn_drop hlt fun ⟨q, _⟩ => hlt2 q]; simp
        · show R.length - ((i : Int) + 1).toNat < R.length - ((i : Int)).toNat
          omega
    · have e1 : decide ((i : Int) < ((ivs R).length : Nat)) = false := decide_eq_false (by simp [ivs]; omega)
      rw [e1]
      have ed : R.drop i = [] := List.drop_of_length_le (by omega)
      rw [ed] at hj
      have hj' : jn x y z R = F := by rw [hj]; simp [jn]
      refine iteF ⟨_, rfl, l, _, rfl, .inl ⟨SqL.of h1, fun p np => ?_⟩⟩
      exact k _ p (snw s1 np) (by rw [upd_same, hj'])
  · rintro σ H' Q1 Q2 hq ⟨v, e1, v2, e3, x2, n2, e4, h5, i, j, e6, e7, c, e8, q⟩
    exact ⟨v, e1, v2, e3, x2, n2, e4, h5, i, j, e6, e7, c, e8, hq _ _ q⟩
theorem ok_put_together (T : Bi K mg) (D : Df K mg "put_together" st_put_together) : Has P w K mg base "put_together" 1 ["row", "pair", "piece"] sp_put_together :=
  D.ok sc_put_together bd_put_together (fun vs H Q E ⟨_, _, _, _, _, _, e, _⟩ => by rw [e]; rfl) (body_put_together T)
end
end Rj
set_option Elab.async false
set_option linter.all false
set_option maxRecDepth 100000
set_option maxHeartbeats 2000000
namespace Rj
open PySem PySem.Spec PyProof.Rows L2
theorem adj_ix {p : Nat × Nat} {R : List Nat} : Adj p R ↔ ∃ j, R[j]? = some p.1 ∧ R[j + 1]? = some p.2 := by
  constructor
  · rintro ⟨A, B, rfl⟩
    exact ⟨A.length, by simp, by simp⟩
  · rintro ⟨j, h1, h2⟩
    obtain ⟨l1, e1⟩ := List.getElem?_eq_some_iff.mp h1
    obtain ⟨l2, e2⟩ := List.getElem?_eq_some_iff.mp h2
    refine ⟨R.take j, R.drop (j + 2), ?_⟩
    conv => lhs; rw [← List.take_append_drop j R, List.drop_eq_getElem_cons l1, List.drop_eq_getElem_cons l2, e1, e2]
section
variable {P : Program} {w : World} {K : PySem.W.Frag} {mg : Str → Option Value} {base : Heap}
/-- the pair of the lowest rank among neighbors, or None -/
def sp_lowest_pair : Sp := fun vs H Q _ => ∃ (r a : Addr) (ps : List (Nat × Nat)) (R : List Nat), vs = [.ref r, .ref a] ∧ H r = some (.dT (rkv ps 0)) ∧ H a = some (.tup (ivs R)) ∧ ps.Nodup ∧ R.length ≤ 1000 ∧
  (∀ H', Same H H' → (∀ p ∈ ps, ¬ Adj p R) → Q .non H') ∧
  ∀ H' q k p, Same H H' → H' q = some (.tup [iv p.1, iv p.2]) → ps[k]? = some p → NoLow ps k R → Adj p R → Q (.ref q) H'
/-- best so far, behind i places -/
def lpB (ps : List (Nat × Nat)) (R : List Nat) (i : Nat) (H' : Hp) (v : V) : Prop :=
  (v = .non ∧ ∀ (j : Nat) (x y : Nat), j < i → R[j]? = some x → R[j + 1]? = some y → (x, y) ∉ ps) ∨
  ∃ q k p, v = .ref q ∧ H' q = some (.tup [iv p.1, iv p.2]) ∧ ps[k]? = some p ∧ Adj p R ∧ ∀ (j : Nat) (x y k' : Nat), j < i → R[j]? = some x → R[j + 1]? = some y → ps[k']? = some (x, y) → k ≤ k'
theorem lpB_mono {ps : List (Nat × Nat)} {R : List Nat} {i : Nat} {H H' : Hp} {v : V} (s : Same H H') (h : lpB ps R i H v) : lpB ps R i H' v := by
  rcases h with h | ⟨q, k, p, e, h, r⟩
  · exact .inl h
  · exact .inr ⟨q, k, p, e, s _ _ h, r⟩
abbrev st_lowest_pair : Stmt := top 16
theorem sc_lowest_pair : FnScope ["ranks", "row", "best", "at", "pair"] ["ranks", "row"] (defScope st_lowest_pair) := ⟨rfl, rfl, rfl, by decide +kernel, rfl, by decide +kernel, by decide +kernel⟩
theorem bd_lowest_pair : Bnd "lowest_pair" "lowest_pair" st_lowest_pair ["ranks", "row"] := fun _ _ _ _ _ _ us hl => match us, hl with | [_, _], _ => rfl
-- 0:ranks 1:row 2:best 3:at 4:pair
theorem body_lowest_pair (T : Bi K mg) : Body P w K mg base "lowest_pair" st_lowest_pair 0 ["ranks", "row", "best", "at", "pair"] sp_lowest_pair := by
  have nd := sc_lowest_pair.nd
  intro f cdv A outer s H vs Q E hr h
  obtain ⟨r, a, ps, R, rfl, hr', ha, hn, hl, k0, k1⟩ := h
  refine ⟨_, (pss_cons (ps_set (i := 2) nd rfl (by first | exact .inl rfl | exact .inr rfl) pe_non)
    (pss_cons (ps_for PassesOwn.never rfl (pi_range1 (by rfl) T.range (pa_cons (pe_op op_sub (pe_callB call_len (by rfl) T.len (by decide +kernel) (pa_cons (pv 1) pa_nil)) pe_int) pa_nil)) (pg_name (i := 3) nd rfl (by first | exact .inl rfl | exact .inr rfl))
      (pss_cons (ps_set (i := 4) nd rfl (by first | exact .inl rfl | exact .inr rfl) (pe_tup (pa_cons (pe_ix ix_tup (pv 1) (pv 3) (fun _ _ => rfl)) (pa_cons (pe_ix ix_tup (pv 1) (pe_op op_add (pv 3) pe_int) (fun _ _ => rfl)) pa_nil))))
      (pss_one (ps_if (PW.pt (pw_and (pt_cmp (pc_din (hu_of hr) (pv 4) (pv 0))) (pw_and1 (PW.pt (pw_or (pt_cmpR op_isN (pv 2) pe_non (nomark _)) (pw_or1 (pt_cmpR op_lt (pe_dget (hu_of hr) (pv 0) (pv 4) (fun _ _ => rfl)) (pe_dget (hu_of hr) (pv 0) (pv 2) (fun _ _ => rfl)) (nomark _))))))))
        (pss_one (ps_set (i := 2) nd rfl (by first | exact .inl rfl | exact .inr rfl) (pv 4)))
        pss_nil))))
    (pss_one (ps_ret (pv 2))))), ?_⟩

  refine ⟨_, rfl, _, _, rfl, .inr ⟨_, SqT.of ha, rfl⟩, _, _, rfl, rfl, _, rfl, by simp [ivs]; omega, by simp [ivs]; omega, ?_⟩
  have en : (((ivs R).length : Nat) : Int) - 1 = (R.length : Int) - 1 := by simp [ivs]
  rw [en]
  refine for_range (lo := 0) (n := ((R.length : Int) - 1).toNat) (fun i σ H' => Same H H' ∧ ∃ v v3 v4, σ = [some (.ref r), some (.ref a), some v, v3, v4] ∧ lpB ps R i H' v) ⟨Same.refl H, _, _, _, rfl, .inl ⟨rfl, fun j _ _ hj => by omega⟩⟩ ?_ ?_
  · rintro i σ H1 hi ⟨s1, v, v3, v4, rfl, hb⟩
    have h1 : i < R.length := by omega
    have h2 : i + 1 < R.length := by omega
    have a0 : atI (ivs R) ((0 : Int) + i) = some (iv R[i]) := at_g (j := i) (by omega) (ivs_get h1)
    have a1 : atI (ivs R) ((0 : Int) + i + 1) = some (iv R[i + 1]) := at_g (j := i + 1) (by omega) (ivs_get h2)
    refine ⟨_, rfl, _, rfl, a, _, _, _, rfl, rfl, SqT.of (s1 a _ ha), a0, _, rfl, _, rfl, _, _, rfl, rfl, a, _, _, _, rfl, rfl, SqT.of (s1 a _ ha), a1, small_line (by show 2 ≤ 1000; omega), fun p np => ?_⟩
    have s2 := snw s1 np (o := .tup [iv R[i], iv R[i + 1]])
    have hb2 := lpB_mono (snew (o := .tup [iv R[i], iv R[i + 1]]) np) hb
    clear hb
    have gp : DGet (upd H1 p (.tup [iv R[i], iv R[i + 1]])) r (.ref p) (valV (rkv ps 0) (kp (R[i], R[i + 1]))) := DGet.t (k := kp (R[i], R[i + 1])) (s2 r _ hr') upd_same
    rw [rkv_val] at gp
    refine ⟨_, rfl, _, rfl, r, _, rfl, gp, _, rfl, ?_⟩
    cases e : rkF ps 0 (R[i], R[i + 1]) with
    | none =>
      have nm := rkF_none e
      refine iteF (iteF ?_)
      refine ⟨s2, v, _, _, rfl, ?_⟩
      rcases hb2 with ⟨rfl, hb⟩ | ⟨q, k, p', e1, e2, e3, e4, hb⟩
      · refine .inl ⟨rfl, fun j x y hj hx hy => ?_⟩
        rcases Nat.lt_or_ge j i with h | h
        · exact hb j x y h hx hy
        · cases (show j = i by omega)
          rw [List.getElem?_eq_getElem h1] at hx
          rw [List.getElem?_eq_getElem h2] at hy
          cases hx; cases hy; exact nm
      · refine .inr ⟨q, k, p', e1, e2, e3, e4, fun j x y k' hj hx hy hk => ?_⟩
        rcases Nat.lt_or_ge j i with h | h
        · exact hb j x y k' h hx hy hk
        · cases (show j = i by omega)
          rw [List.getElem?_eq_getElem h1] at hx
          rw [List.getElem?_eq_getElem h2] at hy
          cases hx; cases hy; exact absurd (List.mem_of_getElem? hk) nm
    | some k2 =>
      rw [e] at gp
      have hk2 : ps[k2]? = some (R[i], R[i + 1]) := (rkF_some e).2
      have uniq : ∀ k', ps[k']? = some (R[i], R[i + 1]) → k' = k2 := fun k' h' => by
        have := rkF_of (i := 0) hn h'
        rw [e] at this
        cases this; omega
      have new : lpB ps R (i + 1) (upd H1 p (.tup [iv R[i], iv R[i + 1]])) (.ref p) ∨ True := .inr trivial
      have adj : Adj (R[i], R[i + 1]) R := adj_ix.mpr ⟨i, by simp [h1], by simp [h2]⟩
      refine iteT ?_
      refine ⟨_, rfl, rfl, _, rfl, ?_⟩
      rcases hb2 with ⟨rfl, hb⟩ | ⟨q, k, p', rfl, e2, e3, e4, hb⟩
      · refine iteT (iteT ⟨_, rfl, s2, .ref p, _, _, rfl, .inr ⟨p, k2, (R[i], R[i + 1]), rfl, upd_same, hk2, adj, fun j x y k' hj hx hy hk => ?_⟩⟩)
        rcases Nat.lt_or_ge j i with h | h
        · exact absurd (List.mem_of_getElem? hk) (hb j x y h hx hy)
        · cases (show j = i by omega)
          rw [List.getElem?_eq_getElem h1] at hx
          rw [List.getElem?_eq_getElem h2] at hy
          cases hx; cases hy
          exact Nat.le_of_eq (uniq k' hk).symm
      · have gq : DGet (upd H1 p (.tup [iv R[i], iv R[i + 1]])) r (.ref q) (valV (rkv ps 0) (kp p')) := DGet.t (k := kp p') (s2 r _ hr') e2
        have ek : rkF ps 0 p' = some k := by rw [rkF_of hn e3]; simp
        rw [rkv_val, ek] at gq
        have dn : decide (V.ref q = V.non) = false := rfl
        rw [dn]
        refine iteF ⟨_, rfl, _, rfl, r, _, rfl, gp, _, rfl, _, rfl, r, _, rfl, gq, _, _, rfl, rfl, _, rfl, ?_⟩
        by_cases c : k2 < k
        · have ec : decide ((k2 : Int) < (k : Int)) = true := decide_eq_true (by omega)
          rw [ec]
          refine iteT ⟨_, rfl, s2, .ref p, _, _, rfl, .inr ⟨p, k2, (R[i], R[i + 1]), rfl, upd_same, hk2, adj, fun j x y k' hj hx hy hk => ?_⟩⟩
          rcases Nat.lt_or_ge j i with h | h
          · have := hb j x y k' h hx hy hk
            omega
          · cases (show j = i by omega)
            rw [List.getElem?_eq_getElem h1] at hx
            rw [List.getElem?_eq_getElem h2] at hy
            cases hx; cases hy
            exact Nat.le_of_eq (uniq k' hk).symm
        · have ec : decide ((k2 : Int) < (k : Int)) = false := decide_eq_false (by omega)
          rw [ec]
          refine iteF ⟨s2, .ref q, _, _, rfl, .inr ⟨q, k, p', rfl, e2, e3, e4, fun j x y k' hj hx hy hk => ?_⟩⟩
          rcases Nat.lt_or_ge j i with h | h
          · exact hb j x y k' h hx hy hk
          · cases (show j = i by omega)
            rw [List.getElem?_eq_getElem h1] at hx
            rw [List.getElem?_eq_getElem h2] at hy
            cases hx; cases hy
            rw [uniq k' hk]; omega
  · rintro σ H1 ⟨s1, v, v3, v4, rfl, hb⟩
    refine ⟨_, rfl, ?_⟩
    rcases hb with ⟨rfl, hb⟩ | ⟨q, k, p, rfl, e2, e3, e4, hb⟩
    · refine k0 _ s1 fun p hp hA => ?_
      obtain ⟨j, h1, h2⟩ := adj_ix.mp hA
      have := (List.getElem?_eq_some_iff.mp h2).1
      exact hb j p.1 p.2 (by omega) h1 h2 hp
    · refine k1 _ q k p s1 e2 e3 (fun r' p' hr hp hA => ?_) e4
      obtain ⟨j, h1, h2⟩ := adj_ix.mp hA
      have := (List.getElem?_eq_some_iff.mp h2).1
      have := hb j p'.1 p'.2 r' (by omega) h1 h2 hp
      omega
theorem ok_lowest_pair (T : Bi K mg) (D : Df K mg "lowest_pair" st_lowest_pair) : Has P w K mg base "lowest_pair" 1 ["ranks", "row"] sp_lowest_pair :=
  D.ok sc_lowest_pair bd_lowest_pair (fun vs H Q E ⟨_, _, _, _, e, _⟩ => by rw [e]; rfl) (body_lowest_pair T)
end
end Rj
set_option Elab.async false
set_option linter.all false
set_option maxRecDepth 100000
set_option maxHeartbeats 2000000
namespace Rj
open PySem PySem.Spec PyProof.Rows L2
theorem jn_le {x y z : Nat} (R : List Nat) : (jn x y z R).length ≤ R.length := by
  induction R using jn.induct (x := x) (y := y) with
  | case1 => simp [jn]
  | case2 a => simp [jn]
  | case3 a c r hc ih => rw [jn, if_pos hc]; simp; omega
  | case4 a c r hc ih => rw [jn, if_neg hc]; simp at ih ⊢; omega
theorem jn_lt {p : Nat × Nat} {z : Nat} (R : List Nat) : Adj p R → (jn p.1 p.2 z R).length < R.length := by
  induction R using jn.induct (x := p.1) (y := p.2) with
  | case1 => intro h; exact absurd h adj_nil
  | case2 a => intro h; exact absurd h adj_one
  | case3 a c r hc ih => intro _; rw [jn, if_pos hc]; have := jn_le (x := p.1) (y := p.2) (z := z) r; simp; omega
  | case4 a c r hc ih =>
    intro h
    rw [jn, if_neg hc]
    rcases adj_cons h with q | q
    · exact absurd q hc
    · have := ih q; simp at this ⊢; omega
section
variable {P : Program} {w : World} {K : PySem.W.Frag} {mg : Str → Option Value} {base : Heap}
abbrev Wf (b : Nat) (ps : List (Nat × Nat)) : Prop := ∀ (r : Nat) (p : Nat × Nat), ps[r]? = some p → p.1 < b + r ∧ p.2 < b + r
def sp_cut_row : Sp := fun vs H Q _ => ∃ (r a : Addr) (b : Nat) (ps : List (Nat × Nat)) (R : List Nat), vs = [.ref r, iv b, .ref a] ∧ H r = some (.dT (rkv ps 0)) ∧ H a = some (.tup (ivs R)) ∧ Wf b ps ∧ ps.Nodup ∧ R.length ≤ 1000 ∧
  ∀ H' q, Same H H' → H' q = some (.tup (ivs (stg b ps R))) → Q (.ref q) H'
def crI (H : Hp) (r : Addr) (b : Nat) (ps : List (Nat × Nat)) (R : List Nat) (σ : L2.St) (H' : Hp) : Prop := Same H H' ∧ ∃ (a : Addr) (R' : List Nat) (v : V), σ = [some (.ref r), some (iv b), some (.ref a), some v] ∧ H' a = some (.tup (ivs R')) ∧ R'.length ≤ 1000 ∧ stg b ps R' = stg b ps R ∧
  ((v = .non ∧ ∀ p ∈ ps, ¬ Adj p R') ∨ ∃ q k p, v = .ref q ∧ H' q = some (.tup [iv p.1, iv p.2]) ∧ ps[k]? = some p ∧ NoLow ps k R' ∧ Adj p R')
def crM (σ : L2.St) (H : Hp) : Nat := match σ with | [_, _, some (.ref a), _] => (match H a with | some (.tup xs) => xs.length | _ => 0) | _ => 0
abbrev st_cut_row : Stmt := top 17
theorem sc_cut_row : FnScope ["ranks", "letters", "row", "pair"] ["ranks", "letters", "row"] (defScope st_cut_row) := ⟨rfl, rfl, rfl, by decide +kernel, rfl, by decide +kernel, by decide +kernel⟩
theorem bd_cut_row : Bnd "cut_row" "cut_row" st_cut_row ["ranks", "letters", "row"] := fun _ _ _ _ _ _ us hl => match us, hl with | [_, _, _], _ => rfl
-- 0:ranks 1:letters 2:row 3:pair
theorem body_cut_row (C_lowest_pair : Has P w K mg base "lowest_pair" 1 ["ranks", "row"] sp_lowest_pair) (C_put_together : Has P w K mg base "put_together" 1 ["row", "pair", "piece"] sp_put_together) : Body P w K mg base "cut_row" st_cut_row 1 ["ranks", "letters", "row", "pair"] sp_cut_row := by
  have nd := sc_cut_row.nd
  intro f cdv A outer s H vs Q E hr h
  obtain ⟨r, a, b, ps, R, rfl, hr', ha, hw, hn, hl, k⟩ := h
  refine ⟨_, (pss_cons (ps_set (i := 3) nd rfl (by first | exact .inl rfl | exact .inr rfl) (c_fn C_lowest_pair hr (by rfl) (pa_cons (pv 0) (pa_cons (pv 2) pa_nil))))
    (pss_cons (ps_while PassesOwn.never (pt_cmpR op_notN (pv 3) pe_non (nomark _))
      (pss_cons (ps_set (i := 2) nd rfl (by first | exact .inl rfl | exact .inr rfl) (c_fn C_put_together hr (by rfl) (pa_cons (pv 2) (pa_cons (pv 3) (pa_cons (pe_op op_add (pv 1) (pe_dget (hu_of hr) (pv 0) (pv 3) (fun _ _ => rfl))) pa_nil)))))
      (pss_one (ps_set (i := 3) nd rfl (by first | exact .inl rfl | exact .inr rfl) (c_fn C_lowest_pair hr (by rfl) (pa_cons (pv 0) (pa_cons (pv 2) pa_nil)))))))
    (pss_one (ps_ret (pv 2))))), ?_⟩

  refine ⟨_, rfl, _, rfl, ?_⟩
  have go : ∀ H1, crI H r b ps R [some (.ref r), some (iv b), some (.ref a), none] H1 ∨ True := fun _ => .inr trivial
  have loop : ∀ σ H1, crI H r b ps R σ H1 → tSeq (tWhile (tTest (tOp (fun x y H Q => y = V.non ∧ Q (V.bl (!decide (x = V.non))) H) (tVar 3) (tC V.non)))
      (tSeq (tAsg (tCall sp_put_together [] E0 (tCons (tVar 2) (tCons (tVar 3) (tCons (tOp (rI0 fun i j => V.int (i + j)) (tVar 1) (tDGet (tVar 0) (tVar 3))) tNil)))) (gName 2))
        (tAsg (tCall sp_lowest_pair [] E0 (tCons (tVar 0) (tCons (tVar 2) tNil))) (gName 3)))) (tRet (tVar 2)) { nx := fun _ H' => Q .non H', rt := Q } σ H1 := by
    intro σ H1 hI
    refine while_by (crI H r b ps R) crM hI ?_ ?_
    · rintro σ H2 ⟨s2, a', R', v, rfl, ha', hl', he, hv⟩
      refine ⟨_, rfl, rfl, _, rfl, ?_⟩
      rcases hv with ⟨rfl, hno⟩ | ⟨q, kk, p, rfl, hq, hk, hlow, hadj⟩
      · refine iteF ⟨_, rfl, ?_⟩
        refine k _ a' s2 ?_
        rw [ha', ← he, stg_done hno]
      · have g : DGet H2 r (.ref q) (valV (rkv ps 0) (kp p)) := DGet.t (k := kp p) (s2 r _ hr') hq
        rw [rkv_val, rkF_of hn hk] at g
        refine iteT ⟨_, rfl, _, rfl, _, rfl, _, rfl, _, rfl, r, _, rfl, g, _, _, rfl, rfl, ?_⟩
        have ez : ((b : Int) + ((0 + kk : Nat) : Int)) = ((b + kk : Nat) : Int) := by omega
        refine ⟨a', q, R', p.1, p.2, b + kk, by show [V.ref a', V.ref q, V.int _] = _; rw [ez], ha', hq, hl', fun H3 p' s3 h3 => ?_⟩
        have s23 := s2.trans s3
        have hlen := jn_le (x := p.1) (y := p.2) (z := b + kk) R'
        have hst : stg b ps (jn p.1 p.2 (b + kk) R') = stg b ps R := by rw [stg_batch hw hk hlow, he]
        have hlt := jn_lt (z := b + kk) R' hadj
        have hm : crM [some (.ref r), some (iv b), some (.ref a'), some (.ref q)] H2 = R'.length := by simp [crM, ha', ivs]
        refine ⟨_, rfl, _, rfl, r, p', ps, jn p.1 p.2 (b + kk) R', rfl, s23 r _ hr', h3, hn, by omega, fun H4 s4 hno => ?_, fun H4 q4 k4 p4 s4 h4 hk4 hl4 ha4 => ?_⟩
        · refine ⟨⟨s23.trans s4, p', _, .non, rfl, s4 _ _ h3, by omega, hst, .inl ⟨rfl, hno⟩⟩, ?_⟩
          rw [hm]; simp [crM, s4 _ _ h3, ivs]; exact hlt
        · refine ⟨⟨s23.trans s4, p', _, .ref q4, rfl, s4 _ _ h3, by omega, hst, .inr ⟨q4, k4, p4, rfl, h4, hk4, hl4, ha4⟩⟩, ?_⟩
          rw [hm]; simp [crM, s4 _ _ h3, ivs]; exact hlt
    · rintro σ H' Q1 Q2 hq ⟨v, e1, e3, c, e8, q⟩
      exact ⟨v, e1, e3, c, e8, hq _ _ q⟩
  refine ⟨r, a, ps, R, rfl, hr', ha, hn, hl, fun H1 s1 hno => ?_, fun H1 q1 k1 p1 s1 h1 hk1 hl1 ha1 => ?_⟩
  · exact loop _ H1 ⟨s1, a, R, .non, rfl, s1 _ _ ha, hl, rfl, .inl ⟨rfl, hno⟩⟩
  · exact loop _ H1 ⟨s1, a, R, .ref q1, rfl, s1 _ _ ha, hl, rfl, .inr ⟨q1, k1, p1, rfl, h1, hk1, hl1, ha1⟩⟩
theorem ok_cut_row (C1 : Has P w K mg base "lowest_pair" 1 ["ranks", "row"] sp_lowest_pair) (C2 : Has P w K mg base "put_together" 1 ["row", "pair", "piece"] sp_put_together) (D : Df K mg "cut_row" st_cut_row) : Has P w K mg base "cut_row" 2 ["ranks", "letters", "row"] sp_cut_row :=
  D.ok sc_cut_row bd_cut_row (fun vs H Q E ⟨_, _, _, _, _, e, _⟩ => by rw [e]; rfl) (body_cut_row C1 C2)
end
end Rj
set_option Elab.async false
set_option linter.all false
set_option maxRecDepth 100000
set_option maxHeartbeats 2000000
namespace Rj
open PySem PySem.Spec PyProof.Rows L2
/-! ### a list of joins: what it keeps -/
/-- letters by number as signs -/
def cod (L u : List Nat) : List Nat := u.map fun i => L.getD i 0
structure Jl (L : List Nat) (ps : List (Nat × Nat)) : Prop where
  al : Alph L
  l3 : L.length ≤ 3
  p4 : ps.length ≤ 4
  pr : Proper L.length ps
  t5 : ∀ p, p < L.length + ps.length → (ltr L.length ps p).length ≤ 5
abbrev np (L : List Nat) (ps : List (Nat × Nat)) : Nat := L.length + ps.length
/-- the texts of the pieces, as values -/
def txv (L : List Nat) (ps : List (Nat × Nat)) : List V := (tx L.length ps).map fun u => tv (cod L u)
theorem txv_len (L : List Nat) (ps : List (Nat × Nat)) : (txv L ps).length = np L ps := by unfold txv; rw [List.length_map, tx_len]
theorem txv_get {L : List Nat} {ps : List (Nat × Nat)} {p : Nat} (h : p < np L ps) : (txv L ps)[p]? = some (tv (cod L (ltr L.length ps p))) := by
  unfold txv ltr
  have h' : p < (tx L.length ps).length := by rw [tx_len]; exact h
  rw [List.getElem?_map, List.getD_eq_getElem?_getD, List.getElem?_eq_getElem h']; rfl
theorem cod_len (L u : List Nat) : (cod L u).length = u.length := by simp [cod]
theorem cod_app (L u v : List Nat) : cod L (u ++ v) = cod L u ++ cod L v := by simp [cod]
theorem tv_len (L : List Nat) : (⟨L.toArray⟩ : Str).length = L.length := by show L.toArray.size = _; simp
/-! ### the object -/
def jf (al : V) (pt tl rd nd : Addr) (m : Nat) : List (Str × V) := [("alphabet", al), ("pairs", .ref pt), ("texts", .ref tl), ("ranks", .ref rd), ("numbers", .ref nd), ("longest", iv m)]
section
variable {al : V} {pt tl rd nd : Addr} {m : Nat}
theorem jf_al : (jf al pt tl rd nd m).lookup ("alphabet" : Str) = some al := by kernel_rfl
theorem jf_pt : (jf al pt tl rd nd m).lookup ("pairs" : Str) = some (.ref pt) := by kernel_rfl
theorem jf_tl : (jf al pt tl rd nd m).lookup ("texts" : Str) = some (.ref tl) := by kernel_rfl
theorem jf_rd : (jf al pt tl rd nd m).lookup ("ranks" : Str) = some (.ref rd) := by kernel_rfl
theorem jf_nd : (jf al pt tl rd nd m).lookup ("numbers" : Str) = some (.ref nd) := by kernel_rfl
theorem jf_m : (jf al pt tl rd nd m).lookup ("longest" : Str) = some (iv m) := by kernel_rfl
theorem jf_ppt {y : Addr} : putF "pairs" (V.ref y) (jf al pt tl rd nd m) = jf al y tl rd nd m := by kernel_rfl
theorem jf_pm {y : Nat} : putF "longest" (iv y) (jf al pt tl rd nd m) = jf al pt tl rd nd y := by kernel_rfl
theorem jf_isp : (jf al pt tl rd nd m).lookup ("is_piece" : Str) = none := by kernel_rfl
theorem jf_chp : (jf al pt tl rd nd m).lookup ("check_piece" : Str) = none := by kernel_rfl
theorem jf_txo : (jf al pt tl rd nd m).lookup ("text_of" : Str) = none := by kernel_rfl
theorem jf_pao : (jf al pt tl rd nd m).lookup ("parts_of" : Str) = none := by kernel_rfl
theorem jf_pio : (jf al pt tl rd nd m).lookup ("piece_of" : Str) = none := by kernel_rfl
theorem jf_ipr : (jf al pt tl rd nd m).lookup ("is_proper" : Str) = none := by kernel_rfl
theorem jf_tak : (jf al pt tl rd nd m).lookup ("take" : Str) = none := by kernel_rfl
end
/-- the class -/
structure TJx (K : PySem.W.Frag) (C : Addr) : Prop where
  cl : Cls K C
  al : NoAttr K C "alphabet"
  pt : NoAttr K C "pairs"
  tl : NoAttr K C "texts"
  rd : NoAttr K C "ranks"
  nd : NoAttr K C "numbers"
  m : NoAttr K C "longest"
/-- a tuple of two numbers -/
def PairV (H : Hp) (x : V) (p : Nat × Nat) : Prop := ∃ a, x = .ref a ∧ H a = some (.tup [iv p.1, iv p.2])
abbrev PairsV (H : Hp) : List V → List (Nat × Nat) → Prop := Paired (PairV H)
theorem PairsV.mono {H H' : Hp} {xs : List V} {ps : List (Nat × Nat)} (s : Same H H') (h : PairsV H xs ps) : PairsV H' xs ps := paired_mono h fun _ _ ⟨a, e, h⟩ => ⟨a, e, s _ _ h⟩
/-- the numbers of the letters -/
def NumK (L : List Nat) (nk : List (Key × V)) : Prop := ∀ i c, L[i]? = some c → valV nk (.inr ⟨#[c]⟩) = some (iv i)
/-- a Joins at a, its own changing parts by name -/
structure JOx (H : Hp) (C a : Addr) (L : List Nat) (ps : List (Nat × Nat)) (tl rd nd : Addr) : Prop where
  ob : ∃ dx pt m xs, H a = some (.ins C dx (jf (tv L) pt tl rd nd m)) ∧ H pt = some (.tup xs) ∧ PairsV H xs ps
  tl : H tl = some (.lst (txv L ps))
  rd : H rd = some (.dT (rkv ps 0))
  nd : ∃ nk, H nd = some (.dK nk) ∧ NumK L nk ∧ nk.length ≤ 100 + ps.length
def JO (H : Hp) (C a : Addr) (L : List Nat) (ps : List (Nat × Nat)) : Prop := ∃ tl rd nd, JOx H C a L ps tl rd nd
theorem JOx.mono {H H' : Hp} {C a : Addr} {L : List Nat} {ps : List (Nat × Nat)} {tl rd nd : Addr} (s : Same H H') (h : JOx H C a L ps tl rd nd) : JOx H' C a L ps tl rd nd := by
  obtain ⟨⟨dx, pt, m, xs, h1, h2, h3⟩, h4, h5, nk, h6, h7⟩ := h
  exact ⟨⟨dx, pt, m, xs, s _ _ h1, s _ _ h2, h3.mono s⟩, s _ _ h4, s _ _ h5, nk, s _ _ h6, h7⟩
theorem JO.mono {H H' : Hp} {C a : Addr} {L : List Nat} {ps : List (Nat × Nat)} (s : Same H H') (h : JO H C a L ps) : JO H' C a L ps := by
  obtain ⟨tl, rd, nd, h⟩ := h
  exact ⟨tl, rd, nd, h.mono s⟩
section
variable {P : Program} {w : World} {K : PySem.W.Frag} {mg : Str → Option Value} {base : Heap} {CJ : Addr}
def sp_is_piece (C : Addr) : Sp := fun vs H Q _ => ∃ a L ps p, vs = [.ref a, iv p] ∧ JO H C a L ps ∧ p < np L ps ∧ np L ps ≤ 1000 ∧ Q (.bl true) H
abbrev st_Joins_is_piece : Stmt := inC 18 4
theorem sc_Joins_is_piece : FnScope ["self", "piece"] ["self", "piece"] (defScope st_Joins_is_piece) := ⟨rfl, rfl, rfl, by decide +kernel, rfl, by decide +kernel, by decide +kernel⟩
theorem bd_Joins_is_piece : Bnd "is_piece" "Joins.is_piece" st_Joins_is_piece ["self", "piece"] := fun _ _ _ _ _ _ us hl => match us, hl with | [_, _], _ => rfl
-- 0:self 1:piece
theorem body_Joins_is_piece (T : Bi K mg) (TJ : TJx K CJ) (C_is_between : Has P w K mg base "is_between" 1 ["value", "least", "most"] sp_is_between) : Body P w K mg base "Joins.is_piece" st_Joins_is_piece 1 ["self", "piece"] (sp_is_piece CJ) := by
  have nd := sc_Joins_is_piece.nd
  intro f cdv A outer s H vs Q E hr h
  obtain ⟨a, L, ps, p, rfl, ⟨tl, rd, nd', J⟩, hp, hn, k⟩ := h
  refine ⟨_, (pss_one (ps_ret (c_fn C_is_between hr (by rfl) (pa_cons (pv 1) (pa_cons pe_int (pa_cons (pe_op op_sub (pe_callB call_len (by rfl) T.len (by decide +kernel) (pa_cons (pe_fld (pv 0) rfl) pa_nil)) pe_int) pa_nil)))))), ?_⟩

  obtain ⟨dx, pt, m, xs, h1, h2, h3⟩ := J.ob
  refine ⟨_, rfl, _, rfl, a, CJ, dx, _, _, rfl, h1, TJ.cl, TJ.tl, jf_tl, _, _, rfl, .inl ⟨_, SqL.of J.tl, rfl⟩, _, _, rfl, rfl, p, 0, _, rfl, ?_⟩
  rw [txv_len]
  have hp' : p < L.length + ps.length := hp
  have e : (decide ((0 : Int) ≤ (p : Int)) && decide ((p : Int) ≤ ((np L ps : Nat) : Int) - 1)) = true := by simp; omega
  rw [e]
  exact k
theorem ok_is_piece (T : Bi K mg) (TJ : TJx K CJ) (C1 : Has P w K mg base "is_between" 1 ["value", "least", "most"] sp_is_between) (D : Md K CJ "is_piece" "Joins.is_piece" st_Joins_is_piece) : HasM P w K mg base CJ "is_piece" 2 ["self", "piece"] (sp_is_piece CJ) :=
  D.ok sc_Joins_is_piece bd_Joins_is_piece (fun vs H Q E ⟨_, _, _, _, e, _⟩ => by rw [e]; rfl) (body_Joins_is_piece T TJ C1)
def sp_check_piece (C : Addr) : Sp := fun vs H Q _ => ∃ a L ps p, vs = [.ref a, iv p] ∧ JO H C a L ps ∧ p < np L ps ∧ np L ps ≤ 1000 ∧ Q .non H
abbrev st_Joins_check_piece : Stmt := inC 18 5
theorem sc_Joins_check_piece : FnScope ["self", "piece"] ["self", "piece"] (defScope st_Joins_check_piece) := ⟨rfl, rfl, rfl, by decide +kernel, rfl, by decide +kernel, by decide +kernel⟩
theorem bd_Joins_check_piece : Bnd "check_piece" "Joins.check_piece" st_Joins_check_piece ["self", "piece"] := fun _ _ _ _ _ _ us hl => match us, hl with | [_, _], _ => rfl
-- 0:self 1:piece
theorem body_Joins_check_piece (TJ : TJx K CJ) (C_is_piece : HasM P w K mg base CJ "is_piece" 2 ["self", "piece"] (sp_is_piece CJ)) : Body P w K mg base "Joins.check_piece" st_Joins_check_piece 2 ["self", "piece"] (sp_check_piece CJ) := by
  have nd := sc_Joins_check_piece.nd
  intro f cdv A outer s H vs Q E hr h
  obtain ⟨a, L, ps, p, rfl, J, hp, hn, k⟩ := h
  refine ⟨_, (pss_one (ps_if (pt_not (pt_val (c_me (pv 0) TJ.cl C_is_piece hr (pa_cons (pv 1) pa_nil))))
      (pss_one ps_never)
      pss_nil)), ?_⟩

  obtain ⟨tl, rd, nd', J'⟩ := id J
  obtain ⟨dx, pt, m, xs, h1, h2, h3⟩ := J'.ob
  refine ⟨_, rfl, a, dx, _, rfl, h1, jf_isp, _, rfl, a, L, ps, p, rfl, J, hp, hn, true, rfl, ?_⟩
  exact k
theorem ok_check_piece (TJ : TJx K CJ) (C1 : HasM P w K mg base CJ "is_piece" 2 ["self", "piece"] (sp_is_piece CJ)) (D : Md K CJ "check_piece" "Joins.check_piece" st_Joins_check_piece) : HasM P w K mg base CJ "check_piece" 3 ["self", "piece"] (sp_check_piece CJ) :=
  D.ok sc_Joins_check_piece bd_Joins_check_piece (fun vs H Q E ⟨_, _, _, _, e, _⟩ => by rw [e]; rfl) (body_Joins_check_piece TJ C1)
def sp_text_of (C : Addr) : Sp := fun vs H Q _ => ∃ a L ps p, vs = [.ref a, iv p] ∧ JO H C a L ps ∧ p < np L ps ∧ np L ps ≤ 1000 ∧ Q (tv (cod L (ltr L.length ps p))) H
abbrev st_Joins_text_of : Stmt := inC 18 6
theorem sc_Joins_text_of : FnScope ["self", "piece"] ["self", "piece"] (defScope st_Joins_text_of) := ⟨rfl, rfl, rfl, by decide +kernel, rfl, by decide +kernel, by decide +kernel⟩
theorem bd_Joins_text_of : Bnd "text_of" "Joins.text_of" st_Joins_text_of ["self", "piece"] := fun _ _ _ _ _ _ us hl => match us, hl with | [_, _], _ => rfl
-- 0:self 1:piece
theorem body_Joins_text_of (TJ : TJx K CJ) (C_check_piece : HasM P w K mg base CJ "check_piece" 3 ["self", "piece"] (sp_check_piece CJ)) : Body P w K mg base "Joins.text_of" st_Joins_text_of 3 ["self", "piece"] (sp_text_of CJ) := by
  have nd := sc_Joins_text_of.nd
  intro f cdv A outer s H vs Q E hr h
  obtain ⟨a, L, ps, p, rfl, J, hp, hn, k⟩ := h
  refine ⟨_, (pss_cons (ps_expr (c_me (pv 0) TJ.cl C_check_piece hr (pa_cons (pv 1) pa_nil)))
    (pss_one (ps_ret (pe_ix ix_list (pe_fld (pv 0) rfl) (pv 1) (fun _ _ => rfl))))), ?_⟩

  obtain ⟨tl, rd, nd', J'⟩ := id J
  obtain ⟨dx, pt, m, xs, h1, h2, h3⟩ := J'.ob
  refine ⟨_, rfl, a, dx, _, rfl, h1, jf_chp, _, rfl, a, L, ps, p, rfl, J, hp, hn, ?_⟩
  exact ⟨_, rfl, a, CJ, dx, _, _, rfl, h1, TJ.cl, TJ.tl, jf_tl, _, rfl, tl, _, _, _, rfl, rfl, SqL.of J'.tl, at_g rfl (txv_get hp), k⟩
theorem ok_text_of (TJ : TJx K CJ) (C1 : HasM P w K mg base CJ "check_piece" 3 ["self", "piece"] (sp_check_piece CJ)) (D : Md K CJ "text_of" "Joins.text_of" st_Joins_text_of) : HasM P w K mg base CJ "text_of" 4 ["self", "piece"] (sp_text_of CJ) :=
  D.ok sc_Joins_text_of bd_Joins_text_of (fun vs H Q E ⟨_, _, _, _, e, _⟩ => by rw [e]; rfl) (body_Joins_text_of TJ C1)
/-- None, or the tuple of its two parts -/
def PV (H : Hp) (L : List Nat) (ps : List (Nat × Nat)) (p : Nat) (v : V) : Prop := v = .non ∨ ∃ q r pr, v = .ref q ∧ H q = some (.tup [iv pr.1, iv pr.2]) ∧ p = L.length + r ∧ ps[r]? = some pr
def sp_parts_of (C : Addr) : Sp := fun vs H Q _ => ∃ a L ps p, vs = [.ref a, iv p] ∧ JO H C a L ps ∧ Alph L ∧ p < np L ps ∧ np L ps ≤ 1000 ∧ ∀ v, PV H L ps p v → Q v H
abbrev st_Joins_parts_of : Stmt := inC 18 7
theorem sc_Joins_parts_of : FnScope ["self", "piece"] ["self", "piece"] (defScope st_Joins_parts_of) := ⟨rfl, rfl, rfl, by decide +kernel, rfl, by decide +kernel, by decide +kernel⟩
theorem bd_Joins_parts_of : Bnd "parts_of" "Joins.parts_of" st_Joins_parts_of ["self", "piece"] := fun _ _ _ _ _ _ us hl => match us, hl with | [_, _], _ => rfl
-- 0:self 1:piece
theorem body_Joins_parts_of (T : Bi K mg) (TJ : TJx K CJ) (C_check_piece : HasM P w K mg base CJ "check_piece" 3 ["self", "piece"] (sp_check_piece CJ)) : Body P w K mg base "Joins.parts_of" st_Joins_parts_of 3 ["self", "piece"] (sp_parts_of CJ) := by
  have nd := sc_Joins_parts_of.nd
  intro f cdv A outer s H vs Q E hr h
  obtain ⟨a, L, ps, p, rfl, J, A1, hp, hn, k⟩ := h
  refine ⟨_, (pss_cons (ps_expr (c_me (pv 0) TJ.cl C_check_piece hr (pa_cons (pv 1) pa_nil)))
    (pss_cons (ps_if (pt_cmpR op_lt (pv 1) (pe_callB call_len (by rfl) T.len (by decide +kernel) (pa_cons (pe_fld (pv 0) rfl) pa_nil)) (nomark _))
      (pss_one (ps_ret pe_non))
      pss_nil)
    (pss_one (ps_ret (pe_ix ix_tup (pe_fld (pv 0) rfl) (pe_op op_sub (pv 1) (pe_callB call_len (by rfl) T.len (by decide +kernel) (pa_cons (pe_fld (pv 0) rfl) pa_nil))) (fun _ _ => rfl)))))), ?_⟩

  obtain ⟨tl, rd, nd', J'⟩ := id J
  obtain ⟨dx, pt, m, xs, h1, h2, h3⟩ := J'.ob
  have hz : (⟨L.toArray⟩ : Str).length ≤ sizeLine := by rw [tv_len]; exact small_line (by have := A1.len; omega)
  refine ⟨_, rfl, a, dx, _, rfl, h1, jf_chp, _, rfl, a, L, ps, p, rfl, J, hp, hn, ?_⟩
  refine ⟨_, rfl, _, rfl, a, CJ, dx, _, _, rfl, h1, TJ.cl, TJ.al, jf_al, _, _, rfl, ⟨hz, rfl⟩, _, _, rfl, rfl, _, rfl, ?_⟩
  rw [tv_len]
  by_cases c : p < L.length
  · have e : decide ((p : Int) < (L.length : Int)) = true := decide_eq_true (by omega)
    rw [e]
    exact iteT (k _ (.inl rfl))
  · have e : decide ((p : Int) < (L.length : Int)) = false := decide_eq_false (by omega)
    rw [e]
    have hp' : p < L.length + ps.length := hp
    have hr2 : p - L.length < ps.length := by omega
    have hq : ps[p - L.length]? = some ps[p - L.length] := List.getElem?_eq_getElem hr2
    have hlen := Paired.length h3
    obtain ⟨x, hx⟩ : ∃ x, xs[p - L.length]? = some x := ⟨xs[p - L.length], List.getElem?_eq_getElem (by omega)⟩
    obtain ⟨q', hq', b, rfl, hb⟩ := paired_get h3 hx
    rw [hq] at hq'
    cases hq'
    refine iteF ⟨_, rfl, a, CJ, dx, _, _, rfl, h1, TJ.cl, TJ.pt, jf_pt, _, rfl, _, rfl, a, CJ, dx, _, _, rfl, h1, TJ.cl, TJ.al, jf_al, _, _, rfl, ⟨hz, rfl⟩, _, _, rfl, rfl, pt, _, _, _, rfl, rfl, SqT.of h2, at_g (j := p - L.length) (by rw [tv_len]; omega) hx, ?_⟩
    exact k _ (.inr ⟨b, p - L.length, _, rfl, hb, by omega, hq⟩)
theorem ok_parts_of (T : Bi K mg) (TJ : TJx K CJ) (C1 : HasM P w K mg base CJ "check_piece" 3 ["self", "piece"] (sp_check_piece CJ)) (D : Md K CJ "parts_of" "Joins.parts_of" st_Joins_parts_of) : HasM P w K mg base CJ "parts_of" 4 ["self", "piece"] (sp_parts_of CJ) :=
  D.ok sc_Joins_parts_of bd_Joins_parts_of (fun vs H Q E ⟨_, _, _, _, e, _⟩ => by rw [e]; rfl) (body_Joins_parts_of T TJ C1)
/-- of a letter -/
def sp_piece_of (C : Addr) : Sp := fun vs H Q _ => ∃ a L ps i c, vs = [.ref a, tv [c]] ∧ JO H C a L ps ∧ L[i]? = some c ∧ Q (iv i) H
abbrev st_Joins_piece_of : Stmt := inC 18 9
theorem sc_Joins_piece_of : FnScope ["self", "text"] ["self", "text"] (defScope st_Joins_piece_of) := ⟨rfl, rfl, rfl, by decide +kernel, rfl, by decide +kernel, by decide +kernel⟩
theorem bd_Joins_piece_of : Bnd "piece_of" "Joins.piece_of" st_Joins_piece_of ["self", "text"] := fun _ _ _ _ _ _ us hl => match us, hl with | [_, _], _ => rfl
-- 0:self 1:text
theorem body_Joins_piece_of (TJ : TJx K CJ) : Body P w K mg base "Joins.piece_of" st_Joins_piece_of 0 ["self", "text"] (sp_piece_of CJ) := by
  have nd := sc_Joins_piece_of.nd
  intro f cdv A outer s H vs Q E hr h
  obtain ⟨a, L, ps, i, c, rfl, ⟨tl, rd, nd', J⟩, hi, k⟩ := h
  refine ⟨_, (pss_one (ps_ret (pe_dget1 (hu_of hr) (pe_fld (pv 0) rfl) (pv 1) ⟨rfl, rfl, rfl, rfl⟩))), ?_⟩

  obtain ⟨dx, pt, m, xs, h1, h2, h3⟩ := J.ob
  obtain ⟨nk, h6, h7, h8⟩ := J.nd
  refine ⟨_, rfl, a, CJ, dx, _, _, rfl, h1, TJ.cl, TJ.nd, jf_nd, nd', rfl, .inl ⟨nk, .inl h6⟩, _, rfl, valV nk (.inr ⟨#[c]⟩), DGet.k (k := Sum.inr ⟨#[c]⟩) h6, ?_⟩
  rw [h7 i c hi]
  exact k
theorem ok_piece_of (TJ : TJx K CJ) (D : Md K CJ "piece_of" "Joins.piece_of" st_Joins_piece_of) : HasM P w K mg base CJ "piece_of" 1 ["self", "text"] (sp_piece_of CJ) :=
  D.ok sc_Joins_piece_of bd_Joins_piece_of (fun vs H Q E ⟨_, _, _, _, _, e, _⟩ => by rw [e]; rfl) (body_Joins_piece_of TJ)
def sp_pieces (C : Addr) : Sp := fun vs H Q _ => ∃ a L ps, vs = [.ref a] ∧ JO H C a L ps ∧ Q (iv (np L ps)) H
abbrev st_Joins_pieces : Stmt := inC 18 3
theorem sc_Joins_pieces : FnScope ["self"] ["self"] (defScope st_Joins_pieces) := ⟨rfl, rfl, rfl, by decide +kernel, rfl, by decide +kernel, by decide +kernel⟩
theorem bd_Joins_pieces : Bnd "pieces" "Joins.pieces" st_Joins_pieces ["self"] := fun _ _ _ _ _ _ us hl => match us, hl with | [_], _ => rfl
-- 0:self
theorem body_Joins_pieces (T : Bi K mg) (TJ : TJx K CJ) : Body P w K mg base "Joins.pieces" st_Joins_pieces 0 ["self"] (sp_pieces CJ) := by
  have nd := sc_Joins_pieces.nd
  intro f cdv A outer s H vs Q E hr h
  obtain ⟨a, L, ps, rfl, ⟨tl, rd, nd', J⟩, k⟩ := h
  refine ⟨_, (pss_one (ps_ret (pe_callB call_len (by rfl) T.len (by decide +kernel) (pa_cons (pe_fld (pv 0) rfl) pa_nil)))), ?_⟩

  obtain ⟨dx, pt, m, xs, h1, h2, h3⟩ := J.ob
  refine ⟨_, rfl, a, CJ, dx, _, _, rfl, h1, TJ.cl, TJ.tl, jf_tl, _, _, rfl, .inl ⟨_, SqL.of J.tl, rfl⟩, ?_⟩
  rw [txv_len]
  exact k
theorem ok_pieces (T : Bi K mg) (TJ : TJx K CJ) (D : Pd K CJ "pieces" "Joins.pieces" st_Joins_pieces) : HasP P w K mg base CJ "pieces" 1 ["self"] (sp_pieces CJ) :=
  D.ok sc_Joins_pieces bd_Joins_pieces (fun vs H Q E ⟨_, _, _, e, _⟩ => by rw [e]; rfl) (body_Joins_pieces T TJ)
end
end Rj
set_option Elab.async false
set_option linter.all false
set_option maxRecDepth 100000
set_option maxHeartbeats 2000000
namespace Rj
open PySem PySem.Spec PyProof.Rows L2
/-! ### rules whose frame is named (for a comprehension's leaf) -/
section
variable {X : Cx} {K1 : PySem.W.Frag} {pos : Pos}
theorem pe_fldK {e : Expr} {ta : TE} {f : Str} (hK : X.K = K1) (he : PE X e ta) (hb : attributeBase e f X.env (eval e X.env) = eval e X.env) : PE X (.Attribute e f pos) (tFld K1 ta f) := by
  subst hK
  exact pe_fld he hb
theorem pg_tupK {es : List Expr} {k : Nat} {t : TGs} {n : Nat} (hK : X.K = K1) (hc : X.calm = true) (h : PGs X es t)
    (hn : (assignEach es X.env).length = n := by rfl) (hst : (assignEach es X.env).findIdx? (·.1) = none := by rfl) : PG X (.Tuple es k pos) (gTup K1 n t) := by
  subst hK
  exact pg_tup hc h hn hst
theorem ix_listK (hK : X.K = K1) : IxR X (rIxL K1) := hK ▸ ix_list
theorem ix_tupK (hK : X.K = K1) : IxR X (rIxT K1) := hK ▸ ix_tup
theorem ix_seqK (hK : X.K = K1) : IxR X (rIx K1) := hK ▸ ix_seq
theorem op_inK (hK : X.K = K1) : OpR X (compareOp .In) (rIn K1 false) := hK ▸ op_in_seq
theorem op_eqLK (hK : X.K = K1) (hu : X.A.units + 64 < cLine) : OpR X (compareOp .Eq) (rEqL K1) := hK ▸ op_eqL hu
theorem call_lenK (hK : X.K = K1) : CallR X (.builtin "len") (fun xs H Q => ∃ x n, xs = [x] ∧ LenV K1 x H n ∧ Q (.int n) H) := hK ▸ call_len
theorem call_list_ofK (hK : X.K = K1) : CallR X (.type "list") (fun xs H Q => ∃ p ys, xs = [.ref p] ∧ (SqL K1 H p ys ∨ SqT K1 H p ys) ∧ ∀ l, H l = none → Q (.ref l) (upd H l (.lst ys))) := hK ▸ call_list_of
theorem call_tuple_ofK (hK : X.K = K1) : CallR X (.type "tuple") (fun xs H Q => ∃ p ys, xs = [.ref p] ∧ ((SqL K1 H p ys ∧ ∀ l, H l = none → Q (.ref l) (upd H l (.tup ys))) ∨ (SqT K1 H p ys ∧ Q (.ref p) H))) := hK ▸ call_tuple_of
theorem pi_listK {tg l : Expr} {tl : TE} (hK : X.K = K1) (hl : PE X l tl) : PI X tg l (iList K1 tl) := hK ▸ pi_list hl
theorem pi_tupK {tg l : Expr} {tl : TE} (hK : X.K = K1) (hl : PE X l tl) : PI X tg l (iTup K1 tl) := hK ▸ pi_tup hl
theorem pe_joinK {o e : Expr} {to te : TE} {apos : Pos} (hK : X.K = K1) (ho : PE X o to) (he : PE X e te) (hs : starEach [e] X.env = [(false, eval e X.env)] := by rfl) (hbase : attributeBase o "join" X.env (eval o X.env) = eval o X.env := by rfl) (hline : (apos.endLine == pos.line) = true := by rfl) :
    PE X (.Call (.Attribute o "join" apos) [e] [] pos) (tM1 (fun x xs H Q => ∃ a p, ∃ ys : List Str, x = .str a ∧ xs = [.ref p] ∧ (SqL K1 H p (ys.map V.str) ∨ SqT K1 H p (ys.map V.str)) ∧
      (ys.map (·.length)).sum + ys.length * a.length ≤ 16777216 ∧ Q (.str (Txt.join a ys)) H) to te) := by
  subst hK
  exact pe_join ho he hs hbase hline
end
end Rj
set_option Elab.async false
set_option linter.all false
set_option maxRecDepth 100000
set_option maxHeartbeats 2000000
namespace Rj
open PySem PySem.Spec PyProof.Rows L2
theorem cod_at {L u : List Nat} (hu : ∀ i ∈ u, i < L.length) {i c : Nat} (h : (cod L u)[i]? = some c) : ∃ j, u[i]? = some j ∧ L[j]? = some c := by
  unfold cod at h
  rw [List.getElem?_map] at h
  cases hj : u[i]? with
  | none => rw [hj] at h; cases h
  | some j =>
    rw [hj] at h
    have hl := hu j (List.mem_of_getElem? hj)
    refine ⟨j, rfl, ?_⟩
    rw [← h]
    simp [List.getElem?_eq_getElem hl, hl]
theorem take_snoc {α : Type} {u : List α} {i : Nat} {j : α} (h : u[i]? = some j) : u.take (i + 1) = u.take i ++ [j] := by
  obtain ⟨hi, rfl⟩ := List.getElem?_eq_some_iff.mp h
  rw [List.take_add_one, List.getElem?_eq_getElem hi]; rfl
theorem str_app (u v : List Nat) : (⟨u.toArray⟩ : Str) ++ (⟨v.toArray⟩ : Str) = ⟨(u ++ v).toArray⟩ := by
  show (⟨u.toArray ++ v.toArray⟩ : Str) = _
  simp
section
variable {P : Program} {w : World} {K : PySem.W.Frag} {mg : Str → Option Value} {base : Heap} {CJ : Addr}
def sp_is_proper (C : Addr) : Sp := fun vs H Q _ => ∃ (a b : Addr) (L : List Nat) (ps : List (Nat × Nat)) (tl rd nd : Addr) (x y : Nat), vs = [.ref a, .ref b] ∧ JOx H C a L ps tl rd nd ∧ H b = some (.tup [iv x, iv y]) ∧ Jl L ps ∧ x < np L ps ∧ y < np L ps ∧
  stg L.length ps (ltr L.length ps x ++ ltr L.length ps y) = [x, y] ∧ ∀ H', Same H H' → Q (.bl true) H'
abbrev st_Joins_is_proper : Stmt := inC 18 2
theorem sc_Joins_is_proper : FnScope ["self", "pair", "left", "right", "most", "text", "row", "letter"] ["self", "pair"] (defScope st_Joins_is_proper) := ⟨rfl, rfl, rfl, by decide +kernel, rfl, by decide +kernel, by decide +kernel⟩
theorem bd_Joins_is_proper : Bnd "is_proper" "Joins.is_proper" st_Joins_is_proper ["self", "pair"] := fun _ _ _ _ _ _ us hl => match us, hl with | [_, _], _ => rfl
-- 0:self 1:pair 2:left 3:right 4:most 5:text 6:row 7:letter
theorem body_Joins_is_proper (T : Bi K mg) (TJ : TJx K CJ) (C_is_between : Has P w K mg base "is_between" 1 ["value", "least", "most"] sp_is_between) (C_cut_row : Has P w K mg base "cut_row" 2 ["ranks", "letters", "row"] sp_cut_row) : Body P w K mg base "Joins.is_proper" st_Joins_is_proper 2 ["self", "pair", "left", "right", "most", "text", "row", "letter"] (sp_is_proper CJ) := by
  have nd := sc_Joins_is_proper.nd
  intro f cdv A outer s H vs Q E hr h
  obtain ⟨a, b, L, ps, tl, rd, nd', x, y, rfl, J, hb, Jw, hx, hy, hst, k⟩ := h
  refine ⟨_, (pss_cons (ps_asg (pv 1) (pg_tup (n := 2) rfl (pgs_cons (pg_name (i := 2) nd rfl (by first | exact .inl rfl | exact .inr rfl)) (pgs_cons (pg_name (i := 3) nd rfl (by first | exact .inl rfl | exact .inr rfl)) pgs_nil))))
    (pss_cons (ps_set (i := 4) nd rfl (by first | exact .inl rfl | exact .inr rfl) (pe_op op_sub (pe_callB call_len (by rfl) T.len (by decide +kernel) (pa_cons (pe_fld (pv 0) rfl) pa_nil)) pe_int))
    (pss_cons (ps_if (PW.pt (pw_or (pt_not (pt_val (c_fn C_is_between hr (by rfl) (pa_cons (pv 2) (pa_cons pe_int (pa_cons (pv 4) pa_nil)))))) (pw_or1 (pt_not (pt_val (c_fn C_is_between hr (by rfl) (pa_cons (pv 3) (pa_cons pe_int (pa_cons (pv 4) pa_nil)))))))))
      (pss_one (ps_ret pe_bl))
      pss_nil)
    (pss_cons (ps_set (i := 5) nd rfl (by first | exact .inl rfl | exact .inr rfl) (pe_op op_add_str (pe_ix ix_list (pe_fld (pv 0) rfl) (pv 2) (fun _ _ => rfl)) (pe_ix ix_list (pe_fld (pv 0) rfl) (pv 3) (fun _ _ => rfl))))
    (pss_cons (ps_if (pt_cmpR op_gt (pe_callB call_len (by rfl) T.len (by decide +kernel) (pa_cons (pv 5) pa_nil)) (c_gi (by rfl) T.LONGEST_PIECE) (nomark _))
      (pss_one (ps_ret pe_bl))
      pss_nil)
    (pss_cons (ps_set (i := 6) nd rfl (by first | exact .inl rfl | exact .inr rfl) (pe_callTy call_tuple_of (by rfl) T.tuple (by decide +kernel) (pa_cons (pe_lc (own := [("letter", 7)]) rfl nd (pi_str (pv 5)) (blkOk_by (N := ["self", "pair", "left", "right", "most", "text", "row", "letter"]) (sc := defScope (inC 18 2)) (by decide +kernel)) (fun _ _ _ _ _ => (pg_name (i := 7) nd rfl (by first | exact .inl rfl | exact .inr rfl))) (fun _ _ _ _ _ => pts_nil) (fun _ _ _ _ _ => (pe_dget (hu_of hr) (pe_fldK (K1 := K) (by rfl) (pv 0) rfl) (pv 7) (fun _ _ => rfl)))) pa_nil)))
    (pss_one (ps_ret (pe_cmpR (op_eqT hr.units) (c_fn C_cut_row hr (by rfl) (pa_cons (pe_fld (pv 0) rfl) (pa_cons (pe_callB call_len (by rfl) T.len (by decide +kernel) (pa_cons (pe_fld (pv 0) rfl) pa_nil)) (pa_cons (pv 6) pa_nil)))) (pv 1) (nomark _)))))))))), ?_⟩

  obtain ⟨dx, pt, m, xs, h1, h2, h3⟩ := J.ob
  obtain ⟨nk, h6, h7, h8⟩ := J.nd
  have hx' : x < L.length + ps.length := hx
  have hy' : y < L.length + ps.length := hy
  have hz : (⟨L.toArray⟩ : Str).length ≤ sizeLine := by rw [tv_len]; exact small_line (by have := Jw.l3; omega)
  refine ⟨_, rfl, b, _, rfl, SqT.of hb, rfl, _, _, rfl, _, _, rfl, rfl, ?_⟩
  refine ⟨_, rfl, a, CJ, dx, _, _, rfl, h1, TJ.cl, TJ.tl, jf_tl, _, _, rfl, .inl ⟨_, SqL.of J.tl, rfl⟩, _, _, rfl, rfl, ?_⟩
  rw [txv_len]
  refine ⟨_, rfl, _, rfl, x, 0, _, rfl, ?_⟩
  have e : ∀ z : Nat, z < np L ps → (decide ((0 : Int) ≤ (z : Int)) && decide ((z : Int) ≤ ((np L ps : Nat) : Int) - 1)) = true := fun z h => by
    have h' : z < L.length + ps.length := h
    simp; omega
  rw [e x hx]
  refine ⟨true, rfl, iteF ⟨_, rfl, _, rfl, y, 0, _, rfl, ?_⟩⟩
  rw [e y hy]
  refine ⟨true, rfl, iteF ?_⟩
  have t5x := Jw.t5 x hx'
  have t5y := Jw.t5 y hy'
  refine ⟨_, rfl, a, CJ, dx, _, _, rfl, h1, TJ.cl, TJ.tl, jf_tl, _, rfl, tl, _, _, _, rfl, rfl, SqL.of J.tl, at_g rfl (txv_get hx), ?_⟩
  refine ⟨_, rfl, a, CJ, dx, _, _, rfl, h1, TJ.cl, TJ.tl, jf_tl, _, rfl, tl, _, _, _, rfl, rfl, SqL.of J.tl, at_g rfl (txv_get hy), ?_⟩
  have hcl : ∀ z : Nat, (⟨(cod L (ltr L.length ps z)).toArray⟩ : Str).length = (ltr L.length ps z).length := fun z => by rw [tv_len, cod_len]
  refine ⟨_, _, rfl, rfl, small_line (by rw [hcl, hcl]; omega), ?_⟩
  rw [str_app, ← cod_app]
  have hcz : (⟨(cod L (ltr L.length ps x ++ ltr L.length ps y)).toArray⟩ : Str).length = (ltr L.length ps x).length + (ltr L.length ps y).length := by rw [tv_len, cod_len, List.length_append]
  refine ⟨_, rfl, _, _, rfl, ⟨by rw [hcz]; exact small_line (by omega), rfl⟩, _, _, rfl, rfl, false, by rw [hcz]; exact congrArg V.bl (decide_eq_false (by omega)), iteF ?_⟩
  have hlt : ∀ i ∈ ltr L.length ps x ++ ltr L.length ps y, i < L.length := fun i hi => by
    rcases List.mem_append.mp hi with q | q
    · exact Jw.pr.ltr_lt x hx' i q
    · exact Jw.pr.ltr_lt y hy' i q
  have hul : (ltr L.length ps x ++ ltr L.length ps y).length ≤ 10 := by rw [List.length_append]; omega
  generalize ltr L.length ps x ++ ltr L.length ps y = u at *
  refine ⟨_, rfl, _, rfl, fun D nD => lc_it walk_str (fun i H' => Same H H' ∧ H' D = some (.lst (ivs (u.take i)))) ⟨snew nD, by rw [upd_same]; rfl⟩ (fun _ _ _ _ => True.intro) ?_ ?_⟩
  · rintro i x' H1 H' hi ⟨s1, hl⟩ ⟨rfl, c, hc, rfl⟩
    obtain ⟨j, hj, hLj⟩ := cod_at hlt (by simpa using hc)
    have g : DGet H' nd' (.str ⟨#[c]⟩) (valV nk (.inr ⟨#[c]⟩)) := DGet.k (k := Sum.inr ⟨#[c]⟩) (s1 _ _ h6)
    rw [h7 j c hLj] at g
    refine ⟨rfl, _, rfl, a, CJ, dx, _, _, rfl, s1 _ _ h1, TJ.cl, TJ.nd, jf_nd, _, rfl, nd', _, rfl, g, _, hl, ?_, sch s1 nD, ?_⟩
    · rw [List.length_map, List.length_take]; exact small1000 (by omega)
    · rw [upd_same, take_snoc hj]; simp [ivs]
  · rintro H1 ⟨s1, hl⟩
    have hcl2 : ((⟨(cod L u).toArray⟩ : Str).cps.size) = u.length := by simp [cod]
    rw [hcl2, List.take_length] at hl
    refine ⟨_, _, rfl, .inl ⟨SqL.of hl, fun q nq => ?_⟩⟩
    have s2 := snw s1 nq (o := .tup (ivs u))
    refine ⟨_, rfl, a, CJ, dx, _, _, rfl, s2 _ _ h1, TJ.cl, TJ.rd, jf_rd, _, rfl, a, CJ, dx, _, _, rfl, s2 _ _ h1, TJ.cl, TJ.al, jf_al, _, _, rfl, ⟨hz, rfl⟩, _, rfl, rd, q, L.length, ps, u, by rw [tv_len]; rfl, s2 _ _ J.rd, upd_same, Jw.pr.lt, Jw.pr.nodup, by omega, fun H' q' s3 h' => ?_⟩
    rw [hst] at h'
    refine ⟨_, rfl, q', b, [(x : Int), (y : Int)], [(x : Int), (y : Int)], rfl, rfl, SqT.of h', SqT.of (s3 _ _ (s2 _ _ hb)), ?_⟩
    rw [decide_eq_true rfl]
    exact k _ (s2.trans s3)
theorem ok_is_proper (T : Bi K mg) (TJ : TJx K CJ) (C1 : Has P w K mg base "is_between" 1 ["value", "least", "most"] sp_is_between) (C2 : Has P w K mg base "cut_row" 2 ["ranks", "letters", "row"] sp_cut_row) (D : Md K CJ "is_proper" "Joins.is_proper" st_Joins_is_proper) : HasM P w K mg base CJ "is_proper" 3 ["self", "pair"] (sp_is_proper CJ) :=
  D.ok sc_Joins_is_proper bd_Joins_is_proper (fun vs H Q E ⟨_, _, _, _, _, _, _, _, _, e, _⟩ => by rw [e]; rfl) (body_Joins_is_proper T TJ C1 C2)
end
end Rj
set_option Elab.async false
set_option linter.all false
set_option maxRecDepth 100000
set_option maxHeartbeats 2000000
namespace Rj
open PySem PySem.Spec PyProof.Rows L2
theorem unq {H : Hp} {a b : Addr} {o o' : HO} (h : H a = some o) (h' : H b = some o') (n : o ≠ o') : a ≠ b := fun e => n (by rw [e, h'] at h; exact (Option.some.inj h).symm)
theorem paired_app {α β : Type} {F : α → β → Prop} : ∀ {xs : List α} {ys : List β} {xs' : List α} {ys' : List β}, Paired F xs ys → Paired F xs' ys' → Paired F (xs ++ xs') (ys ++ ys')
  | _, _, _, _, .nil, h => h
  | _, _, _, _, .cons a r, h => .cons a (paired_app r h)
theorem txv_snoc (L : List Nat) (ps : List (Nat × Nat)) (q : Nat × Nat) : txv L (ps ++ [q]) = txv L ps ++ [tv (cod L (ltr L.length ps q.1 ++ ltr L.length ps q.2))] := by
  unfold txv ltr
  rw [tx_snoc, List.map_append]
  rfl
theorem catA_by {K : PySem.W.Frag} {a b : Addr} {xs ys : List V} {H : Hp} {Q : VK} (ha : H a = some (.tup xs)) (hb : H b = some (.tup ys)) (ne : ys ≠ []) (hl : xs.length + ys.length ≤ sizeLine)
    (q : ∀ H' p, Same H H' → H' p = some (.tup (xs ++ ys)) → Q (.ref p) H') : rCatA K (.ref a) (.ref b) H Q :=
  ⟨a, b, xs, ys, rfl, rfl, SqT.of ha, SqT.of hb, hl, fun e => q H b (Same.refl H) (by rw [hb, e]; rfl), fun _ e => absurd e ne, fun _ _ p np => q _ p (snew np) upd_same⟩
/-- all but these four stand -/
def But (a b c d : Addr) (H H' : Hp) : Prop := ∀ x o, x ≠ a → x ≠ b → x ≠ c → x ≠ d → H x = some o → H' x = some o
section
variable {P : Program} {w : World} {K : PySem.W.Frag} {mg : Str → Option Value} {base : Heap} {CJ : Addr}
def sp_take (C : Addr) : Sp := fun vs H Q _ => ∃ (a b : Addr) (L : List Nat) (ps : List (Nat × Nat)) (tl rd nd : Addr) (x y : Nat), vs = [.ref a, .ref b] ∧ JOx H C a L ps tl rd nd ∧ H b = some (.tup [iv x, iv y]) ∧ Jl L ps ∧ x < np L ps ∧ y < np L ps ∧
  stg L.length ps (ltr L.length ps x ++ ltr L.length ps y) = [x, y] ∧ ∀ H', But a tl rd nd H H' → JOx H' C a L (ps ++ [(x, y)]) tl rd nd → Q .non H'
abbrev st_Joins_take : Stmt := inC 18 1
theorem sc_Joins_take : FnScope ["self", "pair", "rank", "text"] ["self", "pair"] (defScope st_Joins_take) := ⟨rfl, rfl, rfl, by decide +kernel, rfl, by decide +kernel, by decide +kernel⟩
theorem bd_Joins_take : Bnd "take" "Joins.take" st_Joins_take ["self", "pair"] := fun _ _ _ _ _ _ us hl => match us, hl with | [_, _], _ => rfl
-- 0:self 1:pair 2:rank 3:text
theorem body_Joins_take (T : Bi K mg) (TJ : TJx K CJ) (C_is_proper : HasM P w K mg base CJ "is_proper" 3 ["self", "pair"] (sp_is_proper CJ)) : Body P w K mg base "Joins.take" st_Joins_take 3 ["self", "pair", "rank", "text"] (sp_take CJ) := by
  have nd := sc_Joins_take.nd
  intro f cdv A outer s H vs Q E hr h
  obtain ⟨a, b, L, ps, tl, rd, nd', x, y, rfl, J, hb, Jw, hx, hy, hst, k⟩ := h
  refine ⟨_, (pss_cons (ps_set (i := 2) nd rfl (by first | exact .inl rfl | exact .inr rfl) (pe_callB call_len (by rfl) T.len (by decide +kernel) (pa_cons (pe_fld (pv 0) rfl) pa_nil)))
    (pss_cons (ps_if (pt_not (pt_val (c_me (pv 0) TJ.cl C_is_proper hr (pa_cons (pv 1) pa_nil))))
      (pss_one ps_never)
      pss_nil)
    (pss_cons (ps_set (i := 3) nd rfl (by first | exact .inl rfl | exact .inr rfl) (pe_op op_add_str (pe_ix ix_list (pe_fld (pv 0) rfl) (pe_ix ix_tup (pv 1) pe_int (fun _ _ => rfl)) (fun _ _ => rfl)) (pe_ix ix_list (pe_fld (pv 0) rfl) (pe_ix ix_tup (pv 1) pe_int (fun _ _ => rfl)) (fun _ _ => rfl))))
    (pss_cons (ps_fld (pv 0) (pe_op op_catA (pe_fld (pv 0) rfl) (pe_tup (pa_cons (pv 1) pa_nil))) rfl)
    (pss_cons (ps_dput (hu_of hr) (pe_fld (pv 0) rfl) (pv 3) (pe_callB call_len (by rfl) T.len (by decide +kernel) (pa_cons (pe_fld (pv 0) rfl) pa_nil)) rfl)
    (pss_cons (ps_expr (pe_bm PySem.F.plainAttrs_list PySem.F.slot_list_append PySem.F.type_list_append mt_append (pe_fld (pv 0) rfl) (pa_cons (pv 3) pa_nil)))
    (pss_cons (ps_dput (hu_of hr) (pe_fld (pv 0) rfl) (pv 1) (pv 2) rfl)
    (pss_one (ps_fld (pv 0) (pe_callB (call_max2 rfl) (by rfl) T.max (by decide +kernel) (pa_cons (pe_fld (pv 0) rfl) (pa_cons (pe_callB call_len (by rfl) T.len (by decide +kernel) (pa_cons (pv 3) pa_nil)) pa_nil))) rfl))))))))), ?_⟩

  obtain ⟨dx, pt, m, xs, h1, h2, h3⟩ := J.ob
  have hx' : x < L.length + ps.length := hx
  have hy' : y < L.length + ps.length := hy
  have t5x := Jw.t5 x hx'
  have t5y := Jw.t5 y hy'
  have p4 := Jw.p4
  have l3 := Jw.l3
  refine ⟨_, rfl, a, CJ, dx, _, _, rfl, h1, TJ.cl, TJ.pt, jf_pt, _, _, rfl, .inr ⟨_, SqT.of h2, rfl⟩, ?_⟩
  refine ⟨_, rfl, a, dx, _, rfl, h1, jf_ipr, _, rfl, a, b, L, ps, tl, rd, nd', x, y, rfl, J, hb, Jw, hx, hy, hst, fun H1 s1 => ⟨true, rfl, iteF ?_⟩⟩
  have J1 := J.mono s1
  replace h1 := s1 _ _ h1
  replace h2 := s1 _ _ h2
  replace h3 := h3.mono s1
  have hb1 := s1 _ _ hb
  have hcl : ∀ z : Nat, (⟨(cod L (ltr L.length ps z)).toArray⟩ : Str).length = (ltr L.length ps z).length := fun z => by rw [tv_len, cod_len]
  refine ⟨_, rfl, a, CJ, dx, _, _, rfl, h1, TJ.cl, TJ.tl, jf_tl, _, rfl, b, _, _, _, rfl, rfl, SqT.of hb1, at_g (j := 0) rfl rfl, tl, _, _, _, rfl, rfl, SqL.of J1.tl, at_g rfl (txv_get hx), ?_⟩
  refine ⟨_, rfl, a, CJ, dx, _, _, rfl, h1, TJ.cl, TJ.tl, jf_tl, _, rfl, b, _, _, _, rfl, rfl, SqT.of hb1, at_g (j := 1) rfl rfl, tl, _, _, _, rfl, rfl, SqL.of J1.tl, at_g rfl (txv_get hy), ?_⟩
  refine ⟨_, _, rfl, rfl, small_line (by rw [hcl, hcl]; omega), ?_⟩
  rw [str_app, ← cod_app]
  have hcz : (⟨(cod L (ltr L.length ps x ++ ltr L.length ps y)).toArray⟩ : Str).length = (ltr L.length ps x).length + (ltr L.length ps y).length := by rw [tv_len, cod_len, List.length_append]
  refine ⟨_, rfl, a, CJ, dx, _, _, rfl, h1, TJ.cl, TJ.pt, jf_pt, _, rfl, small_line (by show 1 ≤ 1000; omega), fun p0 np0 => catA_by (upd_keep h2 np0) upd_same (by simp) (small_line (by have := Paired.length h3; simp; omega)) fun H2 z s2' hz2 => ?_⟩
  have s2 := (snew np0).trans s2'
  refine ⟨_, rfl, a, CJ, dx, _, rfl, s2 _ _ h1, TJ.cl, TJ.pt, by show 6 < 1000; decide, ?_⟩
  rw [jf_ppt]
  have h1' := s2 _ _ h1
  obtain ⟨nk, h6, h7, h8⟩ := J1.nd
  have hnd := s2 _ _ h6
  have htl := s2 _ _ J1.tl
  have hrd := s2 _ _ J1.rd
  have hb2 := s2 _ _ hb1
  have n1 : a ≠ nd' := unq h1' hnd (by intro e; cases e)
  have n2 : a ≠ tl := unq h1' htl (by intro e; cases e)
  have n3 : a ≠ rd := unq h1' hrd (by intro e; cases e)
  have n4 : nd' ≠ tl := unq hnd htl (by intro e; cases e)
  have n5 : nd' ≠ rd := unq hnd hrd (by intro e; cases e)
  have n6 : tl ≠ rd := unq htl hrd (by intro e; cases e)
  have b1 : b ≠ a := unq hb2 h1' (by intro e; cases e)
  have b2 : b ≠ nd' := unq hb2 hnd (by intro e; cases e)
  have b3 : b ≠ tl := unq hb2 htl (by intro e; cases e)
  have b4 : b ≠ rd := unq hb2 hrd (by intro e; cases e)
  have hlen := Paired.length h3
  have nin : (x, y) ∉ ps := fun hm => by
    obtain ⟨r, hr1⟩ := List.getElem?_of_mem hm
    have hrl := (List.getElem?_eq_some_iff.mp hr1).1
    exact (Jw.pr.snoc (q := (x, y)) hx' hy' hst).inj (i := r) (j := ps.length) (q := (x, y)) (by rw [List.getElem?_append_left hrl]; exact hr1) (by simp) hrl
  -- numbers
  refine ⟨_, rfl, a, CJ, dx, _, _, rfl, upd_same, TJ.cl, TJ.tl, jf_tl, _, _, rfl, .inl ⟨_, SqL.of ((upd_ne n2.symm).trans htl), rfl⟩, ?_⟩
  rw [txv_len]
  refine ⟨_, rfl, a, CJ, dx, _, _, rfl, upd_same, TJ.cl, TJ.nd, jf_nd, _, rfl, nd', _, rfl, DPut.k (k := Sum.inr ⟨(cod L (ltr L.length ps x ++ ltr L.length ps y)).toArray⟩) (kvs := nk) ((upd_ne n1.symm).trans hnd) (small1000 (by omega)), ?_⟩
  -- texts
  refine ⟨_, rfl, a, CJ, dx, _, _, rfl, (upd_ne n1).trans upd_same, TJ.cl, TJ.tl, jf_tl, .inl ⟨rfl, _, SqL.of ((upd_ne n4.symm).trans ((upd_ne n2.symm).trans htl))⟩, _, rfl, _, _, _, rfl, rfl, (upd_ne n4.symm).trans ((upd_ne n2.symm).trans htl), small1000 (by rw [txv_len]; show L.length + ps.length ≤ 1000; omega), ?_⟩
  -- ranks
  refine ⟨_, rfl, _, rfl, a, CJ, dx, _, _, rfl, (upd_ne n2).trans ((upd_ne n1).trans upd_same), TJ.cl, TJ.rd, jf_rd, _, rfl, rd, _, rfl, DPut.t (k := kp (x, y)) (kvs := rkv ps 0) ((upd_ne n6.symm).trans ((upd_ne n5.symm).trans ((upd_ne n3.symm).trans hrd))) ((upd_ne b3).trans ((upd_ne b2).trans ((upd_ne b1).trans hb2))) (small1000 (by rw [rkv_len]; omega)), ?_⟩
  rw [hlen]
  rw [show V.int ((ps.length : Nat) : Int) = iv ps.length from rfl, rkv_put nin]
  -- longest
  refine ⟨_, rfl, a, CJ, dx, _, _, rfl, (upd_ne n3).trans ((upd_ne n2).trans ((upd_ne n1).trans upd_same)), TJ.cl, TJ.m, jf_m, _, rfl, _, _, rfl, ⟨by rw [hcz]; exact small_line (by omega), rfl⟩, _, _, rfl, _, rfl, a, CJ, dx, _, rfl, (upd_ne n3).trans ((upd_ne n2).trans ((upd_ne n1).trans upd_same)), TJ.cl, TJ.m, by show 6 < 1000; decide, ?_⟩
  obtain ⟨m', hm'⟩ : ∃ m' : Nat, V.int (if (((⟨(cod L (ltr L.length ps x ++ ltr L.length ps y)).toArray⟩ : Str).length : Nat) : Int) > (m : Int) then (((⟨(cod L (ltr L.length ps x ++ ltr L.length ps y)).toArray⟩ : Str).length : Nat) : Int) else (m : Int)) = iv m' := by
    split
    · exact ⟨_, rfl⟩
    · exact ⟨_, rfl⟩
  rw [hm', jf_pm]
  have fr : ∀ {O0 O1 O2 O3 O4 : HO}, But a tl rd nd' H2 (upd (upd (upd (upd (upd H2 a O0) nd' O1) tl O2) rd O3) a O4) := fun {_ _ _ _ _} c o c1 c2 c3 c4 h => (upd_ne c1).trans ((upd_ne c3).trans ((upd_ne c2).trans ((upd_ne c4).trans ((upd_ne c1).trans h))))
  refine k _ (fun c o c1 c2 c3 c4 h => fr c o c1 c2 c3 c4 (s2 _ _ (s1 _ _ h))) ⟨⟨dx, z, m', _, upd_same, fr z _ (unq hz2 h1' (by intro e; cases e)) (unq hz2 htl (by intro e; cases e)) (unq hz2 hrd (by intro e; cases e)) (unq hz2 hnd (by intro e; cases e)) hz2, ?_⟩, ?_, ?_, _, (upd_ne n1.symm).trans ((upd_ne n5).trans ((upd_ne n4).trans upd_same)), ?_, ?_⟩
  · refine paired_app (paired_mono (h3.mono s2) ?_) (.cons ⟨b, rfl, fr b _ b1 b3 b4 b2 hb2⟩ .nil)
    rintro v p ⟨c, rfl, hc⟩
    exact ⟨c, rfl, fr c _ (unq hc h1' (by intro e; cases e)) (unq hc htl (by intro e; cases e)) (unq hc hrd (by intro e; cases e)) (unq hc hnd (by intro e; cases e)) hc⟩
  · rw [txv_snoc]
    exact (upd_ne n2.symm).trans ((upd_ne n6).trans upd_same)
  · exact (upd_ne n3.symm).trans upd_same
  · intro i c hc
    rw [valV_put, if_neg, h7 i c hc]
    intro e
    have e' : [c] = cod L (ltr L.length ps x ++ ltr L.length ps y) := by
      have := congrArg (fun z : Str => z.cps.toList) (Sum.inr.inj e)
      simpa using this
    have := congrArg List.length e'
    rw [cod_len, List.length_append] at this
    have q1 := List.length_pos_iff.mpr (Jw.pr.ltr_ne x hx')
    have q2 := List.length_pos_iff.mpr (Jw.pr.ltr_ne y hy')
    simp at this
    omega
  · have := DSub.putK_len nk (Sum.inr ⟨(cod L (ltr L.length ps x ++ ltr L.length ps y)).toArray⟩) (V.int ((np L ps : Nat) : Int))
    rw [List.length_append]
    simp only [List.length_cons, List.length_nil]
    omega
theorem ok_take (T : Bi K mg) (TJ : TJx K CJ) (C1 : HasM P w K mg base CJ "is_proper" 3 ["self", "pair"] (sp_is_proper CJ)) (D : Md K CJ "take" "Joins.take" st_Joins_take) : HasM P w K mg base CJ "take" 4 ["self", "pair"] (sp_take CJ) :=
  D.ok sc_Joins_take bd_Joins_take (fun vs H Q E ⟨_, _, _, _, _, _, _, _, _, e, _⟩ => by rw [e]; rfl) (body_Joins_take T TJ C1)
end
end Rj
set_option Elab.async false
set_option linter.all false
set_option maxRecDepth 100000
set_option maxHeartbeats 2000000
namespace Rj
open PySem PySem.Spec PyProof.Rows L2
/-- all but this one stand -/
def But1 (a : Addr) (H H' : Hp) : Prop := ∀ x o, x ≠ a → H x = some o → H' x = some o
theorem But1.new {a p : Addr} {H H' : Hp} {o : HO} (s : But1 a H H') (n : H' p = none) : But1 a H (upd H' p o) := fun x u h e => upd_keep (s x u h e) n
theorem But1.own {a : Addr} {H H' : Hp} {o : HO} (s : But1 a H H') : But1 a H (upd H' a o) := fun x u h e => (upd_ne h).trans (s x u h e)
theorem But1.refl {a : Addr} {H : Hp} : But1 a H H := fun _ _ _ e => e
theorem But1.trans {a : Addr} {H H1 H2 : Hp} (s : But1 a H H1) (t : But1 a H1 H2) : But1 a H H2 := fun x u h e => t x u h (s x u h e)
theorem But1.same {a b : Addr} {H H2 : Hp} {o : HO} {u : HO} (hb : H b = none) (ha : H a = none) (ne : b ≠ a) (s : But1 a (upd (upd H b o) a u) H2) : Same H H2 := fun x w h =>
  s x w (ne_of_none h ha) ((upd_ne (ne_of_none h ha)).trans (upd_keep h hb))
section
variable {v w x y : V}
theorem pfA : putF "alphabet" v [] = ([("alphabet", v)] : List (Str × V)) := by kernel_rfl
theorem pfB : putF "pairs" w [("alphabet", v)] = ([("alphabet", v), ("pairs", w)] : List (Str × V)) := by kernel_rfl
theorem pfC : putF "texts" x [("alphabet", v), ("pairs", w)] = ([("alphabet", v), ("pairs", w), ("texts", x)] : List (Str × V)) := by kernel_rfl
theorem pfD : putF "ranks" y [("alphabet", v), ("pairs", w), ("texts", x)] = ([("alphabet", v), ("pairs", w), ("texts", x), ("ranks", y)] : List (Str × V)) := by kernel_rfl
end
theorem pfE {v : V} {pt tl rd nd : Addr} : putF "numbers" (.ref nd) [("alphabet", v), ("pairs", .ref pt), ("texts", .ref tl), ("ranks", .ref rd)] = ([("alphabet", v), ("pairs", .ref pt), ("texts", .ref tl), ("ranks", .ref rd), ("numbers", .ref nd)] : List (Str × V)) := by kernel_rfl
theorem pfF {v : V} {pt tl rd nd : Addr} : putF "longest" (.int 1) [("alphabet", v), ("pairs", .ref pt), ("texts", .ref tl), ("ranks", .ref rd), ("numbers", .ref nd)] = jf v pt tl rd nd 1 := by kernel_rfl
/-- the letters' own numbers -/
def numL : List Nat → Nat → List (Key × V)
  | [], _ => []
  | c :: L, i => (.inr ⟨#[c]⟩, iv i) :: numL L (i + 1)
theorem Proper.take {b : Nat} {ps : List (Nat × Nat)} (P : Proper b ps) (k : Nat) : Proper b (ps.take k) := by
  constructor
  · intro r p h
    rw [List.getElem?_take] at h
    split at h
    · exact P.lt r p h
    · cases h
  · intro r p h
    rw [List.getElem?_take] at h
    split at h
    · rename_i hr
      obtain ⟨l1, l2⟩ := P.lt r p h
      have hrl := (List.getElem?_eq_some_iff.mp h).1
      have hl : (ps.take k).length = min k ps.length := List.length_take
      have e : ∀ q, q < b + r → ltr b (ps.take k) q = ltr b ps q := fun q hq => by
        conv => rhs; rw [← List.take_append_drop k ps]
        rw [ltr_take _ _ (by omega)]
      rw [e _ l1, e _ l2, List.take_take, Nat.min_eq_left (by omega)]
      exact P.cut r p h
    · cases h
theorem Jl.take {L : List Nat} {ps : List (Nat × Nat)} (J : Jl L ps) (k : Nat) : Jl L (ps.take k) := by
  have hl : (ps.take k).length = min k ps.length := List.length_take
  refine ⟨J.al, J.l3, by have := J.p4; omega, J.pr.take k, fun p hp => ?_⟩
  have : ltr L.length (ps.take k) p = ltr L.length ps p := by
    conv => rhs; rw [← List.take_append_drop k ps]
    rw [ltr_take _ _ hp]
  rw [this]
  exact J.t5 p (by omega)
theorem Proper.cutT {b : Nat} {ps : List (Nat × Nat)} (P : Proper b ps) {i : Nat} {p : Nat × Nat} (h : ps[i]? = some p) : stg b (ps.take i) (ltr b (ps.take i) p.1 ++ ltr b (ps.take i) p.2) = [p.1, p.2] := by
  obtain ⟨l1, l2⟩ := P.lt i p h
  have hrl := (List.getElem?_eq_some_iff.mp h).1
  have hl : (ps.take i).length = min i ps.length := List.length_take
  have e : ∀ q, q < b + i → ltr b (ps.take i) q = ltr b ps q := fun q hq => by
    conv => rhs; rw [← List.take_append_drop i ps]
    rw [ltr_take _ _ (by omega)]
  rw [e _ l1, e _ l2]
  exact P.cut i p h
theorem numL_none : ∀ {L : List Nat} {k c : Nat}, c ∉ L → valV (numL L k) (.inr ⟨#[c]⟩) = none
  | [], _, _, _ => rfl
  | a :: L, k, c, h => by
    rw [List.mem_cons, not_or] at h
    show valV ((Sum.inr ⟨#[a]⟩, iv k) :: numL L (k + 1)) _ = none
    rw [valV_neg (p := ((Sum.inr ⟨#[a]⟩ : Key), iv k)) (by intro e; apply h.1; have := congrArg (fun z : Str => z.cps.toList) (Sum.inr.inj e); simpa using this.symm)]
    exact numL_none h.2
theorem numL_val : ∀ {L : List Nat} {k i c : Nat}, L.Nodup → L[i]? = some c → valV (numL L k) (.inr ⟨#[c]⟩) = some (iv (k + i))
  | [], _, _, _, _, h => by simp at h
  | a :: L, k, 0, c, hn, h => by
    have e : a = c := by simpa using h
    subst e
    exact valV_pos (p := ((Sum.inr ⟨#[a]⟩ : Key), iv k)) rfl
  | a :: L, k, i + 1, c, hn, h => by
    rw [List.nodup_cons] at hn
    have h' : L[i]? = some c := by simpa using h
    show valV ((Sum.inr ⟨#[a]⟩, iv k) :: numL L (k + 1)) _ = _
    rw [valV_neg (p := ((Sum.inr ⟨#[a]⟩ : Key), iv k)) (by intro e; apply hn.1; have := congrArg (fun z : Str => z.cps.toList) (Sum.inr.inj e); have e' : a = c := (by simpa using this); rw [e']; exact List.mem_of_getElem? h')]
    rw [numL_val hn.2 h', show k + 1 + i = k + (i + 1) by omega]
theorem numL_app : ∀ (L : List Nat) (k c : Nat), numL (L ++ [c]) k = numL L k ++ [(.inr ⟨#[c]⟩, iv (k + L.length))]
  | [], k, c => rfl
  | a :: L, k, c => by
    show _ :: numL (L ++ [c]) (k + 1) = _ :: (numL L (k + 1) ++ [(.inr ⟨#[c]⟩, iv (k + (L.length + 1)))])
    rw [numL_app L (k + 1) c, show k + 1 + L.length = k + (L.length + 1) by omega]
theorem numL_len : ∀ (L : List Nat) (k : Nat), (numL L k).length = L.length
  | [], _ => rfl
  | _ :: L, k => congrArg (· + 1) (numL_len L (k + 1))
theorem numL_put {L : List Nat} {c : Nat} (h : c ∉ L) : putK (numL L 0) (.inr ⟨#[c]⟩) (iv L.length) = numL (L ++ [c]) 0 := by
  rw [putK_new _ (numL_none h), numL_app, Nat.zero_add]
theorem txv_nil (L : List Nat) : txv L [] = L.map fun c => tv [c] := by
  refine List.ext_getElem? fun i => ?_
  by_cases h : i < L.length
  · have := txv_get (L := L) (ps := []) (p := i) (by show i < L.length + 0; omega)
    rw [this, ltr_letter [] h]
    simp [cod, h]
  · have : (txv L []).length = L.length := by rw [txv_len]; rfl
    rw [List.getElem?_eq_none (by omega), List.getElem?_eq_none (by simp; omega)]
section
variable {P : Program} {w : World} {K : PySem.W.Frag} {mg : Str → Option Value} {base : Heap} {CJ : Addr}
def sp_Joins (C : Addr) : Sp := fun vs H Q _ => ∃ (a dx pt : Addr) (L : List Nat) (ps : List (Nat × Nat)) (xs : List V), vs = [.ref a, tv L, .ref pt] ∧ H a = some (.ins C dx []) ∧ H pt = some (.tup xs) ∧ PairsV H xs ps ∧ Jl L ps ∧
  ∀ H', But1 a H H' → JO H' C a L ps → Q .non H'
abbrev st_Joins_init__ : Stmt := inC 18 0
theorem sc_Joins_init__ : FnScope ["self", "alphabet", "pairs", "at", "letter", "pair"] ["self", "alphabet", "pairs"] (defScope st_Joins_init__) := ⟨rfl, rfl, rfl, by decide +kernel, rfl, by decide +kernel, by decide +kernel⟩
theorem bd_Joins_init__ : Bnd "__init__" "Joins.__init__" st_Joins_init__ ["self", "alphabet", "pairs"] := fun _ _ _ _ _ _ us hl => match us, hl with | [_, _, _], _ => rfl
-- 0:self 1:alphabet 2:pairs 3:at 4:letter 5:pair
theorem body_Joins_init__ (T : Bi K mg) (TJ : TJx K CJ) (C_checked_alphabet : Has P w K mg base "checked_alphabet" 2 ["alphabet"] sp_checked_alphabet) (C_take : HasM P w K mg base CJ "take" 4 ["self", "pair"] (sp_take CJ)) : Body P w K mg base "Joins.__init__" st_Joins_init__ 4 ["self", "alphabet", "pairs", "at", "letter", "pair"] (sp_Joins CJ) := by
  have nd := sc_Joins_init__.nd
  intro f cdv A outer s H vs Q E hr h
  obtain ⟨a, dx, pt, L, ps, xs, rfl, ha, hpt, hps, Jw, k⟩ := h
  refine ⟨_, (pss_cons (ps_fld (pv 0) (c_fn C_checked_alphabet hr (by rfl) (pa_cons (pv 1) pa_nil)) rfl)
    (pss_cons (ps_fld (pv 0) (pe_tup pa_nil) rfl)
    (pss_cons (ps_fld (pv 0) (pe_callTy (cr_list_str rfl) (by rfl) T.list (by decide +kernel) (pa_cons (pv 1) pa_nil)) rfl)
    (pss_cons (ps_fld (pv 0) pe_dnewT rfl)
    (pss_cons (ps_fld (pv 0) (pe_dc (own := [("at", 3), ("letter", 4)]) rfl nd (pi_ens (by rfl) T.enumerate (pa_cons (pv 1) pa_nil)) (blkOk_by (N := ["self", "alphabet", "pairs", "at", "letter", "pair"]) (sc := defScope (inC 18 0)) (by decide +kernel)) (fun _ _ _ _ _ => (pg_tupK (K1 := K) (by rfl) (n := 2) rfl (pgs_cons (pg_name (i := 3) nd rfl (by first | exact .inl rfl | exact .inr rfl)) (pgs_cons (pg_name (i := 4) nd rfl (by first | exact .inl rfl | exact .inr rfl)) pgs_nil)))) (fun _ _ _ _ _ => pts_nil) (fun _ _ _ _ _ => (pv 4)) (fun _ _ _ _ _ => (pv 3))) rfl)
    (pss_cons (ps_fld (pv 0) pe_int rfl)
    (pss_one (ps_for PassesOwn.never rfl (pi_tup (pv 2)) (pg_name (i := 5) nd rfl (by first | exact .inl rfl | exact .inr rfl))
      (pss_one (ps_expr (c_me (pv 0) TJ.cl C_take hr (pa_cons (pe_callTy call_tuple_of (by rfl) T.tuple (by decide +kernel) (pa_cons (pv 5) pa_nil)) pa_nil)))))))))))), ?_⟩

  have l3 := Jw.l3
  have p4 := Jw.p4
  have hlen := Paired.length hps
  refine ⟨_, rfl, L, rfl, Jw.al, _, rfl, a, CJ, dx, _, rfl, ha, TJ.cl, TJ.al, by show 0 < 1000; decide, ?_⟩
  rw [pfA]
  generalize hG : upd H a _ = G1
  have s1 : But1 a H G1 := by rw [← hG]; exact But1.refl.own
  have a1 := (congrFun hG.symm a).trans upd_same
  clear hG
  refine ⟨small_line (by show 0 ≤ 1000; omega), fun p0 n0 => ⟨_, rfl, a, CJ, dx, _, rfl, upd_keep a1 n0, TJ.cl, TJ.pt, by show 1 < 1000; decide, ?_⟩⟩
  rw [pfB]
  have q0 : p0 ≠ a := (ne_of_none a1 n0).symm
  generalize hG : upd (upd G1 _ _) _ _ = G2
  have s2 : But1 a G1 G2 := by rw [← hG]; exact (But1.refl.new n0).own
  have a2 := (congrFun hG.symm a).trans upd_same
  have p2 : G2 p0 = some (.tup []) := by rw [← hG]; exact (upd_ne q0).trans upd_same
  clear hG
  refine ⟨_, rfl, L, rfl, by omega, fun tl n1 => ⟨_, rfl, a, CJ, dx, _, rfl, upd_keep a2 n1, TJ.cl, TJ.tl, by show 2 < 1000; decide, ?_⟩⟩
  rw [pfC]
  have q1 : tl ≠ a := (ne_of_none a2 n1).symm
  generalize hG : upd (upd G2 _ _) _ _ = G3
  have s3 : But1 a G2 G3 := by rw [← hG]; exact (But1.refl.new n1).own
  have a3 := (congrFun hG.symm a).trans upd_same
  have p3 : G3 p0 = some (.tup []) := s3 _ _ q0 p2
  have t3 : G3 tl = some (.lst (txv L [])) := by rw [← hG, txv_nil]; exact (upd_ne q1).trans upd_same
  clear hG
  refine fun rd n2 => ⟨_, rfl, a, CJ, dx, _, rfl, upd_keep a3 n2, TJ.cl, TJ.rd, by show 3 < 1000; decide, ?_⟩
  rw [pfD]
  have q2 : rd ≠ a := (ne_of_none a3 n2).symm
  generalize hG : upd (upd G3 _ _) _ _ = G4
  have s4 : But1 a G3 G4 := by rw [← hG]; exact (But1.refl.new n2).own
  have a4 := (congrFun hG.symm a).trans upd_same
  have p4' : G4 p0 = some (.tup []) := s4 _ _ q0 p3
  have t4 := s4 _ _ q1 t3
  have r4 : G4 rd = some (.dT (rkv [] 0)) := by rw [← hG]; exact (upd_ne q2).trans upd_same
  clear hG
  have hnd : L.Nodup := Jw.al.asc.imp (fun h => Nat.ne_of_lt h)
  refine ⟨_, rfl, _, rfl, fun nd' n3 => dc_ens (fun i H' => Same G4 H' ∧ H' nd' = some (.dK (numL (L.take i) 0))) ⟨snew n3, by rw [upd_same]; rfl⟩ ?_ ?_⟩
  · rintro i c T' H' hc ⟨sm, hD⟩ nT
    have hc' : L[i]? = some c := by simpa using hc
    have hil := (List.getElem?_eq_some_iff.mp hc').1
    have hni : c ∉ L.take i := fun hm => by
      obtain ⟨j, hj⟩ := List.getElem?_of_mem hm
      rw [List.getElem?_take] at hj
      split at hj
      · rename_i hji
        have h1 := numL_val (k := 0) hnd hc'
        rw [numL_val (k := 0) hnd hj] at h1
        simp [iv] at h1
        omega
      · cases hj
    refine ⟨T', _, rfl, SqT.of upd_same, rfl, _, _, rfl, _, _, rfl, rfl, rfl, _, rfl, _, rfl, numL (L.take i) 0, .inr ⟨#[c]⟩, rfl, upd_keep hD nT, ?_, sch (snw sm nT) n3, ?_⟩
    · rw [numL_len, List.length_take]; exact small1000 (by omega)
    · rw [upd_same, take_snoc hc']
      have := numL_put hni
      rw [List.length_take, Nat.min_eq_left (by omega)] at this
      rw [← this]
  · rintro H1 ⟨sm, hD⟩
    have hz : ((⟨L.toArray⟩ : Str)).cps.size = L.length := by simp
    rw [hz, List.take_length] at hD
    refine ⟨_, rfl, a, CJ, dx, _, rfl, sm _ _ a4, TJ.cl, TJ.nd, by show 4 < 1000; decide, ?_⟩
    rw [pfE]
    have a5' := sm _ _ a4
    have q3 : nd' ≠ a := (ne_of_none a4 n3).symm
    generalize hG : upd H1 _ _ = G5
    have s5 : But1 a G4 G5 := by rw [← hG]; exact But1.own fun x u _ h => sm x u h
    have a5 := (congrFun hG.symm a).trans upd_same
    have d5 : G5 nd' = some (.dK (numL L 0)) := by rw [← hG]; exact (upd_ne q3).trans hD
    clear hG
    refine ⟨_, rfl, a, CJ, dx, _, rfl, a5, TJ.cl, TJ.m, by show 5 < 1000; decide, ?_⟩
    rw [pfF]
    generalize hG : upd G5 _ _ = G6
    have s6 : But1 a G5 G6 := by rw [← hG]; exact But1.refl.own
    have a6 := (congrFun hG.symm a).trans upd_same
    clear hG
    have b6 : But1 a H G6 := ((((s1.trans s2).trans s3).trans s4).trans s5).trans s6
    have b12 := s1.trans s2
    have b13 := b12.trans s3
    have b14 := b13.trans s4
    have qpt : pt ≠ a := unq hpt ha (by intro e; cases e)
    have hpt6 := b6 _ _ qpt hpt
    have hps6 : PairsV G6 xs ps := paired_mono hps (by
      rintro v p ⟨c, rfl, hc⟩
      exact ⟨c, rfl, b6 _ _ (unq hc ha (by intro e; cases e)) hc⟩)
    have fresh : ∀ {x : Addr} {G : Hp}, But1 a H G → x ≠ a → G x = none → H x = none := fun {x G} b q n => by
      cases hx : H x with
      | none => rfl
      | some o => rw [b x o q hx] at n; cases n
    have f1 := fresh b12 q1 n1
    have f2 := fresh b13 q2 n2
    have f3 := fresh b14 q3 n3
    have J6 : JOx G6 CJ a L [] tl rd nd' := ⟨⟨dx, p0, 1, [], a6, s6 _ _ q0 (s5 _ _ q0 p4'), .nil⟩, s6 _ _ q1 (s5 _ _ q1 t4), s6 _ _ q2 (s5 _ _ q2 r4), numL L 0, s6 _ _ q3 d5, fun i c hc => by rw [numL_val hnd hc, Nat.zero_add], by rw [numL_len]; simp; omega⟩
    have old : ∀ {c : Addr} {o : HO}, H c = some o → c ≠ a → c ≠ tl ∧ c ≠ rd ∧ c ≠ nd' := fun {c o} h _ => ⟨ne_of_none h f1, ne_of_none h f2, ne_of_none h f3⟩
    refine ⟨_, rfl, pt, rfl, ⟨_, SqT.of hpt6⟩, for_tup (xs := xs) (fun i σ H' => But a tl rd nd' G6 H' ∧ JOx H' CJ a L (ps.take i) tl rd nd' ∧ ∃ v3 v4 v5, σ = [some (.ref a), some (tv L), some (.ref pt), v3, v4, v5]) ⟨fun _ _ _ _ _ _ h => h, by rw [List.take_zero]; exact J6, _, _, _, rfl⟩ ?_ ?_ ?_⟩
    · rintro i σ H' hi ⟨bb, _⟩
      obtain ⟨o1, o2, o3⟩ := old hpt qpt
      exact SqT.of (bb _ _ qpt o1 o2 o3 hpt6)
    · rintro i x σ H' hx ⟨bb, Jc, v3, v4, v5, rfl⟩
      obtain ⟨p, hp, c, rfl, hc⟩ := paired_get hps hx
      have qc : c ≠ a := unq hc ha (by intro e; cases e)
      obtain ⟨o1, o2, o3⟩ := old hc qc
      have hc' := bb _ _ qc o1 o2 o3 (b6 _ _ qc hc)
      obtain ⟨dx', pt', m', xs', hob, _⟩ := Jc.ob
      obtain ⟨l1, l2⟩ := Jw.pr.lt i p hp
      have hil := (List.getElem?_eq_some_iff.mp hp).1
      have hl : (ps.take i).length = i := by rw [List.length_take]; omega
      refine ⟨_, rfl, a, dx', _, rfl, hob, jf_tak, _, rfl, c, _, rfl, .inr ⟨SqT.of hc', a, c, L, ps.take i, tl, rd, nd', p.1, p.2, rfl, Jc, hc', Jw.take i, by show _ < L.length + (ps.take i).length; omega, by show _ < L.length + (ps.take i).length; omega, Jw.pr.cutT hp, fun H2 bb2 J2 => ?_⟩⟩
      refine ⟨fun x o c1 c2 c3 c4 h => bb2 x o c1 c2 c3 c4 (bb x o c1 c2 c3 c4 h), ?_, _, _, _, rfl⟩
      rw [take_snoc hp]
      exact J2
    · rintro σ H' ⟨bb, Jc, v3, v4, v5, rfl⟩
      rw [hlen, List.take_length] at Jc
      refine k H' (fun x o c1 h => ?_) ⟨tl, rd, nd', Jc⟩
      obtain ⟨o1, o2, o3⟩ := old h c1
      exact bb x o c1 o1 o2 o3 (b6 x o c1 h)
theorem ok_Joins (T : Bi K mg) (TJ : TJx K CJ) (C1 : Has P w K mg base "checked_alphabet" 2 ["alphabet"] sp_checked_alphabet) (C2 : HasM P w K mg base CJ "take" 4 ["self", "pair"] (sp_take CJ)) (D : Ci K mg CJ "Joins" "Joins.__init__" st_Joins_init__) : HasI P w K mg base CJ "Joins" 5 ["self", "alphabet", "pairs"] (sp_Joins CJ) :=
  D.ok sc_Joins_init__ bd_Joins_init__ (fun vs H Q E ⟨_, _, _, _, _, _, e, _⟩ => by rw [e]; rfl) (body_Joins_init__ T TJ C1 C2)
end
end Rj
set_option Elab.async false
set_option linter.all false
set_option maxRecDepth 100000
set_option maxHeartbeats 2000000
namespace Rj
open PySem PySem.Spec PyProof.Rows L2
section
variable {P : Program} {w : World} {K : PySem.W.Frag} {mg : Str → Option Value} {base : Heap} {CJ : Addr}
def sp_letters_of (C : Addr) : Sp := fun vs H Q _ => ∃ (a : Addr) (L : List Nat) (ps : List (Nat × Nat)) (u : List Nat), vs = [.ref a, tv (cod L u)] ∧ JO H C a L ps ∧ (∀ i ∈ u, i < L.length) ∧ u.length ≤ 200 ∧
  ∀ H' q, Same H H' → H' q = some (.tup (ivs u)) → Q (.ref q) H'
abbrev st_letters_of : Stmt := top 20
theorem sc_letters_of : FnScope ["joins", "text", "row", "at", "sign"] ["joins", "text"] (defScope st_letters_of) := ⟨rfl, rfl, rfl, by decide +kernel, rfl, by decide +kernel, by decide +kernel⟩
theorem bd_letters_of : Bnd "letters_of" "letters_of" st_letters_of ["joins", "text"] := fun _ _ _ _ _ _ us hl => match us, hl with | [_, _], _ => rfl
-- 0:joins 1:text 2:row 3:at 4:sign
theorem body_letters_of (T : Bi K mg) (TJ : TJx K CJ) (C_piece_of : HasM P w K mg base CJ "piece_of" 1 ["self", "text"] (sp_piece_of CJ)) : Body P w K mg base "letters_of" st_letters_of 1 ["joins", "text", "row", "at", "sign"] (sp_letters_of CJ) := by
  have nd := sc_letters_of.nd
  intro f cdv A outer s H vs Q E hr h
  obtain ⟨a, L, ps, u, rfl, J, hu, hl, k⟩ := h
  refine ⟨_, (pss_cons (ps_set (i := 2) nd rfl (by first | exact .inl rfl | exact .inr rfl) (pe_lst pa_nil))
    (pss_cons (ps_for PassesOwn.never rfl (pi_ens (by rfl) T.enumerate (pa_cons (pv 1) pa_nil)) (pg_tup (n := 2) rfl (pgs_cons (pg_name (i := 3) nd rfl (by first | exact .inl rfl | exact .inr rfl)) (pgs_cons (pg_name (i := 4) nd rfl (by first | exact .inl rfl | exact .inr rfl)) pgs_nil)))
      (pss_cons (ps_if (pt_cmpR op_notIn_sign (pv 4) (pe_fld (pv 0) rfl) (by rfl))
        (pss_one ps_never)
        pss_nil)
      (pss_one (ps_expr (pe_bm PySem.F.plainAttrs_list PySem.F.slot_list_append PySem.F.type_list_append mt_append (pv 2) (pa_cons (c_me (pv 0) TJ.cl C_piece_of hr (pa_cons (pv 4) pa_nil)) pa_nil))))))
    (pss_one (ps_ret (pe_callTy call_tuple_of (by rfl) T.tuple (by decide +kernel) (pa_cons (pv 2) pa_nil)))))), ?_⟩

  obtain ⟨tl, rd, nd', J'⟩ := id J
  obtain ⟨dx, pt, m, xs, h1, h2, h3⟩ := J'.ob
  have hsz : (⟨(cod L u).toArray⟩ : Str).cps.size = u.length := by simp [cod]
  refine ⟨small_line (by show 0 ≤ 1000; omega), fun l nl => ?_⟩
  refine ⟨_, rfl, _, rfl, it_ens (fun i σ H' => Same H H' ∧ H' l = some (.lst (ivs (u.take i))) ∧ ∃ v3 v4, σ = [some (.ref a), some (tv (cod L u)), some (.ref l), v3, v4]) ⟨snew nl, by rw [upd_same]; rfl, _, _, rfl⟩ ?_ ?_⟩
  · rintro i c T' σ H' hc ⟨s1, hL, v3, v4, rfl⟩ nT
    obtain ⟨j, hj, hLj⟩ := cod_at hu (by simpa using hc)
    have s2 := snw s1 nT (o := .tup [.int (i : Nat), .str ⟨#[c]⟩])
    refine ⟨T', _, rfl, SqT.of upd_same, rfl, _, _, rfl, _, _, rfl, rfl, ?_⟩
    have hin : (!decide (c ∈ (⟨L.toArray⟩ : Str).cps.toList)) = false := by
      have : c ∈ L := List.mem_of_getElem? hLj
      simpa using this
    refine ⟨_, rfl, _, rfl, a, CJ, dx, _, _, rfl, s2 _ _ h1, TJ.cl, TJ.al, jf_al, c, _, rfl, rfl, false, congrArg V.bl hin, iteF ?_⟩
    have hL2 := upd_keep (u := .tup [.int (i : Nat), .str ⟨#[c]⟩]) hL nT
    refine ⟨_, rfl, .inl ⟨rfl, _, SqL.of hL2⟩, _, rfl, a, dx, _, rfl, s2 _ _ h1, jf_pio, _, rfl, a, L, ps, j, c, rfl, J.mono s2, hLj, ?_⟩
    refine ⟨_, _, _, rfl, rfl, hL2, by rw [List.length_map, List.length_take]; exact small1000 (by omega), sch s2 nl, ?_, _, _, rfl⟩
    rw [upd_same, take_snoc hj]; simp [ivs]
  · rintro σ H' ⟨s1, hL, v3, v4, rfl⟩
    rw [hsz, List.take_length] at hL
    exact ⟨_, rfl, l, _, rfl, .inl ⟨SqL.of hL, fun q nq => k _ q (snw s1 nq) upd_same⟩⟩
theorem ok_letters_of (T : Bi K mg) (TJ : TJx K CJ) (C1 : HasM P w K mg base CJ "piece_of" 1 ["self", "text"] (sp_piece_of CJ)) (D : Df K mg "letters_of" st_letters_of) : Has P w K mg base "letters_of" 2 ["joins", "text"] (sp_letters_of CJ) :=
  D.ok sc_letters_of bd_letters_of (fun vs H Q E ⟨_, _, _, _, e, _⟩ => by rw [e]; rfl) (body_letters_of T TJ C1)
def sp_cut (C : Addr) : Sp := fun vs H Q _ => ∃ (a : Addr) (L : List Nat) (ps : List (Nat × Nat)) (u : List Nat), vs = [.ref a, tv (cod L u)] ∧ JO H C a L ps ∧ Jl L ps ∧ (∀ i ∈ u, i < L.length) ∧ u.length ≤ 200 ∧
  ∀ H' q, Same H H' → H' q = some (.tup (ivs (stg L.length ps u))) → Q (.ref q) H'
abbrev st_cut : Stmt := top 21
theorem sc_cut : FnScope ["joins", "text"] ["joins", "text"] (defScope st_cut) := ⟨rfl, rfl, rfl, by decide +kernel, rfl, by decide +kernel, by decide +kernel⟩
theorem bd_cut : Bnd "cut" "cut" st_cut ["joins", "text"] := fun _ _ _ _ _ _ us hl => match us, hl with | [_, _], _ => rfl
-- 0:joins 1:text
theorem body_cut (T : Bi K mg) (TJ : TJx K CJ) (C_cut_row : Has P w K mg base "cut_row" 2 ["ranks", "letters", "row"] sp_cut_row) (C_letters_of : Has P w K mg base "letters_of" 2 ["joins", "text"] (sp_letters_of CJ)) : Body P w K mg base "cut" st_cut 2 ["joins", "text"] (sp_cut CJ) := by
  have nd := sc_cut.nd
  intro f cdv A outer s H vs Q E hr h
  obtain ⟨a, L, ps, u, rfl, J, Jw, hu, hl, k⟩ := h
  refine ⟨_, (pss_one (ps_ret (c_fn C_cut_row hr (by rfl) (pa_cons (pe_fld (pv 0) rfl) (pa_cons (pe_callB call_len (by rfl) T.len (by decide +kernel) (pa_cons (pe_fld (pv 0) rfl) pa_nil)) (pa_cons (c_fn C_letters_of hr (by rfl) (pa_cons (pv 0) (pa_cons (pv 1) pa_nil))) pa_nil)))))), ?_⟩

  obtain ⟨tl, rd, nd', J'⟩ := id J
  obtain ⟨dx, pt, m, xs, h1, h2, h3⟩ := J'.ob
  have hz : (⟨L.toArray⟩ : Str).length ≤ sizeLine := by rw [tv_len]; exact small_line (by have := Jw.l3; omega)
  refine ⟨_, rfl, a, CJ, dx, _, _, rfl, h1, TJ.cl, TJ.rd, jf_rd, _, rfl, a, CJ, dx, _, _, rfl, h1, TJ.cl, TJ.al, jf_al, _, _, rfl, ⟨hz, rfl⟩, _, rfl, _, rfl, a, L, ps, u, rfl, J, hu, hl, fun H1 q s1 h => ?_⟩
  exact ⟨rd, q, L.length, ps, u, by rw [tv_len]; rfl, s1 _ _ J'.rd, h, Jw.pr.lt, Jw.pr.nodup, by omega, fun H2 q2 s2 h' => k _ q2 (s1.trans s2) h'⟩
theorem ok_cut (T : Bi K mg) (TJ : TJx K CJ) (C1 : Has P w K mg base "cut_row" 2 ["ranks", "letters", "row"] sp_cut_row) (C2 : Has P w K mg base "letters_of" 2 ["joins", "text"] (sp_letters_of CJ)) (D : Df K mg "cut" st_cut) : Has P w K mg base "cut" 3 ["joins", "text"] (sp_cut CJ) :=
  D.ok sc_cut bd_cut (fun vs H Q E ⟨_, _, _, _, e, _⟩ => by rw [e]; rfl) (body_cut T TJ C1 C2)
theorem joinL_nil : ∀ ys : List (List Nat), TL.joinL [] ys = ys.flatten
  | [] => rfl
  | [p] => by simp [TL.joinL]
  | p :: q :: r => by
    show p ++ ([] ++ TL.joinL [] (q :: r)) = _
    rw [joinL_nil (q :: r)]
    rfl
theorem blank0 : ("" : Str) = ⟨#[]⟩ := by decide +kernel
theorem join_nil (ys : List (List Nat)) : Txt.join ("" : Str) (ys.map fun u => (⟨u.toArray⟩ : Str)) = ⟨ys.flatten.toArray⟩ := by
  rw [blank0, ← joinL_nil]
  exact SX.join_S [] ys
theorem sum_le {α : Type} {f : α → Nat} {c : Nat} : ∀ {l : List α}, (∀ x ∈ l, f x ≤ c) → (l.map f).sum ≤ c * l.length
  | [], _ => by simp
  | a :: l, h => by
    have h1 := h a (List.mem_cons_self ..)
    have h2 := sum_le (l := l) fun x hx => h x (List.mem_cons_of_mem _ hx)
    simp only [List.map_cons, List.sum_cons, List.length_cons, Nat.mul_add, Nat.mul_one]
    omega
theorem cod_flat (L : List Nat) (f : Nat → List Nat) : ∀ R : List Nat, cod L (R.flatMap f) = (R.map fun p => cod L (f p)).flatten
  | [] => rfl
  | a :: R => by
    rw [List.flatMap_cons, cod_app, List.map_cons, List.flatten_cons, cod_flat L f R]
def sp_text_of_row (C : Addr) : Sp := fun vs H Q _ => ∃ (a b : Addr) (L : List Nat) (ps : List (Nat × Nat)) (R : List Nat), vs = [.ref a, .ref b] ∧ JO H C a L ps ∧ Jl L ps ∧ H b = some (.tup (ivs R)) ∧ (∀ p ∈ R, p < np L ps) ∧ R.length ≤ 200 ∧
  ∀ H', Same H H' → Q (tv (cod L (R.flatMap (ltr L.length ps)))) H'
abbrev st_text_of_row : Stmt := top 22
theorem sc_text_of_row : FnScope ["joins", "row", "piece"] ["joins", "row"] (defScope st_text_of_row) := ⟨rfl, rfl, rfl, by decide +kernel, rfl, by decide +kernel, by decide +kernel⟩
theorem bd_text_of_row : Bnd "text_of_row" "text_of_row" st_text_of_row ["joins", "row"] := fun _ _ _ _ _ _ us hl => match us, hl with | [_, _], _ => rfl
-- 0:joins 1:row 2:piece
theorem body_text_of_row (T : Bi K mg) (TJ : TJx K CJ) (C_text_of : HasM P w K mg base CJ "text_of" 4 ["self", "piece"] (sp_text_of CJ)) : Body P w K mg base "text_of_row" st_text_of_row 4 ["joins", "row", "piece"] (sp_text_of_row CJ) := by
  have nd := sc_text_of_row.nd
  intro f cdv A outer s H vs Q E hr h
  obtain ⟨a, b, L, ps, R, rfl, J, Jw, hb, hR, hl, k⟩ := h
  refine ⟨_, (pss_one (ps_ret (pe_join pe_str (pe_lc (own := [("piece", 2)]) rfl nd (pi_tup (pv 1)) (blkOk_by (N := ["joins", "row", "piece"]) (sc := defScope (top 22)) (by decide +kernel)) (fun _ _ _ _ _ => (pg_name (i := 2) nd rfl (by first | exact .inl rfl | exact .inr rfl))) (fun _ _ _ _ _ => pts_nil) (fun _ _ _ _ _ => (c_me (pv 0) TJ.cl C_text_of hr (pa_cons (pv 2) pa_nil))))))), ?_⟩

  obtain ⟨tl, rd, nd', J'⟩ := id J
  obtain ⟨dx, pt, m, xs, h1, h2, h3⟩ := J'.ob
  refine ⟨⟨_, rfl⟩, _, rfl, b, rfl, ⟨_, SqT.of hb⟩, fun D nD => lc_it (walk_tup (xs := ivs R)) (fun i H' => Same H H' ∧ H' D = some (.lst ((R.take i).map fun p => tv (cod L (ltr L.length ps p))))) ⟨snew nD, by rw [upd_same]; rfl⟩ (fun i H' _ q => SqT.of (q.1 _ _ hb)) ?_ ?_⟩
  · rintro i x H1 H' hi ⟨s1, hL⟩ ⟨rfl, hx⟩
    obtain ⟨p, hp, rfl⟩ : ∃ p, R[i]? = some p ∧ x = iv p := by
      rw [List.getElem?_map] at hx
      cases hp : R[i]? with
      | none => rw [hp] at hx; cases hx
      | some p => rw [hp] at hx; cases hx; exact ⟨p, rfl, rfl⟩
    refine ⟨rfl, _, rfl, a, dx, _, rfl, s1 _ _ h1, jf_txo, _, rfl, a, L, ps, p, rfl, J.mono s1, hR p (List.mem_of_getElem? hp), ?_, _, hL, ?_, sch s1 nD, ?_⟩
    · have h3 := Jw.l3
      have h4 := Jw.p4
      show L.length + ps.length ≤ 1000
      omega
    · rw [List.length_map, List.length_take]; exact small1000 (by omega)
    · rw [upd_same, take_snoc hp, List.map_append]; rfl
  · rintro H1 ⟨s1, hL⟩
    have hz : (ivs R).length = R.length := List.length_map ..
    rw [hz, List.take_length] at hL
    refine ⟨_, D, (R.map fun p => cod L (ltr L.length ps p)).map fun u => (⟨u.toArray⟩ : Str), rfl, rfl, .inl (SqL.of ?_), ?_, ?_⟩
    · rw [hL, List.map_map, List.map_map]; rfl
    · have hs : ∀ p ∈ R, (cod L (ltr L.length ps p)).length ≤ 5 := fun p hp => by rw [cod_len]; exact Jw.t5 p (hR p hp)
      have := sum_le hs
      rw [List.map_map, List.map_map]
      have e : (((fun x : Str => x.length) ∘ (fun u : List Nat => (⟨u.toArray⟩ : Str))) ∘ fun p => cod L (ltr L.length ps p)) = fun p => (cod L (ltr L.length ps p)).length := by
        funext p
        exact tv_len _
      have hb0 : ("" : Str).length = 0 := by decide +kernel
      rw [e, hb0]
      omega
    · rw [join_nil, ← cod_flat]
      exact k _ s1
theorem ok_text_of_row (T : Bi K mg) (TJ : TJx K CJ) (C1 : HasM P w K mg base CJ "text_of" 4 ["self", "piece"] (sp_text_of CJ)) (D : Df K mg "text_of_row" st_text_of_row) : Has P w K mg base "text_of_row" 5 ["joins", "row"] (sp_text_of_row CJ) :=
  D.ok sc_text_of_row bd_text_of_row (fun vs H Q E ⟨_, _, _, _, _, e, _⟩ => by rw [e]; rfl) (body_text_of_row T TJ C1)
end
end Rj
set_option Elab.async false
set_option linter.all false
set_option maxRecDepth 100000
set_option maxHeartbeats 2000000
namespace Rj
open PySem PySem.Spec PyProof.Rows L2
/-! ### shares -/
def sf (n d : Nat) : List (Str × V) := [("over", iv n), ("under", iv d)]
structure TSx (K : PySem.W.Frag) (C : Addr) : Prop where
  cl : Cls K C
  ov : NoAttr K C "over"
  un : NoAttr K C "under"
theorem sf_ov {n d : Nat} : (sf n d).lookup ("over" : Str) = some (iv n) := by kernel_rfl
theorem sf_un {n d : Nat} : (sf n d).lookup ("under" : Str) = some (iv d) := by kernel_rfl
theorem sf1 {n : Nat} : putF "over" (iv n) [] = ([("over", iv n)] : List (Str × V)) := by kernel_rfl
theorem sf2 {n d : Nat} : putF "under" (iv d) ([("over", iv n)] : List (Str × V)) = sf n d := by kernel_rfl
/-- a Share that is N / T in lowest terms -/
def Sh (H : Hp) (C a : Addr) (N T : Nat) : Prop := ∃ dx n d, H a = some (.ins C dx (sf n d)) ∧ IsFr (n : Int) (d : Int) (N : Int) (T : Int)
theorem Sh.mono {H H' : Hp} {C a : Addr} {N T : Nat} (s : Same H H') (h : Sh H C a N T) : Sh H' C a N T := by
  obtain ⟨dx, n, d, h1, h2⟩ := h
  exact ⟨dx, n, d, s _ _ h1, h2⟩
theorem nb {n N k : Nat} (h : n ≤ N) (hN : N < 2 ^ k) : ((n : Nat) : Int).natAbs < 2 ^ k := by
  rw [Int.natAbs_natCast]
  exact Nat.lt_of_le_of_lt h hN
theorem IsFr.leN {n d N T : Nat} (h : IsFr (n : Int) (d : Int) (N : Int) (T : Int)) (hT : 0 < T) : n ≤ N ∧ d ≤ T ∧ 0 < d := by
  obtain ⟨h1, h2, h3⟩ := h.le (by omega) (by omega)
  have := h.pos
  omega
section
variable {P : Program} {w : World} {K : PySem.W.Frag} {mg : Str → Option Value} {base : Heap} {CS : Addr}
def sp_Share (C : Addr) : Sp := fun vs H Q _ => ∃ (a dx : Addr) (N T : Nat), vs = [.ref a, iv N, iv T] ∧ H a = some (.ins C dx []) ∧ 0 < T ∧ T < 2 ^ 2000 ∧
  ∀ H', But1 a H H' → Sh H' C a N T → Q .non H'
abbrev st_Share_init__ : Stmt := inC 25 0
theorem sc_Share_init__ : FnScope ["self", "over", "under", "sign", "by"] ["self", "over", "under"] (defScope st_Share_init__) := ⟨rfl, rfl, rfl, by decide +kernel, rfl, by decide +kernel, by decide +kernel⟩
theorem bd_Share_init__ : Bnd "__init__" "Share.__init__" st_Share_init__ ["self", "over", "under"] := fun _ _ _ _ _ _ us hl => match us, hl with | [_, _, _], _ => rfl
-- 0:self 1:over 2:under 3:sign 4:by
theorem body_Share_init__ (T : Bi K mg) (TS : TSx K CS) (C_common_divisor : Has P w K mg base "common_divisor" 1 ["one", "two"] sp_common_divisor) : Body P w K mg base "Share.__init__" st_Share_init__ 1 ["self", "over", "under", "sign", "by"] (sp_Share CS) := by
  have nd := sc_Share_init__.nd
  intro f cdv A outer s H vs Q E hr h
  obtain ⟨a, dx, N, U, rfl, ha, hU, hB, k⟩ := h
  refine ⟨_, (pss_cons (ps_if (pt_cmpR op_eq (pv 2) pe_int (nomark _))
      (pss_one ps_never)
      pss_nil)
    (pss_cons (ps_set (i := 3) nd rfl (by first | exact .inl rfl | exact .inr rfl) (pe_ifExp (pt_cmpR op_gt (pv 2) pe_int (nomark _)) pe_int (pe_un un_neg pe_int)))
    (pss_cons (ps_set (i := 4) nd rfl (by first | exact .inl rfl | exact .inr rfl) (c_fn C_common_divisor hr (by rfl) (pa_cons (pe_callB call_abs (by rfl) T.abs (by decide +kernel) (pa_cons (pv 1) pa_nil)) (pa_cons (pe_callB call_abs (by rfl) T.abs (by decide +kernel) (pa_cons (pv 2) pa_nil)) pa_nil))))
    (pss_cons (ps_fld (pv 0) (pe_op op_fdivW (pe_op op_mul (pv 3) (pv 1)) (pv 4)) rfl)
    (pss_one (ps_fld (pv 0) (pe_op op_fdivW (pe_op op_mul (pv 3) (pv 2)) (pv 4)) rfl)))))), ?_⟩

  refine ⟨_, rfl, rfl, false, congrArg V.bl (decide_eq_false (by intro e; injection e; omega)), iteF ?_⟩
  refine ⟨_, rfl, _, _, rfl, rfl, true, congrArg V.bl (decide_eq_true (by omega)), iteT ?_⟩
  have ab : ∀ z : Nat, V.int (if (z : Int) < 0 then -(z : Int) else (z : Int)) = iv z := fun z => by rw [if_neg (by omega)]
  refine ⟨_, rfl, _, rfl, _, rfl, _, rfl, N, U, by rw [ab, ab]; rfl, ?_⟩
  have hg : 0 < Nat.gcd N U := Nat.gcd_pos_of_pos_right _ hU
  have hgl : Nat.gcd N U ≤ U := Nat.gcd_le_right _ hU
  have gB := nb hgl hB
  have dv : ∀ z : Nat, V.int ((1 : Int) * (z : Int) / ((Nat.gcd N U : Nat) : Int)) = iv (z / Nat.gcd N U) := fun z => by rw [Int.one_mul, ← Int.natCast_ediv]
  refine ⟨_, rfl, _, rfl, _, _, rfl, rfl, .inl (by constructor <;> decide), _, rfl, _, _, rfl, rfl, wide_div (by omega) gB (by decide) (by decide), ?_⟩
  dsimp only
  rw [dv]
  refine ⟨_, rfl, a, CS, dx, _, rfl, ha, TS.cl, TS.ov, by show 0 < 1000; decide, ?_⟩
  rw [sf1]
  refine ⟨_, rfl, _, rfl, _, _, rfl, rfl, .inl (by constructor <;> decide), _, rfl, _, _, rfl, rfl, wide_div (by omega) gB (by decide) (by decide), ?_⟩
  dsimp only
  rw [dv]
  refine ⟨_, rfl, a, CS, dx, _, rfl, upd_same, TS.cl, TS.un, by show 1 < 1000; decide, ?_⟩
  rw [sf2]
  refine k _ (But1.refl.own).own ⟨dx, _, _, upd_same, ?_⟩
  have := IsFr.of (N := (N : Int)) (T := (U : Int)) (by omega)
  rw [Int.gcd_natCast_natCast] at this
  rw [Int.natCast_ediv, Int.natCast_ediv]
  exact this
theorem ok_Share (T : Bi K mg) (TS : TSx K CS) (C1 : Has P w K mg base "common_divisor" 1 ["one", "two"] sp_common_divisor) (D : Ci K mg CS "Share" "Share.__init__" st_Share_init__) : HasI P w K mg base CS "Share" 2 ["self", "over", "under"] (sp_Share CS) :=
  D.ok sc_Share_init__ bd_Share_init__ (fun vs H Q E ⟨_, _, _, _, e, _⟩ => by rw [e]; rfl) (body_Share_init__ T TS C1)
def sp_add (C : Addr) : Sp := fun vs H Q _ => ∃ (a b : Addr) (N M T : Nat), vs = [.ref a, .ref b] ∧ Sh H C a N T ∧ Sh H C b M T ∧ 0 < T ∧ T < 2 ^ 900 ∧ N < 2 ^ 900 ∧ M < 2 ^ 900 ∧
  ∀ H' r, Same H H' → Sh H' C r (N + M) T → Q (.ref r) H'
theorem sub_sh {C r : Addr} {H : Hp} {N M N' M' : Nat} (h : Sh H C r N M) (e : N = N') (e' : M = M') : Sh H C r N' M' := by subst e e'; exact h
abbrev st_Share_add__ : Stmt := inC 25 1
theorem sc_Share_add__ : FnScope ["self", "other"] ["self", "other"] (defScope st_Share_add__) := ⟨rfl, rfl, rfl, by decide +kernel, rfl, by decide +kernel, by decide +kernel⟩
theorem bd_Share_add__ : Bnd "__add__" "Share.__add__" st_Share_add__ ["self", "other"] := fun _ _ _ _ _ _ us hl => match us, hl with | [_, _], _ => rfl
-- 0:self 1:other
theorem body_Share_add__ (T : Bi K mg) (TS : TSx K CS) (C_Share : HasI P w K mg base CS "Share" 2 ["self", "over", "under"] (sp_Share CS)) : Body P w K mg base "Share.__add__" st_Share_add__ 3 ["self", "other"] (sp_add CS) := by
  have nd := sc_Share_add__.nd
  intro f cdv A outer s H vs Q E hr h
  obtain ⟨a, b, N, M, U, rfl, ⟨da, n1, d1, h1, f1⟩, ⟨db, n2, d2, h2, f2⟩, hU, hB, hN, hM, k⟩ := h
  refine ⟨_, (pss_one (ps_ret (c_mk C_Share hr (by rfl) (pa_cons (pe_op op_add (pe_op op_mulW (pe_fld (pv 0) rfl) (pe_fld (pv 1) rfl)) (pe_op op_mulW (pe_fld (pv 1) rfl) (pe_fld (pv 0) rfl))) (pa_cons (pe_op op_mulW (pe_fld (pv 0) rfl) (pe_fld (pv 1) rfl)) pa_nil))))), ?_⟩

  obtain ⟨l1, l2, l3⟩ := f1.leN hU
  obtain ⟨m1, m2, m3⟩ := f2.leN hU
  refine ⟨_, rfl, a, CS, da, _, _, rfl, h1, TS.cl, TS.ov, sf_ov, _, rfl, b, CS, db, _, _, rfl, h2, TS.cl, TS.un, sf_un, _, _, rfl, rfl, wide_mul (nb l1 hN) (nb m2 hB) (by decide) (by decide) (by decide), ?_⟩
  refine ⟨_, rfl, b, CS, db, _, _, rfl, h2, TS.cl, TS.ov, sf_ov, _, rfl, a, CS, da, _, _, rfl, h1, TS.cl, TS.un, sf_un, _, _, rfl, rfl, wide_mul (nb m1 hM) (nb l2 hB) (by decide) (by decide) (by decide), _, _, rfl, rfl, ?_⟩
  refine ⟨_, rfl, a, CS, da, _, _, rfl, h1, TS.cl, TS.un, sf_un, _, rfl, b, CS, db, _, _, rfl, h2, TS.cl, TS.un, sf_un, _, _, rfl, rfl, wide_mul (nb l2 hB) (nb m2 hB) (by decide) (by decide) (by decide), ?_⟩
  refine fun x dx nx ndx ne => ⟨x, dx, n1 * d2 + n2 * d1, d1 * d2, ?_, upd_same, Nat.mul_pos l3 m3, ?_, fun H' b1 hs => ⟨rfl, k _ _ (But1.same ndx nx ne b1) ?_⟩⟩
  · show [V.ref x, V.int ((n1 : Int) * (d2 : Int) + (n2 : Int) * (d1 : Int)), V.int ((d1 : Int) * (d2 : Int))] = _
    rw [← Int.natCast_mul, ← Int.natCast_mul, ← Int.natCast_mul, ← Int.natCast_add]
  · exact Nat.lt_trans (Nat.mul_lt_mul'' (Nat.lt_of_le_of_lt l2 hB) (Nat.lt_of_le_of_lt m2 hB)) (by decide)
  · obtain ⟨dx', n, d, h, f⟩ := hs
    refine ⟨dx', n, d, h, ?_⟩
    rw [Int.natCast_add]
    refine f1.add f2 ?_
    rw [Int.natCast_add, Int.natCast_mul, Int.natCast_mul, Int.natCast_mul] at f
    exact f
def sp_mul (C : Addr) : Sp := fun vs H Q _ => ∃ (a b : Addr) (N T W V c : Nat), vs = [.ref a, .ref b] ∧ Sh H C a N T ∧ Sh H C b W V ∧ N = c * V ∧ 0 < T ∧ T < 2 ^ 900 ∧ N < 2 ^ 900 ∧ 0 < V ∧ V < 2 ^ 900 ∧ W < 2 ^ 900 ∧
  ∀ H' r, Same H H' → Sh H' C r (c * W) T → Q (.ref r) H'
abbrev st_Share_mul__ : Stmt := inC 25 3
theorem sc_Share_mul__ : FnScope ["self", "other"] ["self", "other"] (defScope st_Share_mul__) := ⟨rfl, rfl, rfl, by decide +kernel, rfl, by decide +kernel, by decide +kernel⟩
theorem bd_Share_mul__ : Bnd "__mul__" "Share.__mul__" st_Share_mul__ ["self", "other"] := fun _ _ _ _ _ _ us hl => match us, hl with | [_, _], _ => rfl
-- 0:self 1:other
theorem body_Share_mul__ (T : Bi K mg) (TS : TSx K CS) (C_Share : HasI P w K mg base CS "Share" 2 ["self", "over", "under"] (sp_Share CS)) : Body P w K mg base "Share.__mul__" st_Share_mul__ 3 ["self", "other"] (sp_mul CS) := by
  have nd := sc_Share_mul__.nd
  intro f cdv A outer s H vs Q E hr h
  obtain ⟨a, b, N, U, W, V', c, rfl, ⟨da, n1, d1, h1, f1⟩, ⟨db, n2, d2, h2, f2⟩, hc, hU, hB, hN, hV, hVB, hW, k⟩ := h
  refine ⟨_, (pss_one (ps_ret (c_mk C_Share hr (by rfl) (pa_cons (pe_op op_mulW (pe_fld (pv 0) rfl) (pe_fld (pv 1) rfl)) (pa_cons (pe_op op_mulW (pe_fld (pv 0) rfl) (pe_fld (pv 1) rfl)) pa_nil))))), ?_⟩

  obtain ⟨l1, l2, l3⟩ := f1.leN hU
  obtain ⟨m1, m2, m3⟩ := f2.leN hV
  refine ⟨_, rfl, a, CS, da, _, _, rfl, h1, TS.cl, TS.ov, sf_ov, _, rfl, b, CS, db, _, _, rfl, h2, TS.cl, TS.ov, sf_ov, _, _, rfl, rfl, wide_mul (nb l1 hN) (nb m1 hW) (by decide) (by decide) (by decide), ?_⟩
  refine ⟨_, rfl, a, CS, da, _, _, rfl, h1, TS.cl, TS.un, sf_un, _, rfl, b, CS, db, _, _, rfl, h2, TS.cl, TS.un, sf_un, _, _, rfl, rfl, wide_mul (nb l2 hB) (nb m2 hVB) (by decide) (by decide) (by decide), ?_⟩
  refine fun x dx nx ndx ne => ⟨x, dx, n1 * n2, d1 * d2, ?_, upd_same, Nat.mul_pos l3 m3, ?_, fun H' b1 hs => ⟨rfl, k _ _ (But1.same ndx nx ne b1) ?_⟩⟩
  · show [V.ref x, V.int ((n1 : Int) * (n2 : Int)), V.int ((d1 : Int) * (d2 : Int))] = _
    rw [← Int.natCast_mul, ← Int.natCast_mul]
  · exact Nat.lt_trans (Nat.mul_lt_mul'' (Nat.lt_of_le_of_lt l2 hB) (Nat.lt_of_le_of_lt m2 hVB)) (by decide)
  · obtain ⟨dx', n, d, h, f⟩ := hs
    refine ⟨dx', n, d, h, ?_⟩
    rw [Int.natCast_mul]
    rw [Int.natCast_mul, Int.natCast_mul] at f
    exact f1.mul f2 (by omega) (by rw [hc, Int.natCast_mul]) f
/-- how + and * stand -/
def Own (P : Program) (w : World) (K : PySem.W.Frag) (mg : Str → Option Value) (base : Heap) (C : Addr) (o : Operator) (k : Nat) (sp : Sp) : Prop := ∃ f fd, PySem.W.selfFirst K C = true ∧ PySem.W.findIn K (.ref C) (PySem.dunder o.info.2) = some (some (.ref f)) ∧ PySem.W.isFn K (.ref f) = true ∧
  FnOk P w K mg base CX0 k f fd ["self", "other"] sp ∧ Binds K fd ["self", "other"] []
theorem c_own {X : Cx} {o : Operator} {C : Addr} {k j : Nat} {sp : Sp} (h : Own X.prog X.w X.K X.mg X.base C o k sp) (hr : Room j X.A) (hj : k ≤ j := by decide) : OpR X (binaryOp o) (rOwn C sp) := by
  obtain ⟨f, fd, h1, h2, h3, h4, h5⟩ := h
  exact op_own h1 h2 h3 h4 (hr.mono hj) h5
def OwnD (K : PySem.W.Frag) (C : Addr) (o : Operator) (x q : Str) (st : Stmt) : Prop := ∃ f fd, FnQ K x q st f fd ∧ PySem.W.selfFirst K C = true ∧ PySem.W.findIn K (.ref C) (PySem.dunder o.info.2) = some (some (.ref f)) ∧ PySem.W.isFn K (.ref f) = true
theorem ok_add (T : Bi K mg) (TS : TSx K CS) (C1 : HasI P w K mg base CS "Share" 2 ["self", "over", "under"] (sp_Share CS)) (D : OwnD K CS .Add "__add__" "Share.__add__" st_Share_add__) : Own P w K mg base CS .Add 4 (sp_add CS) := by
  obtain ⟨f, fd, F, h1, h2, h3⟩ := D
  exact ⟨f, fd, h1, h2, h3, fn_body F sc_Share_add__ (fun vs H Q E ⟨_, _, _, _, _, e, _⟩ => by rw [e]; rfl) (body_Share_add__ T TS C1), F.bindsN bd_Share_add__⟩
theorem ok_mul (T : Bi K mg) (TS : TSx K CS) (C1 : HasI P w K mg base CS "Share" 2 ["self", "over", "under"] (sp_Share CS)) (D : OwnD K CS .Mult "__mul__" "Share.__mul__" st_Share_mul__) : Own P w K mg base CS .Mult 4 (sp_mul CS) := by
  obtain ⟨f, fd, F, h1, h2, h3⟩ := D
  exact ⟨f, fd, h1, h2, h3, fn_body F sc_Share_mul__ (fun vs H Q E ⟨_, _, _, _, _, _, _, e, _⟩ => by rw [e]; rfl) (body_Share_mul__ T TS C1), F.bindsN bd_Share_mul__⟩
end
end Rj
set_option Elab.async false
set_option linter.all false
set_option maxRecDepth 100000
set_option maxHeartbeats 2000000
namespace Rj
open PySem PySem.Spec PyProof.Rows L2
theorem starts_S (a b : List Nat) : Txt.startswith (⟨a.toArray⟩ : Str) (⟨b.toArray⟩ : Str) = b.isPrefixOf a := by
  have hl : ∀ l : List Nat, (⟨l.toArray⟩ : Str).length = l.length := tv_len
  unfold Txt.startswith
  rw [StrLaws.subAt_eq, hl, hl, List.drop_zero]
  rw [Bool.eq_iff_iff]
  simp only [Bool.and_eq_true, decide_eq_true_eq, beq_iff_eq, List.isPrefixOf_iff_prefix]
  constructor
  · rintro ⟨_, h⟩
    have h' : a.take b.length = b := by simpa using h
    rw [← h']
    exact List.take_prefix _ _
  · rintro ⟨t, rfl⟩
    simp
def oV : Option Nat → V
  | none => .non
  | some n => iv n
/-- a pair of a piece and its bound -/
def SpV (H : Hp) (R : Nat → Option Nat → Prop) (v : V) : Prop := ∃ t x bd, v = .ref t ∧ H t = some (.tup [iv x, oV bd]) ∧ R x bd
theorem SpV.mono {H H' : Hp} {R : Nat → Option Nat → Prop} {v : V} (s : Same H H') (h : SpV H R v) : SpV H' R v := by
  obtain ⟨t, x, bd, e, h, r⟩ := h
  exact ⟨t, x, bd, e, s _ _ h, r⟩
section
variable {P : Program} {w : World} {K : PySem.W.Frag} {mg : Str → Option Value} {base : Heap} {CJ : Addr}
def sp_fits_text : Sp := fun vs H Q _ => ∃ u v : List Nat, vs = [tv u, tv v] ∧ Q (.bl (u.isPrefixOf v || v.isPrefixOf u)) H
abbrev st_fits_text : Stmt := top 27
theorem sc_fits_text : FnScope ["piece_text", "rest"] ["piece_text", "rest"] (defScope st_fits_text) := ⟨rfl, rfl, rfl, by decide +kernel, rfl, by decide +kernel, by decide +kernel⟩
theorem bd_fits_text : Bnd "fits_text" "fits_text" st_fits_text ["piece_text", "rest"] := fun _ _ _ _ _ _ us hl => match us, hl with | [_, _], _ => rfl
-- 0:piece_text 1:rest
theorem body_fits_text  : Body P w K mg base "fits_text" st_fits_text 0 ["piece_text", "rest"] sp_fits_text := by
  have nd := sc_fits_text.nd
  intro f cdv A outer s H vs Q E hr h
  obtain ⟨u, v, rfl, k⟩ := h
  refine ⟨_, (pss_one (ps_ret (pe_or (pe_m1 PySem.F.slot_str_startswith PySem.F.type_str_startswith mt_startswith (pv 1) (pv 0)) (pe_one (pe_m1 PySem.F.slot_str_startswith PySem.F.type_str_startswith mt_startswith (pv 0) (pv 1)))))), ?_⟩

  refine ⟨_, rfl, ⟨_, rfl⟩, _, rfl, _, _, rfl, rfl, ?_⟩
  rw [starts_S]
  refine ⟨_, rfl, ?_⟩
  cases h : u.isPrefixOf v
  · refine iteF ⟨_, rfl, ⟨_, rfl⟩, _, rfl, _, _, rfl, rfl, ?_⟩
    rw [starts_S]
    rw [h, Bool.false_or] at k
    exact k
  · rw [h, Bool.true_or] at k
    exact iteT k
theorem ok_fits_text (D : Df K mg "fits_text" st_fits_text) : Has P w K mg base "fits_text" 1 ["piece_text", "rest"] sp_fits_text :=
  D.ok sc_fits_text bd_fits_text (fun vs H Q E ⟨_, _, e, _⟩ => by rw [e]; rfl) body_fits_text
def sp_right_spine (C : Addr) : Sp := fun vs H Q _ => ∃ (a : Addr) (L : List Nat) (ps : List (Nat × Nat)) (p : Nat), vs = [.ref a, iv p] ∧ JO H C a L ps ∧ Jl L ps ∧ p < np L ps ∧
  ∀ H' q xs, Same H H' → H' q = some (.tup xs) → (∀ v ∈ xs, SpV H' (RS L.length ps p) v) → xs.length ≤ 1000 → Q (.ref q) H'
def RSM (σ : L2.St) (H : Hp) : Nat := match σ with | [_, _, some (.ref q), _] => (match H q with | some (.tup [.int c, .int d]) => (d : Int).toNat + 1 | _ => 0) | _ => 0
abbrev st_right_spine : Stmt := top 31
theorem sc_right_spine : FnScope ["joins", "piece", "parts", "spine"] ["joins", "piece"] (defScope st_right_spine) := ⟨rfl, rfl, rfl, by decide +kernel, rfl, by decide +kernel, by decide +kernel⟩
theorem bd_right_spine : Bnd "right_spine" "right_spine" st_right_spine ["joins", "piece"] := fun _ _ _ _ _ _ us hl => match us, hl with | [_, _], _ => rfl
-- 0:joins 1:piece 2:parts 3:spine
theorem body_right_spine (T : Bi K mg) (TJ : TJx K CJ) (C_parts_of : HasM P w K mg base CJ "parts_of" 4 ["self", "piece"] (sp_parts_of CJ)) : Body P w K mg base "right_spine" st_right_spine 4 ["joins", "piece", "parts", "spine"] (sp_right_spine CJ) := by
  have nd := sc_right_spine.nd
  intro f cdv A outer s H vs Q E hr h
  obtain ⟨a, L, ps, p, rfl, J, Jw, hp, k⟩ := h
  refine ⟨_, (pss_cons (ps_set (i := 2) nd rfl (by first | exact .inl rfl | exact .inr rfl) (c_me (pv 0) TJ.cl C_parts_of hr (pa_cons (pv 1) pa_nil)))
    (pss_cons (ps_set (i := 3) nd rfl (by first | exact .inl rfl | exact .inr rfl) (pe_lst (pa_cons (pe_tup (pa_cons (pv 1) (pa_cons pe_non pa_nil))) pa_nil)))
    (pss_cons (ps_while PassesOwn.never (pt_cmpR op_notN (pv 2) pe_non (nomark _))
      (pss_cons (ps_expr (pe_bm PySem.F.plainAttrs_list PySem.F.slot_list_append PySem.F.type_list_append mt_append (pv 3) (pa_cons (pe_tup (pa_cons (pe_ix ix_tup (pv 2) pe_int (fun _ _ => rfl)) (pa_cons (pe_dget (hu_of hr) (pe_fld (pv 0) rfl) (pv 2) (fun _ _ => rfl)) pa_nil))) pa_nil)))
      (pss_one (ps_set (i := 2) nd rfl (by first | exact .inl rfl | exact .inr rfl) (c_me (pv 0) TJ.cl C_parts_of hr (pa_cons (pe_ix ix_tup (pv 2) pe_int (fun _ _ => rfl)) pa_nil))))))
    (pss_one (ps_ret (pe_callTy call_tuple_of (by rfl) T.tuple (by decide +kernel) (pa_cons (pv 3) pa_nil))))))), ?_⟩

  have l3 := Jw.l3
  have p4 := Jw.p4
  have hn : np L ps ≤ 7 := by show L.length + ps.length ≤ 7; omega
  obtain ⟨tl, rd, nd', J'⟩ := id J
  obtain ⟨dx, pt, m, xs0, h1, h2, h3⟩ := J'.ob
  refine ⟨_, rfl, a, dx, _, rfl, h1, jf_pao, _, rfl, a, L, ps, p, rfl, J, Jw.al, hp, by omega, fun v0 hv0 => ?_⟩
  refine ⟨_, rfl, small_line (by show 2 ≤ 1000; omega), fun t nt => ⟨small_line (by show 1 ≤ 1000; omega), fun l nl => ?_⟩⟩
  have hl0 : H l = none := by
    cases e : H l with
    | none => rfl
    | some o => have q := upd_keep (u := .tup [iv p, V.non]) e nt; rw [nl] at q; cases q
  have s0 := snw (snew nt (o := .tup [iv p, V.non])) nl (o := .lst [V.ref t])
  refine while_by (fun σ H' => Same H H' ∧ ∃ (x : Nat) (bd : Option Nat) (v : V) (xs : List V), σ = [some (.ref a), some (iv p), some v, some (.ref l)] ∧ H' l = some (.lst xs) ∧ (∀ v ∈ xs, SpV H' (RS L.length ps p) v) ∧
    xs.length + x ≤ 1 + p ∧ RS L.length ps p x bd ∧ PV H' L ps x v) RSM ⟨s0, p, none, v0, [V.ref t], rfl, upd_same, ?_, by simp, .top, ?_⟩ ?_ ?_
  · intro v hv
    cases List.mem_singleton.mp hv
    exact ⟨t, p, none, rfl, upd_keep upd_same nl, .top⟩
  · rcases hv0 with h | ⟨q, r, pr, e1, e2, e3, e4⟩
    · exact .inl h
    · exact .inr ⟨q, r, pr, e1, s0 _ _ e2, e3, e4⟩
  · rintro σ H1 ⟨s1, x, bd, v, xs, rfl, hL, hxs, hle, hrs, hv⟩
    refine ⟨_, rfl, rfl, _, rfl, ?_⟩
    rcases hv with rfl | ⟨q, r, pr, rfl, hq, rfl, hr1⟩
    · refine iteF ⟨_, rfl, l, _, rfl, .inl ⟨SqL.of hL, fun q nq => ?_⟩⟩
      exact k _ q xs (snw s1 nq) upd_same (fun v hv => (hxs v hv).mono (snew nq)) (by omega)
    · obtain ⟨l1, l2⟩ := Jw.pr.lt r pr hr1
      have hrl := (List.getElem?_eq_some_iff.mp hr1).1
      have g : DGet H1 rd (.ref q) (valV (rkv ps 0) (kp pr)) := DGet.t (k := kp pr) (s1 _ _ J'.rd) hq
      rw [rkv_val, rkF_of Jw.pr.nodup hr1, Nat.zero_add] at g
      refine iteT ⟨_, rfl, .inl ⟨rfl, _, SqL.of hL⟩, _, rfl, q, _, _, _, rfl, rfl, SqT.of hq, at_g (j := 1) rfl rfl, _, rfl, a, CJ, dx, _, _, rfl, s1 _ _ h1, TJ.cl, TJ.rd, jf_rd, _, rfl, rd, _, rfl, g, small_line (by show 2 ≤ 1000; omega), fun t2 nt2 => ?_⟩
      have s2 := snw s1 nt2 (o := .tup [iv pr.2, iv r])
      have hL2 := upd_keep (u := .tup [iv pr.2, iv r]) hL nt2
      have nl2 : l ≠ t2 := ne_of_none hL nt2
      refine ⟨_, _, _, rfl, rfl, hL2, small1000 (by omega), ?_⟩
      have s3 : Same H (upd (upd H1 t2 (.tup [iv pr.2, iv r])) l (.lst (xs ++ [V.ref t2]))) := sch s2 hl0
      have hq3 : (upd (upd H1 t2 (.tup [iv pr.2, iv r])) l (.lst (xs ++ [V.ref t2]))) q = some (.tup [iv pr.1, iv pr.2]) := (upd_ne (unq hq hL (by intro e; cases e))).trans (upd_keep hq nt2)
      have hm : RSM [some (.ref a), some (iv p), some (.ref q), some (.ref l)] H1 = pr.2 + 1 := by simp [RSM, hq]
      refine ⟨_, rfl, a, dx, _, rfl, s3 _ _ h1, jf_pao, _, rfl, q, _, _, _, rfl, rfl, SqT.of hq3, at_g (j := 1) rfl rfl, a, L, ps, pr.2, rfl, J.mono s3, Jw.al, by show _ < L.length + ps.length; omega, by omega, fun v3 hv3 => ⟨⟨s3, pr.2, some r, v3, _, rfl, upd_same, ?_, ?_, .step hrs hr1, hv3⟩, ?_⟩⟩
      · intro v hv
        rcases List.mem_append.mp hv with hv | hv
        · obtain ⟨t', x', bd', e, h, rr⟩ := hxs v hv
          exact ⟨t', x', bd', e, (upd_ne (unq h hL (by intro e; cases e))).trans (upd_keep h nt2), rr⟩
        · cases List.mem_singleton.mp hv
          exact ⟨t2, pr.2, some r, rfl, (upd_ne nl2.symm).trans upd_same, .step hrs hr1⟩
      · simp; omega
      · rw [hm]
        rcases hv3 with rfl | ⟨q4, r4, pr4, rfl, h4, e4, g4⟩
        · simp [RSM]
        · obtain ⟨m1, m2⟩ := Jw.pr.lt r4 pr4 g4
          simp [RSM, h4]
          omega
  · rintro σ H' Q1 Q2 hq ⟨v, e1, e3, c, e8, q⟩
    exact ⟨v, e1, e3, c, e8, hq _ _ q⟩
theorem ok_right_spine (T : Bi K mg) (TJ : TJx K CJ) (C1 : HasM P w K mg base CJ "parts_of" 4 ["self", "piece"] (sp_parts_of CJ)) (D : Df K mg "right_spine" st_right_spine) : Has P w K mg base "right_spine" 5 ["joins", "piece"] (sp_right_spine CJ) :=
  D.ok sc_right_spine bd_right_spine (fun vs H Q E ⟨_, _, _, _, e, _⟩ => by rw [e]; rfl) (body_right_spine T TJ C1)
def sp_left_spine (C : Addr) : Sp := fun vs H Q _ => ∃ (a : Addr) (L : List Nat) (ps : List (Nat × Nat)) (p : Nat), vs = [.ref a, iv p] ∧ JO H C a L ps ∧ Jl L ps ∧ p < np L ps ∧
  ∀ H' q xs, Same H H' → H' q = some (.tup xs) → (∀ v ∈ xs, SpV H' (LS L.length ps p) v) → xs.length ≤ 1000 → Q (.ref q) H'
def LSM (σ : L2.St) (H : Hp) : Nat := match σ with | [_, _, some (.ref q), _] => (match H q with | some (.tup [.int c, .int d]) => (c : Int).toNat + 1 | _ => 0) | _ => 0
abbrev st_left_spine : Stmt := top 32
theorem sc_left_spine : FnScope ["joins", "piece", "parts", "spine"] ["joins", "piece"] (defScope st_left_spine) := ⟨rfl, rfl, rfl, by decide +kernel, rfl, by decide +kernel, by decide +kernel⟩
theorem bd_left_spine : Bnd "left_spine" "left_spine" st_left_spine ["joins", "piece"] := fun _ _ _ _ _ _ us hl => match us, hl with | [_, _], _ => rfl
-- 0:joins 1:piece 2:parts 3:spine
theorem body_left_spine (T : Bi K mg) (TJ : TJx K CJ) (C_parts_of : HasM P w K mg base CJ "parts_of" 4 ["self", "piece"] (sp_parts_of CJ)) : Body P w K mg base "left_spine" st_left_spine 4 ["joins", "piece", "parts", "spine"] (sp_left_spine CJ) := by
  have nd := sc_left_spine.nd
  intro f cdv A outer s H vs Q E hr h
  obtain ⟨a, L, ps, p, rfl, J, Jw, hp, k⟩ := h
  refine ⟨_, (pss_cons (ps_set (i := 2) nd rfl (by first | exact .inl rfl | exact .inr rfl) (c_me (pv 0) TJ.cl C_parts_of hr (pa_cons (pv 1) pa_nil)))
    (pss_cons (ps_set (i := 3) nd rfl (by first | exact .inl rfl | exact .inr rfl) (pe_lst (pa_cons (pe_tup (pa_cons (pv 1) (pa_cons pe_non pa_nil))) pa_nil)))
    (pss_cons (ps_while PassesOwn.never (pt_cmpR op_notN (pv 2) pe_non (nomark _))
      (pss_cons (ps_expr (pe_bm PySem.F.plainAttrs_list PySem.F.slot_list_append PySem.F.type_list_append mt_append (pv 3) (pa_cons (pe_tup (pa_cons (pe_ix ix_tup (pv 2) pe_int (fun _ _ => rfl)) (pa_cons (pe_dget (hu_of hr) (pe_fld (pv 0) rfl) (pv 2) (fun _ _ => rfl)) pa_nil))) pa_nil)))
      (pss_one (ps_set (i := 2) nd rfl (by first | exact .inl rfl | exact .inr rfl) (c_me (pv 0) TJ.cl C_parts_of hr (pa_cons (pe_ix ix_tup (pv 2) pe_int (fun _ _ => rfl)) pa_nil))))))
    (pss_one (ps_ret (pe_callTy call_tuple_of (by rfl) T.tuple (by decide +kernel) (pa_cons (pv 3) pa_nil))))))), ?_⟩

  have l3 := Jw.l3
  have p4 := Jw.p4
  have hn : np L ps ≤ 7 := by show L.length + ps.length ≤ 7; omega
  obtain ⟨tl, rd, nd', J'⟩ := id J
  obtain ⟨dx, pt, m, xs0, h1, h2, h3⟩ := J'.ob
  refine ⟨_, rfl, a, dx, _, rfl, h1, jf_pao, _, rfl, a, L, ps, p, rfl, J, Jw.al, hp, by omega, fun v0 hv0 => ?_⟩
  refine ⟨_, rfl, small_line (by show 2 ≤ 1000; omega), fun t nt => ⟨small_line (by show 1 ≤ 1000; omega), fun l nl => ?_⟩⟩
  have hl0 : H l = none := by
    cases e : H l with
    | none => rfl
    | some o => have q := upd_keep (u := .tup [iv p, V.non]) e nt; rw [nl] at q; cases q
  have s0 := snw (snew nt (o := .tup [iv p, V.non])) nl (o := .lst [V.ref t])
  refine while_by (fun σ H' => Same H H' ∧ ∃ (x : Nat) (bd : Option Nat) (v : V) (xs : List V), σ = [some (.ref a), some (iv p), some v, some (.ref l)] ∧ H' l = some (.lst xs) ∧ (∀ v ∈ xs, SpV H' (LS L.length ps p) v) ∧
    xs.length + x ≤ 1 + p ∧ LS L.length ps p x bd ∧ PV H' L ps x v) LSM ⟨s0, p, none, v0, [V.ref t], rfl, upd_same, ?_, by simp, .top, ?_⟩ ?_ ?_
  · intro v hv
    cases List.mem_singleton.mp hv
    exact ⟨t, p, none, rfl, upd_keep upd_same nl, .top⟩
  · rcases hv0 with h | ⟨q, r, pr, e1, e2, e3, e4⟩
    · exact .inl h
    · exact .inr ⟨q, r, pr, e1, s0 _ _ e2, e3, e4⟩
  · rintro σ H1 ⟨s1, x, bd, v, xs, rfl, hL, hxs, hle, hrs, hv⟩
    refine ⟨_, rfl, rfl, _, rfl, ?_⟩
    rcases hv with rfl | ⟨q, r, pr, rfl, hq, rfl, hr1⟩
    · refine iteF ⟨_, rfl, l, _, rfl, .inl ⟨SqL.of hL, fun q nq => ?_⟩⟩
      exact k _ q xs (snw s1 nq) upd_same (fun v hv => (hxs v hv).mono (snew nq)) (by omega)
    · obtain ⟨l1, l2⟩ := Jw.pr.lt r pr hr1
      have hrl := (List.getElem?_eq_some_iff.mp hr1).1
      have g : DGet H1 rd (.ref q) (valV (rkv ps 0) (kp pr)) := DGet.t (k := kp pr) (s1 _ _ J'.rd) hq
      rw [rkv_val, rkF_of Jw.pr.nodup hr1, Nat.zero_add] at g
      refine iteT ⟨_, rfl, .inl ⟨rfl, _, SqL.of hL⟩, _, rfl, q, _, _, _, rfl, rfl, SqT.of hq, at_g (j := 0) rfl rfl, _, rfl, a, CJ, dx, _, _, rfl, s1 _ _ h1, TJ.cl, TJ.rd, jf_rd, _, rfl, rd, _, rfl, g, small_line (by show 2 ≤ 1000; omega), fun t2 nt2 => ?_⟩
      have s2 := snw s1 nt2 (o := .tup [iv pr.1, iv r])
      have hL2 := upd_keep (u := .tup [iv pr.1, iv r]) hL nt2
      have nl2 : l ≠ t2 := ne_of_none hL nt2
      refine ⟨_, _, _, rfl, rfl, hL2, small1000 (by omega), ?_⟩
      have s3 : Same H (upd (upd H1 t2 (.tup [iv pr.1, iv r])) l (.lst (xs ++ [V.ref t2]))) := sch s2 hl0
      have hq3 : (upd (upd H1 t2 (.tup [iv pr.1, iv r])) l (.lst (xs ++ [V.ref t2]))) q = some (.tup [iv pr.1, iv pr.2]) := (upd_ne (unq hq hL (by intro e; cases e))).trans (upd_keep hq nt2)
      have hm : LSM [some (.ref a), some (iv p), some (.ref q), some (.ref l)] H1 = pr.1 + 1 := by simp [LSM, hq]
      refine ⟨_, rfl, a, dx, _, rfl, s3 _ _ h1, jf_pao, _, rfl, q, _, _, _, rfl, rfl, SqT.of hq3, at_g (j := 0) rfl rfl, a, L, ps, pr.1, rfl, J.mono s3, Jw.al, by show _ < L.length + ps.length; omega, by omega, fun v3 hv3 => ⟨⟨s3, pr.1, some r, v3, _, rfl, upd_same, ?_, ?_, .step hrs hr1, hv3⟩, ?_⟩⟩
      · intro v hv
        rcases List.mem_append.mp hv with hv | hv
        · obtain ⟨t', x', bd', e, h, rr⟩ := hxs v hv
          exact ⟨t', x', bd', e, (upd_ne (unq h hL (by intro e; cases e))).trans (upd_keep h nt2), rr⟩
        · cases List.mem_singleton.mp hv
          exact ⟨t2, pr.1, some r, rfl, (upd_ne nl2.symm).trans upd_same, .step hrs hr1⟩
      · simp; omega
      · rw [hm]
        rcases hv3 with rfl | ⟨q4, r4, pr4, rfl, h4, e4, g4⟩
        · simp [LSM]
        · obtain ⟨m1, m2⟩ := Jw.pr.lt r4 pr4 g4
          simp [LSM, h4]
          omega
  · rintro σ H' Q1 Q2 hq ⟨v, e1, e3, c, e8, q⟩
    exact ⟨v, e1, e3, c, e8, hq _ _ q⟩
theorem ok_left_spine (T : Bi K mg) (TJ : TJx K CJ) (C1 : HasM P w K mg base CJ "parts_of" 4 ["self", "piece"] (sp_parts_of CJ)) (D : Df K mg "left_spine" st_left_spine) : Has P w K mg base "left_spine" 5 ["joins", "piece"] (sp_left_spine CJ) :=
  D.ok sc_left_spine bd_left_spine (fun vs H Q E ⟨_, _, _, _, e, _⟩ => by rw [e]; rfl) (body_left_spine T TJ C1)
end
end Rj
set_option Elab.async false
set_option linter.all false
set_option maxRecDepth 100000
set_option maxHeartbeats 2000000
namespace Rj
open PySem PySem.Spec PyProof.Rows L2
section
variable {P : Program} {w : World} {K : PySem.W.Frag} {mg : Str → Option Value} {base : Heap} {CJ : Addr}
def sp_crossing (C : Addr) : Sp := fun vs H Q _ => ∃ (a : Addr) (L : List Nat) (ps : List (Nat × Nat)) (p q : Nat), vs = [.ref a, iv p, iv q] ∧ JO H C a L ps ∧ Jl L ps ∧ p < np L ps ∧ q < np L ps ∧ NCk L.length ps ps.length (ltr L.length ps p) (ltr L.length ps q) ∧
  ∀ H', Same H H' → Q .non H'
abbrev st_crossing : Stmt := top 33
theorem sc_crossing : FnScope ["joins", "left", "right", "best", "ahead", "behind", "x", "x_bound", "y", "y_bound", "rank"] ["joins", "left", "right"] (defScope st_crossing) := ⟨rfl, rfl, rfl, by decide +kernel, rfl, by decide +kernel, by decide +kernel⟩
theorem bd_crossing : Bnd "crossing" "crossing" st_crossing ["joins", "left", "right"] := fun _ _ _ _ _ _ us hl => match us, hl with | [_, _, _], _ => rfl
-- 0:joins 1:left 2:right 3:best 4:ahead 5:behind 6:x 7:x_bound 8:y 9:y_bound 10:rank
theorem body_crossing (T : Bi K mg) (TJ : TJx K CJ) (C_right_spine : Has P w K mg base "right_spine" 5 ["joins", "piece"] (sp_right_spine CJ)) (C_left_spine : Has P w K mg base "left_spine" 5 ["joins", "piece"] (sp_left_spine CJ)) : Body P w K mg base "crossing" st_crossing 5 ["joins", "left", "right", "best", "ahead", "behind", "x", "x_bound", "y", "y_bound", "rank"] (sp_crossing CJ) := by
  have nd := sc_crossing.nd
  intro f cdv A outer s H vs Q E hr h
  obtain ⟨a, L, ps, p, q, rfl, J, Jw, hp, hq, nc, k⟩ := h
  refine ⟨_, (pss_cons (ps_set (i := 3) nd rfl (by first | exact .inl rfl | exact .inr rfl) pe_non)
    (pss_cons (ps_set (i := 4) nd rfl (by first | exact .inl rfl | exact .inr rfl) (c_fn C_right_spine hr (by rfl) (pa_cons (pv 0) (pa_cons (pv 1) pa_nil))))
    (pss_cons (ps_set (i := 5) nd rfl (by first | exact .inl rfl | exact .inr rfl) (c_fn C_left_spine hr (by rfl) (pa_cons (pv 0) (pa_cons (pv 2) pa_nil))))
    (pss_cons (ps_for PassesOwn.never rfl (pi_tup (pv 4)) (pg_tup (n := 2) rfl (pgs_cons (pg_name (i := 6) nd rfl (by first | exact .inl rfl | exact .inr rfl)) (pgs_cons (pg_name (i := 7) nd rfl (by first | exact .inl rfl | exact .inr rfl)) pgs_nil)))
      (pss_one (ps_for PassesOwn.never rfl (pi_tup (pv 5)) (pg_tup (n := 2) rfl (pgs_cons (pg_name (i := 8) nd rfl (by first | exact .inl rfl | exact .inr rfl)) (pgs_cons (pg_name (i := 9) nd rfl (by first | exact .inl rfl | exact .inr rfl)) pgs_nil)))
        (pss_cons (ps_set (i := 10) nd rfl (by first | exact .inl rfl | exact .inr rfl) (pe_dget1 (hu_of hr) (pe_fld (pv 0) rfl) (pe_tup (pa_cons (pv 6) (pa_cons (pv 8) pa_nil))) ⟨rfl, rfl, rfl, rfl⟩))
        (pss_one (ps_if (PW.pt (pw_and (pt_cmpR op_notN (pv 10) pe_non (nomark _)) (pw_and (PW.pt (pw_or (pt_cmpR op_isN (pv 7) pe_non (nomark _)) (pw_or1 (pt_cmpR op_lt (pv 10) (pv 7) (nomark _))))) (pw_and1 (PW.pt (pw_or (pt_cmpR op_isN (pv 9) pe_non (nomark _)) (pw_or1 (pt_cmpR op_le (pv 10) (pv 9) (nomark _)))))))))
          (pss_one (ps_if (PW.pt (pw_or (pt_cmpR op_isN (pv 3) pe_non (nomark _)) (pw_or1 (pt_cmpR op_lt (pv 10) (pv 3) (nomark _)))))
            (pss_one (ps_set (i := 3) nd rfl (by first | exact .inl rfl | exact .inr rfl) (pv 10)))
            pss_nil))
          pss_nil))))))
    (pss_one (ps_ret (pv 3))))))), ?_⟩

  obtain ⟨tl, rd, nd', J'⟩ := id J
  obtain ⟨dx, pt, m, xs0, h1, h2, h3⟩ := J'.ob
  refine ⟨_, rfl, _, rfl, a, L, ps, p, rfl, J, Jw, hp, fun H1 qa xa s1 hqa hxa hla => ?_⟩
  refine ⟨_, rfl, _, rfl, a, L, ps, q, rfl, J.mono s1, Jw, hq, fun H2 qb xb s2' hqb hxb hlb => ?_⟩
  have s2 := s1.trans s2'
  have hqa2 := s2' _ _ hqa
  refine ⟨_, rfl, qa, rfl, ⟨_, SqT.of hqa2⟩, for_tup (xs := xa) (fun i σ H' => Same H2 H' ∧ ∃ v6 v7 v8 v9 v10, σ = [some (.ref a), some (iv p), some (iv q), some .non, some (.ref qa), some (.ref qb), v6, v7, v8, v9, v10]) ⟨Same.refl _, _, _, _, _, _, rfl⟩ (fun _ _ _ _ h => SqT.of (h.1 _ _ hqa2)) ?_ ?_⟩
  · rintro i x σ H3 hx ⟨s3, v6, v7, v8, v9, v10, rfl⟩
    obtain ⟨t, x', bd, rfl, ht, hrs⟩ := (hxa x (List.mem_of_getElem? hx)).mono (s2'.trans s3)
    refine ⟨t, _, rfl, SqT.of ht, rfl, _, _, rfl, _, _, rfl, rfl, ?_⟩
    refine ⟨_, rfl, qb, rfl, ⟨_, SqT.of (s3 _ _ hqb)⟩, for_tup (xs := xb) (fun i σ H' => Same H2 H' ∧ ∃ v8 v9 v10, σ = [some (.ref a), some (iv p), some (iv q), some .non, some (.ref qa), some (.ref qb), some (iv x'), some (oV bd), v8, v9, v10]) ⟨s3, _, _, _, rfl⟩ (fun _ _ _ _ h => SqT.of (h.1 _ _ hqb)) ?_ ?_⟩
    · rintro j y σ H4 hy ⟨s4, v8, v9, v10, rfl⟩
      obtain ⟨t2, y', bd2, rfl, ht2, hls⟩ := (hxb y (List.mem_of_getElem? hy)).mono s4
      refine ⟨t2, _, rfl, SqT.of ht2, rfl, _, _, rfl, _, _, rfl, rfl, ?_⟩
      have sH := s2.trans s4
      refine ⟨_, rfl, a, CJ, dx, _, _, rfl, sH _ _ h1, TJ.cl, TJ.rd, jf_rd, rd, rfl, .inr ⟨_, .inl (sH _ _ J'.rd)⟩, _, rfl, _, rfl, small_line (by show 2 ≤ 1000; omega), fun t3 nt3 => ?_⟩
      have s5 : Same H2 (upd H4 t3 (.tup [iv x', iv y'])) := snw s4 nt3
      have g : DGet (upd H4 t3 (.tup [iv x', iv y'])) rd (.ref t3) (valV (rkv ps 0) (kp (x', y'))) := DGet.t (k := kp (x', y')) (upd_keep (sH _ _ J'.rd) nt3) upd_same
      rw [rkv_val] at g
      cases hk : rkF ps 0 (x', y') with
      | none =>
        rw [hk] at g
        exact ⟨_, g, _, rfl, rfl, _, rfl, iteF (iteF ⟨s5, _, _, _, rfl⟩)⟩
      | some r =>
        rw [hk] at g
        obtain ⟨_, hr2⟩ := rkF_some hk
        rw [Nat.sub_zero] at hr2
        refine ⟨_, g, _, rfl, rfl, _, rfl, iteT ?_⟩
        have skip : Same H2 (upd H4 t3 (.tup [iv x', iv y'])) ∧ ∃ v8 v9 v10, [some (V.ref a), some (iv p), some (iv q), some V.non, some (V.ref qa), some (V.ref qb), some (iv x'), some (oV bd), some (iv y'), some (oV bd2), some (iv r)] = [some (.ref a), some (iv p), some (iv q), some .non, some (.ref qa), some (.ref qb), some (iv x'), some (oV bd), v8, v9, v10] := ⟨s5, _, _, _, rfl⟩
        have last : (∀ t, bd = some t → r < t) → bd2 = bd2 → (∀ t, bd2 = some t → r ≤ t) → False := fun b1 _ b2 => Jw.pr.no_cross hp hq nc hrs hls hr2 b1 b2
        have second : (∀ t, bd = some t → r < t) → ∃ t, bd2 = some t ∧ ¬ r ≤ t := fun b1 => by
          cases bd2 with
          | none => exact (last b1 rfl fun t e => nomatch e).elim
          | some t => exact ⟨t, rfl, fun z => last b1 rfl fun t' e => by cases e; exact z⟩
        cases bd with
        | none =>
          obtain ⟨t, rfl, ht3⟩ := second fun t e => nomatch e
          have e : decide ((r : Int) ≤ (t : Int)) = false := decide_eq_false (by omega)
          exact ⟨_, rfl, rfl, true, rfl, iteT (iteT ⟨_, rfl, rfl, false, rfl, iteF ⟨_, rfl, _, rfl, _, _, rfl, rfl, false, congrArg V.bl e, iteF skip⟩⟩)⟩
        | some t0 =>
          by_cases hlt : r < t0
          · obtain ⟨t, rfl, ht3⟩ := second fun t e => by cases e; exact hlt
            have e : decide ((r : Int) ≤ (t : Int)) = false := decide_eq_false (by omega)
            have e0 : decide ((r : Int) < (t0 : Int)) = true := decide_eq_true (by omega)
            exact ⟨_, rfl, rfl, false, rfl, iteF ⟨_, rfl, _, rfl, _, _, rfl, rfl, true, congrArg V.bl e0, iteT ⟨_, rfl, rfl, false, rfl, iteF ⟨_, rfl, _, rfl, _, _, rfl, rfl, false, congrArg V.bl e, iteF skip⟩⟩⟩⟩
          · have e0 : decide ((r : Int) < (t0 : Int)) = false := decide_eq_false (by omega)
            exact ⟨_, rfl, rfl, false, rfl, iteF ⟨_, rfl, _, rfl, _, _, rfl, rfl, false, congrArg V.bl e0, iteF (iteF skip)⟩⟩
    · rintro σ H4 ⟨s4, v8, v9, v10, rfl⟩
      exact ⟨s4, _, _, _, _, _, rfl⟩
  · rintro σ H3 ⟨s3, v6, v7, v8, v9, v10, rfl⟩
    exact ⟨_, rfl, k _ (s2.trans s3)⟩
theorem ok_crossing (T : Bi K mg) (TJ : TJx K CJ) (C1 : Has P w K mg base "right_spine" 5 ["joins", "piece"] (sp_right_spine CJ)) (C2 : Has P w K mg base "left_spine" 5 ["joins", "piece"] (sp_left_spine CJ)) (D : Df K mg "crossing" st_crossing) : Has P w K mg base "crossing" 6 ["joins", "left", "right"] (sp_crossing CJ) :=
  D.ok sc_crossing bd_crossing (fun vs H Q E ⟨_, _, _, _, _, e, _⟩ => by rw [e]; rfl) (body_crossing T TJ C1 C2)
def sp_side_by_side (C : Addr) : Sp := fun vs H Q _ => ∃ (a : Addr) (L : List Nat) (ps : List (Nat × Nat)) (p q : Nat), vs = [.ref a, iv p, iv q] ∧ JO H C a L ps ∧ Jl L ps ∧ p < np L ps ∧ q < np L ps ∧ NCk L.length ps ps.length (ltr L.length ps p) (ltr L.length ps q) ∧
  ∀ H', Same H H' → Q (.bl true) H'
abbrev st_side_by_side : Stmt := top 34
theorem sc_side_by_side : FnScope ["joins", "left", "right"] ["joins", "left", "right"] (defScope st_side_by_side) := ⟨rfl, rfl, rfl, by decide +kernel, rfl, by decide +kernel, by decide +kernel⟩
theorem bd_side_by_side : Bnd "side_by_side" "side_by_side" st_side_by_side ["joins", "left", "right"] := fun _ _ _ _ _ _ us hl => match us, hl with | [_, _, _], _ => rfl
-- 0:joins 1:left 2:right
theorem body_side_by_side (C_crossing : Has P w K mg base "crossing" 6 ["joins", "left", "right"] (sp_crossing CJ)) : Body P w K mg base "side_by_side" st_side_by_side 6 ["joins", "left", "right"] (sp_side_by_side CJ) := by
  have nd := sc_side_by_side.nd
  intro f cdv A outer s H vs Q E hr h
  obtain ⟨a, L, ps, p, q, rfl, J, Jw, hp, hq, nc, k⟩ := h
  refine ⟨_, (pss_one (ps_ret (pe_cmpR op_isN (c_fn C_crossing hr (by rfl) (pa_cons (pv 0) (pa_cons (pv 1) (pa_cons (pv 2) pa_nil)))) pe_non (nomark _)))), ?_⟩

  exact ⟨_, rfl, _, rfl, _, rfl, a, L, ps, p, q, rfl, J, Jw, hp, hq, nc, fun H1 s1 => ⟨rfl, k _ s1⟩⟩
theorem ok_side_by_side (C1 : Has P w K mg base "crossing" 6 ["joins", "left", "right"] (sp_crossing CJ)) (D : Df K mg "side_by_side" st_side_by_side) : Has P w K mg base "side_by_side" 7 ["joins", "left", "right"] (sp_side_by_side CJ) :=
  D.ok sc_side_by_side bd_side_by_side (fun vs H Q E ⟨_, _, _, _, _, e, _⟩ => by rw [e]; rfl) (body_side_by_side C1)
end
end Rj
set_option Elab.async false
set_option linter.all false
set_option maxRecDepth 100000
set_option maxHeartbeats 2000000
namespace Rj
open PySem PySem.Spec PyProof.Rows L2
/-- range(n) as a value -/
theorem cr_range1 {X : Cx} : CallR X (.type "range") (fun vs H Q => ∃ j, vs = [V.int j] ∧ ∀ p, H p = none → Q (.ref p) (upd H p (.rng 0 j))) := by
  intro pins s σ H xs us Q I r h
  obtain ⟨j, rfl, q⟩ := h
  obtain ⟨u, rfl, t, rfl⟩ := vals1 r
  refine call_range_1 ⟨.ref s.heap.objs.size, upd H s.heap.objs.size (.rng 0 j), I.laid (t' := s.toks + 1 + 1) (fun b o e => Heap.get?_push_of_some _ e) (Nat.le_refl _) ?_, rfl, q _ (I.hok.fresh (Nat.le_refl _))⟩
  exact ⟨_, _, _, Heap.get?_push_size _ rfl⟩
/-- for x in xs, a list or a tuple -/
def iLT (tl : TE) : TI := fun σ H R => tl σ H fun x H1 => ∃ a xs, x = .ref a ∧ (H1 a = some (.lst xs) ∨ H1 a = some (.tup xs)) ∧ ∀ (J : It) (G : Hp → Prop), Walk J xs.length G (YAt xs) → (∀ H', H' a = H1 a → G H') → R J H1
theorem pi_lt {X : Cx} {tg l : Expr} {tl : TE} (hl : PE X l tl) : PI X tg l (iLT tl) := by
  refine ⟨fun pins s σ H R I h => ?_⟩
  refine thn (hl.run pins s σ H _ I h) fun v s1 ⟨x, H1, I1, r1, q1⟩ => ?_
  obtain ⟨a, xs, e, hq, q⟩ := q1
  subst e
  cases r1
  rcases hq with hq | hq
  · obtain ⟨its, rv, p, hz⟩ := I1.list (SqL.of hq)
    refine wpAny_pyIter_list p.isList ?_
    refine ⟨s1.heap.objs.size, [s1.heap.objs.size], _, _, H1, rfl, I1.kept (t' := s1.toks) fun b o e => Heap.get?_push_of_some _ e, turn_list a _, ⟨_, Heap.get?_push_size _ rfl, rfl, rfl⟩, fun b hb => ?_, q (Itl X.K a) _ walk_list fun H' e => SqL.of (e.trans hq)⟩
    have e : b = s1.heap.objs.size := by simpa using hb
    subst e
    exact I1.fpOk (Nat.le_refl _) (I1.hok.fresh (Nat.le_refl _))
  · obtain ⟨its, rv, p, hz⟩ := I1.tuple (SqT.of hq)
    refine wpAny_pyIter_tuple (show s1.heap.IsTuple a its.toArray from p) ?_
    refine ⟨s1.heap.objs.size, [s1.heap.objs.size], _, _, H1, rfl, I1.kept (t' := s1.toks) fun b o e => Heap.get?_push_of_some _ e, turn_tuple a _, ⟨_, Heap.get?_push_size _ rfl, rfl, rfl⟩, fun b hb => ?_, q (Itt X.K a) _ walk_tup fun H' e => SqT.of (e.trans hq)⟩
    have e : b = s1.heap.objs.size := by simpa using hb
    subst e
    exact I1.fpOk (Nat.le_refl _) (I1.hok.fresh (Nat.le_refl _))
end Rj
set_option Elab.async false
set_option linter.all false
set_option maxRecDepth 100000
set_option maxHeartbeats 2000000
namespace Rj
open PySem PySem.Spec PyProof.Rows L2
/-! ### a model's rows -/
def oK (l : Option Nat) : NKey := l.map fun p => Sum.inl (p : Int)
theorem nV_oK (l : Option Nat) : nV (oK l) = oV l := by cases l <;> rfl
theorem oK_inj {a b : Option Nat} (h : oK a = oK b) : a = b := by
  cases a <;> cases b <;> simp [oK] at h ⊢
  omega
def ChV (H : Hp) (x : V) (c : Ch) : Prop := ∃ t, x = .ref t ∧ H t = some (.tup [oV c.1, .int c.2])
theorem ChV.mono {H H' : Hp} {x : V} {c : Ch} (s : Same H H') (h : ChV H x c) : ChV H' x c := by
  obtain ⟨t, e, h⟩ := h
  exact ⟨t, e, s _ _ h⟩
abbrev ChsV (H : Hp) : List V → List Ch → Prop := Paired (ChV H)
theorem ChsV.mono {H H' : Hp} {xs : List V} {cs : List Ch} (s : Same H H') (h : ChsV H xs cs) : ChsV H' xs cs := paired_mono h fun _ _ => ChV.mono s
/-- a row of the dict -/
def RwV (H : Hp) (wt : Option Nat → List Ch) (kv : NKey × V) (l : Option Nat) : Prop := kv.1 = oK l ∧ ∃ t xs, kv.2 = .ref t ∧ H t = some (.tup xs) ∧ ChsV H xs (wt l)
theorem RwV.mono {H H' : Hp} {wt : Option Nat → List Ch} {kv : NKey × V} {l : Option Nat} (s : Same H H') (h : RwV H wt kv l) : RwV H' wt kv l := by
  obtain ⟨e, t, xs, e2, h, c⟩ := h
  exact ⟨e, t, xs, e2, s _ _ h, c.mono s⟩
abbrev RwsV (H : Hp) (wt : Option Nat → List Ch) : List (NKey × V) → List (Option Nat) → Prop := Paired (RwV H wt)
theorem RwsV.mono {H H' : Hp} {wt : Option Nat → List Ch} {kvs : List (NKey × V)} {ks : List (Option Nat)} (s : Same H H') (h : RwsV H wt kvs ks) : RwsV H' wt kvs ks := paired_mono h fun _ _ => RwV.mono s
theorem rows_get {H : Hp} {wt : Option Nat → List Ch} {l : Option Nat} : ∀ {kvs : List (NKey × V)} {ks : List (Option Nat)}, RwsV H wt kvs ks → l ∈ ks → ∃ t xs, valV kvs (oK l) = some (.ref t) ∧ H t = some (.tup xs) ∧ ChsV H xs (wt l)
  | _, _, .nil, h => by cases h
  | kv :: kvs, k :: ks, .cons ⟨e, t, xs, e2, h1, c⟩ r, h => by
    by_cases q : k = l
    · subst q
      exact ⟨t, xs, by rw [valV_pos e, e2], h1, c⟩
    · rw [valV_neg (by rw [e]; exact fun z => q (oK_inj z))]
      rcases List.mem_cons.mp h with z | z
      · exact absurd z.symm q
      · exact rows_get r z
/-- what a model's data keep -/
structure Mw (L : List Nat) (ps : List (Nat × Nat)) (M : Mdl) : Prop where
  jl : Jl L ps
  n : M.n = np L ps
  txt : ∀ p, p < np L ps → M.txt p = cod L (ltr L.length ps p)
  ok : M.Ok
  wB : ∀ l ∈ M.keys, M.W l < 2 ^ 40
  TB : M.T < 2 ^ 400
  kl : M.keys.length ≤ 8
  lw : ∀ l ∈ M.keys, (M.wt l).length ≤ 8
  nc : ∀ p q w, some p ∈ M.keys → (some q, w) ∈ M.wt (some p) → NCk L.length ps ps.length (ltr L.length ps p) (ltr L.length ps q)
theorem Mw.n7 {L : List Nat} {ps : List (Nat × Nat)} {M : Mdl} (m : Mw L ps M) : np L ps ≤ 7 := by
  have h3 := m.jl.l3
  have h4 := m.jl.p4
  show L.length + ps.length ≤ 7
  omega
theorem Mw.key {L : List Nat} {ps : List (Nat × Nat)} {M : Mdl} (m : Mw L ps M) {p : Nat} (h : some p ∈ M.keys) : p < np L ps := by
  rw [← m.n]; exact m.ok.keyn p h
def mf (j rd : Addr) : List (Str × V) := [("joins", .ref j), ("rows", .ref rd)]
theorem mf_jo {j rd : Addr} : (mf j rd).lookup ("joins" : Str) = some (.ref j) := by kernel_rfl
theorem mf_ro {j rd : Addr} : (mf j rd).lookup ("rows" : Str) = some (.ref rd) := by kernel_rfl
theorem mf1 {j : Addr} : putF "joins" (.ref j) [] = ([("joins", .ref j)] : List (Str × V)) := by kernel_rfl
theorem mf2 {j rd : Addr} : putF "rows" (.ref rd) ([("joins", .ref j)] : List (Str × V)) = mf j rd := by kernel_rfl
theorem mf_c {j rd : Addr} : (mf j rd).lookup ("chance" : Str) = none := by kernel_rfl
theorem mf_cb {j rd : Addr} : (mf j rd).lookup ("chance_of_begin" : Str) = none := by kernel_rfl
theorem mf_cr {j rd : Addr} : (mf j rd).lookup ("chance_of_row" : Str) = none := by kernel_rfl
theorem mf_ct {j rd : Addr} : (mf j rd).lookup ("chance_of_text" : Str) = none := by kernel_rfl
structure TMx (K : PySem.W.Frag) (C : Addr) : Prop where
  cl : Cls K C
  jo : NoAttr K C "joins"
  ro : NoAttr K C "rows"
/-- a Model at a -/
def MO (P : Program) (w : World) (H : Hp) (CM CJ a : Addr) (L : List Nat) (ps : List (Nat × Nat)) (M : Mdl) : Prop := ∃ dx j rd kvs, H a = some (.ins CM dx (mf j rd)) ∧ JO H CJ j L ps ∧ H rd = some (DN P w rd kvs) ∧ RwsV H M.wt kvs M.keys
theorem MO.mono {P : Program} {w : World} {H H' : Hp} {CM CJ a : Addr} {L : List Nat} {ps : List (Nat × Nat)} {M : Mdl} (s : Same H H') (h : MO P w H CM CJ a L ps M) : MO P w H' CM CJ a L ps M := by
  obtain ⟨dx, j, rd, kvs, h1, h2, h3, h4⟩ := h
  exact ⟨dx, j, rd, kvs, s _ _ h1, h2.mono s, s _ _ h3, h4.mono s⟩
section
variable {P : Program} {w : World} {K : PySem.W.Frag} {mg : Str → Option Value} {base : Heap} {CJ CM CS : Addr}
theorem nget_of {H : Hp} {rd : Addr} {kvs : List (NKey × V)} {l : Option Nat} (h : H rd = some (DN P w rd kvs)) : NGet P w H rd (oV l) (valV kvs (oK l)) := ⟨kvs, oK l, .inl h, (nV_oK l).symm, rfl⟩
theorem rng_no {q N : Nat} (h : q < N) : (!decide ((0 : Int) ≤ (q : Int) ∧ (q : Int) < (N : Int))) = false := by simp; omega
def sp_is_good_row (P : Program) (w : World) (CJ : Addr) : Sp := fun vs H Q _ => ∃ (j rd t : Addr) (L : List Nat) (ps : List (Nat × Nat)) (M : Mdl) (l : Option Nat) (kvs : List (NKey × V)) (xs : List V), vs = [.ref j, .ref rd, oV l, .ref t] ∧ JO H CJ j L ps ∧ Mw L ps M ∧
  H rd = some (DN P w rd kvs) ∧ RwsV H M.wt kvs M.keys ∧ l ∈ M.keys ∧ H t = some (.tup xs) ∧ ChsV H xs (M.wt l) ∧ ∀ H', Same H H' → Q (.bl true) H'
abbrev st_is_good_row : Stmt := top 36
theorem sc_is_good_row : FnScope ["joins", "table", "last", "choices", "piece", "_"] ["joins", "table", "last", "choices"] (defScope st_is_good_row) := ⟨rfl, rfl, rfl, by decide +kernel, rfl, by decide +kernel, by decide +kernel⟩
theorem bd_is_good_row : Bnd "is_good_row" "is_good_row" st_is_good_row ["joins", "table", "last", "choices"] := fun _ _ _ _ _ _ us hl => match us, hl with | [_, _, _, _], _ => rfl
-- 0:joins 1:table 2:last 3:choices 4:piece 5:_
theorem body_is_good_row (T : Bi K mg) (TJ : TJx K CJ) (C_pieces : HasP P w K mg base CJ "pieces" 1 ["self"] (sp_pieces CJ)) (C_side_by_side : Has P w K mg base "side_by_side" 7 ["joins", "left", "right"] (sp_side_by_side CJ)) : Body P w K mg base "is_good_row" st_is_good_row 7 ["joins", "table", "last", "choices", "piece", "_"] (sp_is_good_row P w CJ) := by
  have nd := sc_is_good_row.nd
  intro f cdv A outer s H vs Q E hr h
  obtain ⟨j, rd, t, L, ps, M, l, kvs, xs, rfl, J, m, hrd, hk, hl, ht, hx, k⟩ := h
  refine ⟨_, (pss_cons (ps_if (PW.pt (pw_and (pt_cmpR op_notN (pv 2) pe_non (nomark _)) (pw_and1 (pt_cmpR op_notin_rng (pv 2) (pe_callTy cr_range1 (by rfl) T.range (by decide +kernel) (pa_cons (c_pr (pv 0) TJ.cl C_pieces hr) pa_nil)) (by rfl)))))
      (pss_one (ps_ret pe_bl))
      pss_nil)
    (pss_cons (ps_for PassesOwn.never rfl (pi_tup (pv 3)) (pg_tup (n := 2) rfl (pgs_cons (pg_name (i := 4) nd rfl (by first | exact .inl rfl | exact .inr rfl)) (pgs_cons (pg_name (i := 5) nd rfl (by first | exact .inl rfl | exact .inr rfl)) pgs_nil)))
      (pss_one (ps_if (pt_cmpR op_notN (pv 4) pe_non (nomark _))
        (pss_cons (ps_if (PW.pt (pw_or (pt_cmpR op_notin_rng (pv 4) (pe_callTy cr_range1 (by rfl) T.range (by decide +kernel) (pa_cons (c_pr (pv 0) TJ.cl C_pieces hr) pa_nil)) (by rfl)) (pw_or1 (pt_cmp (pc_nnotin (pv 4) (pv 1))))))
          (pss_one (ps_ret pe_bl))
          pss_nil)
        (pss_one (ps_if (PW.pt (pw_and (pt_cmpR op_notN (pv 2) pe_non (nomark _)) (pw_and1 (pt_not (pt_val (c_fn C_side_by_side hr (by rfl) (pa_cons (pv 0) (pa_cons (pv 2) (pa_cons (pv 4) pa_nil)))))))))
          (pss_one (ps_ret pe_bl))
          pss_nil)))
        pss_nil)))
    (pss_one (ps_ret pe_bl)))), ?_⟩

  have n7 := m.n7
  rcases l with _ | p0
  · have s0 := Same.refl H
    refine ⟨_, rfl, rfl, false, rfl, iteF (iteF ?_)⟩
    refine ⟨_, rfl, t, rfl, ⟨_, SqT.of (s0 _ _ ht)⟩, for_tup (xs := xs) (fun i σ H' => Same H H' ∧ ∃ v4 v5, σ = [some (.ref j), some (.ref rd), some (oV none), some (.ref t), v4, v5]) ⟨s0, _, _, rfl⟩ (fun _ _ _ _ h => SqT.of (h.1 _ _ ht)) ?_ ?_⟩
    · rintro i x σ H1 hxi ⟨s1, v4, v5, rfl⟩
      obtain ⟨⟨o, wg⟩, hc, t2, rfl, ht2⟩ := paired_get hx hxi
      have hcm := List.mem_of_getElem? hc
      refine ⟨t2, _, rfl, SqT.of (s1 _ _ ht2), rfl, _, _, rfl, _, _, rfl, rfl, ?_⟩
      rcases o with _ | q
      · exact ⟨_, rfl, rfl, false, rfl, iteF ⟨s1, _, _, rfl⟩⟩
      · have hq := (m.ok.key _ hl q wg hcm).1
        have hqn : q < np L ps := m.key hq
        obtain ⟨t3, ys, hv, _, _⟩ := rows_get (hk.mono s1) hq
        obtain ⟨dj, pj, mj, xj, hob, _⟩ := ((J.mono s1).choose_spec.choose_spec.choose_spec).ob
        refine ⟨_, rfl, rfl, true, rfl, iteT ⟨_, rfl, _, rfl, j, dj, _, rfl, hob, j, L, ps, rfl, J.mono s1, _, rfl, fun p2 np2 => ?_⟩⟩
        have s2 := snw s1 np2 (o := .rng 0 (np L ps : Nat))
        have e : (!decide ((0 : Int) ≤ (q : Int) ∧ (q : Int) < ((np L ps : Nat) : Int))) = false := rng_no ‹_›
        refine ⟨_, p2, _, _, rfl, rfl, upd_same, false, congrArg V.bl e, iteF ⟨_, rfl, _, rfl, rd, _, rfl, nget_of (l := some q) (s2 _ _ hrd), false, ?_, iteF ?_⟩⟩
        · rw [hv]; rfl
        · exact ⟨_, rfl, rfl, false, rfl, iteF (iteF ⟨s2, _, _, rfl⟩)⟩
    · rintro σ H1 ⟨s1, v4, v5, rfl⟩
      exact k _ s1
  · obtain ⟨dj0, pj0, mj0, xj0, hob0, _⟩ := (J.choose_spec.choose_spec.choose_spec).ob
    have hpn := m.key hl
    refine ⟨_, rfl, rfl, true, rfl, iteT ⟨_, rfl, _, rfl, j, dj0, _, rfl, hob0, j, L, ps, rfl, J, _, rfl, fun p1 np1 => ?_⟩⟩
    have s0 := snew np1 (o := .rng 0 (np L ps : Nat))
    have e0 : (!decide ((0 : Int) ≤ (p0 : Int) ∧ (p0 : Int) < ((np L ps : Nat) : Int))) = false := rng_no ‹_›
    refine ⟨_, p1, _, _, rfl, rfl, upd_same, false, congrArg V.bl e0, iteF ?_⟩
    refine ⟨_, rfl, t, rfl, ⟨_, SqT.of (s0 _ _ ht)⟩, for_tup (xs := xs) (fun i σ H' => Same H H' ∧ ∃ v4 v5, σ = [some (.ref j), some (.ref rd), some (oV (some p0)), some (.ref t), v4, v5]) ⟨s0, _, _, rfl⟩ (fun _ _ _ _ h => SqT.of (h.1 _ _ ht)) ?_ ?_⟩
    · rintro i x σ H1 hxi ⟨s1, v4, v5, rfl⟩
      obtain ⟨⟨o, wg⟩, hc, t2, rfl, ht2⟩ := paired_get hx hxi
      have hcm := List.mem_of_getElem? hc
      refine ⟨t2, _, rfl, SqT.of (s1 _ _ ht2), rfl, _, _, rfl, _, _, rfl, rfl, ?_⟩
      rcases o with _ | q
      · exact ⟨_, rfl, rfl, false, rfl, iteF ⟨s1, _, _, rfl⟩⟩
      · have hq := (m.ok.key _ hl q wg hcm).1
        have hqn : q < np L ps := m.key hq
        obtain ⟨t3, ys, hv, _, _⟩ := rows_get (hk.mono s1) hq
        obtain ⟨dj, pj, mj, xj, hob, _⟩ := ((J.mono s1).choose_spec.choose_spec.choose_spec).ob
        refine ⟨_, rfl, rfl, true, rfl, iteT ⟨_, rfl, _, rfl, j, dj, _, rfl, hob, j, L, ps, rfl, J.mono s1, _, rfl, fun p2 np2 => ?_⟩⟩
        have s2 := snw s1 np2 (o := .rng 0 (np L ps : Nat))
        have e : (!decide ((0 : Int) ≤ (q : Int) ∧ (q : Int) < ((np L ps : Nat) : Int))) = false := rng_no ‹_›
        refine ⟨_, p2, _, _, rfl, rfl, upd_same, false, congrArg V.bl e, iteF ⟨_, rfl, _, rfl, rd, _, rfl, nget_of (l := some q) (s2 _ _ hrd), false, ?_, iteF ?_⟩⟩
        · rw [hv]; rfl
        · exact ⟨_, rfl, rfl, true, rfl, iteT ⟨_, rfl, _, rfl, _, rfl, j, L, ps, p0, q, rfl, J.mono s2, m.jl, hpn, hqn, m.nc p0 q wg hl hcm, fun H5 s5 => ⟨true, rfl, iteF ⟨s2.trans s5, _, _, rfl⟩⟩⟩⟩
    · rintro σ H1 ⟨s1, v4, v5, rfl⟩
      exact k _ s1
theorem ok_is_good_row (T : Bi K mg) (TJ : TJx K CJ) (C1 : HasP P w K mg base CJ "pieces" 1 ["self"] (sp_pieces CJ)) (C2 : Has P w K mg base "side_by_side" 7 ["joins", "left", "right"] (sp_side_by_side CJ)) (D : Df K mg "is_good_row" st_is_good_row) : Has P w K mg base "is_good_row" 8 ["joins", "table", "last", "choices"] (sp_is_good_row P w CJ) :=
  D.ok sc_is_good_row bd_is_good_row (fun vs H Q E ⟨_, _, _, _, _, _, _, _, _, e, _⟩ => by rw [e]; rfl) (body_is_good_row T TJ C1 C2)
end
end Rj
set_option Elab.async false
set_option linter.all false
set_option maxRecDepth 100000
set_option maxHeartbeats 2000000
namespace Rj
open PySem PySem.Spec PyProof.Rows L2
/-! ### choices == [] -/
def pyO : Option Nat → PyData
  | none => .none
  | some p => .int p
def pyC (c : Ch) : PyData := .tuple [pyO c.1, .int c.2]
theorem dp_oV {K : PySem.W.Frag} {H : Hp} (o : Option Nat) : Dp K H (oV o) (pyO o) := by
  cases o
  · exact .non
  · exact .int _
theorem dp_ch {K : PySem.W.Frag} {H : Hp} : ∀ {xs : List V} {cs : List Ch}, ChsV H xs cs → DpAll K H xs (cs.map pyC)
  | _, _, .nil => .nil
  | _, _, .cons ⟨t, e, h⟩ r => by
    subst e
    exact .cons (.tup (SqT.of h) (.cons (dp_oV _) (.cons (.int _) .nil))) (dp_ch r)
theorem lay_ch : ∀ cs : List Ch, PyData.canLayAll0 (cs.map pyC) = true
  | [] => by simp [PyData.canLayAll0]
  | (o, v) :: cs => by
    cases o <;> simp [PyData.canLayAll0, PyData.canLay0, pyC, pyO, lay_ch cs]
theorem dep_ch : ∀ cs : List Ch, PyData.depthAll (cs.map pyC) ≤ 3
  | [] => by simp [PyData.depthAll]
  | (o, v) :: cs => by
    have := dep_ch cs
    cases o <;> simp [PyData.depthAll, PyData.depth, pyC, pyO] <;> omega
def rEqN (K : PySem.W.Frag) : R2 := fun x y H Q => ∃ (a b : Addr) (xs : List V) (cs : List Ch), x = .ref a ∧ y = .ref b ∧ SqL K H a xs ∧ SqL K H b [] ∧ ChsV H xs cs ∧ Q (.bl cs.isEmpty) H
theorem op_eqN {X : Cx} (hu : X.A.units + 64 < cLine) : OpR X (compareOp .Eq) (rEqN X.K) := by
  intro pins s σ H x y v u Q I rx ry h
  obtain ⟨a, b, xs, cs, rfl, rfl, ha, hb, hc, q⟩ := h
  refine op_eqD hu pins s σ H _ _ v u Q I rx ry ⟨_, _, .lst ha (dp_ch hc), .lst hb .nil, ?_, ?_, ?_⟩
  · have := dep_ch cs
    unfold SeqAt.shaped
    rw [Bool.and_eq_true]
    refine ⟨by simp [PyData.canLay0, lay_ch], decide_eq_true ?_⟩
    simp only [PyData.depth]
    omega
  · unfold SeqAt.shaped
    rw [Bool.and_eq_true]
    refine ⟨by simp [PyData.canLay0, PyData.canLayAll0], decide_eq_true ?_⟩
    simp [PyData.depth, PyData.depthAll]
  · have e : PyData.eqv (.list (cs.map pyC)) (.list []) = cs.isEmpty := by
      cases cs with
      | nil => simp [PyData.eqv, PyData.eqvAll]
      | cons c cs => simp [PyData.eqv, PyData.eqvAll]
    rw [e]
    exact q
end Rj
set_option Elab.async false
set_option linter.all false
set_option maxRecDepth 100000
set_option maxHeartbeats 2000000
namespace Rj
open PySem PySem.Spec PyProof.Rows L2
section
variable {P : Program} {w : World} {K : PySem.W.Frag} {mg : Str → Option Value} {base : Heap} {CJ CM CS : Addr}
/-- a list or tuple of these -/
def LT (H : Hp) (a : Addr) (xs : List V) : Prop := H a = some (.lst xs) ∨ H a = some (.tup xs)
theorem LT.mono {H H' : Hp} {a : Addr} {xs : List V} (s : Same H H') (h : LT H a xs) : LT H' a xs := h.imp (fun h => s _ _ h) fun h => s _ _ h
/-- a row of the table as it is passed -/
def TbV (H : Hp) (wt : Option Nat → List Ch) (x : V) (l : Option Nat) : Prop := ∃ t c ys, x = .ref t ∧ H t = some (.tup [oV l, .ref c]) ∧ LT H c ys ∧ ChsV H ys (wt l)
theorem TbV.mono {H H' : Hp} {wt : Option Nat → List Ch} {x : V} {l : Option Nat} (s : Same H H') (h : TbV H wt x l) : TbV H' wt x l := by
  obtain ⟨t, c, ys, e, h, h2, h3⟩ := h
  exact ⟨t, c, ys, e, s _ _ h, h2.mono s, h3.mono s⟩
theorem LT.eq {H0 H H' : Hp} {a : Addr} {xs : List V} (h : LT H0 a xs) (s : Same H0 H) (s' : Same H0 H') : H' a = H a := by
  rcases h with h | h
  · exact (s' _ _ h).trans (s _ _ h).symm
  · exact (s' _ _ h).trans (s _ _ h).symm
theorem none_back {H H' : Hp} {p : Addr} (s : Same H H') (n : H' p = none) : H p = none := by
  cases e : H p with
  | none => rfl
  | some o => rw [s _ _ e] at n; cases n
theorem rows_no {H : Hp} {wt : Option Nat → List Ch} {l : Option Nat} : ∀ {kvs : List (NKey × V)} {ks : List (Option Nat)}, RwsV H wt kvs ks → l ∉ ks → valV kvs (oK l) = none
  | _, _, .nil, h => rfl
  | kv :: kvs, k :: ks, .cons ⟨e, _⟩ r, h => by
    rw [List.mem_cons, not_or] at h
    rw [valV_neg (by rw [e]; exact fun z => h.1 (oK_inj z).symm)]
    exact rows_no r h.2
theorem paired_take {α β : Type} {F : α → β → Prop} {xs : List α} {ys : List β} (h : Paired F xs ys) {i : Nat} {x : α} (hx : xs[i]? = some x) : ∃ y, ys[i]? = some y ∧ F x y ∧ ys.take (i + 1) = ys.take i ++ [y] := by
  obtain ⟨y, hy, hf⟩ := paired_get h hx
  exact ⟨y, hy, hf, take_snoc hy⟩
def sp_Model (P : Program) (w : World) (CM CJ : Addr) : Sp := fun vs H Q _ => ∃ (H0 : Hp) (a dx j tb : Addr) (L : List Nat) (ps : List (Nat × Nat)) (M : Mdl) (xs : List V), vs = [.ref a, .ref j, .ref tb] ∧ Same H0 H ∧ H0 a = none ∧ H a = some (.ins CM dx []) ∧ JO H0 CJ j L ps ∧ Mw L ps M ∧
  LT H0 tb xs ∧ Paired (TbV H0 M.wt) xs M.keys ∧ ∀ H', Same H0 H' → MO P w H' CM CJ a L ps M → Q .non H'
abbrev st_Model_init__ : Stmt := inC 38 0
theorem sc_Model_init__ : FnScope ["self", "joins", "table", "piece", "weight", "last", "choices", "_"] ["self", "joins", "table"] (defScope st_Model_init__) := ⟨rfl, rfl, rfl, by decide +kernel, rfl, by decide +kernel, by decide +kernel⟩
theorem bd_Model_init__ : Bnd "__init__" "Model.__init__" st_Model_init__ ["self", "joins", "table"] := fun _ _ _ _ _ _ us hl => match us, hl with | [_, _, _], _ => rfl
-- 0:self 1:joins 2:table 3:piece 4:weight 5:last 6:choices 7:_
theorem body_Model_init__ (T : Bi K mg) (TM : TMx K CM) (C_is_good_row : Has P w K mg base "is_good_row" 8 ["joins", "table", "last", "choices"] (sp_is_good_row P w CJ)) : Body P w K mg base "Model.__init__" st_Model_init__ 8 ["self", "joins", "table", "piece", "weight", "last", "choices", "_"] (sp_Model P w CM CJ) := by
  have nd := sc_Model_init__.nd
  intro f cdv A outer s H vs Q E hr h
  obtain ⟨H0, a, dx, j, tb, L, ps, M, xs, rfl, s0, n0, ha, J, m, htb, hx, k⟩ := h
  refine ⟨_, (pss_cons (ps_fld (pv 0) (pv 1) rfl)
    (pss_cons (ps_fld (pv 0) (pe_dn (own := [("last", 5), ("choices", 6)]) rfl nd (pi_lt (pv 2)) (blkOk_by (N := ["self", "joins", "table", "piece", "weight", "last", "choices", "_"]) (sc := defScope (inC 38 0)) (by decide +kernel)) (fun _ _ _ _ _ => (pg_tupK (K1 := K) (by rfl) (n := 2) rfl (pgs_cons (pg_name (i := 5) nd rfl (by first | exact .inl rfl | exact .inr rfl)) (pgs_cons (pg_name (i := 6) nd rfl (by first | exact .inl rfl | exact .inr rfl)) pgs_nil)))) (fun _ _ _ _ _ => pts_nil) (fun _ _ _ _ _ => (pv 5)) (fun _ _ _ _ _ => (pe_callTy (call_tuple_ofK (K1 := K) (by rfl)) (by rfl) T.tuple (by decide +kernel) (pa_cons (pe_lc (own := [("piece", 3), ("weight", 4)]) rfl nd (pi_lt (pv 6)) (blkOk_by (N := ["self", "joins", "table", "piece", "weight", "last", "choices", "_"]) (sc := _) (by kernel_rfl)) (fun _ _ _ _ _ => (pg_tupK (K1 := K) (by rfl) (n := 2) rfl (pgs_cons (pg_name (i := 3) nd rfl (by first | exact .inl rfl | exact .inr rfl)) (pgs_cons (pg_name (i := 4) nd rfl (by first | exact .inl rfl | exact .inr rfl)) pgs_nil)))) (fun _ _ _ _ _ => pts_nil) (fun _ _ _ _ _ => (pe_tup (pa_cons (pv 3) (pa_cons (pv 4) pa_nil))))) pa_nil)))) rfl)
    (pss_cons (ps_if (pt_cmp (pc_nnotin pe_non (pe_fld (pv 0) rfl)))
      (pss_one ps_never)
      pss_nil)
    (pss_one (ps_for PassesOwn.never rfl (pi_lt (pv 2)) (pg_tup (n := 2) rfl (pgs_cons (pg_name (i := 5) nd rfl (by first | exact .inl rfl | exact .inr rfl)) (pgs_cons (pg_name (i := 7) nd rfl (by first | exact .inl rfl | exact .inr rfl)) pgs_nil)))
      (pss_one (ps_if (pt_not (pt_val (c_fn C_is_good_row hr (by rfl) (pa_cons (pv 1) (pa_cons (pe_fld (pv 0) rfl) (pa_cons (pv 5) (pa_cons (pe_nget (pe_fld (pv 0) rfl) (pv 5) (fun _ _ => rfl)) pa_nil)))))))
        (pss_one ps_never)
        pss_nil))))))), ?_⟩

  have n7 := m.n7
  have kl := m.kl
  have hlen := Paired.length hx
  refine ⟨_, rfl, _, rfl, a, CM, dx, _, rfl, ha, TM.cl, TM.jo, by show 0 < 1000; decide, ?_⟩
  rw [mf1]
  generalize hG : upd H a _ = G1
  have s1 : Same H0 G1 := by rw [← hG]; exact sch s0 n0
  have a1 := (congrFun hG.symm a).trans upd_same
  clear hG
  refine ⟨_, rfl, tb, xs, rfl, htb.mono s1, fun Jt G wk hGt D nD => dn_walk wk (fun i H' => Same H0 H' ∧ H' a = some (.ins CM dx [("joins", .ref j)]) ∧ ∃ kvs, H' D = some (DN P w D kvs) ∧ RwsV H' M.wt kvs (M.keys.take i)) ⟨snw s1 nD, upd_keep a1 nD, [], upd_same, .nil⟩ (fun i H' _ q => hGt H' (htb.eq s1 q.1)) ?_ ?_⟩
  · rintro i x H2 H' hi ⟨s2, a2, kvs, hD, hR⟩ ⟨rfl, hxi⟩
    obtain ⟨l, hl, ⟨t, c, ys, rfl, ht, hc, hy⟩, hsn⟩ := paired_take hx hxi
    have hlm := List.mem_of_getElem? hl
    refine ⟨t, _, rfl, SqT.of (s2 _ _ ht), rfl, _, _, rfl, _, _, rfl, rfl, rfl, _, rfl, ?_⟩
    refine ⟨_, rfl, c, ys, rfl, hc.mono s2, fun Jt2 G2 wk2 hG2 D2 nD2 => lc_it wk2 (fun i H3 => Same H' H3 ∧ ∃ zs, H3 D2 = some (.lst zs) ∧ ChsV H3 zs ((M.wt l).take i)) ⟨snew nD2, [], upd_same, .nil⟩ (fun i H3 _ q => hG2 H3 (hc.eq s2 (s2.trans q.1))) ?_ ?_⟩
    · rintro e x2 H3 H3' he ⟨s3, zs, hZ, hzs⟩ ⟨rfl, hxe⟩
      obtain ⟨ch, hch, ⟨t2, rfl, ht2⟩, hsn2⟩ := paired_take hy hxe
      have hzl := Paired.length hzs
      rw [List.length_take] at hzl
      have hlw := m.lw l hlm
      refine ⟨t2, _, rfl, SqT.of (s3 _ _ (s2 _ _ ht2)), rfl, _, _, rfl, _, _, rfl, rfl, rfl, _, rfl, _, rfl, small_line (by show 2 ≤ 1000; omega), fun p np => ⟨zs, upd_keep hZ np, small1000 (by omega), sch (snw s3 np) nD2, _, upd_same, ?_⟩⟩
      rw [hsn2]
      refine paired_app (paired_mono hzs ?_) (.cons ⟨p, rfl, (upd_ne (ne_of_none hZ np).symm).trans upd_same⟩ .nil)
      rintro v c' ⟨t', rfl, h'⟩
      exact ⟨t', rfl, (upd_ne (unq h' hZ (by intro e; cases e))).trans (upd_keep h' np)⟩
    · rintro H3 ⟨s3, zs, hZ, hzs⟩
      have hyl := Paired.length hy
      rw [hyl, List.take_length] at hzs
      refine ⟨D2, zs, rfl, .inl ⟨SqL.of hZ, fun p np => ?_⟩⟩
      have s4 := snw s3 np (o := .tup zs)
      have hni : l ∉ M.keys.take i := fun hm => by
        obtain ⟨e, he⟩ := List.getElem?_of_mem hm
        rw [List.getElem?_take] at he
        split at he
        · rename_i hei
          obtain ⟨h1, e1⟩ := List.getElem?_eq_some_iff.mp he
          obtain ⟨h2, e2⟩ := List.getElem?_eq_some_iff.mp hl
          have := (List.nodup_iff_pairwise_ne.mp m.ok.nd)
          exact List.pairwise_iff_getElem.mp this e i h1 h2 hei (e1.trans e2.symm)
        · cases he
      have hno := rows_no hR hni
      have hrl := Paired.length hR
      rw [List.length_take] at hrl
      have hD4 := s4 _ _ hD
      refine ⟨kvs, oK l, (nV_oK l).symm, hD4, small1000 (by omega), sch (s2.trans s4) (none_back s1 nD), (upd_ne (unq a2 hD (by intro e; unfold DN at e; cases e))).trans (s4 _ _ a2), _, upd_same, ?_⟩
      rw [putK_new _ hno, hsn]
      have up : ∀ {x : Addr} {zs : List V}, (upd H3 p (.tup zs)) x = (upd H3 p (.tup zs)) x := fun {_ _} => rfl
      refine paired_app (paired_mono (hR.mono s4) ?_) (.cons ⟨rfl, p, zs, rfl, (upd_ne (unq (upd_same : (upd H3 p (.tup zs)) p = _) hD4 (by intro e; unfold DN at e; cases e))).trans upd_same, ?_⟩ .nil)
      · rintro kv l' ⟨e1, t', xs', e2, h', c'⟩
        refine ⟨e1, t', xs', e2, (upd_ne (unq h' hD4 (by intro e; unfold DN at e; cases e))).trans h', paired_mono c' ?_⟩
        rintro v ch ⟨t3, rfl, h3⟩
        exact ⟨t3, rfl, (upd_ne (unq h3 hD4 (by intro e; unfold DN at e; cases e))).trans h3⟩
      · refine paired_mono (hzs.mono (snew np (o := .tup zs))) ?_
        rintro v ch ⟨t3, rfl, h3⟩
        exact ⟨t3, rfl, (upd_ne (unq h3 hD4 (by intro e; unfold DN at e; cases e))).trans h3⟩
  · rintro H2 ⟨s2, a2, kvs, hD, hR⟩
    rw [hlen, List.take_length] at hR
    refine ⟨_, rfl, a, CM, dx, _, rfl, a2, TM.cl, TM.ro, by show 1 < 1000; decide, ?_⟩
    rw [mf2]
    generalize hG : upd H2 a _ = G3
    have s3 : Same H0 G3 := by rw [← hG]; exact sch s2 n0
    have a3 := (congrFun hG.symm a).trans upd_same
    have up : ∀ {x : Addr} {o : HO}, H2 x = some o → o ≠ .ins CM dx [("joins", .ref j)] → G3 x = some o := fun {x o} h n => by
      rw [← hG]
      exact (upd_ne (unq h a2 n)).trans h
    have hD3 := up hD (by intro e; unfold DN at e; cases e)
    have hR3 : RwsV G3 M.wt kvs M.keys := by
      refine paired_mono hR ?_
      rintro kv l' ⟨e1, t', xs', e2, h', c'⟩
      refine ⟨e1, t', xs', e2, up h' (by intro e; cases e), paired_mono c' ?_⟩
      rintro v ch ⟨t3, rfl, h3⟩
      exact ⟨t3, rfl, up h3 (by intro e; cases e)⟩
    clear hG
    obtain ⟨tN, xN, hvN, _, _⟩ := rows_get hR3 m.ok.none_
    refine ⟨_, rfl, a, CM, dx, _, _, rfl, a3, TM.cl, TM.ro, mf_ro, D, _, rfl, nget_of (l := none) hD3, false, by rw [hvN]; rfl, iteF ?_⟩
    refine ⟨_, rfl, tb, xs, rfl, htb.mono s3, fun Jt2 G2 wk2 hG2 => for_it wk2 (fun i σ H' => Same G3 H' ∧ ∃ v3 v4 v5 v6 v7, σ = [some (.ref a), some (.ref j), some (.ref tb), v3, v4, v5, v6, v7]) ⟨Same.refl _, _, _, _, _, _, rfl⟩ (fun i σ H' _ q => hG2 H' (htb.eq s3 (s3.trans q.1))) ?_ ?_⟩
    · rintro i x σ H4 H4' hi ⟨s4, v3, v4, v5, v6, v7, rfl⟩ ⟨rfl, hxi⟩
      obtain ⟨l, hl, ⟨t, c, ys, rfl, ht, hc, hy⟩, hsn⟩ := paired_take hx hxi
      have hlm := List.mem_of_getElem? hl
      have s5 := s3.trans s4
      obtain ⟨t5, x5, hv5, h5, c5⟩ := rows_get (hR3.mono s4) hlm
      have hn := nget_of (P := P) (w := w) (l := l) (s4 _ _ hD3)
      rw [hv5] at hn
      refine ⟨t, _, rfl, SqT.of (s5 _ _ ht), rfl, _, _, rfl, _, _, rfl, rfl, ?_⟩
      refine ⟨_, rfl, _, rfl, a, CM, dx, _, _, rfl, s4 _ _ a3, TM.cl, TM.ro, mf_ro, _, rfl, _, rfl, a, CM, dx, _, _, rfl, s4 _ _ a3, TM.cl, TM.ro, mf_ro, _, rfl, D, _, rfl, hn, ?_⟩
      exact ⟨j, D, t5, L, ps, M, l, kvs, x5, rfl, J.mono s5, m, s4 _ _ hD3, hR3.mono s4, hlm, h5, c5, fun H6 s6 => ⟨true, rfl, iteF ⟨s4.trans s6, _, _, _, _, _, rfl⟩⟩⟩
    · rintro σ H4 ⟨s4, v3, v4, v5, v6, v7, rfl⟩
      have s5 := s3.trans s4
      exact k _ s5 ⟨dx, j, D, kvs, s4 _ _ a3, J.mono s5, s4 _ _ hD3, hR3.mono s4⟩
theorem ok_Model (T : Bi K mg) (TM : TMx K CM) (C1 : Has P w K mg base "is_good_row" 8 ["joins", "table", "last", "choices"] (sp_is_good_row P w CJ)) (D : Ci K mg CM "Model" "Model.__init__" st_Model_init__) : HasI P w K mg base CM "Model" 9 ["self", "joins", "table"] (sp_Model P w CM CJ) :=
  D.ok sc_Model_init__ bd_Model_init__ (fun vs H Q E ⟨_, _, _, _, _, _, _, _, _, e, _⟩ => by rw [e]; rfl) (body_Model_init__ T TM C1)
end
end Rj
set_option Elab.async false
set_option linter.all false
set_option maxRecDepth 100000
set_option maxHeartbeats 2000000
namespace Rj
open PySem PySem.Spec PyProof.Rows L2
theorem scal_oV (a b : Option Nat) : scal (oV a) (oV b) = true := by cases a <;> cases b <;> rfl
theorem oV_inj {a b : Option Nat} : (oV a = oV b) ↔ a = b := by
  constructor
  · intro h
    cases a <;> cases b <;> simp [oV, iv] at h ⊢
    omega
  · rintro rfl; rfl
theorem Mdl.Ok.same {M : Mdl} (O : M.Ok) {l : Option Nat} (hl : l ∈ M.keys) {c : Option Nat} {v u : Int} (h1 : (c, v) ∈ M.wt l) (h2 : (c, u) ∈ M.wt l) : v = u := by
  rw [← wOf_mem (O.ndc l hl) h1, wOf_mem (O.ndc l hl) h2]
theorem sumf_map (cs : List Ch) : (cs.map (·.2)).sum = sumf (·.2) cs := rfl
theorem Sh.move {H : Hp} {C a : Addr} {N T N' T' : Nat} (h : Sh H C a N T) (hT : 0 < T) (e : N * T' = N' * T) : Sh H C a N' T' := by
  obtain ⟨dx, n, d, h1, h2⟩ := h
  exact ⟨dx, n, d, h1, h2.move (by omega) (by rw [← Int.natCast_mul, ← Int.natCast_mul, e])⟩
theorem Mdl.can_take {M : Mdl} {R : List Nat} (h : M.Can R) : ∀ {i p : Nat}, R[i]? = some p → M.Can (R.take i) ∧ ∃ w, (some p, w) ∈ M.wt (lastO (R.take i)) := by
  induction h with
  | nil => intro i p hi; simp at hi
  | @snoc r q w h hw ih =>
    intro i p hi
    by_cases hlt : i < r.length
    · rw [List.getElem?_append_left hlt] at hi
      rw [List.take_append_of_le_length (by omega)]
      exact ih hi
    · have hl := (List.getElem?_eq_some_iff.mp hi).1
      have hie : i = r.length := by simp at hl; omega
      subst hie
      have : q = p := by simpa using hi
      subst this
      rw [List.take_left]
      exact ⟨h, w, hw⟩
theorem lastO_snoc (r : List Nat) (p : Nat) : lastO (r ++ [p]) = some p := by simp [lastO]
section
variable {P : Program} {w : World} {K : PySem.W.Frag} {mg : Str → Option Value} {base : Heap} {CJ CM CS : Addr}
def sp_chance (P : Program) (w : World) (CM CJ CS : Addr) : Sp := fun vs H Q _ => ∃ (a : Addr) (L : List Nat) (ps : List (Nat × Nat)) (M : Mdl) (l c : Option Nat) (n d : Nat), vs = [.ref a, oV l, oV c] ∧ MO P w H CM CJ a L ps M ∧ Mw L ps M ∧ l ∈ M.keys ∧ (c, (n : Int)) ∈ M.wt l ∧ M.W l = (d : Int) ∧
  ∀ H' r, Same H H' → Sh H' CS r n d → Q (.ref r) H'
abbrev st_Model_chance : Stmt := inC 38 2
theorem sc_Model_chance : FnScope ["self", "last", "choice", "total", "_", "weight", "piece"] ["self", "last", "choice"] (defScope st_Model_chance) := ⟨rfl, rfl, rfl, by decide +kernel, rfl, by decide +kernel, by decide +kernel⟩
theorem bd_Model_chance : Bnd "chance" "Model.chance" st_Model_chance ["self", "last", "choice"] := fun _ _ _ _ _ _ us hl => match us, hl with | [_, _, _], _ => rfl
-- 0:self 1:last 2:choice 3:total 4:_ 5:weight 6:piece
theorem body_Model_chance (T : Bi K mg) (TM : TMx K CM) (C_Share : HasI P w K mg base CS "Share" 2 ["self", "over", "under"] (sp_Share CS)) : Body P w K mg base "Model.chance" st_Model_chance 3 ["self", "last", "choice", "total", "_", "weight", "piece"] (sp_chance P w CM CJ CS) := by
  have nd := sc_Model_chance.nd
  intro f cdv A outer s H vs Q E hr h
  obtain ⟨a, L, ps, M, l, c, n, d, rfl, MO1, m, hl, hc, hd, k⟩ := h
  refine ⟨_, (pss_cons (ps_set (i := 3) nd rfl (by first | exact .inl rfl | exact .inr rfl) (pe_callB (cr_sum rfl) (by rfl) T.sum (by decide +kernel) (pa_cons (pe_lc (own := [("_", 4), ("weight", 5)]) rfl nd (pi_tup (pe_nget (pe_fld (pv 0) rfl) (pv 1) (fun _ _ => rfl))) (blkOk_by (N := ["self", "last", "choice", "total", "_", "weight", "piece"]) (sc := defScope (inC 38 2)) (by decide +kernel)) (fun _ _ _ _ _ => (pg_tupK (K1 := K) (by rfl) (n := 2) rfl (pgs_cons (pg_name (i := 4) nd rfl (by first | exact .inl rfl | exact .inr rfl)) (pgs_cons (pg_name (i := 5) nd rfl (by first | exact .inl rfl | exact .inr rfl)) pgs_nil)))) (fun _ _ _ _ _ => pts_nil) (fun _ _ _ _ _ => (pv 5))) pa_nil)))
    (pss_cons (ps_for PassesOwn.never rfl (pi_tup (pe_nget (pe_fld (pv 0) rfl) (pv 1) (fun _ _ => rfl))) (pg_tup (n := 2) rfl (pgs_cons (pg_name (i := 6) nd rfl (by first | exact .inl rfl | exact .inr rfl)) (pgs_cons (pg_name (i := 5) nd rfl (by first | exact .inl rfl | exact .inr rfl)) pgs_nil)))
      (pss_one (ps_if (pt_cmpR op_eq (pv 6) (pv 2) (nomark _))
        (pss_one (ps_ret (c_mk C_Share hr (by rfl) (pa_cons (pv 5) (pa_cons (pv 3) pa_nil)))))
        pss_nil)))
    (pss_one (ps_ret (c_mk C_Share hr (by rfl) (pa_cons pe_int (pa_cons pe_int pa_nil))))))), ?_⟩

  obtain ⟨dx, j, rd, kvs, h1, J, hrd, hR⟩ := id MO1
  obtain ⟨t, xs, hv, ht, hx⟩ := rows_get hR hl
  have hxl := Paired.length hx
  have hlw := m.lw l hl
  have hn := nget_of (P := P) (w := w) (l := l) hrd
  rw [hv] at hn
  refine ⟨_, rfl, a, CM, dx, _, _, rfl, h1, TM.cl, TM.ro, mf_ro, _, rfl, rd, _, rfl, hn, t, rfl, ⟨_, SqT.of ht⟩, fun D nD => lc_it (walk_tup (xs := xs)) (fun i H' => Same H H' ∧ H' D = some (.lst (((M.wt l).take i).map fun c => V.int c.2))) ⟨snew nD, by rw [upd_same]; rfl⟩ (fun i H' _ q => SqT.of (q.1 _ _ ht)) ?_ ?_⟩
  · rintro i x H1 H' hi ⟨s1, hD⟩ ⟨rfl, hxi⟩
    obtain ⟨ch, hch, ⟨t2, rfl, ht2⟩, hsn⟩ := paired_take hx hxi
    refine ⟨t2, _, rfl, SqT.of (s1 _ _ ht2), rfl, _, _, rfl, _, _, rfl, rfl, rfl, _, rfl, _, hD, ?_, sch s1 nD, ?_⟩
    · rw [List.length_map, List.length_take]; exact small1000 (by omega)
    · rw [upd_same, hsn, List.map_append]; rfl
  · rintro H1 ⟨s1, hD⟩
    rw [hxl, List.take_length] at hD
    refine ⟨D, (M.wt l).map (·.2), rfl, SqL.of (by rw [hD, List.map_map]; rfl), ?_⟩
    rw [sumf_map, show sumf (·.2) (M.wt l) = M.W l from rfl, hd]
    have hn1 := nget_of (P := P) (w := w) (l := l) (s1 _ _ hrd)
    rw [hv] at hn1
    refine ⟨_, rfl, a, CM, dx, _, _, rfl, s1 _ _ h1, TM.cl, TM.ro, mf_ro, _, rfl, rd, _, rfl, hn1, t, rfl, ⟨_, SqT.of (s1 _ _ ht)⟩, for_tup (xs := xs) (fun i σ H' => Same H H' ∧ (∀ ch ∈ (M.wt l).take i, ch.1 ≠ c) ∧ ∃ v4 v5 v6, σ = [some (.ref a), some (oV l), some (oV c), some (iv d), v4, v5, v6]) ⟨s1, by simp, _, _, _, rfl⟩ (fun i σ H' _ q => SqT.of (q.1 _ _ ht)) ?_ ?_⟩
    · rintro i x σ H2 hxi ⟨s2, hne, v4, v5, v6, rfl⟩
      obtain ⟨ch, hch, ⟨t2, rfl, ht2⟩, hsn⟩ := paired_take hx hxi
      refine ⟨t2, _, rfl, SqT.of (s2 _ _ ht2), rfl, _, _, rfl, _, _, rfl, rfl, ?_⟩
      refine ⟨_, rfl, _, rfl, scal_oV _ _, _, rfl, ?_⟩
      by_cases e : ch.1 = c
      · obtain ⟨c', v⟩ := ch
        dsimp only at e
        subst e
        have hv2 := m.ok.same hl (List.mem_of_getElem? hch) hc
        subst hv2
        have e1 : decide (oV c' = oV c') = true := decide_eq_true rfl
        rw [e1]
        obtain ⟨w1, w2⟩ := m.ok.w_le hl hc
        have hdB := m.wB l hl
        refine iteT ⟨_, rfl, _, rfl, fun x dx2 nx ndx ne => ⟨x, dx2, n, d, rfl, upd_same, by simp only at w1 w2; omega, ?_, fun H' b1 hs => ⟨rfl, k _ _ (s2.trans (But1.same ndx nx ne b1)) hs⟩⟩⟩
        have h40 : d < 2 ^ 40 := by rw [hd] at hdB; omega
        exact Nat.lt_trans h40 (by decide)
      · have e1 : decide (oV ch.1 = oV c) = false := decide_eq_false fun z => e (oV_inj.mp z)
        rw [e1]
        refine iteF ⟨s2, fun ch' hm => ?_, _, _, _, rfl⟩
        rw [hsn] at hm
        rcases List.mem_append.mp hm with hm | hm
        · exact hne ch' hm
        · cases List.mem_singleton.mp hm
          exact e
    · rintro σ H2 ⟨s2, hne, v4, v5, v6, rfl⟩
      rw [hxl, List.take_length] at hne
      exact absurd rfl (hne _ hc)
theorem ok_chance (T : Bi K mg) (TM : TMx K CM) (C1 : HasI P w K mg base CS "Share" 2 ["self", "over", "under"] (sp_Share CS)) (D : Md K CM "chance" "Model.chance" st_Model_chance) : HasM P w K mg base CM "chance" 4 ["self", "last", "choice"] (sp_chance P w CM CJ CS) :=
  D.ok sc_Model_chance bd_Model_chance (fun vs H Q E ⟨_, _, _, _, _, _, _, _, e, _⟩ => by rw [e]; rfl) (body_Model_chance T TM C1)
end
end Rj
set_option Elab.async false
set_option linter.all false
set_option maxRecDepth 100000
set_option maxHeartbeats 2000000
namespace Rj
open PySem PySem.Spec PyProof.Rows L2
theorem Mdl.Ok.nat {M : Mdl} (O : M.Ok) {r : List Nat} (h : M.Can r) : ∃ n : Nat, M.pts r = (n : Int) := ⟨(M.pts r).toNat, by have := (O.pts_le h).1; omega⟩
theorem Mdl.Ok.natW {M : Mdl} (O : M.Ok) {l : Option Nat} (h : l ∈ M.keys) : ∃ n : Nat, M.W l = (n : Int) ∧ 0 < n := ⟨(M.W l).toNat, by have := O.Wpos h; omega, by have := O.Wpos h; omega⟩
/-- the step of a product, in natural numbers -/
theorem Mdl.Ok.step {M : Mdl} (O : M.Ok) {r : List Nat} (h : M.Can r) {c : Option Nat} {n : Nat} {W N : Nat} (hc : (c, (n : Int)) ∈ M.wt (lastO r)) (hW : M.W (lastO r) = (W : Int)) (hN : M.pts r = (N : Int)) :
    ∃ q : Nat, N = q * W ∧ M.pts r / M.W (lastO r) * (n : Int) = ((q * n : Nat) : Int) := by
  have hk := O.can_key h
  have hWp := O.Wpos hk
  have e := O.even h
  have hq : 0 ≤ M.pts r / M.W (lastO r) := Int.ediv_nonneg (by omega) (by omega)
  refine ⟨(M.pts r / M.W (lastO r)).toNat, ?_, ?_⟩
  · have e2 : ((M.pts r / M.W (lastO r)).toNat : Int) = M.pts r / M.W (lastO r) := Int.toNat_of_nonneg hq
    have : (N : Int) = (((M.pts r / M.W (lastO r)).toNat * W : Nat) : Int) := by
      rw [Int.natCast_mul, e2, ← hW, ← e, hN]
    exact_mod_cast this
  · have e2 : ((M.pts r / M.W (lastO r)).toNat : Int) = M.pts r / M.W (lastO r) := Int.toNat_of_nonneg hq
    rw [Int.natCast_mul, e2]
section
variable {P : Program} {w : World} {K : PySem.W.Frag} {mg : Str → Option Value} {base : Heap} {CJ CM CS : Addr}
def sp_cob (P : Program) (w : World) (CM CJ CS : Addr) : Sp := fun vs H Q _ => ∃ (a b : Addr) (L : List Nat) (ps : List (Nat × Nat)) (M : Mdl) (R : List Nat) (N U : Nat), vs = [.ref a, .ref b] ∧ MO P w H CM CJ a L ps M ∧ Mw L ps M ∧ H b = some (.tup (ivs R)) ∧ M.Can R ∧ M.pts R = (N : Int) ∧ M.T = (U : Int) ∧
  ∀ H' r, Same H H' → Sh H' CS r N U → Q (.ref r) H'
abbrev st_Model_chance_of_begin : Stmt := inC 38 3
theorem sc_Model_chance_of_begin : FnScope ["self", "row", "chance", "last", "piece"] ["self", "row"] (defScope st_Model_chance_of_begin) := ⟨rfl, rfl, rfl, by decide +kernel, rfl, by decide +kernel, by decide +kernel⟩
theorem bd_Model_chance_of_begin : Bnd "chance_of_begin" "Model.chance_of_begin" st_Model_chance_of_begin ["self", "row"] := fun _ _ _ _ _ _ us hl => match us, hl with | [_, _], _ => rfl
-- 0:self 1:row 2:chance 3:last 4:piece
theorem body_Model_chance_of_begin (T : Bi K mg) (TM : TMx K CM) (TJ : TJx K CJ) (C_Share : HasI P w K mg base CS "Share" 2 ["self", "over", "under"] (sp_Share CS)) (C_text_of_row : Has P w K mg base "text_of_row" 5 ["joins", "row"] (sp_text_of_row CJ)) (C_chance : HasM P w K mg base CM "chance" 4 ["self", "last", "choice"] (sp_chance P w CM CJ CS)) (OM : Own P w K mg base CS .Mult 4 (sp_mul CS)) : Body P w K mg base "Model.chance_of_begin" st_Model_chance_of_begin 5 ["self", "row", "chance", "last", "piece"] (sp_cob P w CM CJ CS) := by
  have nd := sc_Model_chance_of_begin.nd
  intro f cdv A outer s H vs Q E hr h
  obtain ⟨a, b, L, ps, M, R, N, U, rfl, MO1, m, hb, hC, hN, hU, k⟩ := h
  refine ⟨_, (pss_cons (ps_expr (c_fn C_text_of_row hr (by rfl) (pa_cons (pe_fld (pv 0) rfl) (pa_cons (pv 1) pa_nil))))
    (pss_cons (ps_set (i := 2) nd rfl (by first | exact .inl rfl | exact .inr rfl) (c_mk C_Share hr (by rfl) (pa_cons pe_int (pa_cons pe_int pa_nil))))
    (pss_cons (ps_set (i := 3) nd rfl (by first | exact .inl rfl | exact .inr rfl) pe_non)
    (pss_cons (ps_for PassesOwn.never rfl (pi_tup (pv 1)) (pg_name (i := 4) nd rfl (by first | exact .inl rfl | exact .inr rfl))
      (pss_cons (ps_if (pt_cmp (pc_nin (pv 3) (pe_fld (pv 0) rfl)))
        (pss_one (ps_set (i := 2) nd rfl (by first | exact .inl rfl | exact .inr rfl) (pe_op (c_own OM hr) (pv 2) (c_me (pv 0) TM.cl C_chance hr (pa_cons (pv 3) (pa_cons (pv 4) pa_nil))))))
        pss_nil)
      (pss_one (ps_set (i := 3) nd rfl (by first | exact .inl rfl | exact .inr rfl) (pv 4)))))
    (pss_one (ps_ret (pv 2))))))), ?_⟩

  obtain ⟨dx, j, rd, kvs, h1, J, hrd, hR⟩ := id MO1
  have n7 := m.n7
  have hRn : ∀ p ∈ R, p < np L ps := fun p hp => by rw [← m.n]; exact m.ok.can_lt hC p hp
  have hRl := m.ok.can_le hC
  rw [m.n] at hRl
  have hTp := m.ok.Tpos
  have hTB := m.TB
  have hU0 : 0 < U := by omega
  have hUB : U < 2 ^ 400 := by rw [hU] at hTB; omega
  have h9 : (2 : Nat) ^ 400 < 2 ^ 900 := by decide
  refine ⟨_, rfl, a, CM, dx, _, _, rfl, h1, TM.cl, TM.jo, mf_jo, _, rfl, j, b, L, ps, R, rfl, J, m.jl, hb, hRn, by omega, fun H1 s1 => ?_⟩
  refine fun x dx2 nx ndx ne => ⟨x, dx2, 1, 1, rfl, upd_same, by decide, by decide, fun H2 b1 hs => ⟨rfl, ?_⟩⟩
  have s2 := s1.trans (But1.same ndx nx ne b1)
  refine ⟨_, rfl, b, rfl, ⟨_, SqT.of (s2 _ _ hb)⟩, for_tup (xs := ivs R) (fun i σ H' => Same H H' ∧ ∃ (r : Addr) (n : Nat) (v4 : Option V), σ = [some (.ref a), some (.ref b), some (.ref r), some (oV (lastO (R.take i))), v4] ∧ M.pts (R.take i) = (n : Int) ∧ Sh H' CS r n U) ⟨s2, x, U, _, rfl, by rw [List.take_zero, M.pts_nil, hU], hs.move (by decide) (by omega)⟩ (fun i σ H' _ q => SqT.of (q.1 _ _ hb)) ?_ ?_⟩
  · rintro i v σ H3 hv ⟨s3, r, n, v4, rfl, hn, hs3⟩
    obtain ⟨p, hp, rfl⟩ : ∃ p, R[i]? = some p ∧ v = iv p := by
      rw [List.getElem?_map] at hv
      cases hp : R[i]? with
      | none => rw [hp] at hv; cases hv
      | some p => rw [hp] at hv; cases hv; exact ⟨p, rfl, rfl⟩
    obtain ⟨hCi, wg, hwg⟩ := Mdl.can_take hC hp
    have hk := m.ok.can_key hCi
    obtain ⟨W, hW, hW0⟩ := m.ok.natW hk
    have hwl := m.ok.w_le hk hwg
    obtain ⟨wn, rfl⟩ : ∃ wn : Nat, wg = (wn : Int) := ⟨wg.toNat, by simp only at hwl; omega⟩
    obtain ⟨q, hq1, hq2⟩ := m.ok.step hCi hwg hW hn
    have hnU : n ≤ U := by have := (m.ok.pts_le hCi).2; omega
    have hWB : W < 2 ^ 40 := by have := m.wB _ hk; omega
    have hwW : wn ≤ W := by simp only at hwl; omega
    obtain ⟨t, xs, hv2, _, _⟩ := rows_get (hR.mono s3) hk
    refine ⟨_, rfl, _, rfl, a, CM, dx, _, _, rfl, s3 _ _ h1, TM.cl, TM.ro, mf_ro, rd, _, rfl, nget_of (l := lastO (R.take i)) (s3 _ _ hrd), true, by rw [hv2]; rfl, iteT ?_⟩
    obtain ⟨ds, sn, sd, hso, _⟩ := id hs3
    refine ⟨_, rfl, _, rfl, a, dx, _, rfl, s3 _ _ h1, mf_c, _, rfl, _, rfl, a, L, ps, M, lastO (R.take i), some p, wn, W, rfl, MO1.mono s3, m, hk, hwg, hW, fun H4 r2 s4 hs4 => ?_⟩
    obtain ⟨ds2, sn2, sd2, hso2, _⟩ := id hs4
    refine ⟨r, ds, _, r2, ds2, _, rfl, rfl, s4 _ _ hso, hso2, r, r2, n, U, wn, W, q, rfl, hs3.mono s4, hs4, hq1, hU0, by omega, by omega, hW0, Nat.lt_trans hWB (by decide), Nat.lt_of_le_of_lt hwW (Nat.lt_trans hWB (by decide)), fun H5 r3 s5 hs5 => ⟨⟨r3, rfl⟩, ?_⟩⟩
    refine ⟨_, rfl, s3.trans (s4.trans s5), r3, q * wn, some (iv p), ?_, ?_, hs5⟩
    · rw [take_snoc hp, lastO_snoc]; rfl
    · rw [take_snoc hp, M.pts_snoc, wOf_mem (m.ok.ndc _ hk) hwg, hq2]
  · rintro σ H3 ⟨s3, r, n, v4, rfl, hn, hs3⟩
    have hz : (ivs R).length = R.length := List.length_map ..
    rw [hz, List.take_length, hN] at hn
    have : N = n := by omega
    subst this
    exact ⟨_, rfl, k _ _ s3 hs3⟩
theorem ok_cob (T : Bi K mg) (TM : TMx K CM) (TJ : TJx K CJ) (C1 : HasI P w K mg base CS "Share" 2 ["self", "over", "under"] (sp_Share CS)) (C2 : Has P w K mg base "text_of_row" 5 ["joins", "row"] (sp_text_of_row CJ)) (C3 : HasM P w K mg base CM "chance" 4 ["self", "last", "choice"] (sp_chance P w CM CJ CS)) (OM : Own P w K mg base CS .Mult 4 (sp_mul CS)) (D : Md K CM "chance_of_begin" "Model.chance_of_begin" st_Model_chance_of_begin) :
    HasM P w K mg base CM "chance_of_begin" 6 ["self", "row"] (sp_cob P w CM CJ CS) :=
  D.ok sc_Model_chance_of_begin bd_Model_chance_of_begin (fun vs H Q E ⟨_, _, _, _, _, _, _, _, e, _⟩ => by rw [e]; rfl) (body_Model_chance_of_begin T TM TJ C1 C2 C3 OM)
end
end Rj
set_option Elab.async false
set_option linter.all false
set_option maxRecDepth 100000
set_option maxHeartbeats 2000000
namespace Rj
open PySem PySem.Spec PyProof.Rows L2
theorem at_last {R : List Nat} {p : Nat} (h : lastO R = some p) : atI (ivs R) (-1) = some (iv p) := by
  rcases List.eq_nil_or_concat R with rfl | ⟨R', q, rfl⟩
  · simp [lastO] at h
  · rw [List.concat_eq_append] at h ⊢
    rw [lastO_snoc] at h
    cases h
    rw [ivs, List.map_append]
    exact atI_last _ _
theorem lastO_none {R : List Nat} (h : lastO R = none) : R = [] := by
  unfold lastO at h
  exact List.getLast?_eq_none_iff.mp h
theorem last_sel {K : PySem.W.Frag} {σ : L2.St} {H : Hp} {F : VK} {b : Addr} {i : Nat} {R : List Nat} (hv : σ[i]? = some (some (.ref b))) (hb : H b = some (.tup (ivs R))) (h : F (oV (lastO R)) H) :
    if decide ((0 : Int) < (((ivs R).length : Nat) : Int)) = true then tOp (rIxT K) (tVar i) (tUn (rU fun i => V.int (-i)) (tC (V.int 1))) σ H F else tC V.non σ H F := by
  cases e : lastO R with
  | none =>
    have := lastO_none e
    subst this
    rw [e] at h
    exact iteF h
  | some p =>
    have hne : R ≠ [] := by rintro rfl; simp [lastO] at e
    have hl := List.length_pos_iff.mpr hne
    have e1 : decide ((0 : Int) < (((ivs R).length : Nat) : Int)) = true := decide_eq_true (by simp [ivs]; omega)
    rw [e1]
    rw [e] at h
    exact iteT ⟨_, hv, _, rfl, b, _, -1, _, rfl, rfl, SqT.of hb, at_last e, h⟩
section
variable {P : Program} {w : World} {K : PySem.W.Frag} {mg : Str → Option Value} {base : Heap} {CJ CM CS : Addr}
def sp_cor (P : Program) (w : World) (CM CJ CS : Addr) : Sp := fun vs H Q _ => ∃ (a b : Addr) (L : List Nat) (ps : List (Nat × Nat)) (M : Mdl) (R : List Nat) (n N U : Nat), vs = [.ref a, .ref b] ∧ MO P w H CM CJ a L ps M ∧ Mw L ps M ∧ H b = some (.tup (ivs R)) ∧ M.Can R ∧ (none, (n : Int)) ∈ M.wt (lastO R) ∧ M.pts R / M.W (lastO R) * (n : Int) = (N : Int) ∧ M.T = (U : Int) ∧
  ∀ H' r, Same H H' → Sh H' CS r N U → Q (.ref r) H'
abbrev st_Model_chance_of_row : Stmt := inC 38 4
theorem sc_Model_chance_of_row : FnScope ["self", "row", "chance", "last"] ["self", "row"] (defScope st_Model_chance_of_row) := ⟨rfl, rfl, rfl, by decide +kernel, rfl, by decide +kernel, by decide +kernel⟩
theorem bd_Model_chance_of_row : Bnd "chance_of_row" "Model.chance_of_row" st_Model_chance_of_row ["self", "row"] := fun _ _ _ _ _ _ us hl => match us, hl with | [_, _], _ => rfl
-- 0:self 1:row 2:chance 3:last
theorem body_Model_chance_of_row (T : Bi K mg) (TM : TMx K CM) (C_Share : HasI P w K mg base CS "Share" 2 ["self", "over", "under"] (sp_Share CS)) (C_chance_of_begin : HasM P w K mg base CM "chance_of_begin" 6 ["self", "row"] (sp_cob P w CM CJ CS)) (C_chance : HasM P w K mg base CM "chance" 4 ["self", "last", "choice"] (sp_chance P w CM CJ CS)) (OM : Own P w K mg base CS .Mult 4 (sp_mul CS)) : Body P w K mg base "Model.chance_of_row" st_Model_chance_of_row 6 ["self", "row", "chance", "last"] (sp_cor P w CM CJ CS) := by
  have nd := sc_Model_chance_of_row.nd
  intro f cdv A outer s H vs Q E hr h
  obtain ⟨a, b, L, ps, M, R, n, N, U, rfl, MO1, m, hb, hC, hn, hN, hU, k⟩ := h
  refine ⟨_, (pss_cons (ps_set (i := 2) nd rfl (by first | exact .inl rfl | exact .inr rfl) (c_me (pv 0) TM.cl C_chance_of_begin hr (pa_cons (pv 1) pa_nil)))
    (pss_cons (ps_set (i := 3) nd rfl (by first | exact .inl rfl | exact .inr rfl) (pe_ifExp (pt_cmpR op_gt (pe_callB call_len (by rfl) T.len (by decide +kernel) (pa_cons (pv 1) pa_nil)) pe_int (nomark _)) (pe_ix ix_tup (pv 1) (pe_un un_neg pe_int) (fun _ _ => rfl)) pe_non))
    (pss_cons (ps_if (pt_cmp (pc_nnotin (pv 3) (pe_fld (pv 0) rfl)))
      (pss_one (ps_ret (c_mk C_Share hr (by rfl) (pa_cons pe_int (pa_cons pe_int pa_nil)))))
      pss_nil)
    (pss_one (ps_ret (pe_op (c_own OM hr) (pv 2) (c_me (pv 0) TM.cl C_chance hr (pa_cons (pv 3) (pa_cons pe_non pa_nil))))))))), ?_⟩

  obtain ⟨dx, j, rd, kvs, h1, J, hrd, hR⟩ := id MO1
  obtain ⟨n0, hn0⟩ := m.ok.nat hC
  refine ⟨_, rfl, a, dx, _, rfl, h1, mf_cb, _, rfl, a, b, L, ps, M, R, n0, U, rfl, MO1, m, hb, hC, hn0, hU, fun H1 r1 s1 hs1 => ?_⟩
  refine ⟨_, rfl, _, _, rfl, .inr ⟨_, SqT.of (s1 _ _ hb), rfl⟩, _, _, rfl, rfl, _, rfl, ?_⟩
  refine last_sel rfl (s1 _ _ hb) ?_
  have hk := m.ok.can_key hC
  obtain ⟨W, hW, hW0⟩ := m.ok.natW hk
  obtain ⟨q, hq1, hq2⟩ := m.ok.step hC hn hW hn0
  have hwl := m.ok.w_le hk hn
  have hn0U : n0 ≤ U := by have := (m.ok.pts_le hC).2; omega
  have hWB : W < 2 ^ 40 := by have := m.wB _ hk; omega
  have hwW : n ≤ W := by simp only at hwl; omega
  have hTp := m.ok.Tpos
  have hTB := m.TB
  have hU0 : 0 < U := by omega
  have hUB : U < 2 ^ 400 := by rw [hU] at hTB; omega
  have h9 : (2 : Nat) ^ 400 < 2 ^ 900 := by decide
  have hqN : q * n = N := by rw [hq2] at hN; omega
  obtain ⟨t, xs, hv2, _, _⟩ := rows_get (hR.mono s1) hk
  refine ⟨_, rfl, _, rfl, a, CM, dx, _, _, rfl, s1 _ _ h1, TM.cl, TM.ro, mf_ro, rd, _, rfl, nget_of (l := lastO R) (s1 _ _ hrd), false, by rw [hv2]; rfl, iteF ?_⟩
  obtain ⟨ds, sn, sd, hso, _⟩ := id hs1
  refine ⟨_, rfl, _, rfl, a, dx, _, rfl, s1 _ _ h1, mf_c, _, rfl, a, L, ps, M, lastO R, none, n, W, rfl, MO1.mono s1, m, hk, hn, hW, fun H4 r2 s4 hs4 => ?_⟩
  obtain ⟨ds2, sn2, sd2, hso2, _⟩ := id hs4
  refine ⟨r1, ds, _, r2, ds2, _, rfl, rfl, s4 _ _ hso, hso2, r1, r2, n0, U, n, W, q, rfl, hs1.mono s4, hs4, hq1, hU0, by omega, by omega, hW0, Nat.lt_trans hWB (by decide), Nat.lt_of_le_of_lt hwW (Nat.lt_trans hWB (by decide)), fun H5 r3 s5 hs5 => ⟨⟨r3, rfl⟩, ?_⟩⟩
  rw [hqN] at hs5
  exact k _ _ (s1.trans (s4.trans s5)) hs5
theorem ok_cor (T : Bi K mg) (TM : TMx K CM) (C1 : HasI P w K mg base CS "Share" 2 ["self", "over", "under"] (sp_Share CS)) (C2 : HasM P w K mg base CM "chance_of_begin" 6 ["self", "row"] (sp_cob P w CM CJ CS)) (C3 : HasM P w K mg base CM "chance" 4 ["self", "last", "choice"] (sp_chance P w CM CJ CS)) (OM : Own P w K mg base CS .Mult 4 (sp_mul CS)) (D : Md K CM "chance_of_row" "Model.chance_of_row" st_Model_chance_of_row) :
    HasM P w K mg base CM "chance_of_row" 7 ["self", "row"] (sp_cor P w CM CJ CS) :=
  D.ok sc_Model_chance_of_row bd_Model_chance_of_row (fun vs H Q E ⟨_, _, _, _, _, _, _, _, _, e, _⟩ => by rw [e]; rfl) (body_Model_chance_of_row T TM C1 C2 C3 OM)
def sp_cot (P : Program) (w : World) (CM CJ CS : Addr) : Sp := fun vs H Q _ => ∃ (a : Addr) (L : List Nat) (ps : List (Nat × Nat)) (M : Mdl) (R : List Nat) (n N U : Nat), vs = [.ref a, tv (cod L (R.flatMap (ltr L.length ps)))] ∧ MO P w H CM CJ a L ps M ∧ Mw L ps M ∧ M.Can R ∧ (none, (n : Int)) ∈ M.wt (lastO R) ∧ M.pts R / M.W (lastO R) * (n : Int) = (N : Int) ∧ M.T = (U : Int) ∧
  ∀ H' r, Same H H' → Sh H' CS r N U → Q (.ref r) H'
theorem nbr_snoc {b : Nat} {ps : List (Nat × Nat)} : ∀ {R : List Nat} {q : Nat}, nbrP b ps R → (∀ p, lastO R = some p → NCk b ps ps.length (ltr b ps p) (ltr b ps q)) → nbrP b ps (R ++ [q])
  | [], q, _, _ => True.intro
  | [p], q, _, h => ⟨h p rfl, True.intro⟩
  | p :: p2 :: R, q, ⟨h1, h2⟩, h => ⟨h1, nbr_snoc (R := p2 :: R) h2 fun z hz => h z (by unfold lastO at hz ⊢; rw [List.getLast?_cons_cons]; exact hz)⟩
theorem Mw.nbr {L : List Nat} {ps : List (Nat × Nat)} {M : Mdl} (m : Mw L ps M) {R : List Nat} (h : M.Can R) : nbrP L.length ps R := by
  induction h with
  | nil => exact True.intro
  | @snoc r q wq h hw ih =>
    refine nbr_snoc ih fun p hp => ?_
    have hk := m.ok.can_key h
    rw [hp] at hk hw
    exact m.nc p q wq hk hw
theorem flat_len {L : List Nat} {ps : List (Nat × Nat)} (Jw : Jl L ps) : ∀ {R : List Nat}, (∀ p ∈ R, p < np L ps) → (R.flatMap (ltr L.length ps)).length ≤ 5 * R.length
  | [], _ => by simp
  | p :: R, h => by
    rw [List.flatMap_cons, List.length_append]
    have h1 := Jw.t5 p (h p (List.mem_cons_self ..))
    have h2 := flat_len Jw (R := R) fun x hx => h x (List.mem_cons_of_mem _ hx)
    simp only [List.length_cons, Nat.mul_add]
    omega
theorem flat_lt {L : List Nat} {ps : List (Nat × Nat)} (Jw : Jl L ps) {R : List Nat} (h : ∀ p ∈ R, p < np L ps) : ∀ i ∈ R.flatMap (ltr L.length ps), i < L.length := fun i hi => by
  obtain ⟨p, hp, hi⟩ := List.mem_flatMap.mp hi
  exact Jw.pr.ltr_lt p (h p hp) i hi
abbrev st_Model_chance_of_text : Stmt := inC 38 5
theorem sc_Model_chance_of_text : FnScope ["self", "text"] ["self", "text"] (defScope st_Model_chance_of_text) := ⟨rfl, rfl, rfl, by decide +kernel, rfl, by decide +kernel, by decide +kernel⟩
theorem bd_Model_chance_of_text : Bnd "chance_of_text" "Model.chance_of_text" st_Model_chance_of_text ["self", "text"] := fun _ _ _ _ _ _ us hl => match us, hl with | [_, _], _ => rfl
-- 0:self 1:text
theorem body_Model_chance_of_text (T : Bi K mg) (TM : TMx K CM) (C_cut : Has P w K mg base "cut" 3 ["joins", "text"] (sp_cut CJ)) (C_chance_of_row : HasM P w K mg base CM "chance_of_row" 7 ["self", "row"] (sp_cor P w CM CJ CS)) : Body P w K mg base "Model.chance_of_text" st_Model_chance_of_text 7 ["self", "text"] (sp_cot P w CM CJ CS) := by
  have nd := sc_Model_chance_of_text.nd
  intro f cdv A outer s H vs Q E hr h
  obtain ⟨a, L, ps, M, R, n, N, U, rfl, MO1, m, hC, hn, hN, hU, k⟩ := h
  refine ⟨_, (pss_one (ps_ret (c_me (pv 0) TM.cl C_chance_of_row hr (pa_cons (c_fn C_cut hr (by rfl) (pa_cons (pe_fld (pv 0) rfl) (pa_cons (pv 1) pa_nil))) pa_nil)))), ?_⟩

  obtain ⟨dx, j, rd, kvs, h1, J, hrd, hR⟩ := id MO1
  have hRn : ∀ p ∈ R, p < np L ps := fun p hp => by rw [← m.n]; exact m.ok.can_lt hC p hp
  have hRl := m.ok.can_le hC
  have n7 := m.n7
  rw [m.n] at hRl
  have hfl := flat_len m.jl hRn
  refine ⟨_, rfl, a, dx, _, rfl, h1, mf_cr, _, rfl, a, CM, dx, _, _, rfl, h1, TM.cl, TM.jo, mf_jo, _, rfl, j, L, ps, _, rfl, J, m.jl, flat_lt m.jl hRn, by omega, fun H1 q s1 hq => ?_⟩
  rw [m.jl.pr.row_cut R hRn (m.nbr hC)] at hq
  exact ⟨a, q, L, ps, M, R, n, N, U, rfl, MO1.mono s1, m, hq, hC, hn, hN, hU, fun H2 r s2 hs => k _ _ (s1.trans s2) hs⟩
theorem ok_cot (T : Bi K mg) (TM : TMx K CM) (C1 : Has P w K mg base "cut" 3 ["joins", "text"] (sp_cut CJ)) (C2 : HasM P w K mg base CM "chance_of_row" 7 ["self", "row"] (sp_cor P w CM CJ CS)) (D : Md K CM "chance_of_text" "Model.chance_of_text" st_Model_chance_of_text) :
    HasM P w K mg base CM "chance_of_text" 8 ["self", "text"] (sp_cot P w CM CJ CS) :=
  D.ok sc_Model_chance_of_text bd_Model_chance_of_text (fun vs H Q E ⟨_, _, _, _, _, _, _, _, e, _⟩ => by rw [e]; rfl) (body_Model_chance_of_text T TM C1 C2)
end
end Rj
set_option Elab.async false
set_option linter.all false
set_option maxRecDepth 100000
set_option maxHeartbeats 2000000
namespace Rj
open PySem PySem.Spec PyProof.Rows L2
/-! ### covers, in plain words -/
def tR (L : List Nat) (ps : List (Nat × Nat)) (R : List Nat) : List Nat := cod L (R.flatMap (ltr L.length ps))
theorem tR_snoc (L : List Nat) (ps : List (Nat × Nat)) (R : List Nat) (p : Nat) : tR L ps (R ++ [p]) = tR L ps R ++ cod L (ltr L.length ps p) := by
  unfold tR
  rw [List.flatMap_append, cod_app, List.flatMap_cons, List.flatMap_nil, List.append_nil]
def itm (M : Mdl) (L : List Nat) (ps : List (Nat × Nat)) (s : List Nat) (R : List Nat) : Int := M.Vo (8 - R.length) (M.pts R) (lastO R) (rm (tR L ps R) s)
def kid (M : Mdl) (L : List Nat) (ps : List (Nat × Nat)) (s R r : List Nat) (c : Ch) : Int := match c.1 with
  | none => 0
  | some p => if (rm (M.txt p) r).isSome then itm M L ps s (R ++ [p]) else 0
theorem itm_done {M : Mdl} {L : List Nat} {ps : List (Nat × Nat)} {s R : List Nat} (h : rm (tR L ps R) s = some []) : itm M L ps s R = M.pts R := by
  unfold itm
  rw [h]
  exact M.V_done _ _ _
theorem itm_turn {M : Mdl} {L : List Nat} {ps : List (Nat × Nat)} (m : Mw L ps M) {s R r : List Nat} (hC : M.Can R) (h : rm (tR L ps R) s = some r) (hr : r ≠ []) : itm M L ps s R = sumf (kid M L ps s R r) (M.wt (lastO R)) := by
  have hl := m.ok.can_le hC
  have n7 := m.n7
  rw [m.n] at hl
  have hk := m.ok.can_key hC
  unfold itm
  rw [h, show 8 - R.length = (7 - R.length) + 1 by omega]
  show M.V _ _ _ _ = _
  rw [Mdl.V, if_neg hr]
  refine sumf_congr fun c hc => ?_
  obtain ⟨o, v⟩ := c
  cases o with
  | none => rfl
  | some p =>
    have hp := m.key (m.ok.key _ hk p v hc).1
    unfold kid
    dsimp only
    have e : itm M L ps s (R ++ [p]) = M.Vo (7 - R.length) (M.pts R / M.W (lastO R) * v) (some p) (rm (M.txt p) r) := by
      unfold itm
      rw [lastO_snoc, M.pts_snoc, wOf_mem (m.ok.ndc _ hk) hc, tR_snoc, rm_app, h, List.length_append, m.txt p hp]
      rw [show 8 - (R.length + [p].length) = 7 - R.length from by show 8 - (R.length + 1) = _; omega]
      rfl
    rw [e]
    cases rm (M.txt p) r with
    | none => rfl
    | some r' => rfl
def pot (Ws : List (List Nat)) : Nat := (Ws.map fun R => 9 ^ (7 - R.length)).sum
theorem pot_app (a b : List (List Nat)) : pot (a ++ b) = pot a + pot b := by simp [pot]
theorem pot_one (R : List Nat) : pot [R] = 9 ^ (7 - R.length) := by simp [pot]
theorem pot_len : ∀ Ws : List (List Nat), Ws.length ≤ pot Ws
  | [] => by simp
  | R :: Ws => by
    have := pot_len Ws
    have h : 0 < 9 ^ (7 - R.length) := Nat.pow_pos (by decide)
    show Ws.length + 1 ≤ ((R :: Ws).map fun R => 9 ^ (7 - R.length)).sum
    rw [List.map_cons, List.sum_cons]
    show _ ≤ _ + pot Ws
    omega
/-- the weight of a pushed row -/
def pw (R : List Nat) : Nat := if R.length ≤ 6 then 9 ^ (6 - R.length) else 0
theorem pw_lt (R : List Nat) : 8 * pw R < 9 ^ (7 - R.length) := by
  unfold pw
  split
  · rw [show 7 - R.length = (6 - R.length) + 1 by omega, Nat.pow_succ]
    have h : 0 < 9 ^ (6 - R.length) := Nat.pow_pos (by decide)
    omega
  · exact Nat.pow_pos (by decide)
theorem pw_snoc {R : List Nat} {p : Nat} (h : (R ++ [p]).length ≤ 7) : 9 ^ (7 - (R ++ [p]).length) = pw R := by
  unfold pw
  simp at h
  rw [if_pos (by omega), List.length_append]
  show 9 ^ (7 - (R.length + 1)) = _
  rw [show 7 - (R.length + 1) = 6 - R.length by omega]
structure CvM (M : Mdl) (L : List Nat) (ps : List (Nat × Nat)) (s : List Nat) (Fs Ws : List (List Nat)) : Prop where
  f : ∀ R ∈ Fs, M.Can R ∧ s <+: tR L ps R
  w : ∀ R ∈ Ws, M.Can R ∧ (rm (tR L ps R) s).isSome = true
  sum : sumf M.pts Fs + sumf (itm M L ps s) Ws = M.V 8 M.T none s
  pot : Fs.length + pot Ws ≤ 9 ^ 7
  one : s = [] → Fs.length + Ws.length ≤ 1
theorem CvM.start {M : Mdl} {L : List Nat} {ps : List (Nat × Nat)} {s : List Nat} : CvM M L ps s [] [[]] := by
  refine ⟨fun R h => (by cases h), fun R h => ?_, ?_, by decide, fun _ => by simp⟩
  · cases List.mem_singleton.mp h
    exact ⟨.nil, rfl⟩
  · rw [sumf_nil, sumf_cons, sumf_nil]
    show 0 + (M.V 8 M.T none s + 0) = _
    omega
theorem rm_len {t s r : List Nat} (h : rm t s = some r) : s.length ≤ t.length ↔ r = [] := by
  have := rm_drop h
  subst this
  rw [List.drop_eq_nil_iff]
theorem CvM.found {M : Mdl} {L : List Nat} {ps : List (Nat × Nat)} {s : List Nat} {Fs Ws : List (List Nat)} {R : List Nat} (c : CvM M L ps s Fs (Ws ++ [R])) (h : rm (tR L ps R) s = some []) : CvM M L ps s (Fs ++ [R]) Ws := by
  have hp := c.pot
  rw [pot_app, pot_one] at hp
  have h9 : 0 < 9 ^ (7 - R.length) := Nat.pow_pos (by decide)
  refine ⟨fun x hx => ?_, fun x hx => c.w x (by simp [hx]), ?_, by simp; omega, fun e => by have := c.one e; simp at this ⊢; omega⟩
  · rcases List.mem_append.mp hx with hx | hx
    · exact c.f x hx
    · cases List.mem_singleton.mp hx
      exact ⟨(c.w R (by simp)).1, rm_done.mp h⟩
  · rw [← c.sum, sumf_app, sumf_app, sumf_cons, sumf_nil, sumf_cons, sumf_nil, itm_done h]
    omega
/-- while the kids of R are pushed -/
structure CvK (M : Mdl) (L : List Nat) (ps : List (Nat × Nat)) (s : List Nat) (Fs Ws : List (List Nat)) (R r : List Nat) (i : Nat) (Ws' : List (List Nat)) : Prop where
  w : ∀ R ∈ Ws', M.Can R ∧ (rm (tR L ps R) s).isSome = true
  sum : sumf (itm M L ps s) Ws' = sumf (itm M L ps s) Ws + sumf (kid M L ps s R r) ((M.wt (lastO R)).take i)
  pt : Rj.pot Ws' ≤ Rj.pot Ws + i * pw R
theorem CvK.start {M : Mdl} {L : List Nat} {ps : List (Nat × Nat)} {s : List Nat} {Fs Ws : List (List Nat)} {R r : List Nat} (c : CvM M L ps s Fs (Ws ++ [R])) : CvK M L ps s Fs Ws R r 0 Ws :=
  ⟨fun x hx => c.w x (by simp [hx]), by rw [List.take_zero, sumf_nil]; omega, by omega⟩
theorem CvK.skip {M : Mdl} {L : List Nat} {ps : List (Nat × Nat)} {s : List Nat} {Fs Ws : List (List Nat)} {R r : List Nat} {i : Nat} {Ws' : List (List Nat)} {c : Ch} (k : CvK M L ps s Fs Ws R r i Ws') (hs : (M.wt (lastO R)).take (i + 1) = (M.wt (lastO R)).take i ++ [c])
    (h0 : kid M L ps s R r c = 0) : CvK M L ps s Fs Ws R r (i + 1) Ws' :=
  ⟨k.w, by rw [hs, sumf_app, sumf_cons, sumf_nil, h0, k.sum]; omega, by have := k.pt; rw [Nat.add_mul, Nat.one_mul]; omega⟩
theorem CvK.push {M : Mdl} {L : List Nat} {ps : List (Nat × Nat)} (m : Mw L ps M) {s : List Nat} {Fs Ws : List (List Nat)} {R r : List Nat} {i : Nat} {Ws' : List (List Nat)} {p : Nat} {v : Int} (k : CvK M L ps s Fs Ws R r i Ws') (hs : (M.wt (lastO R)).take (i + 1) = (M.wt (lastO R)).take i ++ [(some p, v)])
    (hC : M.Can R) (hc : (some p, v) ∈ M.wt (lastO R)) (hr : rm (tR L ps R) s = some r) (h1 : (rm (M.txt p) r).isSome = true) : CvK M L ps s Fs Ws R r (i + 1) (Ws' ++ [R ++ [p]]) := by
  have hk := m.ok.can_key hC
  have hC' : M.Can (R ++ [p]) := .snoc hC hc
  have hp := m.key (m.ok.key _ hk p v hc).1
  refine ⟨fun x hx => ?_, ?_, ?_⟩
  · rcases List.mem_append.mp hx with hx | hx
    · exact k.w x hx
    · cases List.mem_singleton.mp hx
      refine ⟨hC', ?_⟩
      rw [tR_snoc, rm_app, hr, ← m.txt p hp]
      exact h1
  · rw [hs, sumf_app, sumf_app, sumf_cons, sumf_nil, sumf_cons, sumf_nil, k.sum]
    have : kid M L ps s R r (some p, v) = itm M L ps s (R ++ [p]) := by unfold kid; dsimp only; rw [if_pos h1]
    rw [this]; omega
  · have hl := m.ok.can_le hC'
    have n7 := m.n7
    rw [m.n] at hl
    rw [pot_app, pot_one, pw_snoc (by omega)]
    have := k.pt
    rw [Nat.add_mul, Nat.one_mul]
    omega
theorem CvK.done {M : Mdl} {L : List Nat} {ps : List (Nat × Nat)} (m : Mw L ps M) {s : List Nat} {Fs Ws : List (List Nat)} {R r : List Nat} {Ws' : List (List Nat)} (c : CvM M L ps s Fs (Ws ++ [R])) (k : CvK M L ps s Fs Ws R r (M.wt (lastO R)).length Ws') (hr : rm (tR L ps R) s = some r) (hn : r ≠ []) :
    CvM M L ps s Fs Ws' ∧ pot Ws' < pot (Ws ++ [R]) := by
  have hC := (c.w R (by simp)).1
  have hk := m.ok.can_key hC
  have h8 := m.lw _ hk
  have hlt : pot Ws' < pot (Ws ++ [R]) := by
    have h1 := k.pt
    have h2 := pw_lt R
    have h3 : (M.wt (lastO R)).length * pw R ≤ 8 * pw R := Nat.mul_le_mul_right _ h8
    rw [pot_app, pot_one]
    omega
  refine ⟨⟨c.f, k.w, ?_, by have := c.pot; omega, fun e => ?_⟩, hlt⟩
  · rw [k.sum, List.take_length, ← itm_turn m hC hr hn, ← c.sum, sumf_app, sumf_cons, sumf_nil]
    omega
  · subst e
    rw [rm_nil] at hr
    cases hr
    exact absurd rfl hn
end Rj
set_option Elab.async false
set_option linter.all false
set_option maxRecDepth 100000
set_option maxHeartbeats 2000000
namespace Rj
open PySem PySem.Spec PyProof.Rows L2
def TupR (H : Hp) (v : V) (R : List Nat) : Prop := ∃ t, v = .ref t ∧ H t = some (.tup (ivs R))
def ItmR (L : List Nat) (ps : List (Nat × Nat)) (H : Hp) (v : V) (R : List Nat) : Prop := ∃ t r, v = .ref t ∧ H t = some (.tup [.ref r, iv (tR L ps R).length]) ∧ H r = some (.tup (ivs R))
/-- all tuples stand -/
def Tups (H H' : Hp) : Prop := ∀ a xs, H a = some (.tup xs) → H' a = some (.tup xs)
theorem TupR.mono {H H' : Hp} {v : V} {R : List Nat} (s : Tups H H') (h : TupR H v R) : TupR H' v R := by
  obtain ⟨t, e, h⟩ := h
  exact ⟨t, e, s _ _ h⟩
theorem ItmR.mono {L : List Nat} {ps : List (Nat × Nat)} {H H' : Hp} {v : V} {R : List Nat} (s : Tups H H') (h : ItmR L ps H v R) : ItmR L ps H' v R := by
  obtain ⟨t, r, e, h, h2⟩ := h
  exact ⟨t, r, e, s _ _ h, s _ _ h2⟩
theorem tups_of {H H' : Hp} (s : Same H H') : Tups H H' := fun a xs h => s _ _ h
theorem tups_lst {H : Hp} {l : Addr} {xs : List V} {o : HO} (h : H l = some (.lst xs)) : Tups H (upd H l o) := fun a ys ha => (upd_ne (unq ha h (by intro e; cases e))).trans ha
theorem paired_perm {α β : Type} {F : α → β → Prop} {xs ys : List α} (h : ys.Perm xs) : ∀ {bs : List β}, Paired F xs bs → ∃ cs, cs.Perm bs ∧ Paired F ys cs := by
  induction h with
  | nil => intro bs p; exact ⟨bs, .refl _, p⟩
  | @cons a l m _ ih =>
    intro bs p
    cases p with
    | cons f r =>
      obtain ⟨cs, h1, h2⟩ := ih r
      exact ⟨_, h1.cons _, .cons f h2⟩
  | swap a b l =>
    intro bs p
    cases p with
    | cons f r => cases r with
      | cons f2 r2 => exact ⟨_, .swap _ _ _, .cons f2 (.cons f r2)⟩
  | trans _ _ i1 i2 =>
    intro bs p
    obtain ⟨cs, h1, h2⟩ := i2 p
    obtain ⟨ds, h3, h4⟩ := i1 h2
    exact ⟨ds, h3.trans h1, h4⟩
theorem paired_concat {α β : Type} {F : α → β → Prop} : ∀ {xs : List α} {x : α} {bs : List β}, Paired F (xs ++ [x]) bs → ∃ bs' b, bs = bs' ++ [b] ∧ Paired F xs bs' ∧ F x b
  | [], x, _, .cons f .nil => ⟨[], _, rfl, .nil, f⟩
  | _ :: xs, x, _, .cons f r => by
    obtain ⟨bs', b, rfl, h1, h2⟩ := paired_concat r
    exact ⟨_ :: bs', b, rfl, .cons f h1, h2⟩
theorem cut_from (s : List Nat) (n : Nat) : cutS (⟨s.toArray⟩ : Str) (some ((n : Nat) : Int)) none = ⟨(s.drop n).toArray⟩ := by
  rw [C8.cutS_slice]
  have := SX.slice_from (a := s) (i := (n : Int)) (by omega)
  rw [Int.toNat_natCast] at this
  exact this
theorem fits_iff {t r : List Nat} (h : True) : ((t.isPrefixOf r || r.isPrefixOf t)) = (rm t r).isSome := by
  rw [Bool.eq_iff_iff, rm_fits, Bool.or_eq_true, List.isPrefixOf_iff_prefix, List.isPrefixOf_iff_prefix]
section
variable {P : Program} {w : World} {K : PySem.W.Frag} {mg : Str → Option Value} {base : Heap} {CJ CM CS : Addr}
def sp_covers (P : Program) (w : World) (CM CJ : Addr) : Sp := fun vs H Q _ => ∃ (a : Addr) (L : List Nat) (ps : List (Nat × Nat)) (M : Mdl) (u : List Nat), vs = [.ref a, tv (cod L u)] ∧ MO P w H CM CJ a L ps M ∧ Mw L ps M ∧ (∀ i ∈ u, i < L.length) ∧ u.length ≤ 100 ∧
  ∀ H' q xs Rs, Same H H' → H' q = some (.tup xs) → Paired (TupR H') xs Rs → (∀ R ∈ Rs, M.Can R) → sumf M.pts Rs = M.V 8 M.T none (cod L u) → Q (.ref q) H'
abbrev st_covers : Stmt := top 28
theorem sc_covers : FnScope ["model", "text", "found", "work", "row", "length", "last", "piece", "_"] ["model", "text"] (defScope st_covers) := ⟨rfl, rfl, rfl, by decide +kernel, rfl, by decide +kernel, by decide +kernel⟩
theorem bd_covers : Bnd "covers" "covers" st_covers ["model", "text"] := fun _ _ _ _ _ _ us hl => match us, hl with | [_, _], _ => rfl
-- 0:model 1:text 2:found 3:work 4:row 5:length 6:last 7:piece 8:_
theorem body_covers (T : Bi K mg) (TM : TMx K CM) (TJ : TJx K CJ) (C_letters_of : Has P w K mg base "letters_of" 2 ["joins", "text"] (sp_letters_of CJ)) (C_fits_text : Has P w K mg base "fits_text" 1 ["piece_text", "rest"] sp_fits_text) (C_text_of : HasM P w K mg base CJ "text_of" 4 ["self", "piece"] (sp_text_of CJ)) : Body P w K mg base "covers" st_covers 4 ["model", "text", "found", "work", "row", "length", "last", "piece", "_"] (sp_covers P w CM CJ) := by
  have nd := sc_covers.nd
  intro f cdv A outer s H vs Q E hr h
  obtain ⟨a, L, ps, M, u, rfl, MO1, m, hu, hul, k⟩ := h
  refine ⟨_, (pss_cons (ps_expr (c_fn C_letters_of hr (by rfl) (pa_cons (pe_fld (pv 0) rfl) (pa_cons (pv 1) pa_nil))))
    (pss_cons (ps_set (i := 2) nd rfl (by first | exact .inl rfl | exact .inr rfl) (pe_lst pa_nil))
    (pss_cons (ps_set (i := 3) nd rfl (by first | exact .inl rfl | exact .inr rfl) (pe_lst (pa_cons (pe_tup (pa_cons (pe_tup pa_nil) (pa_cons pe_int pa_nil))) pa_nil)))
    (pss_cons (ps_while PassesOwn.never (pt_truth (pv 3) (by intro _; rfl))
      (pss_cons (ps_asg (pe_bm0 PySem.F.plainAttrs_list PySem.F.slot_list_pop PySem.F.type_list_pop mt_pop (pv 3)) (pg_tup (n := 2) rfl (pgs_cons (pg_name (i := 4) nd rfl (by first | exact .inl rfl | exact .inr rfl)) (pgs_cons (pg_name (i := 5) nd rfl (by first | exact .inl rfl | exact .inr rfl)) pgs_nil))))
      (pss_one (ps_if (pt_cmpR op_ge (pv 5) (pe_callB call_len (by rfl) T.len (by decide +kernel) (pa_cons (pv 1) pa_nil)) (nomark _))
        (pss_one (ps_expr (pe_bm PySem.F.plainAttrs_list PySem.F.slot_list_append PySem.F.type_list_append mt_append (pv 2) (pa_cons (pv 4) pa_nil))))
        (pss_cons (ps_set (i := 6) nd rfl (by first | exact .inl rfl | exact .inr rfl) (pe_ifExp (pt_cmpR op_gt (pe_callB call_len (by rfl) T.len (by decide +kernel) (pa_cons (pv 4) pa_nil)) pe_int (nomark _)) (pe_ix ix_tup (pv 4) (pe_un un_neg pe_int) (fun _ _ => rfl)) pe_non))
        (pss_one (ps_for PassesOwn.never rfl (pi_tup (pe_nget (pe_fld (pv 0) rfl) (pv 6) (fun _ _ => rfl))) (pg_tup (n := 2) rfl (pgs_cons (pg_name (i := 7) nd rfl (by first | exact .inl rfl | exact .inr rfl)) (pgs_cons (pg_name (i := 8) nd rfl (by first | exact .inl rfl | exact .inr rfl)) pgs_nil)))
          (pss_one (ps_if (PW.pt (pw_and (pt_cmpR op_notN (pv 7) pe_non (nomark _)) (pw_and1 (pt_val (c_fn C_fits_text hr (by rfl) (pa_cons (c_me (pe_fld (pv 0) rfl) TJ.cl C_text_of hr (pa_cons (pv 7) pa_nil)) (pa_cons (pe_slice sl_str (pv 1) (po_some (pv 5)) po_none) pa_nil)))))))
            (pss_one (ps_expr (pe_bm PySem.F.plainAttrs_list PySem.F.slot_list_append PySem.F.type_list_append mt_append (pv 3) (pa_cons (pe_tup (pa_cons (pe_op op_catA (pv 4) (pe_tup (pa_cons (pv 7) pa_nil))) (pa_cons (pe_op op_add (pv 5) (pe_callB call_len (by rfl) T.len (by decide +kernel) (pa_cons (c_me (pe_fld (pv 0) rfl) TJ.cl C_text_of hr (pa_cons (pv 7) pa_nil)) pa_nil))) pa_nil))) pa_nil))))
            pss_nil)))))))))
    (pss_one (ps_ret (pe_callTy call_tuple_of (by rfl) T.tuple (by decide +kernel) (pa_cons (pe_callB cr_sortTI (by rfl) T.sorted (by decide +kernel) (pa_cons (pv 2) pa_nil)) pa_nil)))))))), ?_⟩

  obtain ⟨dx, j, rd, kvs, h1, J, hrd, hR⟩ := id MO1
  have n7 := m.n7
  have hcl : (cod L u).length ≤ 100 := by rw [cod_len]; exact hul
  have hsz : (⟨(cod L u).toArray⟩ : Str).length ≤ sizeLine := by rw [tv_len]; exact small_line (by omega)
  refine ⟨_, rfl, a, CM, dx, _, _, rfl, h1, TM.cl, TM.jo, mf_jo, _, rfl, j, L, ps, u, rfl, J, hu, by omega, fun H1 q0 s1 _ => ?_⟩
  refine ⟨small_line (by show 0 ≤ 1000; omega), fun f nf => ?_⟩
  refine ⟨small_line (by show 0 ≤ 1000; omega), fun r0 nr0 => ⟨small_line (by show 2 ≤ 1000; omega), fun t0 nt0 => ⟨small_line (by show 1 ≤ 1000; omega), fun wk nwk => ?_⟩⟩⟩
  generalize hs : cod L u = s at *
  have s2 := snw s1 nf (o := .lst [])
  have s3 := snw s2 nr0 (o := .tup [])
  have s4 := snw s3 nt0 (o := .tup [V.ref r0, V.int 0])
  have f4 := upd_keep (u := .tup [V.ref r0, V.int 0]) (upd_keep (u := .tup []) (upd_same (H := H1) (a := f) (o := .lst [])) nr0) nt0
  have hf0 := none_back s1 nf
  have hwk0 := none_back s4 nwk
  have nfw : f ≠ wk := ne_of_none f4 nwk
  refine ⟨fun pm σ H' => Same H H' ∧ ∃ (fs ws : List V) (Fs Ws : List (List Nat)) (v4 v5 v6 v7 v8 : Option V), σ = [some (.ref a), some (tv s), some (.ref f), some (.ref wk), v4, v5, v6, v7, v8] ∧ H' f = some (.lst fs) ∧ H' wk = some (.lst ws) ∧ Paired (TupR H') fs Fs ∧ Paired (ItmR L ps H') ws Ws ∧ CvM M L ps s Fs Ws ∧ pm = pot Ws, ⟨_, snw s4 nwk, [], [V.ref t0], [], [[]], _, _, _, _, _, rfl, upd_keep f4 nwk, upd_same, .nil, .cons ⟨t0, r0, rfl, upd_keep upd_same nwk, upd_keep (upd_keep upd_same nt0) nwk⟩ .nil, CvM.start, rfl⟩, ?_⟩
  rintro pm σ H2 ⟨sH, fs, ws, Fs, Ws, v4, v5, v6, v7, v8, rfl, hf, hw, pF, pW, cv, rfl⟩
  refine ⟨_, rfl, !ws.isEmpty, .inl ⟨ws, SqL.of hw, rfl⟩, ?_⟩
  rcases List.eq_nil_or_concat ws with rfl | ⟨ws', v, rfl⟩
  · refine iteF ?_
    cases pW
    refine ⟨_, rfl, f, fs, rfl, SqL.of hf, fun x hx => ?_, fun ys p hp np => ?_⟩
    · obtain ⟨R, hRm, t, rfl, ht⟩ : ∃ R, R ∈ Fs ∧ TupR H2 x R := by
        obtain ⟨i, hi⟩ := List.getElem?_of_mem hx
        obtain ⟨R, hRi, hr⟩ := paired_get pF hi
        exact ⟨R, List.mem_of_getElem? hRi, hr⟩
      refine ⟨t, R.map fun n : Nat => (n : Int), rfl, by rw [ht, ivs_int], fun h2 e => ?_⟩
      have hR0 : R = [] := by simpa using e
      subst hR0
      have hpre := (cv.f [] hRm).2
      have hs0 : s = [] := List.prefix_nil.mp hpre
      have := cv.one hs0
      rw [← Paired.length pF] at this
      omega
    · obtain ⟨Gs, hG1, hG2⟩ := paired_perm hp pF
      have sp := snw sH np (o := .lst ys)
      refine ⟨p, ys, rfl, .inl ⟨SqL.of upd_same, fun q nq => ?_⟩⟩
      have sq := snw sp nq (o := .tup ys)
      refine k _ q ys Gs sq upd_same (paired_mono hG2 fun _ _ => TupR.mono (tups_of ((snew np).trans (snew nq)))) (fun R hRm => (cv.f R (hG1.mem_iff.mp hRm)).1) ?_
      rw [sumf_perm _ hG1, ← cv.sum, sumf_nil]
      omega
  · rw [List.concat_eq_append] at hw pW
    have hne : (!(ws'.concat v).isEmpty) = true := by simp
    rw [hne]
    obtain ⟨Ws', R, rfl, pW', t, r, rfl, ht, hr⟩ := paired_concat pW
    obtain ⟨hC, hrm⟩ := cv.w R (by simp)
    obtain ⟨rr, hrr⟩ := Option.isSome_iff_exists.mp hrm
    have hdrop := rm_drop hrr
    have tu := tups_lst (o := .lst ws') hw
    have sH3 : Same H (upd H2 wk (.lst ws')) := sch sH hwk0
    refine iteT ⟨fun σ' H' => ∃ m', m' < pot (Ws' ++ [R]) ∧ (Same H H' ∧ ∃ (fs ws : List V) (Fs Ws : List (List Nat)) (v4 v5 v6 v7 v8 : Option V), σ' = [some (.ref a), some (tv s), some (.ref f), some (.ref wk), v4, v5, v6, v7, v8] ∧ H' f = some (.lst fs) ∧ H' wk = some (.lst ws) ∧ Paired (TupR H') fs Fs ∧ Paired (ItmR L ps H') ws Ws ∧ CvM M L ps s Fs Ws ∧ m' = pot Ws), fun _ _ h => h, ?_⟩
    refine ⟨_, rfl, .inl ⟨rfl, _, SqL.of hw⟩, wk, _, .ref t, rfl, rfl, hw, by simp, ?_⟩
    rw [List.dropLast_concat]
    have hf3 : (upd H2 wk (.lst ws')) f = some (.lst fs) := (upd_ne nfw).trans hf
    have pF3 := paired_mono pF fun _ _ h => TupR.mono tu h
    have pW3 := paired_mono pW' fun _ _ h => ItmR.mono tu h
    have ht3 := tu _ _ ht
    have hr3 := tu _ _ hr
    have hw3 : (upd H2 wk (.lst ws')) wk = some (.lst ws') := upd_same
    generalize upd H2 wk (.lst ws') = H3 at *
    refine ⟨t, _, rfl, SqT.of ht3, rfl, _, _, rfl, _, _, rfl, rfl, ?_⟩
    refine ⟨_, rfl, _, rfl, _, _, rfl, ⟨hsz, rfl⟩, _, _, rfl, rfl, _, rfl, ?_⟩
    rw [tv_len]
    have hFl : Fs.length ≤ 9 ^ 7 := by have := cv.pot; omega
    have hfz : fs.length < sizeLine := by
      have hFz := Paired.length pF
      have h97 : 9 ^ 7 < 16777216 := by decide
      rw [sizeLine_eq]
      omega
    by_cases hlen : s.length ≤ (tR L ps R).length
    · have hr0 := (rm_len hrr).mp hlen
      subst hr0
      have e1 : decide ((s.length : Int) ≤ ((tR L ps R).length : Int)) = true := decide_eq_true (by omega)
      refine ite2 (fun _ => ?_) (fun c => absurd e1 c)
      refine ⟨_, rfl, .inl ⟨rfl, _, SqL.of hf3⟩, _, rfl, _, _, _, rfl, rfl, hf3, hfz, ?_⟩
      have tu2 := tups_lst (o := .lst (fs ++ [V.ref r])) hf3
      have cv2 := cv.found hrr
      have hp9 : 0 < 9 ^ (7 - R.length) := Nat.pow_pos (by decide)
      refine ⟨pot Ws', by rw [pot_app, pot_one]; omega, sch sH3 hf0, _, _, _, _, _, _, _, _, _, rfl, upd_same, (upd_ne nfw.symm).trans hw3, paired_app (paired_mono pF3 fun _ _ h => TupR.mono tu2 h) (.cons ⟨r, rfl, tu2 _ _ hr3⟩ .nil), paired_mono pW3 fun _ _ h => ItmR.mono tu2 h, cv2, rfl⟩
    · have hrn : rr ≠ [] := fun e => hlen ((rm_len hrr).mpr e)
      have e1 : decide ((s.length : Int) ≤ ((tR L ps R).length : Int)) = false := decide_eq_false (by omega)
      refine ite2 (fun c => absurd c (by rw [e1]; decide)) (fun _ => ?_)
      refine ⟨_, rfl, _, _, rfl, .inr ⟨_, SqT.of hr3, rfl⟩, _, _, rfl, rfl, _, rfl, ?_⟩
      refine last_sel rfl hr3 ?_
      have hk := m.ok.can_key hC
      obtain ⟨t5, xs5, hv5, h5, c5⟩ := rows_get (hR.mono sH3) hk
      have hn := nget_of (P := P) (w := w) (l := lastO R) (sH3 _ _ hrd)
      rw [hv5] at hn
      have h5l := Paired.length c5
      have h8 := m.lw _ hk
      refine ⟨_, rfl, a, CM, dx, _, _, rfl, sH3 _ _ h1, TM.cl, TM.ro, mf_ro, _, rfl, rd, _, rfl, hn, t5, rfl, ⟨_, SqT.of h5⟩, for_tup (xs := xs5) (fun i σ H' => Same H H' ∧ Tups H3 H' ∧ ∃ (ws2 : List V) (Ws2 : List (List Nat)) (v7 v8 : Option V), σ = [some (.ref a), some (tv s), some (.ref f), some (.ref wk), some (.ref r), some (iv (tR L ps R).length), some (oV (lastO R)), v7, v8] ∧ H' f = some (.lst fs) ∧ H' wk = some (.lst ws2) ∧ Paired (TupR H') fs Fs ∧ Paired (ItmR L ps H') ws2 Ws2 ∧ CvK M L ps s Fs Ws' R rr i Ws2)
        ⟨sH3, fun _ _ h => h, ws', Ws', _, _, rfl, hf3, hw3, pF3, pW3, CvK.start cv⟩ (fun i σ H' _ q => SqT.of (q.2.1 _ _ h5)) ?_ ?_⟩
      · rintro i x σ H4 hxi ⟨s4', tt, ws2, Ws2, v7', v8', rfl, hf4, hw4, pF4, pW4, ck⟩
        obtain ⟨⟨o, vv⟩, hch, ⟨t6, rfl, ht6⟩, hsn⟩ := paired_take c5 hxi
        have hcm := List.mem_of_getElem? hch
        refine ⟨t6, _, rfl, SqT.of (tt _ _ ht6), rfl, _, _, rfl, _, _, rfl, rfl, ?_⟩
        rcases o with _ | p
        · exact ⟨_, rfl, rfl, false, rfl, iteF (iteF ⟨s4', tt, ws2, Ws2, _, _, rfl, hf4, hw4, pF4, pW4, ck.skip hsn rfl⟩)⟩
        · have hpk := (m.ok.key _ hk p vv hcm).1
          have hp := m.key hpk
          obtain ⟨dj, pj, mj, xj, hob, _⟩ := ((J.mono s4').choose_spec.choose_spec.choose_spec).ob
          refine ⟨_, rfl, rfl, true, rfl, iteT ⟨_, rfl, a, CM, dx, _, _, rfl, s4' _ _ h1, TM.cl, TM.jo, mf_jo, j, dj, _, rfl, hob, jf_txo, _, rfl, j, L, ps, p, rfl, J.mono s4', hp, by omega, ?_⟩⟩
          refine ⟨_, rfl, _, rfl, _, rfl, _, rfl, hsz, ?_⟩
          rw [cut_from, ← hdrop]
          refine ⟨_, rr, rfl, ?_⟩
          rw [← m.txt p hp, fits_iff True.intro]
          cases hfit : (rm (M.txt p) rr).isSome with
          | false => exact ⟨false, rfl, iteF ⟨s4', tt, ws2, Ws2, _, _, rfl, hf4, hw4, pF4, pW4, ck.skip hsn (by unfold kid; dsimp only; rw [hfit]; rfl)⟩⟩
          | true =>
            have ck2 := ck.push m hsn hC hcm hrr hfit
            have hr4 := tt _ _ hr3
            have hRl := m.ok.can_le hC
            rw [m.n] at hRl
            have hw2l : ws2.length < sizeLine := by
              have h97 : 9 ^ 7 < 16777216 := by decide
              have e1 := Paired.length pW4
              have e2 := pot_len Ws2
              have e3 := ck.pt
              have e4 := pw_lt R
              have e5 := cv.pot
              rw [pot_app, pot_one] at e5
              have e6 : i * pw R ≤ 8 * pw R := Nat.mul_le_mul_right _ (by have := (List.getElem?_eq_some_iff.mp hxi).1; omega)
              rw [sizeLine_eq]
              omega
            refine ⟨true, rfl, iteT ⟨_, rfl, .inl ⟨rfl, _, SqL.of hw4⟩, _, rfl, _, rfl, small_line (by show 1 ≤ 1000; omega), fun p1 np1 => catA_by (upd_keep hr4 np1) upd_same (by simp) (small_line (by simp; omega)) fun H5 z s5 hz => ?_⟩⟩
            have sA : Same H4 H5 := (snew np1).trans s5
            have s6 := s4'.trans sA
            obtain ⟨dj2, pj2, mj2, xj2, hob2, _⟩ := ((J.mono s6).choose_spec.choose_spec.choose_spec).ob
            refine ⟨_, rfl, _, rfl, a, CM, dx, _, _, rfl, s6 _ _ h1, TM.cl, TM.jo, mf_jo, j, dj2, _, rfl, hob2, jf_txo, _, rfl, j, L, ps, p, rfl, J.mono s6, hp, by omega, ?_⟩
            have htl : (⟨(cod L (ltr L.length ps p)).toArray⟩ : Str).length ≤ sizeLine := by rw [tv_len, cod_len]; exact small_line (by have := m.jl.t5 p hp; omega)
            refine ⟨_, _, rfl, ⟨htl, rfl⟩, _, _, rfl, rfl, small_line (by show 2 ≤ 1000; omega), fun t7 nt7 => ?_⟩
            rw [tv_len]
            have hz' : H5 z = some (.tup (ivs (R ++ [p]))) := by rw [hz]; simp [ivs, oV]
            have htR : ((tR L ps R).length : Int) + ((cod L (ltr L.length ps p)).length : Int) = ((tR L ps (R ++ [p])).length : Int) := by rw [tR_snoc, List.length_append]; omega
            dsimp only
            rw [htR]
            have sB : Same H4 (upd H5 t7 (.tup [.ref z, iv (tR L ps (R ++ [p])).length])) := snw sA nt7
            have hwB := sB _ _ hw4
            have tB := tups_lst (o := .lst (ws2 ++ [V.ref t7])) hwB
            have tC : Tups H4 (upd (upd H5 t7 (.tup [.ref z, iv (tR L ps (R ++ [p])).length])) wk (.lst (ws2 ++ [V.ref t7]))) := fun a xs h => tB _ _ (sB _ _ h)
            refine ⟨_, _, _, rfl, rfl, hwB, hw2l, sch (s4'.trans sB) hwk0, fun a xs h => tC _ _ (tt _ _ h), _, _, _, _, rfl, (upd_ne nfw).trans (sB _ _ hf4), upd_same, paired_mono pF4 fun _ _ h => TupR.mono tC h, paired_app (paired_mono pW4 fun _ _ h => ItmR.mono tC h) (.cons ⟨t7, z, rfl, tB _ _ upd_same, tB _ _ (upd_keep hz' nt7)⟩ .nil), ck2⟩
      · rintro σ H4 ⟨s4', tt, ws2, Ws2, v7', v8', rfl, hf4, hw4, pF4, pW4, ck⟩
        rw [h5l] at ck
        obtain ⟨cv3, hlt3⟩ := ck.done m cv hrr hrn
        exact ⟨pot Ws2, hlt3, s4', _, _, _, _, _, _, _, _, _, rfl, hf4, hw4, pF4, pW4, cv3, rfl⟩
theorem ok_covers (T : Bi K mg) (TM : TMx K CM) (TJ : TJx K CJ) (C1 : Has P w K mg base "letters_of" 2 ["joins", "text"] (sp_letters_of CJ)) (C2 : Has P w K mg base "fits_text" 1 ["piece_text", "rest"] sp_fits_text) (C3 : HasM P w K mg base CJ "text_of" 4 ["self", "piece"] (sp_text_of CJ)) (D : Df K mg "covers" st_covers) :
    Has P w K mg base "covers" 5 ["model", "text"] (sp_covers P w CM CJ) :=
  D.ok sc_covers bd_covers (fun vs H Q E ⟨_, _, _, _, _, e, _⟩ => by rw [e]; rfl) (body_covers T TM TJ C1 C2 C3)
end
end Rj
set_option Elab.async false
set_option linter.all false
set_option maxRecDepth 100000
set_option maxHeartbeats 2000000
namespace Rj
open PySem PySem.Spec PyProof.Rows L2
section
variable {P : Program} {w : World} {K : PySem.W.Frag} {mg : Str → Option Value} {base : Heap} {CJ CM CS : Addr}
def sp_begins (P : Program) (w : World) (CM CJ CS : Addr) : Sp := fun vs H Q _ => ∃ (a : Addr) (L : List Nat) (ps : List (Nat × Nat)) (M : Mdl) (u : List Nat) (N U : Nat), vs = [.ref a, tv (cod L u)] ∧ MO P w H CM CJ a L ps M ∧ Mw L ps M ∧ (∀ i ∈ u, i < L.length) ∧ u.length ≤ 100 ∧ M.V 8 M.T none (cod L u) = (N : Int) ∧ M.T = (U : Int) ∧
  ∀ H' r, Same H H' → Sh H' CS r N U → Q (.ref r) H'
abbrev st_begins : Stmt := top 29
theorem sc_begins : FnScope ["model", "text", "chance", "row"] ["model", "text"] (defScope st_begins) := ⟨rfl, rfl, rfl, by decide +kernel, rfl, by decide +kernel, by decide +kernel⟩
theorem bd_begins : Bnd "begins" "begins" st_begins ["model", "text"] := fun _ _ _ _ _ _ us hl => match us, hl with | [_, _], _ => rfl
-- 0:model 1:text 2:chance 3:row
theorem body_begins (T : Bi K mg) (TM : TMx K CM) (C_Share : HasI P w K mg base CS "Share" 2 ["self", "over", "under"] (sp_Share CS)) (C_covers : Has P w K mg base "covers" 5 ["model", "text"] (sp_covers P w CM CJ)) (C_chance_of_begin : HasM P w K mg base CM "chance_of_begin" 6 ["self", "row"] (sp_cob P w CM CJ CS)) (OA : Own P w K mg base CS .Add 4 (sp_add CS)) : Body P w K mg base "begins" st_begins 6 ["model", "text", "chance", "row"] (sp_begins P w CM CJ CS) := by
  have nd := sc_begins.nd
  intro f cdv A outer s H vs Q E hr h
  obtain ⟨a, L, ps, M, u, N, U, rfl, MO1, m, hu, hul, hN, hU, k⟩ := h
  refine ⟨_, (pss_cons (ps_set (i := 2) nd rfl (by first | exact .inl rfl | exact .inr rfl) (c_mk C_Share hr (by rfl) (pa_cons pe_int (pa_cons pe_int pa_nil))))
    (pss_cons (ps_for PassesOwn.never rfl (pi_tup (c_fn C_covers hr (by rfl) (pa_cons (pv 0) (pa_cons (pv 1) pa_nil)))) (pg_name (i := 3) nd rfl (by first | exact .inl rfl | exact .inr rfl))
      (pss_one (ps_set (i := 2) nd rfl (by first | exact .inl rfl | exact .inr rfl) (pe_op (c_own OA hr) (pv 2) (c_me (pv 0) TM.cl C_chance_of_begin hr (pa_cons (pv 3) pa_nil))))))
    (pss_one (ps_ret (pv 2))))), ?_⟩

  obtain ⟨dx, j, rd, kvs, h1, J, hrd, hR⟩ := id MO1
  have hTp := m.ok.Tpos
  have hTB := m.TB
  have hU0 : 0 < U := by omega
  have hUB : U < 2 ^ 400 := by rw [hU] at hTB; omega
  have h9 : (2 : Nat) ^ 400 < 2 ^ 900 := by decide
  have hVT := (m.ok.V_le 8 M.T none (cod L u) (by omega) m.ok.none_).2
  refine fun x dx2 nx ndx ne => ⟨x, dx2, 0, 1, rfl, upd_same, by decide, by decide, fun H2 b1 hs => ⟨rfl, ?_⟩⟩
  have s2 := But1.same ndx nx ne b1
  refine ⟨_, rfl, _, rfl, a, L, ps, M, u, rfl, MO1.mono s2, m, hu, hul, fun H3 q xs Rs s3' hq pR hCs hsum => ?_⟩
  have s3 := s2.trans s3'
  have hlen := Paired.length pR
  refine ⟨q, rfl, ⟨_, SqT.of hq⟩, for_tup (xs := xs) (fun i σ H' => Same H3 H' ∧ ∃ (r : Addr) (n : Nat) (v3 : Option V), σ = [some (.ref a), some (tv (cod L u)), some (.ref r), v3] ∧ sumf M.pts (Rs.take i) = (n : Int) ∧ Sh H' CS r n U) ⟨Same.refl _, x, 0, _, rfl, by rw [List.take_zero, sumf_nil]; rfl, (hs.mono s3').move (by decide) (by omega)⟩ (fun i σ H' _ q1 => SqT.of (q1.1 _ _ hq)) ?_ ?_⟩
  · rintro i v σ H4 hv ⟨s4, r, n, v3, rfl, hn, hs4⟩
    obtain ⟨R, hRi, ⟨t, rfl, ht⟩, hsn⟩ := paired_take pR hv
    have hC := hCs R (List.mem_of_getElem? hRi)
    obtain ⟨n2, hn2⟩ := m.ok.nat hC
    have sH := s3.trans s4
    obtain ⟨ds, sn, sd, hso, _⟩ := id hs4
    have hnU : n + n2 ≤ U := by
      have e1 : sumf M.pts (Rs.take (i + 1)) ≤ sumf M.pts Rs := by
        conv => rhs; rw [← List.take_append_drop (i + 1) Rs]
        rw [sumf_app]
        have := sumf_nonneg (f := M.pts) (l := Rs.drop (i + 1)) fun x hx => (m.ok.pts_le (hCs x (List.mem_of_mem_drop hx))).1
        omega
      rw [hsn, sumf_app, sumf_cons, sumf_nil] at e1
      omega
    refine ⟨_, rfl, _, rfl, a, dx, _, rfl, sH _ _ h1, mf_cb, _, rfl, a, t, L, ps, M, R, n2, U, rfl, MO1.mono sH, m, s4 _ _ ht, hC, hn2, hU, fun H5 r2 s5 hs5 => ?_⟩
    obtain ⟨ds2, sn2, sd2, hso2, _⟩ := id hs5
    refine ⟨r, ds, _, r2, ds2, _, rfl, rfl, s5 _ _ hso, hso2, r, r2, n, n2, U, rfl, hs4.mono s5, hs5, hU0, by omega, by omega, by omega, fun H6 r3 s6 hs6 => ⟨⟨r3, rfl⟩, s4.trans (s5.trans s6), r3, n + n2, _, rfl, ?_, hs6⟩⟩
    rw [hsn, sumf_app, sumf_cons, sumf_nil, hn, hn2]
    omega
  · rintro σ H4 ⟨s4, r, n, v3, rfl, hn, hs4⟩
    rw [hlen, List.take_length, hsum, hN] at hn
    have : N = n := by omega
    subst this
    exact ⟨_, rfl, k _ _ (s3.trans s4) hs4⟩
theorem ok_begins (T : Bi K mg) (TM : TMx K CM) (C1 : HasI P w K mg base CS "Share" 2 ["self", "over", "under"] (sp_Share CS)) (C2 : Has P w K mg base "covers" 5 ["model", "text"] (sp_covers P w CM CJ)) (C3 : HasM P w K mg base CM "chance_of_begin" 6 ["self", "row"] (sp_cob P w CM CJ CS)) (OA : Own P w K mg base CS .Add 4 (sp_add CS)) (D : Df K mg "begins" st_begins) :
    Has P w K mg base "begins" 7 ["model", "text"] (sp_begins P w CM CJ CS) :=
  D.ok sc_begins bd_begins (fun vs H Q E ⟨_, _, _, _, _, _, _, e, _⟩ => by rw [e]; rfl) (body_begins T TM C1 C2 C3 OA)
end
end Rj
set_option Elab.async false
set_option linter.all false
set_option maxRecDepth 100000
set_option maxHeartbeats 2000000
namespace Rj
open PySem PySem.Spec PyProof.Rows L2
/-! ### the tape -/
def tk (c : Addr) (a g l s t : Int) : List (Key × V) := [(.inr "cells", .ref c), (.inr "at", .int a), (.inr "great", .int g), (.inr "left", .int l), (.inr "seed", .int s), (.inr "turn", .int t)]
section
variable {c : Addr} {a g l s t v : Int}
theorem tk_c : valV (tk c a g l s t) (.inr "cells") = some (.ref c) := by kernel_rfl
theorem tk_a : valV (tk c a g l s t) (.inr "at") = some (.int a) := by kernel_rfl
theorem tk_g : valV (tk c a g l s t) (.inr "great") = some (.int g) := by kernel_rfl
theorem tk_l : valV (tk c a g l s t) (.inr "left") = some (.int l) := by kernel_rfl
theorem tk_s : valV (tk c a g l s t) (.inr "seed") = some (.int s) := by kernel_rfl
theorem tk_t : valV (tk c a g l s t) (.inr "turn") = some (.int t) := by kernel_rfl
theorem tp_a : putK (tk c a g l s t) (.inr "at") (.int v) = tk c v g l s t := by kernel_rfl
theorem tp_g : putK (tk c a g l s t) (.inr "great") (.int v) = tk c a v l s t := by kernel_rfl
theorem tp_l : putK (tk c a g l s t) (.inr "left") (.int v) = tk c a g v s t := by kernel_rfl
theorem tp_s : putK (tk c a g l s t) (.inr "seed") (.int v) = tk c a g l v t := by kernel_rfl
theorem tp_t : putK (tk c a g l s t) (.inr "turn") (.int v) = tk c a g l s v := by kernel_rfl
end
section
variable {H : Hp} {d c : Addr} {a g l s t v : Int} (h : H d = some (.dK (tk c a g l s t)))
include h
theorem dg_c : DGet H d (.str "cells") (some (.ref c)) := tk_c ▸ DGet.k (k := .inr "cells") h
theorem dg_a : DGet H d (.str "at") (some (.int a)) := tk_a (c := c) (g := g) (l := l) (s := s) (t := t) ▸ DGet.k (k := .inr "at") h
theorem dg_g : DGet H d (.str "great") (some (.int g)) := tk_g (c := c) (a := a) (l := l) (s := s) (t := t) ▸ DGet.k (k := .inr "great") h
theorem dg_l : DGet H d (.str "left") (some (.int l)) := tk_l (c := c) (g := g) (a := a) (s := s) (t := t) ▸ DGet.k (k := .inr "left") h
theorem dg_s : DGet H d (.str "seed") (some (.int s)) := tk_s (c := c) (g := g) (l := l) (a := a) (t := t) ▸ DGet.k (k := .inr "seed") h
theorem dg_t : DGet H d (.str "turn") (some (.int t)) := tk_t (c := c) (g := g) (l := l) (s := s) (a := a) ▸ DGet.k (k := .inr "turn") h
theorem dp_a : DPut H d (.str "at") (.int v) (upd H d (.dK (tk c v g l s t))) := tp_a ▸ DPut.k (k := .inr "at") h (small1000 (by show 6 ≤ 1000; decide))
theorem dp_g : DPut H d (.str "great") (.int v) (upd H d (.dK (tk c a v l s t))) := tp_g ▸ DPut.k (k := .inr "great") h (small1000 (by show 6 ≤ 1000; decide))
theorem dp_l : DPut H d (.str "left") (.int v) (upd H d (.dK (tk c a g v s t))) := tp_l ▸ DPut.k (k := .inr "left") h (small1000 (by show 6 ≤ 1000; decide))
theorem dp_s : DPut H d (.str "seed") (.int v) (upd H d (.dK (tk c a g l v t))) := tp_s ▸ DPut.k (k := .inr "seed") h (small1000 (by show 6 ≤ 1000; decide))
theorem dp_t : DPut H d (.str "turn") (.int v) (upd H d (.dK (tk c a g l s v))) := tp_t ▸ DPut.k (k := .inr "turn") h (small1000 (by show 6 ≤ 1000; decide))
end
/-- all but d is as it was -/
def Ex (d : Addr) (H H' : Hp) : Prop := ∀ x, x ≠ d → H' x = H x
theorem Ex.refl {d : Addr} {H : Hp} : Ex d H H := fun _ _ => rfl
theorem Ex.trans {d : Addr} {H H1 H2 : Hp} (s : Ex d H H1) (t : Ex d H1 H2) : Ex d H H2 := fun x h => (t x h).trans (s x h)
theorem Ex.up {d : Addr} {H H1 : Hp} {o : HO} (s : Ex d H H1) : Ex d H (upd H1 d o) := fun x h => (upd_ne h).trans (s x h)
/-- a tape at d -/
def Tp (c : Addr) (H : Hp) (d : Addr) : Prop := ∃ (ns : List Int) (a : Nat) (g l s t : Int), H d = some (.dK (tk c a g l s t)) ∧ H c = some (.lst (ns.map V.int))
section
variable {P : Program} {w : World} {K : PySem.W.Frag} {mg : Str → Option Value} {base : Heap}
def sp_mixed : Sp := fun vs H Q _ => ∃ a b : Int, vs = [.int a, .int b] ∧ ∀ z : Int, 0 ≤ z → Q (.int z) H
abbrev st_law_mixed : Stmt := top 40
theorem sc_law_mixed : FnScope ["_law_number", "_law_turn", "_law_first", "_law_second"] ["_law_number", "_law_turn"] (defScope st_law_mixed) := ⟨rfl, rfl, rfl, by decide +kernel, rfl, by decide +kernel, by decide +kernel⟩
theorem bd_law_mixed : Bnd "_law_mixed" "_law_mixed" st_law_mixed ["_law_number", "_law_turn"] := fun _ _ _ _ _ _ us hl => match us, hl with | [_, _], _ => rfl
-- 0:_law_number 1:_law_turn 2:_law_first 3:_law_second
theorem body_law_mixed (T : Bi K mg) : Body P w K mg base "_law_mixed" st_law_mixed 0 ["_law_number", "_law_turn", "_law_first", "_law_second"] sp_mixed := by
  have nd := sc_law_mixed.nd
  intro f cdv A outer s H vs Q E hr h
  obtain ⟨a, b, rfl, k⟩ := h
  refine ⟨_, (pss_cons (ps_set (i := 2) nd rfl (by first | exact .inl rfl | exact .inr rfl) (pe_op op_mod (pe_callTy call_int1 (by rfl) T.int (by decide +kernel) (pa_cons (pe_op op_add (pe_op op_add (pe_op op_mul (pv 0) pe_int) (pe_op op_mul (pv 1) pe_int)) pe_int) pa_nil)) pe_int))
    (pss_cons (ps_set (i := 3) nd rfl (by first | exact .inl rfl | exact .inr rfl) (pe_op op_mod (pe_callTy call_int1 (by rfl) T.int (by decide +kernel) (pa_cons (pe_op op_add (pe_op op_add (pe_op op_mul (pv 2) pe_int) (pe_op op_fdiv (pv 2) pe_int)) (pe_op op_mul (pv 1) pe_int)) pa_nil)) pe_int))
    (pss_one (ps_ret (pe_op op_mod (pe_callTy call_int1 (by rfl) T.int (by decide +kernel) (pa_cons (pe_op op_add (pe_op op_mul (pv 3) (pv 3)) (pe_op op_fdiv (pv 2) pe_int)) pa_nil)) pe_int))))), ?_⟩

  refine ⟨_, rfl, _, _, rfl, rfl, .inr (by constructor <;> decide), _, rfl, _, _, rfl, rfl, .inr (by constructor <;> decide), _, _, rfl, rfl, _, _, rfl, rfl, .inl ⟨_, rfl, _, _, rfl, rfl, (by decide : (0 : Int) < 2147483647), ?_⟩⟩
  refine ⟨_, rfl, _, _, rfl, rfl, .inr (by constructor <;> decide), _, rfl, _, _, rfl, rfl, ⟨by decide, by decide⟩, _, _, rfl, rfl, _, rfl, _, _, rfl, rfl, .inr (by constructor <;> decide), _, _, rfl, rfl, .inl ⟨_, rfl, _, _, rfl, rfl, (by decide : (0 : Int) < 1000003), ?_⟩⟩
  have m1 := Int.emod_nonneg ((a * 48271 + b * 69621 + 11) % 2147483647 * 16807 + (a * 48271 + b * 69621 + 11) % 2147483647 / 127773 + b * 271) (by decide : (1000003 : Int) ≠ 0)
  have m2 := Int.emod_lt_of_pos ((a * 48271 + b * 69621 + 11) % 2147483647 * 16807 + (a * 48271 + b * 69621 + 11) % 2147483647 / 127773 + b * 271) (by decide : (0 : Int) < 1000003)
  refine ⟨_, rfl, _, rfl, _, _, rfl, rfl, .inl ⟨?_, ?_⟩, _, rfl, _, _, rfl, rfl, ⟨by decide, by decide⟩, _, _, rfl, rfl, .inl ⟨_, rfl, _, _, rfl, rfl, (by decide : (0 : Int) < 999983), k _ (Int.emod_nonneg _ (by decide))⟩⟩
  · omega
  · omega
theorem ok_mixed (T : Bi K mg) (D : Df K mg "_law_mixed" st_law_mixed) : Has P w K mg base "_law_mixed" 1 ["_law_number", "_law_turn"] sp_mixed :=
  D.ok sc_law_mixed bd_law_mixed (fun vs H Q E ⟨_, _, e, _⟩ => by rw [e]; rfl) (body_law_mixed T)
theorem sql_same {K : PySem.W.Frag} {H H' : Hp} {a : Addr} {xs : List V} (e : Same H H') (h : SqL K H a xs) : SqL K H' a xs := by
  rcases h with (h | ⟨o, h⟩) | h
  · exact .inl (.inl (e _ _ h))
  · exact .inl (.inr ⟨o, e _ _ h⟩)
  · exact .inr h
def sp_tape (K : PySem.W.Frag) : Sp := fun vs H Q _ => ∃ (x : Addr) (ns : List Int), vs = [.ref x] ∧ SqL K H x (ns.map V.int) ∧ ∀ H' d c, Same H H' → H d = none → Tp c H' d → Q (.ref d) H'
abbrev st_law_tape : Stmt := top 41
theorem sc_law_tape : FnScope ["_law_script"] ["_law_script"] (defScope st_law_tape) := ⟨rfl, rfl, rfl, by decide +kernel, rfl, by decide +kernel, by decide +kernel⟩
theorem bd_law_tape : Bnd "_law_tape" "_law_tape" st_law_tape ["_law_script"] := fun _ _ _ _ _ _ us hl => match us, hl with | [_], _ => rfl
-- 0:_law_script
theorem body_law_tape (T : Bi K mg) : Body P w K mg base "_law_tape" st_law_tape 0 ["_law_script"] (sp_tape K) := by
  have nd := sc_law_tape.nd
  intro f cdv A outer s H vs Q E hr h
  obtain ⟨x, ns, rfl, hx, k⟩ := h
  refine ⟨_, (pss_one (ps_ret (pe_disp (pps_cons pe_str (pe_callTy call_list_of (by rfl) T.list (by decide +kernel) (pa_cons (pv 0) pa_nil)) (pps_cons pe_str pe_int (pps_cons pe_str pe_int (pps_cons pe_str pe_int (pps_cons pe_str pe_int (pps_cons pe_str pe_int pps_nil)))))) (by rfl) (by rfl) (fun z => by cases z) (by decide)))), ?_⟩

  refine fun p np => ⟨_, rfl, x, _, rfl, .inl (sql_same (snew np) hx), fun c nc => ⟨upd_keep upd_same nc, tk c 0 0 0 7 0, rfl, by show 6 ≤ 15; decide, ?_⟩⟩
  have e : mergeK [] (tk c 0 0 0 7 0) = tk c 0 0 0 7 0 := by kernel_rfl
  rw [e]
  have s1 := snw (snew np (o := .dK [])) nc (o := .lst (ns.map V.int))
  have hc : c ≠ p := (ne_of_none (upd_same : (upd H p (.dK [])) p = _) nc).symm
  exact k _ p c (sch s1 np) np ⟨ns, 0, 0, 0, 7, 0, upd_same, (upd_ne hc).trans upd_same⟩
theorem ok_tape (T : Bi K mg) (D : Df K mg "_law_tape" st_law_tape) : Has P w K mg base "_law_tape" 1 ["_law_script"] (sp_tape K) :=
  D.ok sc_law_tape bd_law_tape (fun vs H Q E ⟨_, _, e, _⟩ => by rw [e]; rfl) (body_law_tape T)
theorem eq0 {i : Int} : decide (V.int i = V.int 0) = decide (i = 0) := by
  rw [Bool.eq_iff_iff]; simp
def sp_draw : Sp := fun vs H Q _ => ∃ (d : Addr) (many : Int), vs = [.ref d, .int many] ∧ ∃ tc, Tp tc H d ∧ 0 < many ∧ ∀ H' (i : Nat), (i : Int) < many → Ex d H H' → Tp tc H' d → Q (iv i) H'
theorem mod_iv {z many : Int} (hm : 0 < many) : ∃ i : Nat, (i : Int) < many ∧ V.int (z % many) = iv i := by
  have h1 := Int.emod_nonneg z (show many ≠ 0 by omega)
  have h2 := Int.emod_lt_of_pos z hm
  exact ⟨(z % many).toNat, by omega, by show V.int _ = V.int _; congr 1; omega⟩
abbrev st_law_draw : Stmt := top 42
theorem sc_law_draw : FnScope ["_law_tape_here", "_law_many", "_law_cell", "_law_digit"] ["_law_tape_here", "_law_many"] (defScope st_law_draw) := ⟨rfl, rfl, rfl, by decide +kernel, rfl, by decide +kernel, by decide +kernel⟩
theorem bd_law_draw : Bnd "_law_draw" "_law_draw" st_law_draw ["_law_tape_here", "_law_many"] := fun _ _ _ _ _ _ us hl => match us, hl with | [_, _], _ => rfl
-- 0:_law_tape_here 1:_law_many 2:_law_cell 3:_law_digit
theorem body_law_draw (T : Bi K mg) (C_law_mixed : Has P w K mg base "_law_mixed" 1 ["_law_number", "_law_turn"] sp_mixed) : Body P w K mg base "_law_draw" st_law_draw 1 ["_law_tape_here", "_law_many", "_law_cell", "_law_digit"] sp_draw := by
  have nd := sc_law_draw.nd
  intro f cdv A outer s H vs Q E hr h
  obtain ⟨d, many, rfl, c, ⟨ns, a, g, l, s', t, hd, hc⟩, hm, k⟩ := h
  refine ⟨_, (pss_cons (ps_dput (hu_of hr) (pv 0) pe_str (pe_op op_add (pe_dget (hu_of hr) (pv 0) pe_str (fun _ _ => rfl)) pe_int) rfl)
    (C8.pss_cut (ps_if (PW.pt (pw_and (pt_cmpR op_eq (pe_dget (hu_of hr) (pv 0) pe_str (fun _ _ => rfl)) pe_int (nomark _)) (pw_and1 (pt_cmpR op_lt (pe_dget (hu_of hr) (pv 0) pe_str (fun _ _ => rfl)) (pe_callB call_len (by rfl) T.len (by decide +kernel) (pa_cons (pe_dget (hu_of hr) (pv 0) pe_str (fun _ _ => rfl)) pa_nil)) (nomark _)))))
      (pss_cons (ps_set (i := 2) nd rfl (by first | exact .inl rfl | exact .inr rfl) (pe_ix ix_list (pe_dget (hu_of hr) (pv 0) pe_str (fun _ _ => rfl)) (pe_dget (hu_of hr) (pv 0) pe_str (fun _ _ => rfl)) (fun _ _ => rfl)))
      (pss_cons (ps_dput (hu_of hr) (pv 0) pe_str (pe_op op_add (pe_dget (hu_of hr) (pv 0) pe_str (fun _ _ => rfl)) pe_int) rfl)
      (pss_cons (ps_dput (hu_of hr) (pv 0) pe_str (c_fn C_law_mixed hr (by rfl) (pa_cons (pe_op op_add (pe_dget (hu_of hr) (pv 0) pe_str (fun _ _ => rfl)) (pv 2)) (pa_cons (pe_dget (hu_of hr) (pv 0) pe_str (fun _ _ => rfl)) pa_nil))) rfl)
      (pss_cons (ps_dput (hu_of hr) (pv 0) pe_str pe_int rfl)
      (pss_one (ps_if (pt_cmpR op_ge (pv 2) (pe_op op_pow pe_int pe_int) (nomark _))
        (pss_cons (ps_dput (hu_of hr) (pv 0) pe_str (pv 2) rfl)
        (pss_one (ps_dput (hu_of hr) (pv 0) pe_str pe_int rfl)))
        pss_nil))))))
      pss_nil)
    (C8.pss_cut (ps_if (pt_cmpR op_gt (pe_dget (hu_of hr) (pv 0) pe_str (fun _ _ => rfl)) pe_int (nomark _))
      (pss_one (ps_dput (hu_of hr) (pv 0) pe_str (pe_op op_sub (pe_dget (hu_of hr) (pv 0) pe_str (fun _ _ => rfl)) pe_int) rfl))
      pss_nil)
    (pss_cons (ps_if (pt_cmpR op_eq (pe_dget (hu_of hr) (pv 0) pe_str (fun _ _ => rfl)) pe_int (nomark _))
      (pss_one (ps_ret (pe_op op_mod (pe_callTy call_int1 (by rfl) T.int (by decide +kernel) (pa_cons (c_fn C_law_mixed hr (by rfl) (pa_cons (pe_dget (hu_of hr) (pv 0) pe_str (fun _ _ => rfl)) (pa_cons (pe_dget (hu_of hr) (pv 0) pe_str (fun _ _ => rfl)) pa_nil))) pa_nil)) (pv 1))))
      pss_nil)
    (pss_cons (ps_set (i := 3) nd rfl (by first | exact .inl rfl | exact .inr rfl) (pe_op op_mod (pe_callTy call_int1 (by rfl) T.int (by decide +kernel) (pa_cons (pe_dget (hu_of hr) (pv 0) pe_str (fun _ _ => rfl)) pa_nil)) pe_int))
    (pss_cons (ps_dput (hu_of hr) (pv 0) pe_str (pe_op op_fdiv (pe_dget (hu_of hr) (pv 0) pe_str (fun _ _ => rfl)) pe_int) rfl)
    (pss_cons (ps_if (PW.pt (pw_or (pt_cmpR op_eq (pe_dget (hu_of hr) (pv 0) pe_str (fun _ _ => rfl)) pe_int (nomark _)) (pw_or1 (pt_cmpR op_eq (pe_dget (hu_of hr) (pv 0) pe_str (fun _ _ => rfl)) pe_int (nomark _)))))
      (pss_cons (ps_dput (hu_of hr) (pv 0) pe_str pe_int rfl)
      (pss_one (ps_dput (hu_of hr) (pv 0) pe_str pe_int rfl)))
      pss_nil)
    (pss_one (ps_ret (pe_op op_mod (pe_callTy call_int1 (by rfl) T.int (by decide +kernel) (pa_cons (pv 3) pa_nil)) (pv 1))))))))))), ?_⟩

  have ncd : c ≠ d := unq hc hd (by intro e; cases e)
  refine ⟨_, rfl, d, _, rfl, dg_t hd, _, _, rfl, rfl, _, rfl, d, _, rfl, dp_t hd, ?_⟩
  refine ⟨fun σ H' => Ex d H H' ∧ ∃ (v2 : Option V) (a : Nat) (g l s t : Int), σ = [some (.ref d), some (.int many), v2, none] ∧ H' d = some (.dK (tk c a g l s t)), ?_, ?_⟩
  · have hd1 : (upd H d (.dK (tk c a g l s' (t + 1)))) d = some (.dK (tk c a g l s' (t + 1))) := upd_same
    have e1 : Ex d H (upd H d (.dK (tk c a g l s' (t + 1)))) := Ex.refl.up
    refine ⟨_, rfl, d, _, rfl, dg_l hd1, rfl, _, rfl, ?_⟩
    refine ite2 (fun _ => ?_) (fun _ => iteF ⟨e1, _, a, g, l, s', _, rfl, hd1⟩)
    refine ⟨_, rfl, d, _, rfl, dg_a hd1, _, rfl, d, _, rfl, dg_c hd1, _, _, rfl, .inl ⟨_, SqL.of ((e1 c ncd).trans hc), rfl⟩, _, _, rfl, rfl, _, rfl, ?_⟩
    refine ite2 (fun c2 => ?_) (fun _ => ⟨e1, _, a, g, l, s', _, rfl, hd1⟩)
    have hlt : a < (ns.map V.int).length := by have := of_decide_eq_true c2; omega
    obtain ⟨z, hz⟩ : ∃ z, (ns.map V.int)[a]? = some (.int z) := by
      rw [List.length_map] at hlt
      exact ⟨ns[a], by simp [hlt]⟩
    refine ⟨_, rfl, d, _, rfl, dg_c hd1, _, rfl, d, _, rfl, dg_a hd1, c, _, _, _, rfl, rfl, SqL.of ((e1 c ncd).trans hc), at_g rfl hz, ?_⟩
    refine ⟨_, rfl, d, _, rfl, dg_a hd1, _, _, rfl, rfl, _, rfl, d, _, rfl, dp_a hd1, ?_⟩
    have hd2 : (upd (upd H d (.dK (tk c a g l s' (t + 1)))) d (.dK (tk c ((a : Int) + 1) g l s' (t + 1)))) d = some (.dK (tk c ((a : Int) + 1) g l s' (t + 1))) := upd_same
    have e2 : Ex d H (upd (upd H d (.dK (tk c a g l s' (t + 1)))) d (.dK (tk c ((a : Int) + 1) g l s' (t + 1)))) := e1.up
    generalize upd (upd H d _) d _ = H2 at *
    refine ⟨_, rfl, d, _, rfl, dg_s hd2, _, rfl, _, _, rfl, rfl, _, rfl, d, _, rfl, dg_a hd2, _, _, rfl, fun z2 _ => ?_⟩
    refine ⟨_, rfl, d, _, rfl, dp_s hd2, ?_⟩
    have hd3 : (upd H2 d (.dK (tk c ((a : Int) + 1) g l z2 (t + 1)))) d = some (.dK (tk c ((a : Int) + 1) g l z2 (t + 1))) := upd_same
    have e3 : Ex d H (upd H2 d (.dK (tk c ((a : Int) + 1) g l z2 (t + 1)))) := e2.up
    generalize upd H2 d _ = H3 at *
    refine ⟨_, rfl, d, _, rfl, dp_l hd3, ?_⟩
    have hd4 : (upd H3 d (.dK (tk c ((a : Int) + 1) g 4 z2 (t + 1)))) d = some (.dK (tk c ((a : Int) + 1) g 4 z2 (t + 1))) := upd_same
    have e4 : Ex d H (upd H3 d (.dK (tk c ((a : Int) + 1) g 4 z2 (t + 1)))) := e3.up
    generalize upd H3 d _ = H4 at *
    refine ⟨_, rfl, _, _, rfl, rfl, ⟨by decide, by decide, by decide⟩, _, _, rfl, rfl, _, rfl, ?_⟩
    refine ite2 (fun _ => ?_) (fun _ => ⟨e4, _, a + 1, g, _, _, _, rfl, hd4⟩)
    refine ⟨_, rfl, _, rfl, d, _, rfl, dp_g hd4, ?_⟩
    have hd5 : (upd H4 d (.dK (tk c ((a : Int) + 1) z 4 z2 (t + 1)))) d = some (.dK (tk c ((a : Int) + 1) z 4 z2 (t + 1))) := upd_same
    have e5 : Ex d H (upd H4 d (.dK (tk c ((a : Int) + 1) z 4 z2 (t + 1)))) := e4.up
    generalize upd H4 d _ = H5 at *
    exact ⟨_, rfl, d, _, rfl, dp_l hd5, e5.up, _, a + 1, _, _, _, _, rfl, upd_same⟩
  · rintro σ H1 ⟨e1, v2, a, g, l, s2, t, rfl, hd1⟩
    refine ⟨fun σ H' => Ex d H H' ∧ ∃ (a : Nat) (g l s t : Int), σ = [some (.ref d), some (.int many), v2, none] ∧ H' d = some (.dK (tk c a g l s t)), ?_, ?_⟩
    · refine ⟨_, rfl, d, _, rfl, dg_l hd1, _, _, rfl, rfl, _, rfl, ?_⟩
      refine ite2 (fun _ => ?_) (fun _ => ⟨e1, a, g, l, s2, t, rfl, hd1⟩)
      exact ⟨_, rfl, d, _, rfl, dg_l hd1, _, _, rfl, rfl, _, rfl, d, _, rfl, dp_l hd1, e1.up, a, _, _, _, _, rfl, upd_same⟩
    · rintro σ H2 ⟨e2, a, g, l, s3, t, rfl, hd2⟩
      have tp : ∀ {H' : Hp} {a : Nat} {g l s t : Int}, Ex d H H' → H' d = some (.dK (tk c a g l s t)) → Tp c H' d := fun {H' a g l s t} e h => ⟨ns, a, g, l, s, t, h, (e c ncd).trans hc⟩
      refine ⟨_, rfl, d, _, rfl, dg_g hd2, rfl, _, rfl, ?_⟩
      refine ite2 (fun _ => ?_) (fun _ => ?_)
      · refine ⟨_, rfl, d, _, rfl, dg_s hd2, _, rfl, d, _, rfl, dg_t hd2, _, _, rfl, fun z _ => .inl ⟨_, rfl, _, rfl, _, _, rfl, rfl, hm, ?_⟩⟩
        obtain ⟨i, hi, e⟩ := mod_iv (z := z) hm
        show Q (V.int (z % many)) H2
        rw [e]
        exact k _ i hi e2 (tp e2 hd2)
      · refine ⟨_, rfl, d, _, rfl, dg_g hd2, .inl ⟨_, rfl, _, _, rfl, rfl, (by decide : (0 : Int) < 1009), ?_⟩⟩
        refine ⟨_, rfl, d, _, rfl, dg_g hd2, _, _, rfl, rfl, ⟨by decide, by decide⟩, _, rfl, d, _, rfl, dp_g hd2, ?_⟩
        have hd3 : (upd H2 d (.dK (tk c a (g / 1009) l s3 t))) d = some (.dK (tk c a (g / 1009) l s3 t)) := upd_same
        have e3 : Ex d H (upd H2 d (.dK (tk c a (g / 1009) l s3 t))) := e2.up
        generalize upd H2 d _ = H3 at *
        have fin : ∀ H', Ex d H H' → Tp c H' d → Q (V.int (g % 1009 % many)) H' := fun H' e tp' => by
          obtain ⟨i, hi, ei⟩ := mod_iv (z := g % 1009) hm
          rw [ei]
          exact k _ i hi e tp'
        have both : ∀ {H4 : Hp}, Ex d H H4 → H4 d = some (.dK (tk c a 0 0 s3 t)) → Q (V.int (g % 1009 % many)) H4 := fun e h => fin _ e (tp e h)
        refine ⟨_, rfl, d, _, rfl, dg_g hd3, rfl, _, rfl, ?_⟩
        refine ite2 (fun _ => iteT ?_) (fun _ => ?_)
        · refine ⟨_, rfl, d, _, rfl, dp_g hd3, ?_⟩
          have hd4 : (upd H3 d (.dK (tk c a 0 l s3 t))) d = some (.dK (tk c a 0 l s3 t)) := upd_same
          exact ⟨_, rfl, d, _, rfl, dp_l hd4, _, rfl, .inl ⟨_, rfl, _, rfl, _, _, rfl, rfl, hm, both (e3.up).up upd_same⟩⟩
        · refine ⟨_, rfl, d, _, rfl, dg_l hd3, rfl, _, rfl, ?_⟩
          refine ite2 (fun _ => ?_) (fun _ => ?_)
          · refine ⟨_, rfl, d, _, rfl, dp_g hd3, ?_⟩
            have hd4 : (upd H3 d (.dK (tk c a 0 l s3 t))) d = some (.dK (tk c a 0 l s3 t)) := upd_same
            exact ⟨_, rfl, d, _, rfl, dp_l hd4, _, rfl, .inl ⟨_, rfl, _, rfl, _, _, rfl, rfl, hm, both (e3.up).up upd_same⟩⟩
          · exact ⟨_, rfl, .inl ⟨_, rfl, _, rfl, _, _, rfl, rfl, hm, fin _ e3 (tp e3 hd3)⟩⟩
theorem ok_draw (T : Bi K mg) (C1 : Has P w K mg base "_law_mixed" 1 ["_law_number", "_law_turn"] sp_mixed) (D : Df K mg "_law_draw" st_law_draw) : Has P w K mg base "_law_draw" 2 ["_law_tape_here", "_law_many"] sp_draw :=
  D.ok sc_law_draw bd_law_draw (fun vs H Q E ⟨_, _, e, _⟩ => by rw [e]; rfl) (body_law_draw T C1)
end
end Rj
set_option Elab.async false
set_option linter.all false
set_option maxRecDepth 100000
set_option maxHeartbeats 2000000
namespace Rj
open PySem PySem.Spec PyProof.Rows L2
theorem Ex.but {d : Addr} {H H' : Hp} (s : Ex d H H') : But1 d H H' := fun x o h e => (s x h).trans e
theorem but_same {d : Addr} {H H' : Hp} (s : Same H H') : But1 d H H' := fun x o _ e => s x o e
theorem Tp.same {c d : Addr} {H H' : Hp} (s : Same H H') (t : Tp c H d) : Tp c H' d := by
  obtain ⟨ns, a, g, l, s1, t, h1, h2⟩ := t
  exact ⟨ns, a, g, l, s1, t, s _ _ h1, s _ _ h2⟩
theorem Tp.own {c d p : Addr} {H : Hp} {o' : HO} (t : Tp c H d) (n1 : p ≠ d) (n2 : p ≠ c) : Tp c (upd H p o') d := by
  obtain ⟨ns, a, g, l, s1, t, h1, h2⟩ := t
  exact ⟨ns, a, g, l, s1, t, (upd_ne n1.symm).trans h1, (upd_ne n2.symm).trans h2⟩
theorem Tp.ne_none {c d p : Addr} {H : Hp} (t : Tp c H d) (n : H p = none) : p ≠ d := by
  obtain ⟨ns, a, g, l, s1, t, h1, h2⟩ := t
  exact (ne_of_none h1 n).symm
theorem Tp.nc_none {c d p : Addr} {H : Hp} (t : Tp c H d) (n : H p = none) : p ≠ c := by
  obtain ⟨ns, a, g, l, s1, t, h1, h2⟩ := t
  exact (ne_of_none h2 n).symm
section
variable {P : Program} {w : World} {K : PySem.W.Frag} {mg : Str → Option Value} {base : Heap}
def Items (H : Hp) (x : V) (vals : List V) : Prop := (∃ l, x = .ref l ∧ H l = some (.lst vals)) ∨ ∃ L : List Nat, x = tv L ∧ L.length ≤ 1000 ∧ vals = L.map fun c => tv [c]
def sp_pick : Sp := fun vs H Q _ => ∃ (d : Addr) (x : V) (vals : List V), vs = [.ref d, x] ∧ ∃ tc, Tp tc H d ∧ Items H x vals ∧ vals ≠ [] ∧ ∀ H' v, v ∈ vals → Ex d H H' → Tp tc H' d → Q v H'
abbrev st_law_pick : Stmt := top 43
theorem sc_law_pick : FnScope ["_law_tape_here", "_law_row"] ["_law_tape_here", "_law_row"] (defScope st_law_pick) := ⟨rfl, rfl, rfl, by decide +kernel, rfl, by decide +kernel, by decide +kernel⟩
theorem bd_law_pick : Bnd "_law_pick" "_law_pick" st_law_pick ["_law_tape_here", "_law_row"] := fun _ _ _ _ _ _ us hl => match us, hl with | [_, _], _ => rfl
-- 0:_law_tape_here 1:_law_row
theorem body_law_pick (T : Bi K mg) (C_law_draw : Has P w K mg base "_law_draw" 2 ["_law_tape_here", "_law_many"] sp_draw) : Body P w K mg base "_law_pick" st_law_pick 2 ["_law_tape_here", "_law_row"] sp_pick := by
  have nd := sc_law_pick.nd
  intro f cdv A outer s H vs Q E hr h
  obtain ⟨d, x, vals, rfl, tc, tp, hx, hne, k⟩ := h
  refine ⟨_, (pss_one (ps_ret (pe_ix ix_seq (pv 1) (c_fn C_law_draw hr (by rfl) (pa_cons (pv 0) (pa_cons (pe_callB call_len (by rfl) T.len (by decide +kernel) (pa_cons (pv 1) pa_nil)) pa_nil))) (fun _ _ => rfl)))), ?_⟩

  have hl := List.length_pos_iff.mpr hne
  rcases hx with ⟨l, rfl, hl2⟩ | ⟨L, rfl, h1000, rfl⟩
  · have hld : l ≠ d := by
      obtain ⟨ns, a, g, l', s1, t, h1, h2⟩ := tp
      exact unq hl2 h1 (by intro e; cases e)
    refine ⟨_, rfl, _, rfl, _, rfl, _, _, rfl, .inl ⟨_, SqL.of hl2, rfl⟩, d, _, rfl, _, tp, by omega, fun H' i hi ex tp' => .inl ⟨l, vals, i, vals[i], rfl, rfl, SqL.of ((ex l hld).trans hl2), at_g rfl (List.getElem?_eq_getElem (by omega)), k _ _ (List.getElem_mem _) ex tp'⟩⟩
  · have hz : (⟨L.toArray⟩ : Str).length ≤ sizeLine := by rw [tv_len]; exact small_line h1000
    rw [List.length_map] at hl
    refine ⟨_, rfl, _, rfl, _, rfl, _, _, rfl, ⟨hz, rfl⟩, d, _, rfl, _, tp, by rw [tv_len]; omega, fun H' i hi ex tp' => .inr (.inr ?_)⟩
    rw [tv_len] at hi
    have hi' : i < L.length := by omega
    exact ⟨_, i, L[i], rfl, rfl, hz, at_g rfl (by simp [hi']), k _ _ (List.mem_map.mpr ⟨L[i], List.getElem_mem _, rfl⟩) ex tp'⟩
theorem ok_pick (T : Bi K mg) (C1 : Has P w K mg base "_law_draw" 2 ["_law_tape_here", "_law_many"] sp_draw) (D : Df K mg "_law_pick" st_law_pick) : Has P w K mg base "_law_pick" 3 ["_law_tape_here", "_law_row"] sp_pick :=
  D.ok sc_law_pick bd_law_pick (fun vs H Q E ⟨_, _, _, e, _⟩ => by rw [e]; rfl) (body_law_pick T C1)
def SG : List Nat := ((List.range 95).map (· + 32)).filter (· != 37)
def sp_signs : Sp := fun vs H Q _ => vs = [] ∧ Q (tv SG) H
abbrev st_law_signs : Stmt := top 44
theorem sc_law_signs : FnScope ["_law_signs_here"] [] (defScope st_law_signs) := ⟨rfl, rfl, rfl, by decide +kernel, rfl, by decide +kernel, by decide +kernel⟩
theorem bd_law_signs : Bnd "_law_signs" "_law_signs" st_law_signs [] := fun _ _ _ _ _ _ us hl => match us, hl with | [], _ => rfl
-- 0:_law_signs_here
theorem body_law_signs  : Body P w K mg base "_law_signs" st_law_signs 0 ["_law_signs_here"] sp_signs := by
  have nd := sc_law_signs.nd
  intro f cdv A outer s H vs Q E hr h
  obtain ⟨rfl, k⟩ := h
  refine ⟨_, (pss_cons (ps_set (i := 0) nd rfl (by first | exact .inl rfl | exact .inr rfl) pe_str)
    (pss_one (ps_ret (pe_op op_add_str (pv 0) pe_str)))), ?_⟩

  refine ⟨_, rfl, _, _, rfl, rfl, by decide +kernel, ?_⟩
  have e : ((" !\"#$&'()*+,-./0123456789:;<=>?@ABCDEFGHIJKLMNOPQRSTUVWXYZ[\\]^_`" : Str) ++ ("abcdefghijklmnopqrstuvwxyz{|}~" : Str)) = ⟨SG.toArray⟩ := by decide +kernel
  show Q (V.str (_ ++ _)) H
  rw [e]
  exact k
theorem ok_signs (D : Df K mg "_law_signs" st_law_signs) : Has P w K mg base "_law_signs" 1 [] sp_signs :=
  D.ok sc_law_signs bd_law_signs (fun vs H Q E ⟨e, _⟩ => by rw [e]; rfl) body_law_signs
theorem SG_len : SG.length = 94 := by decide +kernel
theorem SG_asc : SG.Pairwise (· < ·) := by decide +kernel
theorem SG_ok : ∀ c ∈ SG, 32 ≤ c ∧ c ≤ 126 := by decide +kernel
def sgn (y : Int) : Nat := SG.getD y.toNat 0
theorem sgn_at {y : Int} (h : 0 ≤ y ∧ y < 94) : SG[y.toNat]? = some (sgn y) := by
  have hl : y.toNat < SG.length := by rw [SG_len]; omega
  simp [sgn, List.getElem?_eq_getElem hl, hl]
theorem sgn_lt {x y : Int} (hx : 0 ≤ x) (h : x < y) (hy : y < 94) : sgn x < sgn y := by
  have h1 : x.toNat < SG.length := by rw [SG_len]; omega
  have h2 : y.toNat < SG.length := by rw [SG_len]; omega
  have := List.pairwise_iff_getElem.mp SG_asc x.toNat y.toNat h1 h2 (by omega)
  simpa [sgn, List.getElem?_eq_getElem h1, List.getElem?_eq_getElem h2] using this
theorem alph_of {ks : List Int} (ne : ks ≠ []) (l3 : ks.length ≤ 3) (hr : ∀ y ∈ ks, 0 ≤ y ∧ y < 94) (nd : ks.Nodup) (as : ks.Pairwise (· ≤ ·)) : Alph (ks.map sgn) ∧ (ks.map sgn).length ≤ 3 := by
  refine ⟨⟨fun e => ne (List.map_eq_nil_iff.mp e), by rw [List.length_map]; omega, fun c hc => ?_, ?_⟩, by rw [List.length_map]; exact l3⟩
  · obtain ⟨y, hy, rfl⟩ := List.mem_map.mp hc
    exact SG_ok _ (List.mem_of_getElem? (sgn_at (hr y hy)))
  · rw [List.pairwise_map]
    rw [List.nodup_iff_pairwise_ne] at nd
    rw [List.pairwise_iff_getElem] at as nd ⊢
    intro i j hi hj hij
    have h1 := as i j hi hj hij
    have h2 := nd i j hi hj hij
    have r1 := hr _ (List.getElem_mem hi)
    have r2 := hr _ (List.getElem_mem hj)
    exact sgn_lt r1.1 (by omega) r2.2
theorem putK_keys {κ : Type} [DecidableEq κ] (kvs : List (κ × V)) (k : κ) (v : V) : ((putK kvs k v).map (·.1) = kvs.map (·.1) ∧ k ∈ kvs.map (·.1)) ∨ ((putK kvs k v).map (·.1) = kvs.map (·.1) ++ [k] ∧ k ∉ kvs.map (·.1)) := by
  unfold putK
  by_cases e : (kvs.any fun kv => decide (kv.1 = k)) = true
  · rw [if_pos e]
    left
    constructor
    · rw [List.map_map]
      refine List.map_congr_left fun kv _ => ?_
      show (if kv.1 = k then _ else _ : κ × V).1 = kv.1
      split
      · first | rfl | (rename_i h; exact h.symm)
      · rfl
    · obtain ⟨kv, h1, h2⟩ := List.any_eq_true.mp e
      exact List.mem_map.mpr ⟨kv, h1, of_decide_eq_true h2⟩
  · rw [if_neg e]
    right
    refine ⟨by simp, fun hm => e ?_⟩
    obtain ⟨kv, h1, h2⟩ := List.mem_map.mp hm
    exact List.any_eq_true.mpr ⟨kv, h1, decide_eq_true h2⟩
theorem flat_one {α β : Type} (f : α → β) : ∀ ys : List α, (ys.map fun y => [f y]).flatten = ys.map f
  | [] => rfl
  | y :: ys => congrArg (f y :: ·) (flat_one f ys)
def sp_letters : Sp := fun vs H Q _ => ∃ (d : Addr) (many : Nat), vs = [.ref d, iv many] ∧ ∃ tc, Tp tc H d ∧ 1 ≤ many ∧ many ≤ 3 ∧ ∀ H' L, But1 d H H' → Tp tc H' d → Alph L → L.length ≤ 3 → Q (tv L) H'
abbrev st_law_letters : Stmt := top 45
theorem sc_law_letters : FnScope ["_law_tape_here", "_law_many", "_law_chosen", "_law_first", "_law_k", "_law_place"] ["_law_tape_here", "_law_many"] (defScope st_law_letters) := ⟨rfl, rfl, rfl, by decide +kernel, rfl, by decide +kernel, by decide +kernel⟩
theorem bd_law_letters : Bnd "_law_letters" "_law_letters" st_law_letters ["_law_tape_here", "_law_many"] := fun _ _ _ _ _ _ us hl => match us, hl with | [_, _], _ => rfl
-- 0:_law_tape_here 1:_law_many 2:_law_chosen 3:_law_first 4:_law_k 5:_law_place
theorem body_law_letters (T : Bi K mg) (C_law_draw : Has P w K mg base "_law_draw" 2 ["_law_tape_here", "_law_many"] sp_draw) (C_law_pick : Has P w K mg base "_law_pick" 3 ["_law_tape_here", "_law_row"] sp_pick) (C_law_signs : Has P w K mg base "_law_signs" 1 [] sp_signs) : Body P w K mg base "_law_letters" st_law_letters 3 ["_law_tape_here", "_law_many", "_law_chosen", "_law_first", "_law_k", "_law_place"] sp_letters := by
  have nd := sc_law_letters.nd
  intro f cdv A outer s H vs Q E hr h
  obtain ⟨d, many, rfl, tc, tp, h1, h3, k⟩ := h
  refine ⟨_, (pss_cons (ps_set (i := 2) nd rfl (by first | exact .inl rfl | exact .inr rfl) pe_dnewK)
    (pss_cons (ps_set (i := 3) nd rfl (by first | exact .inl rfl | exact .inr rfl) (c_fn C_law_draw hr (by rfl) (pa_cons (pv 0) (pa_cons pe_int pa_nil))))
    (pss_cons (ps_for PassesOwn.never rfl (pi_range1 (by rfl) T.range (pa_cons (pv 1) pa_nil)) (pg_name (i := 4) nd rfl (by first | exact .inl rfl | exact .inr rfl))
      (pss_one (ps_dput (hu_of hr) (pv 2) (c_fn C_law_pick hr (by rfl) (pa_cons (pv 0) (pa_cons (pe_lst (pa_cons (pe_op op_mod (pe_callTy call_int1 (by rfl) T.int (by decide +kernel) (pa_cons (pe_op op_add (pv 3) (pv 4)) pa_nil)) pe_int) (pa_cons (c_fn C_law_draw hr (by rfl) (pa_cons (pv 0) (pa_cons pe_int pa_nil))) pa_nil))) pa_nil))) pe_bl rfl)))
    (pss_one (ps_ret (pe_join pe_str (pe_lc (own := [("_law_place", 5)]) rfl nd (pi_list (pe_callB (call_sortedDI rfl) (by rfl) T.sorted (by decide +kernel) (pa_cons (pv 2) pa_nil))) (blkOk_by (N := ["_law_tape_here", "_law_many", "_law_chosen", "_law_first", "_law_k", "_law_place"]) (sc := defScope (top 45)) (by decide +kernel)) (fun _ _ _ _ _ => (pg_name (i := 5) nd rfl (by first | exact .inl rfl | exact .inr rfl))) (fun _ _ _ _ _ => pts_nil) (fun _ _ _ _ _ => (pe_ix ix_str (c_fn0 C_law_signs hr (by rfl)) (pv 5) (fun _ _ => rfl)))))))))), ?_⟩

  refine fun D nD => ?_
  refine ⟨_, rfl, d, _, rfl, _, tp.same (snew nD), by decide, fun H1 f0 hf0 ex1 tp1 => ?_⟩
  have hDd : D ≠ d := tp.ne_none nD
  have b1 : But1 d H H1 := (but_same (snew nD)).trans ex1.but
  have hD1 : H1 D = some (.dK []) := (ex1 D hDd).trans upd_same
  refine ⟨_, rfl, _, rfl, ⟨by omega, by omega, for_range (lo := 0) (fun i σ H' => But1 d H H' ∧ Tp tc H' d ∧ ∃ (kvs : List (Key × V)) (ks : List Int) (v4 v5 : Option V), σ = [some (.ref d), some (iv many), some (.ref D), some (iv f0), v4, v5] ∧ H' D = some (.dK kvs) ∧ kvs.map (·.1) = ks.map Sum.inl ∧ ks.Nodup ∧ (∀ y ∈ ks, 0 ≤ y ∧ y < 94) ∧ ks.length ≤ i ∧ (0 < i → ks ≠ []))
    ⟨b1, tp1, [], [], _, _, rfl, hD1, rfl, .nil, fun _ h => (by cases h), by simp, fun h => absurd h (by decide)⟩ ?_ ?_⟩⟩
  · rintro i σ H2 hi ⟨b2, tp2, kvs, ks, v4, v5, rfl, hD2, hks, hnd, hrg, hkl, hne⟩
    have hkvl : kvs.length = ks.length := by have := congrArg List.length hks; simpa using this
    refine ⟨_, rfl, _, rfl, _, rfl, _, rfl, _, _, rfl, rfl, .inl ⟨_, rfl, _, _, rfl, rfl, (by decide : (0 : Int) < 94), _, rfl, d, _, rfl, _, tp2, by decide, fun H3 z hz ex3 tp3 => ⟨small_line (by show 2 ≤ 1000; omega), fun l nl => ?_⟩⟩⟩
    refine ⟨d, .ref l, _, rfl, _, tp3.same (snew nl), .inl ⟨l, rfl, upd_same⟩, by simp, fun H4 v hv ex4 tp4 => ?_⟩
    obtain ⟨y, hy, rfl⟩ : ∃ y : Int, (0 ≤ y ∧ y < 94) ∧ v = .int y := by
      have m1 := Int.emod_nonneg ((f0 : Int) + (0 + (i : Int))) (by decide : (94 : Int) ≠ 0)
      have m2 := Int.emod_lt_of_pos ((f0 : Int) + (0 + (i : Int))) (by decide : (0 : Int) < 94)
      rcases List.mem_cons.mp hv with h | h
      · exact ⟨_, ⟨m1, m2⟩, h⟩
      · exact ⟨z, by omega, List.mem_singleton.mp h⟩
    have hD3 : H3 D = some (.dK kvs) := (ex3 D hDd).trans hD2
    have hD4 : H4 D = some (.dK kvs) := (ex4 D hDd).trans (upd_keep hD3 nl)
    have b4 : But1 d H H4 := b2.trans (ex3.but.trans ((but_same (snew nl)).trans ex4.but))
    refine ⟨D, _, rfl, DPut.k (k := .inl y) hD4 (small1000 (by omega)), fun x o hx hxo => ?_, ?_, ?_⟩
    · have hxD : x ≠ D := ne_of_none hxo nD
      exact (upd_ne hxD).trans (b4 x o hx hxo)
    · exact tp4.own hDd (tp.nc_none nD)
    · rcases putK_keys kvs (.inl y) (V.bl true) with ⟨e1, e2⟩ | ⟨e1, e2⟩
      · refine ⟨_, ks, _, _, rfl, upd_same, by rw [e1, hks], hnd, hrg, by omega, fun _ e => ?_⟩
        rw [hks, e] at e2
        cases e2
      · refine ⟨_, ks ++ [y], _, _, rfl, upd_same, by rw [e1, hks]; simp, ?_, ?_, by simp; omega, fun _ => by simp⟩
        · rw [hks] at e2
          rw [List.nodup_append]
          refine ⟨hnd, by simp, fun a ha b hb => ?_⟩
          cases List.mem_singleton.mp hb
          rintro rfl
          exact e2 (List.mem_map.mpr ⟨a, ha, rfl⟩)
        · intro q hq
          rcases List.mem_append.mp hq with h | h
          · exact hrg q h
          · cases List.mem_singleton.mp h
            exact hy
  · rintro σ H2 ⟨b2, tp2, kvs, ks, v4, v5, rfl, hD2, hks, hnd, hrg, hkl, hne⟩
    have hkl' : ks.length ≤ many := by omega
    have hne' : ks ≠ [] := hne (by omega)
    refine ⟨⟨_, rfl⟩, _, rfl, D, kvs, ks, rfl, .inl hD2, hks, by omega, fun ys p hpm has np => ?_⟩
    have b3 := b2.new np (o := .lst (ys.map V.int))
    have tp3 := tp2.same (snew np (o := .lst (ys.map V.int)))
    have hp3 : (upd H2 p (.lst (ys.map V.int))) p = some (.lst (ys.map V.int)) := upd_same
    generalize upd H2 p (.lst (ys.map V.int)) = H3 at *
    have hrg2 : ∀ y ∈ ys, 0 ≤ y ∧ y < 94 := fun y hy => hrg y (hpm.mem_iff.mp hy)
    have hyl : ys.length ≤ 3 := by have := hpm.length_eq; omega
    obtain ⟨al, al3⟩ := alph_of (ks := ys) (fun e => hne' (List.length_eq_zero_iff.mp (by rw [← hpm.length_eq, e]; rfl))) hyl hrg2 (hpm.nodup_iff.mpr hnd) has
    refine ⟨p, rfl, ⟨_, SqL.of hp3⟩, fun E nE => lc_it (walk_list (xs := ys.map V.int)) (fun i H' => Same H3 H' ∧ H' E = some (.lst ((ys.take i).map fun y => tv [sgn y]))) ⟨snew nE, by rw [upd_same]; rfl⟩ (fun i H' _ q => SqL.of (q.1 _ _ hp3)) ?_ ?_⟩
    · rintro i x H4 H4' hi ⟨s4, hE⟩ ⟨rfl, hx⟩
      rw [List.getElem?_map] at hx
      obtain ⟨y, hy, rfl⟩ : ∃ y, ys[i]? = some y ∧ x = V.int y := by
        cases hy : ys[i]? with
        | none => rw [hy] at hx; cases hx
        | some y => rw [hy] at hx; cases hx; exact ⟨y, rfl, rfl⟩
      have hyr := hrg2 y (List.mem_of_getElem? hy)
      have hsz : (⟨SG.toArray⟩ : Str).length ≤ sizeLine := by rw [tv_len, SG_len]; exact small_line (by decide)
      refine ⟨rfl, rfl, _, rfl, _, y, sgn y, rfl, rfl, hsz, at_g (j := y.toNat) (by omega) (by simpa using sgn_at hyr), _, hE, ?_, sch s4 nE, ?_⟩
      · rw [List.length_map, List.length_take]; exact small1000 (by omega)
      · rw [upd_same, take_snoc hy, List.map_append]; rfl
    · rintro H4 ⟨s4, hE⟩
      rw [List.length_map, List.take_length] at hE
      refine ⟨_, E, (ys.map fun y => [sgn y]).map fun u => (⟨u.toArray⟩ : Str), rfl, rfl, .inl (SqL.of (by rw [hE, List.map_map, List.map_map]; rfl)), ?_, ?_⟩
      · have hb0 : ("" : Str).length = 0 := by decide +kernel
        rw [hb0, List.map_map, List.map_map]
        have := sum_le (f := ((fun x : Str => x.length) ∘ fun u : List Nat => (⟨u.toArray⟩ : Str)) ∘ fun y : Int => [sgn y]) (c := 1) (l := ys) fun y _ => Nat.le_refl 1
        omega
      · rw [join_nil]
        rw [flat_one]
        exact k H4 _ (b3.trans (but_same s4)) (tp3.same s4) al al3
theorem ok_letters (T : Bi K mg) (C1 : Has P w K mg base "_law_draw" 2 ["_law_tape_here", "_law_many"] sp_draw) (C2 : Has P w K mg base "_law_pick" 3 ["_law_tape_here", "_law_row"] sp_pick) (C3 : Has P w K mg base "_law_signs" 1 [] sp_signs) (D : Df K mg "_law_letters" st_law_letters) : Has P w K mg base "_law_letters" 4 ["_law_tape_here", "_law_many"] sp_letters :=
  D.ok sc_law_letters bd_law_letters (fun vs H Q E ⟨_, _, e, _⟩ => by rw [e]; rfl) (body_law_letters T C1 C2 C3)
end
end Rj
set_option Elab.async false
set_option linter.all false
set_option maxRecDepth 100000
set_option maxHeartbeats 2000000
namespace Rj
open PySem PySem.Spec PyProof.Rows L2
section
open PySem.StrLaws PySem.Builtin PySem.Builtin.Str
theorem occ_all (s sub : Str) (hi : Nat) {Pj : Nat → Prop} (hp : ∀ i, i + sub.length ≤ hi → subAt s sub i = true → Pj i) : ∀ (l : List Nat) (st : Array Nat × Nat), (∀ j ∈ st.fst.toList, Pj j) → ∀ j ∈ (forIn l st (occBody s sub hi 1)).run.fst.toList, Pj j
  | [], st, h => h
  | a :: l, st, h => by
    rw [List.forIn_cons]
    unfold occBody
    split
    · rename_i c
      refine occ_all s sub hi hp l _ fun j hj => ?_
      simp only [Array.toList_push] at hj
      rcases List.mem_append.mp hj with h1 | h1
      · exact h j h1
      · cases List.mem_singleton.mp h1
        exact hp _ c.1.2 c.2
    · exact occ_all s sub hi hp l _ h
theorem occ_at {L : List Nat} {i c : Nat} (hn : L.Nodup) (h : L[i]? = some c) : ∃ rest, occurrences (⟨L.toArray⟩ : Str) ⟨#[c]⟩ 0 (⟨L.toArray⟩ : Str).length 1 = i :: rest := by
  have hf := found_one (⟨L.toArray⟩ : Str) c
  have hm : c ∈ L := List.mem_of_getElem? h
  rw [decide_eq_true (by simpa using hm)] at hf
  have ha : ∀ j ∈ occurrences (⟨L.toArray⟩ : Str) ⟨#[c]⟩ 0 (⟨L.toArray⟩ : Str).length 1, j = i := by
    rw [occ_eq]
    refine occ_all _ _ _ (Pj := fun j => j = i) (fun j h1 h2 => ?_) _ _ (fun j hj => by cases hj)
    have := (subAt_one (⟨L.toArray⟩ : Str) c j).mp ⟨h1, h2⟩
    have hj : L[j]? = some c := by simpa using this
    obtain ⟨l1, e1⟩ := List.getElem?_eq_some_iff.mp hj
    obtain ⟨l2, e2⟩ := List.getElem?_eq_some_iff.mp h
    rw [List.nodup_iff_pairwise_ne, List.pairwise_iff_getElem] at hn
    rcases Nat.lt_trichotomy j i with q | q | q
    · exact absurd (e1.trans e2.symm) (hn j i l1 l2 q)
    · exact q
    · exact absurd (e2.trans e1.symm) (hn i j l2 l1 q)
  cases e : occurrences (⟨L.toArray⟩ : Str) ⟨#[c]⟩ 0 (⟨L.toArray⟩ : Str).length 1 with
  | nil => rw [e] at hf; cases hf
  | cons a r =>
    rw [e] at ha
    have := ha a (List.mem_cons_self ..)
    subst this
    exact ⟨r, rfl⟩
end
theorem cutV_take (xs : List V) (n : Nat) : cutV xs none (some (n : Int)) = xs.take n := by
  unfold cutV
  rw [HT.sIx_none, HT.sIx_nat, Nat.sub_zero, List.drop_zero]
  rcases Nat.le_total n xs.length with h | h
  · rw [Nat.min_eq_left h]
  · rw [Nat.min_eq_right h, List.take_length, List.take_of_length_le h]
theorem cutV_drop (xs : List V) (n : Nat) : cutV xs (some (n : Int)) none = xs.drop n := by
  unfold cutV
  rw [HT.sIx_none, HT.sIx_nat]
  rcases Nat.le_total n xs.length with h | h
  · rw [Nat.min_eq_left h]
    exact List.take_of_length_le (by simp)
  · rw [Nat.min_eq_right h, List.drop_length, List.drop_of_length_le h, List.take_nil]
/-! ### the law's joins -/
def ljk (L : List Nat) (pl rk tl : Addr) : List (Key × V) := [(.inr "letters", tv L), (.inr "pairs", .ref pl), (.inr "ranks", .ref rk), (.inr "texts", .ref tl)]
section
variable {L : List Nat} {pl rk tl : Addr}
theorem lj_l : valV (ljk L pl rk tl) (.inr "letters") = some (tv L) := by kernel_rfl
theorem lj_p : valV (ljk L pl rk tl) (.inr "pairs") = some (.ref pl) := by kernel_rfl
theorem lj_r : valV (ljk L pl rk tl) (.inr "ranks") = some (.ref rk) := by kernel_rfl
theorem lj_t : valV (ljk L pl rk tl) (.inr "texts") = some (.ref tl) := by kernel_rfl
variable {H : Hp} {d : Addr} (h : H d = some (.dK (ljk L pl rk tl)))
include h
theorem lg_l : DGet H d (.str "letters") (some (tv L)) := lj_l (pl := pl) (rk := rk) (tl := tl) ▸ DGet.k (k := .inr "letters") h
theorem lg_p : DGet H d (.str "pairs") (some (.ref pl)) := lj_p (L := L) (rk := rk) (tl := tl) ▸ DGet.k (k := .inr "pairs") h
theorem lg_r : DGet H d (.str "ranks") (some (.ref rk)) := lj_r (pl := pl) (L := L) (tl := tl) ▸ DGet.k (k := .inr "ranks") h
theorem lg_t : DGet H d (.str "texts") (some (.ref tl)) := lj_t (pl := pl) (rk := rk) (L := L) ▸ DGet.k (k := .inr "texts") h
end
structure LJ (H : Hp) (jd : Addr) (L : List Nat) (ps : List (Nat × Nat)) (pl rk tl : Addr) : Prop where
  d : H jd = some (.dK (ljk L pl rk tl))
  p : ∃ xs, H pl = some (.lst xs) ∧ PairsV H xs ps
  r : H rk = some (.dT (rkv ps 0))
  t : H tl = some (.lst (txv L ps))
theorem LJ.mono {H H' : Hp} {jd : Addr} {L : List Nat} {ps : List (Nat × Nat)} {pl rk tl : Addr} (s : Same H H') (h : LJ H jd L ps pl rk tl) : LJ H' jd L ps pl rk tl := by
  obtain ⟨xs, h1, h2⟩ := h.p
  exact ⟨s _ _ h.d, ⟨xs, s _ _ h1, h2.mono s⟩, s _ _ h.r, s _ _ h.t⟩
theorem Alph.nodup {L : List Nat} (A : Alph L) : L.Nodup := A.asc.imp fun h => Nat.ne_of_lt h
/-- best so far: the lowest rank, then the leftmost place -/
def lcB (H : Hp) (ps : List (Nat × Nat)) (R : List Nat) (i : Nat) (v : V) : Prop :=
  (v = .non ∧ ∀ (j : Nat) (x y : Nat), j < i → R[j]? = some x → R[j + 1]? = some y → (x, y) ∉ ps) ∨
  ∃ q k a p, v = .ref q ∧ H q = some (.tup [iv k, iv a]) ∧ ps[k]? = some p ∧ a < i ∧ R[a]? = some p.1 ∧ R[a + 1]? = some p.2 ∧ ∀ (j : Nat) (x y k' : Nat), j < i → R[j]? = some x → R[j + 1]? = some y → ps[k']? = some (x, y) → k ≤ k' ∧ (k' = k → a ≤ j)
theorem lcB.mono {H H' : Hp} {ps : List (Nat × Nat)} {R : List Nat} {i : Nat} {v : V} (s : Same H H') (h : lcB H ps R i v) : lcB H' ps R i v := by
  rcases h with h | ⟨q, k, a, p, e, h, r⟩
  · exact .inl h
  · exact .inr ⟨q, k, a, p, e, s _ _ h, r⟩
section
variable {P : Program} {w : World} {K : PySem.W.Frag} {mg : Str → Option Value} {base : Heap}
def sp_law_cut : Sp := fun vs H Q _ => ∃ (jd : Addr) (L : List Nat) (ps : List (Nat × Nat)) (pl rk tl : Addr) (u : List Nat), vs = [.ref jd, tv (cod L u)] ∧ LJ H jd L ps pl rk tl ∧ Alph L ∧ Wf L.length ps ∧ ps.Nodup ∧ (∀ i ∈ u, i < L.length) ∧ u.length ≤ 100 ∧
  ∀ H' q, Same H H' → H' q = some (.lst (ivs (stg L.length ps u))) → Q (.ref q) H'
abbrev st_law_cut : Stmt := top 46
theorem sc_law_cut : FnScope ["_law_joins_here", "_law_text_here", "_law_row", "_law_sign", "_law_many", "_law_k", "_law_best", "_law_at", "_law_rank"] ["_law_joins_here", "_law_text_here"] (defScope st_law_cut) := ⟨rfl, rfl, rfl, by decide +kernel, rfl, by decide +kernel, by decide +kernel⟩
theorem bd_law_cut : Bnd "_law_cut" "_law_cut" st_law_cut ["_law_joins_here", "_law_text_here"] := fun _ _ _ _ _ _ us hl => match us, hl with | [_, _], _ => rfl
-- 0:_law_joins_here 1:_law_text_here 2:_law_row 3:_law_sign 4:_law_many 5:_law_k 6:_law_best 7:_law_at 8:_law_rank
theorem body_law_cut (T : Bi K mg) : Body P w K mg base "_law_cut" st_law_cut 0 ["_law_joins_here", "_law_text_here", "_law_row", "_law_sign", "_law_many", "_law_k", "_law_best", "_law_at", "_law_rank"] sp_law_cut := by
  have nd := sc_law_cut.nd
  intro f cdv A outer s H vs Q E hr h
  obtain ⟨jd, L, ps, pl, rk, tl, u, rfl, J, A1, hw, hn, hu, hul, k⟩ := h
  refine ⟨_, (pss_cons (ps_setLc (i := 2) (own := [("_law_sign", 3)]) rfl nd rfl rfl (sw_true rfl rfl rfl (by decide +kernel)) (pi_str (pv 1)) (blkOk_by (N := ["_law_joins_here", "_law_text_here", "_law_row", "_law_sign", "_law_many", "_law_k", "_law_best", "_law_at", "_law_rank"]) (sc := defScope (top 46)) (by decide +kernel)) (fun _ _ _ _ _ => (pg_name (i := 3) nd rfl (by first | exact .inl rfl | exact .inr rfl))) (fun _ _ _ _ _ => pts_nil) (fun _ _ _ _ _ => (pe_m1 PySem.F.slot_str_index PySem.F.type_str_index mt_sindex (pe_dget (hu_of hr) (pv 0) pe_str (fun _ _ => rfl)) (pv 3))))
    (pss_cons (ps_set (i := 4) nd rfl (by first | exact .inl rfl | exact .inr rfl) (pe_callB call_len (by rfl) T.len (by decide +kernel) (pa_cons (pe_dget (hu_of hr) (pv 0) pe_str (fun _ _ => rfl)) pa_nil)))
    (pss_cons (ps_for PassesOwn.never rfl (pi_range1 (by rfl) T.range (pa_cons (pe_callB call_len (by rfl) T.len (by decide +kernel) (pa_cons (pv 1) pa_nil)) pa_nil)) (pg_name (i := 5) nd rfl (by first | exact .inl rfl | exact .inr rfl))
      (pss_cons (ps_set (i := 6) nd rfl (by first | exact .inl rfl | exact .inr rfl) pe_non)
      (pss_cons (ps_for PassesOwn.never rfl (pi_range1 (by rfl) T.range (pa_cons (pe_op op_sub (pe_callB call_len (by rfl) T.len (by decide +kernel) (pa_cons (pv 2) pa_nil)) pe_int) pa_nil)) (pg_name (i := 7) nd rfl (by first | exact .inl rfl | exact .inr rfl))
        (pss_cons (ps_set (i := 8) nd rfl (by first | exact .inl rfl | exact .inr rfl) (pe_dget2 (hu_of hr) (pe_dget (hu_of hr) (pv 0) pe_str (fun _ _ => rfl)) (pe_tup (pa_cons (pe_ix ix_list (pv 2) (pv 7) (fun _ _ => rfl)) (pa_cons (pe_ix ix_list (pv 2) (pe_op op_add (pv 7) pe_int) (fun _ _ => rfl)) pa_nil))) pe_non ⟨rfl, rfl, rfl, rfl⟩))
        (pss_one (ps_if (PW.pt (pw_and (pt_cmpR op_notN (pv 8) pe_non (nomark _)) (pw_and1 (PW.pt (pw_or (pt_cmpR op_isN (pv 6) pe_non (nomark _)) (pw_or1 (pt_cmpR op_lt (pv 8) (pe_ix ix_tup (pv 6) pe_int (fun _ _ => rfl)) (nomark _))))))))
          (pss_one (ps_set (i := 6) nd rfl (by first | exact .inl rfl | exact .inr rfl) (pe_tup (pa_cons (pv 8) (pa_cons (pv 7) pa_nil)))))
          pss_nil))))
      (pss_cons (ps_if (pt_cmpR op_isN (pv 6) pe_non (nomark _))
        (pss_one ps_break)
        pss_nil)
      (pss_one (ps_set (i := 2) nd rfl (by first | exact .inl rfl | exact .inr rfl) (pe_op op_cat (pe_op op_cat (pe_slice sl_list (pv 2) po_none (po_some (pe_ix ix_tup (pv 6) pe_int (fun _ _ => rfl)))) (pe_lst (pa_cons (pe_op op_add (pv 4) (pe_ix ix_tup (pv 6) pe_int (fun _ _ => rfl))) pa_nil))) (pe_slice sl_list (pv 2) (po_some (pe_op op_add (pe_ix ix_tup (pv 6) pe_int (fun _ _ => rfl)) pe_int)) po_none))))))))
    (pss_one (ps_ret (pv 2)))))), ?_⟩

  have hcl : (cod L u).length = u.length := cod_len L u
  have hsz : (⟨(cod L u).toArray⟩ : Str).length ≤ sizeLine := by rw [tv_len]; exact small_line (by omega)
  have hLs : (⟨L.toArray⟩ : Str).length ≤ sizeLine := by rw [tv_len]; exact small_line (by have := A1.len; omega)
  refine ⟨_, rfl, _, rfl, fun D nD => lc_it walk_str (fun i H' => Same H H' ∧ H' D = some (.lst (ivs (u.take i)))) ⟨snew nD, by rw [upd_same]; rfl⟩ (fun _ _ _ _ => True.intro) ?_ ?_⟩
  · rintro i x H1 H' hi ⟨s1, hD⟩ ⟨rfl, c, hc, rfl⟩
    obtain ⟨j, hj, hLj⟩ := cod_at hu (by simpa using hc)
    obtain ⟨rest, hocc⟩ := occ_at A1.nodup hLj
    refine ⟨rfl, _, rfl, jd, _, rfl, lg_l (s1 _ _ J.d), ⟨_, rfl⟩, _, rfl, _, _, j, rest, rfl, rfl, hocc, _, hD, ?_, sch s1 nD, ?_⟩
    · rw [List.length_map, List.length_take]; exact small1000 (by omega)
    · rw [upd_same, take_snoc hj]; simp [ivs]
  · rintro H1 ⟨s1, hD⟩
    have hz : (⟨(cod L u).toArray⟩ : Str).cps.size = u.length := by simp [cod]
    rw [hz, List.take_length] at hD
    refine ⟨_, rfl, jd, _, rfl, lg_l (s1 _ _ J.d), _, _, rfl, ⟨hLs, rfl⟩, ?_⟩
    rw [tv_len]
    refine ⟨_, rfl, _, _, rfl, ⟨hsz, rfl⟩, _, rfl, by rw [tv_len]; omega, by rw [tv_len]; omega, ?_⟩
    rw [tv_len, hcl]
    refine for_range (lo := 0) (fun i σ H' => Same H H' ∧ ∃ (r : Addr) (R : List Nat) (v5 v6 v7 v8 : Option V), σ = [some (.ref jd), some (tv (cod L u)), some (.ref r), none, some (iv L.length), v5, v6, v7, v8] ∧ H' r = some (.lst (ivs R)) ∧ R.length + i ≤ u.length ∧ stg L.length ps R = stg L.length ps u)
      ⟨s1, D, u, _, _, _, _, rfl, hD, by omega, rfl⟩ ?_ ?_
    · rintro i σ H2 hi ⟨s2, r, R, v5, v6, v7, v8, rfl, hr, hl, hst⟩
      have hRz : (((ivs R).length : Nat) : Int) - 1 = (R.length : Int) - 1 := by simp [ivs]
      refine ⟨_, rfl, _, _, rfl, .inl ⟨_, SqL.of hr, rfl⟩, _, _, rfl, rfl, _, rfl, by omega, by omega, ?_⟩
      rw [hRz]
      refine for_range (lo := 0) (n := ((R.length : Int) - 1).toNat) (fun j σ H' => Same H2 H' ∧ ∃ (v : V) (v7 v8 : Option V), σ = [some (.ref jd), some (tv (cod L u)), some (.ref r), none, some (iv L.length), some (.int (0 + i)), some v, v7, v8] ∧ lcB H' ps R j v) ⟨Same.refl _, .non, _, _, rfl, .inl ⟨rfl, fun j _ _ hj => by omega⟩⟩ ?_ ?_
      · rintro j σ H3 hj ⟨s3, v, v7, v8, rfl, hb⟩
        have hj1 : j < R.length := by omega
        have hj2 : j + 1 < R.length := by omega
        have sH := s2.trans s3
        have a0 : atI (ivs R) ((0 : Int) + j) = some (iv R[j]) := at_g (j := j) (by omega) (ivs_get hj1)
        have a1 : atI (ivs R) ((0 : Int) + j + 1) = some (iv R[j + 1]) := at_g (j := j + 1) (by omega) (ivs_get hj2)
        have hr3 := s3 _ _ hr
        refine ⟨_, rfl, jd, _, rfl, lg_r (sH _ _ J.d), rk, rfl, .inr ⟨_, .inl (sH _ _ J.r)⟩, _, rfl, _, rfl, r, _, _, _, rfl, rfl, SqL.of hr3, a0, _, rfl, _, rfl, _, _, rfl, rfl, r, _, _, _, rfl, rfl, SqL.of hr3, a1, small_line (by show 2 ≤ 1000; omega), fun t nt => ?_⟩
        have s4 : Same H2 (upd H3 t (.tup [iv R[j], iv R[j + 1]])) := snw s3 nt
        have g : DGet (upd H3 t (.tup [iv R[j], iv R[j + 1]])) rk (.ref t) (valV (rkv ps 0) (kp (R[j], R[j + 1]))) := DGet.t (k := kp (R[j], R[j + 1])) (upd_keep (sH _ _ J.r) nt) upd_same
        rw [rkv_val] at g
        have hb4 := hb.mono (snew nt (o := .tup [iv R[j], iv R[j + 1]]))
        have at_j : ∀ {x y : Nat}, R[j]? = some x → R[j + 1]? = some y → x = R[j] ∧ y = R[j + 1] := fun h1 h2 => by
          rw [List.getElem?_eq_getElem hj1] at h1
          rw [List.getElem?_eq_getElem hj2] at h2
          cases h1; cases h2; exact ⟨rfl, rfl⟩
        cases hk : rkF ps 0 (R[j], R[j + 1]) with
        | none =>
          rw [hk] at g
          have hni := rkF_none hk
          refine ⟨_, g, _, rfl, rfl, _, rfl, iteF (iteF ⟨s4, v, _, _, rfl, ?_⟩)⟩
          rcases hb4 with ⟨rfl, h1⟩ | ⟨q, k1, a, p, rfl, h2, h3, h4, h5, h6, h7⟩
          · refine .inl ⟨rfl, fun j' x y hj' hx hy => ?_⟩
            by_cases e : j' = j
            · subst e
              obtain ⟨rfl, rfl⟩ := at_j hx hy
              exact hni
            · exact h1 j' x y (by omega) hx hy
          · refine .inr ⟨q, k1, a, p, rfl, h2, h3, by omega, h5, h6, fun j' x y k' hj' hx hy hk' => ?_⟩
            by_cases e : j' = j
            · subst e
              obtain ⟨rfl, rfl⟩ := at_j hx hy
              exact absurd (List.mem_of_getElem? hk') hni
            · exact h7 j' x y k' (by omega) hx hy hk'
        | some kk =>
          rw [hk] at g
          obtain ⟨_, hkk⟩ := rkF_some hk
          rw [Nat.sub_zero] at hkk
          have inj : ∀ {k' : Nat}, ps[k']? = some (R[j], R[j + 1]) → k' = kk := fun {k'} h => by
            have e1 := rkF_of (i := 0) hn h
            rw [hk] at e1
            have := Option.some.inj e1
            omega
          have upd1 : ∀ {H4 : Hp} {q : Addr}, H4 q = some (.tup [iv kk, iv j]) → (∀ (j' x y k' : Nat), j' < j → R[j']? = some x → R[j' + 1]? = some y → ps[k']? = some (x, y) → kk ≤ k' ∧ (k' = kk → False)) → lcB H4 ps R (j + 1) (.ref q) := fun {H4 q} hq hlow =>
            .inr ⟨q, kk, j, (R[j], R[j + 1]), rfl, hq, hkk, by omega, List.getElem?_eq_getElem hj1, List.getElem?_eq_getElem hj2, fun j' x y k' hj' hx hy hk' => by
              by_cases e : j' = j
              · subst e
                obtain ⟨rfl, rfl⟩ := at_j hx hy
                have := inj hk'
                omega
              · obtain ⟨c1, c2⟩ := hlow j' x y k' (by omega) hx hy hk'
                exact ⟨c1, fun e2 => (c2 e2).elim⟩⟩
          refine ⟨_, g, _, rfl, rfl, _, rfl, iteT ?_⟩
          rcases hb4 with ⟨rfl, h1⟩ | ⟨q, k1, a, p, rfl, h2, h3, h4, h5, h6, h7⟩
          · refine ⟨_, rfl, rfl, true, rfl, iteT ⟨_, rfl, _, rfl, small_line (by show 2 ≤ 1000; omega), fun q nq => ⟨snw s4 nq, _, _, _, rfl, upd1 ?_ fun j' x y k' hj' hx hy hk' => absurd (List.mem_of_getElem? hk') (h1 j' x y hj' hx hy)⟩⟩⟩
            rw [upd_same, Int.zero_add]
            rfl
          · by_cases hlt : kk < k1
            · have e0 : decide ((kk : Int) < (k1 : Int)) = true := decide_eq_true (by omega)
              refine ⟨_, rfl, rfl, false, rfl, iteF ⟨_, rfl, _, rfl, q, _, _, _, rfl, rfl, SqT.of h2, at_g (j := 0) rfl rfl, _, _, rfl, rfl, true, congrArg V.bl e0, iteT ⟨_, rfl, _, rfl, small_line (by show 2 ≤ 1000; omega), fun q nq => ⟨snw s4 nq, _, _, _, rfl, upd1 ?_ fun j' x y k' hj' hx hy hk' => ?_⟩⟩⟩⟩
              · rw [upd_same, Int.zero_add]
                rfl
              · have := (h7 j' x y k' hj' hx hy hk').1
                exact ⟨by omega, fun e => by omega⟩
            · have e0 : decide ((kk : Int) < (k1 : Int)) = false := decide_eq_false (by omega)
              refine ⟨_, rfl, rfl, false, rfl, iteF ⟨_, rfl, _, rfl, q, _, _, _, rfl, rfl, SqT.of h2, at_g (j := 0) rfl rfl, _, _, rfl, rfl, false, congrArg V.bl e0, iteF ⟨s4, _, _, _, rfl, .inr ⟨q, k1, a, p, rfl, h2, h3, by omega, h5, h6, fun j' x y k' hj' hx hy hk' => ?_⟩⟩⟩⟩
              by_cases e : j' = j
              · subst e
                obtain ⟨rfl, rfl⟩ := at_j hx hy
                have := inj hk'
                exact ⟨by omega, fun _ => by omega⟩
              · exact h7 j' x y k' (by omega) hx hy hk'
      · rintro σ H3 ⟨s3, v, v7, v8, rfl, hb⟩
        have sH := s2.trans s3
        have hr3 := s3 _ _ hr
        rcases hb with ⟨rfl, h1⟩ | ⟨q, k1, a, p, rfl, h2, h3, h4, h5, h6, h7⟩
        · refine ⟨_, rfl, rfl, true, rfl, iteT ⟨_, rfl, k _ r sH ?_⟩⟩
          rw [hr3, ← hst, stg_done]
          rintro ⟨x, y⟩ hp hadj
          obtain ⟨j, e1, e2⟩ := adj_ix.mp hadj
          have := (List.getElem?_eq_some_iff.mp e2).1
          exact h1 j x y (by omega) e1 e2 hp
        · have ha1 : a < R.length := (List.getElem?_eq_some_iff.mp h5).1
          have ha2 : a + 1 < R.length := (List.getElem?_eq_some_iff.mp h6).1
          have hsplit : R = R.take a ++ p.1 :: p.2 :: R.drop (a + 2) := by
            obtain ⟨_, e1⟩ := List.getElem?_eq_some_iff.mp h5
            obtain ⟨_, e2⟩ := List.getElem?_eq_some_iff.mp h6
            conv => lhs; rw [← List.take_append_drop a R, List.drop_eq_getElem_cons ha1, List.drop_eq_getElem_cons ha2, e1, e2]
          refine ⟨_, rfl, rfl, false, rfl, iteF ?_⟩
          refine ⟨_, rfl, _, rfl, q, _, _, _, rfl, rfl, SqT.of h2, at_g (j := 1) rfl rfl, _, rfl, r, _, rfl, SqL.of hr3, fun p1 n1 => ?_⟩
          rw [cutV_take]
          have hq1 := upd_keep (u := .lst ((ivs R).take a)) h2 n1
          have hr4 := upd_keep (u := .lst ((ivs R).take a)) hr3 n1
          refine ⟨_, rfl, _, rfl, q, _, _, _, rfl, rfl, SqT.of hq1, at_g (j := 0) rfl rfl, _, _, rfl, rfl, small_line (by show 1 ≤ 1000; omega), fun p2 n2 => ?_⟩
          have hq2 := upd_keep (u := .lst [V.int ((L.length : Int) + (k1 : Int))]) hq1 n2
          have hr5 := upd_keep (u := .lst [V.int ((L.length : Int) + (k1 : Int))]) hr4 n2
          have hp1 := upd_keep (u := .lst [V.int ((L.length : Int) + (k1 : Int))]) (upd_same (H := H3) (a := p1) (o := .lst ((ivs R).take a))) n2
          refine ⟨p1, p2, _, _, rfl, rfl, hp1, upd_same, by rw [List.length_take]; simp [ivs]; rw [sizeLine_eq]; omega, fun p3 n3 => ?_⟩
          have hq3 := upd_keep (u := .lst ((ivs R).take a ++ [V.int ((L.length : Int) + (k1 : Int))])) hq2 n3
          have hr6 := upd_keep (u := .lst ((ivs R).take a ++ [V.int ((L.length : Int) + (k1 : Int))])) hr5 n3
          refine ⟨_, rfl, _, rfl, q, _, _, _, rfl, rfl, SqT.of hq3, at_g (j := 1) rfl rfl, _, _, rfl, rfl, _, rfl, r, _, rfl, SqL.of hr6, fun p4 n4 => ?_⟩
          have ea : ((a : Int) + 2) = ((a + 2 : Nat) : Int) := by omega
          rw [ea, cutV_drop]
          refine ⟨p3, p4, _, _, rfl, rfl, upd_keep upd_same n4, upd_same, by simp [ivs]; rw [sizeLine_eq]; omega, fun p5 n5 => ?_⟩
          have sE := snw (snw (snw (snw (snw sH n1 (o := .lst ((ivs R).take a))) n2 (o := .lst [V.int ((L.length : Int) + (k1 : Int))])) n3 (o := .lst ((ivs R).take a ++ [V.int ((L.length : Int) + (k1 : Int))]))) n4 (o := .lst ((ivs R).drop (a + 2)))) n5 (o := .lst ((ivs R).take a ++ [V.int ((L.length : Int) + (k1 : Int))] ++ (ivs R).drop (a + 2)))
          refine ⟨sE, p5, R.take a ++ (L.length + k1) :: R.drop (a + 2), _, _, _, _, rfl, ?_, ?_, ?_⟩
          · rw [upd_same]
            simp [ivs, List.map_take, List.map_drop]
          · rw [List.length_append, List.length_take, List.length_cons, List.length_drop]
            omega
          · have hlow : NoLow ps k1 (R.take a ++ p.1 :: p.2 :: R.drop (a + 2)) := by
              rw [← hsplit]
              rintro r' ⟨x, y⟩ hr' hps hadj
              obtain ⟨j, e1, e2⟩ := adj_ix.mp hadj
              have := (List.getElem?_eq_some_iff.mp e2).1
              have := (h7 j x y r' (by omega) e1 e2 hps).1
              omega
            rw [stg_left hw h3 hlow, ← hsplit, hst]
            intro hadj
            obtain ⟨j, e1, e2⟩ := adj_ix.mp hadj
            have hjl := (List.getElem?_eq_some_iff.mp e2).1
            have htl : (R.take a).length = a := by rw [List.length_take]; omega
            have hja : j < a := by simp [htl] at hjl; omega
            have pre : R.take a ++ [p.1] = R.take (a + 1) := (take_snoc h5).symm
            rw [pre] at e1 e2
            rw [List.getElem?_take_of_lt (by omega)] at e1 e2
            have := (h7 j p.1 p.2 k1 (by omega) e1 e2 h3).2 rfl
            omega
    · rintro σ H2 ⟨s2, r, R, v5, v6, v7, v8, rfl, hr, hl, hst⟩
      refine ⟨_, rfl, k _ r s2 ?_⟩
      have hR0 : R = [] := List.length_eq_zero_iff.mp (by omega)
      subst hR0
      rw [stg_nil] at hst
      rw [hr, ← hst]
theorem ok_law_cut (T : Bi K mg) (D : Df K mg "_law_cut" st_law_cut) : Has P w K mg base "_law_cut" 1 ["_law_joins_here", "_law_text_here"] sp_law_cut :=
  D.ok sc_law_cut bd_law_cut (fun vs H Q E ⟨_, _, _, _, _, _, _, e, _⟩ => by rw [e]; rfl) (body_law_cut T)
end
end Rj
set_option Elab.async false
set_option linter.all false
set_option maxRecDepth 100000
set_option maxHeartbeats 2000000
namespace Rj
open PySem PySem.Spec PyProof.Rows L2
section
variable {P : Program} {w : World} {K : PySem.W.Frag} {mg : Str → Option Value} {base : Heap} {CS : Addr}
def sp_law_share : Sp := fun vs H Q _ => ∃ N U : Nat, vs = [iv N, iv U] ∧ 0 < U ∧ N ≤ U ∧ U < 2 ^ 400 ∧ ∀ H' q n d, Same H H' → H' q = some (.tup [iv n, iv d]) → IsFr (n : Int) (d : Int) (N : Int) (U : Int) → Q (.ref q) H'
abbrev st_law_share : Stmt := top 49
theorem sc_law_share : FnScope ["_law_over", "_law_under", "_law_a", "_law_b", "_law_k", "_law_c"] ["_law_over", "_law_under"] (defScope st_law_share) := ⟨rfl, rfl, rfl, by decide +kernel, rfl, by decide +kernel, by decide +kernel⟩
theorem bd_law_share : Bnd "_law_share" "_law_share" st_law_share ["_law_over", "_law_under"] := fun _ _ _ _ _ _ us hl => match us, hl with | [_, _], _ => rfl
-- 0:_law_over 1:_law_under 2:_law_a 3:_law_b 4:_law_k 5:_law_c
theorem body_law_share (T : Bi K mg) : Body P w K mg base "_law_share" st_law_share 0 ["_law_over", "_law_under", "_law_a", "_law_b", "_law_k", "_law_c"] sp_law_share := by
  have nd := sc_law_share.nd
  intro f cdv A outer s H vs Q E hr h
  obtain ⟨N, U, rfl, hU, hNU, hB, k⟩ := h
  refine ⟨_, (pss_cons (ps_if (pt_cmpR op_lt (pv 1) pe_int (nomark _))
      (pss_cons (ps_set (i := 0) nd rfl (by first | exact .inl rfl | exact .inr rfl) (pe_op op_sub pe_int (pv 0)))
      (pss_one (ps_set (i := 1) nd rfl (by first | exact .inl rfl | exact .inr rfl) (pe_op op_sub pe_int (pv 1)))))
      pss_nil)
    (pss_cons (ps_set (i := 2) nd rfl (by first | exact .inl rfl | exact .inr rfl) (pe_callB call_abs (by rfl) T.abs (by decide +kernel) (pa_cons (pv 0) pa_nil)))
    (pss_cons (ps_set (i := 3) nd rfl (by first | exact .inl rfl | exact .inr rfl) (pv 1))
    (pss_cons (ps_for PassesOwn.never rfl (pi_range1 (by rfl) T.range (pa_cons pe_int pa_nil)) (pg_name (i := 4) nd rfl (by first | exact .inl rfl | exact .inr rfl))
      (pss_cons (ps_if (pt_cmpR op_eq (pv 2) pe_int (nomark _))
        (pss_one ps_break)
        pss_nil)
      (pss_cons (ps_set (i := 5) nd rfl (by first | exact .inl rfl | exact .inr rfl) (pe_op op_mod (pe_callTy call_int1 (by rfl) T.int (by decide +kernel) (pa_cons (pv 3) pa_nil)) (pv 2)))
      (pss_cons (ps_set (i := 3) nd rfl (by first | exact .inl rfl | exact .inr rfl) (pv 2))
      (pss_one (ps_set (i := 2) nd rfl (by first | exact .inl rfl | exact .inr rfl) (pv 5)))))))
    (pss_one (ps_ret (pe_tup (pa_cons (pe_op op_fdivW (pv 0) (pv 3)) (pa_cons (pe_op op_fdivW (pv 1) (pv 3)) pa_nil))))))))), ?_⟩

  refine ⟨_, rfl, _, _, rfl, rfl, false, congrArg V.bl (decide_eq_false (by omega)), iteF ?_⟩
  refine ⟨_, rfl, _, rfl, ?_⟩
  have ab : V.int (if (N : Int) < 0 then -(N : Int) else (N : Int)) = iv N := by rw [if_neg (by omega)]
  rw [ab]
  have hM : N * U < 2 ^ 800 := by
    have h1 : N * U ≤ U * U := Nat.mul_le_mul_right _ hNU
    have h2 : U * U < 2 ^ 400 * 2 ^ 400 := Nat.mul_lt_mul'' hB hB
    rw [← Nat.pow_add] at h2
    exact Nat.lt_of_le_of_lt h1 h2
  have fin : ∀ (a b : Nat) (v4 v5 : Option V) (G : Nat), a = 0 → Nat.gcd a b = G → G = Nat.gcd N U → (b : Int) = (Nat.gcd N U : Int) := fun a b _ _ G h0 h1 h2 => by
    subst h0
    rw [Nat.gcd_zero_left] at h1
    omega
  have hg : 0 < Nat.gcd N U := Nat.gcd_pos_of_pos_right _ hU
  have hgl : Nat.gcd N U ≤ U := Nat.gcd_le_right _ hU
  have gB := nb hgl hB
  have fr : IsFr ((N / Nat.gcd N U : Nat) : Int) ((U / Nat.gcd N U : Nat) : Int) (N : Int) (U : Int) := by
    have := IsFr.of (N := (N : Int)) (T := (U : Int)) (by omega)
    rw [Int.gcd_natCast_natCast] at this
    rw [Int.natCast_ediv, Int.natCast_ediv]
    exact this
  have last : ∀ (v2 : V) (v4 v5 : Option V) (b : Nat), Nat.gcd 0 b = Nat.gcd N U → (tTup (tCons (tOp (rI CDivW fun i j => V.int (i / j)) (tVar 0) (tVar 3)) (tCons (tOp (rI CDivW fun i j => V.int (i / j)) (tVar 1) (tVar 3)) tNil))) [some (iv N), some (iv U), some v2, some (iv b), v4, v5] H Q := fun v2 v4 v5 b hb => by
    rw [Nat.gcd_zero_left] at hb
    subst hb
    refine ⟨_, rfl, _, rfl, _, _, rfl, rfl, wide_div (by omega) gB (by decide) (by decide), _, rfl, _, rfl, _, _, rfl, rfl, wide_div (by omega) gB (by decide) (by decide), small_line (by show 2 ≤ 1000; omega), fun p np => ?_⟩
    refine k _ p _ _ (snew np) ?_ fr
    rw [upd_same]
    show some (HO.tup [V.int ((N : Int) / ((Nat.gcd N U : Nat) : Int)), V.int ((U : Int) / ((Nat.gcd N U : Nat) : Int))]) = _
    rw [← Int.natCast_ediv, ← Int.natCast_ediv]
  refine ⟨_, rfl, _, rfl, ⟨by decide, by decide, for_range (lo := 0) (fun i σ H' => H' = H ∧ ∃ (a b : Nat) (v4 v5 : Option V), σ = [some (iv N), some (iv U), some (iv a), some (iv b), v4, v5] ∧ Nat.gcd a b = Nat.gcd N U ∧ a ≤ b ∧ 0 < b ∧ a * b * 2 ^ i ≤ N * U)
    ⟨rfl, N, U, _, _, rfl, rfl, hNU, hU, by omega⟩ ?_ ?_⟩⟩
  · rintro i σ H1 hi ⟨rfl, a, b, v4, v5, rfl, hgc, hab, hb, hm⟩
    refine ⟨_, rfl, rfl, _, rfl, ?_⟩
    by_cases h0 : a = 0
    · subst h0
      exact iteT (last _ _ _ b hgc)
    · have e0 : decide (V.int (a : Int) = V.int 0) = false := by rw [eq0]; exact decide_eq_false (by omega)
      rw [e0]
      obtain ⟨e1, e2, e3, e4⟩ := euclid_step hgc (by omega) hab hm
      refine iteF ⟨_, rfl, .inl ⟨_, rfl, _, rfl, _, _, rfl, rfl, (by show (0 : Int) < (a : Int); omega), _, rfl, _, rfl, rfl, b % a, a, some (V.int (0 + (i : Int))), some (V.int ((b : Int) % (a : Int))), ?_, e1, e3, e2, e4⟩⟩
      show [some (iv N), some (iv U), some (V.int ((b : Int) % (a : Int))), some (iv a), some (V.int (0 + (i : Int))), some (V.int ((b : Int) % (a : Int)))] = _
      rw [← Int.natCast_emod]
  · rintro σ H1 ⟨rfl, a, b, v4, v5, rfl, hgc, hab, hb, hm⟩
    have h0 : a = 0 := euclid_end hb hm (Nat.lt_of_lt_of_le hM (Nat.pow_le_pow_right (by decide) (by decide)))
    subst h0
    exact last _ _ _ b hgc
theorem ok_law_share (T : Bi K mg) (D : Df K mg "_law_share" st_law_share) : Has P w K mg base "_law_share" 1 ["_law_over", "_law_under"] sp_law_share :=
  D.ok sc_law_share bd_law_share (fun vs H Q E ⟨_, _, e, _⟩ => by rw [e]; rfl) (body_law_share T)
def sp_is_share (CS : Addr) : Sp := fun vs H Q _ => ∃ (a b : Addr) (N U n d : Nat), vs = [.ref a, .ref b] ∧ Sh H CS a N U ∧ 0 < U ∧ H b = some (.tup [iv n, iv d]) ∧ IsFr (n : Int) (d : Int) (N : Int) (U : Int) ∧ ∀ H', Same H H' → Q (.bl true) H'
abbrev st_law_is_share : Stmt := top 50
theorem sc_law_is_share : FnScope ["_law_actual", "_law_due", "_law_part"] ["_law_actual", "_law_due"] (defScope st_law_is_share) := ⟨rfl, rfl, rfl, by decide +kernel, rfl, by decide +kernel, by decide +kernel⟩
theorem bd_law_is_share : Bnd "_law_is_share" "_law_is_share" st_law_is_share ["_law_actual", "_law_due"] := fun _ _ _ _ _ _ us hl => match us, hl with | [_, _], _ => rfl
-- 0:_law_actual 1:_law_due 2:_law_part
theorem body_law_is_share (T : Bi K mg) (TS : TSx K CS) : Body P w K mg base "_law_is_share" st_law_is_share 0 ["_law_actual", "_law_due", "_law_part"] (sp_is_share CS) := by
  have nd := sc_law_is_share.nd
  intro f cdv A outer s H vs Q E hr h
  obtain ⟨a, b, N, U, n, d, rfl, ⟨dx, n1, d1, ha, f1⟩, hU, hb, f2, k⟩ := h
  refine ⟨_, (pss_cons (ps_for PassesOwn.never rfl (pi_tup (pe_tup (pa_cons (pe_fld (pv 0) rfl) (pa_cons (pe_fld (pv 0) rfl) pa_nil)))) (pg_name (i := 2) nd rfl (by first | exact .inl rfl | exact .inr rfl))
      (pss_one (ps_if (PW.pt (pw_or (pt_not (pt_val (pe_callB cr_isi (by rfl) T.isinstance (by decide +kernel) (pa_cons (pv 2) (pa_cons (pe_bltn (v := .ty "int") (by rfl) T.int (by decide +kernel) rfl) pa_nil))))) (pw_or1 (pt_val (pe_callB cr_isi (by rfl) T.isinstance (by decide +kernel) (pa_cons (pv 2) (pa_cons (pe_bltn (v := .ty "bool") (by rfl) T.bool (by decide +kernel) rfl) pa_nil)))))))
        (pss_one (ps_ret pe_bl))
        pss_nil)))
    (pss_one (ps_ret (pe_cmpR (op_eqT hr.units) (pe_tup (pa_cons (pe_fld (pv 0) rfl) (pa_cons (pe_fld (pv 0) rfl) pa_nil))) (pv 1) (nomark _))))), ?_⟩

  obtain ⟨en, ed⟩ := f1.uniq f2 (by omega)
  have en' : n1 = n := by omega
  have ed' : d1 = d := by omega
  subst en' ed'
  refine ⟨_, rfl, a, CS, dx, _, _, rfl, ha, TS.cl, TS.ov, sf_ov, _, rfl, a, CS, dx, _, _, rfl, ha, TS.cl, TS.un, sf_un, small_line (by show 2 ≤ 1000; omega), fun p np => ?_⟩
  have s1 := snew np (o := .tup [iv n1, iv d1])
  refine ⟨p, rfl, ⟨_, SqT.of upd_same⟩, for_tup (xs := [iv n1, iv d1]) (fun i σ H' => H' = upd H p (.tup [iv n1, iv d1]) ∧ ∃ v2, σ = [some (.ref a), some (.ref b), v2]) ⟨rfl, _, rfl⟩ (fun _ _ _ _ q => by rw [q.1]; exact SqT.of upd_same) ?_ ?_⟩
  · rintro i x σ H1 hx ⟨rfl, v2, rfl⟩
    obtain ⟨z, rfl⟩ : ∃ z : Int, x = .int z := by
      rcases List.mem_cons.mp (List.mem_of_getElem? hx) with h | h
      · exact ⟨_, h⟩
      · exact ⟨_, List.mem_singleton.mp h⟩
    refine ⟨_, rfl, _, _, _, rfl, kit_ty (by decide +kernel), true, rfl, iteF ⟨_, rfl, _, _, _, rfl, kit_ty (by decide +kernel), false, rfl, iteF ⟨rfl, _, rfl⟩⟩⟩
  · rintro σ H1 ⟨rfl, v2, rfl⟩
    refine ⟨_, rfl, a, CS, dx, _, _, rfl, s1 _ _ ha, TS.cl, TS.ov, sf_ov, _, rfl, a, CS, dx, _, _, rfl, s1 _ _ ha, TS.cl, TS.un, sf_un, small_line (by show 2 ≤ 1000; omega), fun p2 np2 => ?_⟩
    have s2 := snw s1 np2 (o := .tup [iv n1, iv d1])
    refine ⟨_, rfl, p2, b, [(n1 : Int), (d1 : Int)], [(n1 : Int), (d1 : Int)], rfl, rfl, SqT.of upd_same, SqT.of (s2 _ _ hb), ?_⟩
    rw [decide_eq_true rfl]
    exact k _ s2
theorem ok_is_share (T : Bi K mg) (TS : TSx K CS) (D : Df K mg "_law_is_share" st_law_is_share) : Has P w K mg base "_law_is_share" 1 ["_law_actual", "_law_due"] (sp_is_share CS) :=
  D.ok sc_law_is_share bd_law_is_share (fun vs H Q E ⟨_, _, _, _, _, _, e, _⟩ => by rw [e]; rfl) (body_law_is_share T TS)
def sp_weight : Sp := fun vs H Q _ => ∃ d : Addr, vs = [.ref d] ∧ ∃ tc, Tp tc H d ∧ ∀ H' (z : Nat), 1 ≤ z → z < 2 ^ 30 → But1 d H H' → Tp tc H' d → Q (iv z) H'
abbrev st_law_weight : Stmt := top 51
theorem sc_law_weight : FnScope ["_law_tape_here"] ["_law_tape_here"] (defScope st_law_weight) := ⟨rfl, rfl, rfl, by decide +kernel, rfl, by decide +kernel, by decide +kernel⟩
theorem bd_law_weight : Bnd "_law_weight" "_law_weight" st_law_weight ["_law_tape_here"] := fun _ _ _ _ _ _ us hl => match us, hl with | [_], _ => rfl
-- 0:_law_tape_here
theorem body_law_weight (T : Bi K mg) (C_law_draw : Has P w K mg base "_law_draw" 2 ["_law_tape_here", "_law_many"] sp_draw) (C_law_pick : Has P w K mg base "_law_pick" 3 ["_law_tape_here", "_law_row"] sp_pick) : Body P w K mg base "_law_weight" st_law_weight 3 ["_law_tape_here"] sp_weight := by
  have nd := sc_law_weight.nd
  intro f cdv A outer s H vs Q E hr h
  obtain ⟨d, rfl, tc, tp, k⟩ := h
  refine ⟨_, (pss_one (ps_ret (c_fn C_law_pick hr (by rfl) (pa_cons (pv 0) (pa_cons (pe_lst (pa_cons pe_int (pa_cons pe_int (pa_cons pe_int (pa_cons pe_int (pa_cons (pe_op op_add pe_int (c_fn C_law_draw hr (by rfl) (pa_cons (pv 0) (pa_cons pe_int pa_nil)))) (pa_cons (pe_op op_add (pe_op op_add pe_int (pe_op op_mul pe_int (c_fn C_law_draw hr (by rfl) (pa_cons (pv 0) (pa_cons pe_int pa_nil))))) (c_fn C_law_draw hr (by rfl) (pa_cons (pv 0) (pa_cons pe_int pa_nil)))) pa_nil))))))) pa_nil))))), ?_⟩

  refine ⟨_, rfl, _, rfl, d, _, rfl, _, tp, by decide, fun H1 i1 h1 ex1 tp1 => ⟨_, _, rfl, rfl, ?_⟩⟩
  refine ⟨_, rfl, d, _, rfl, _, tp1, by decide, fun H2 i2 h2 ex2 tp2 => ⟨_, _, rfl, rfl, .inl (by constructor <;> decide), _, _, rfl, rfl, ?_⟩⟩
  refine ⟨_, rfl, d, _, rfl, _, tp2, by decide, fun H3 i3 h3 ex3 tp3 => ⟨_, _, rfl, rfl, small_line (by show 6 ≤ 1000; omega), fun l nl => ?_⟩⟩
  have ex := ex1.trans (ex2.trans ex3)
  refine ⟨d, .ref l, _, rfl, _, tp3.same (snew nl), .inl ⟨l, rfl, upd_same⟩, by simp, fun H4 v hv ex4 tp4 => ?_⟩
  have b4 : But1 d H H4 := ex.but.trans ((but_same (snew nl)).trans ex4.but)
  have go : ∀ z : Nat, v = iv z → 1 ≤ z → z < 2 ^ 30 → Q v H4 := fun z e h1 h2 => by rw [e]; exact k H4 z h1 h2 b4 tp4
  simp only [List.mem_cons, List.not_mem_nil, or_false] at hv
  rcases hv with h | h | h | h | h | h
  · exact go 1 h (by decide) (by decide)
  · exact go 1 h (by decide) (by decide)
  · exact go 2 h (by decide) (by decide)
  · exact go 3 h (by decide) (by decide)
  · exact go (1 + i1) (by rw [h, iv, Int.natCast_add]; rfl) (by omega) (by omega)
  · exact go (1 + 1000000 * i2 + i3) (by rw [h, iv, Int.natCast_add, Int.natCast_add, Int.natCast_mul]; rfl) (by omega) (by omega)
theorem ok_weight (T : Bi K mg) (C1 : Has P w K mg base "_law_draw" 2 ["_law_tape_here", "_law_many"] sp_draw) (C2 : Has P w K mg base "_law_pick" 3 ["_law_tape_here", "_law_row"] sp_pick) (D : Df K mg "_law_weight" st_law_weight) : Has P w K mg base "_law_weight" 4 ["_law_tape_here"] sp_weight :=
  D.ok sc_law_weight bd_law_weight (fun vs H Q E ⟨_, e, _⟩ => by rw [e]; rfl) (body_law_weight T C1 C2)
end
end Rj
set_option Elab.async false
set_option linter.all false
set_option maxRecDepth 100000
set_option maxHeartbeats 2000000
namespace Rj
open PySem PySem.Spec PyProof.Rows L2
/-- the heap without d -/
def hd (d : Addr) (H : Hp) : Hp := fun b => if b = d then none else H b
theorem hd_sub {d : Addr} {H : Hp} : Same (hd d H) H := fun b o h => by
  unfold hd at h
  split at h
  · cases h
  · exact h
theorem hd_of {d x : Addr} {H : Hp} {o : HO} (n : x ≠ d) (h : H x = some o) : hd d H x = some o := by
  unfold hd
  rw [if_neg n]
  exact h
theorem hd_ne {d x : Addr} {H : Hp} {o : HO} (h : hd d H x = some o) : x ≠ d := fun e => by
  unfold hd at h
  rw [if_pos e] at h
  cases h
theorem hd_but {d : Addr} {H H' : Hp} (s : But1 d H H') : Same (hd d H) (hd d H') := fun b o h => hd_of (hd_ne h) (s b o (hd_ne h) (hd_sub _ _ h))
theorem But1.to {d x : Addr} {H H' : Hp} {o : HO} (s : But1 d H H') (h : hd d H x = some o) : H' x = some o := s x o (hd_ne h) (hd_sub _ _ h)
/-- a fresh object of ours may change -/
theorem But1.sch {d p : Addr} {H H' : Hp} {o : HO} (s : But1 d H H') (n : H p = none) : But1 d H (upd H' p o) := fun x u h e => (upd_ne (ne_of_none e n)).trans (s x u h e)
theorem Jl.snoc {L : List Nat} {ps : List (Nat × Nat)} (J : Jl L ps) {x y : Nat} (h4 : ps.length + 1 ≤ 4) (hx : x < np L ps) (hy : y < np L ps) (hc : stg L.length ps (ltr L.length ps x ++ ltr L.length ps y) = [x, y]) (h5 : (ltr L.length ps x ++ ltr L.length ps y).length ≤ 5) : Jl L (ps ++ [(x, y)]) := by
  refine ⟨J.al, J.l3, by rw [List.length_append]; exact h4, J.pr.snoc hx hy hc, fun p hp => ?_⟩
  by_cases e : p < L.length + ps.length
  · rw [ltr_snoc _ e]; exact J.t5 p e
  · have hp' : p = L.length + ps.length := by rw [List.length_append] at hp; simp at hp; omega
    subst hp'
    rw [ltr_new]
    exact h5
theorem Jl.nil {L : List Nat} (A : Alph L) (h3 : L.length ≤ 3) : Jl L [] := ⟨A, h3, by simp, Proper.nil _, fun p hp => by
  have hp' : p < L.length := by simpa using hp
  rw [ltr_letter [] hp']
  simp⟩
theorem Jl.nin {L : List Nat} {ps : List (Nat × Nat)} (J : Jl L ps) {x y : Nat} (hx : x < np L ps) (hy : y < np L ps) (hc : stg L.length ps (ltr L.length ps x ++ ltr L.length ps y) = [x, y]) : (x, y) ∉ ps := fun hm => by
  obtain ⟨r, hr1⟩ := List.getElem?_of_mem hm
  have hrl := (List.getElem?_eq_some_iff.mp hr1).1
  exact (J.pr.snoc (q := (x, y)) hx hy hc).inj (i := r) (j := ps.length) (q := (x, y)) (by rw [List.getElem?_append_left hrl]; exact hr1) (by simp) hrl
theorem But1.back {d x : Addr} {H H' : Hp} (s : But1 d H H') (n : x ≠ d) (h : H' x = none) : H x = none := by
  cases e : H x with
  | none => rfl
  | some o => rw [s x o n e] at h; cases h
section
variable {P : Program} {w : World} {K : PySem.W.Frag} {mg : Str → Option Value} {base : Heap} {CS : Addr}
def sp_law_joins : Sp := fun vs H Q _ => ∃ d : Addr, vs = [.ref d, .int 3, .int 4, .int 5] ∧ ∃ tc, Tp tc H d ∧ ∀ H' jd L ps pl rk tl, But1 d H H' → Tp tc H' d → LJ (hd d H') jd L ps pl rk tl → Jl L ps → Q (.ref jd) H'
abbrev st_law_joins : Stmt := top 47
theorem sc_law_joins : FnScope ["_law_tape_here", "_law_most", "_law_tries", "_law_size", "_law_letters_here", "_law_joins_here", "_law_k", "_law_newest", "_law_left", "_law_right", "_law_text_here"] ["_law_tape_here", "_law_most", "_law_tries", "_law_size"] (defScope st_law_joins) := ⟨rfl, rfl, rfl, by decide +kernel, rfl, by decide +kernel, by decide +kernel⟩
theorem bd_law_joins : Bnd "_law_joins" "_law_joins" st_law_joins ["_law_tape_here", "_law_most", "_law_tries", "_law_size"] := fun _ _ _ _ _ _ us hl => match us, hl with | [_, _, _, _], _ => rfl
-- 0:_law_tape_here 1:_law_most 2:_law_tries 3:_law_size 4:_law_letters_here 5:_law_joins_here 6:_law_k 7:_law_newest 8:_law_left 9:_law_right 10:_law_text_here
theorem body_law_joins (T : Bi K mg) (C_law_draw : Has P w K mg base "_law_draw" 2 ["_law_tape_here", "_law_many"] sp_draw) (C_law_pick : Has P w K mg base "_law_pick" 3 ["_law_tape_here", "_law_row"] sp_pick) (C_law_letters : Has P w K mg base "_law_letters" 4 ["_law_tape_here", "_law_many"] sp_letters) (C_law_cut : Has P w K mg base "_law_cut" 1 ["_law_joins_here", "_law_text_here"] sp_law_cut) : Body P w K mg base "_law_joins" st_law_joins 4 ["_law_tape_here", "_law_most", "_law_tries", "_law_size", "_law_letters_here", "_law_joins_here", "_law_k", "_law_newest", "_law_left", "_law_right", "_law_text_here"] sp_law_joins := by
  have nd := sc_law_joins.nd
  intro f cdv A outer s H vs Q E hr h
  obtain ⟨d, rfl, tc, tp, k⟩ := h
  refine ⟨_, (pss_cons (ps_set (i := 4) nd rfl (by first | exact .inl rfl | exact .inr rfl) (c_fn C_law_letters hr (by rfl) (pa_cons (pv 0) (pa_cons (pe_op op_add pe_int (c_fn C_law_draw hr (by rfl) (pa_cons (pv 0) (pa_cons (pv 1) pa_nil)))) pa_nil))))
    (pss_cons (ps_set (i := 5) nd rfl (by first | exact .inl rfl | exact .inr rfl) (pe_disp (pps_cons pe_str (pv 4) (pps_cons pe_str (pe_lst pa_nil) (pps_cons pe_str pe_dnewT (pps_cons pe_str (pe_callTy (cr_list_str rfl) (by rfl) T.list (by decide +kernel) (pa_cons (pv 4) pa_nil)) pps_nil)))) (by rfl) (by rfl) (fun z => by cases z) (by decide)))
    (pss_cons (ps_for PassesOwn.never rfl (pi_range1 (by rfl) T.range (pa_cons (c_fn C_law_draw hr (by rfl) (pa_cons (pv 0) (pa_cons (pe_op op_add (pv 2) pe_int) pa_nil))) pa_nil)) (pg_name (i := 6) nd rfl (by first | exact .inl rfl | exact .inr rfl))
      (pss_cons (ps_set (i := 7) nd rfl (by first | exact .inl rfl | exact .inr rfl) (pe_op op_sub (pe_callB call_len (by rfl) T.len (by decide +kernel) (pa_cons (pe_dget (hu_of hr) (pv 5) pe_str (fun _ _ => rfl)) pa_nil)) pe_int))
      (pss_cons (ps_set (i := 8) nd rfl (by first | exact .inl rfl | exact .inr rfl) (c_fn C_law_pick hr (by rfl) (pa_cons (pv 0) (pa_cons (pe_lst (pa_cons (pv 7) (pa_cons (c_fn C_law_draw hr (by rfl) (pa_cons (pv 0) (pa_cons (pe_op op_add (pv 7) pe_int) pa_nil))) pa_nil))) pa_nil))))
      (pss_cons (ps_set (i := 9) nd rfl (by first | exact .inl rfl | exact .inr rfl) (c_fn C_law_pick hr (by rfl) (pa_cons (pv 0) (pa_cons (pe_lst (pa_cons (pv 7) (pa_cons (c_fn C_law_draw hr (by rfl) (pa_cons (pv 0) (pa_cons (pe_op op_add (pv 7) pe_int) pa_nil))) (pa_cons (c_fn C_law_draw hr (by rfl) (pa_cons (pv 0) (pa_cons (pe_op op_add (pv 7) pe_int) pa_nil))) pa_nil)))) pa_nil))))
      (pss_cons (ps_set (i := 10) nd rfl (by first | exact .inl rfl | exact .inr rfl) (pe_op op_add_str (pe_ix ix_list (pe_dget (hu_of hr) (pv 5) pe_str (fun _ _ => rfl)) (pv 8) (fun _ _ => rfl)) (pe_ix ix_list (pe_dget (hu_of hr) (pv 5) pe_str (fun _ _ => rfl)) (pv 9) (fun _ _ => rfl))))
      (pss_one (ps_if (PW.pt (pw_and (pt_cmpR op_le (pe_callB call_len (by rfl) T.len (by decide +kernel) (pa_cons (pv 10) pa_nil)) (pv 3) (nomark _)) (pw_and1 (pt_cmpR (op_eqL hr.units) (c_fn C_law_cut hr (by rfl) (pa_cons (pv 5) (pa_cons (pv 10) pa_nil))) (pe_lst (pa_cons (pv 8) (pa_cons (pv 9) pa_nil))) (nomark _)))))
        (pss_cons (ps_dput (hu_of hr) (pe_dget (hu_of hr) (pv 5) pe_str (fun _ _ => rfl)) (pe_tup (pa_cons (pv 8) (pa_cons (pv 9) pa_nil))) (pe_callB call_len (by rfl) T.len (by decide +kernel) (pa_cons (pe_dget (hu_of hr) (pv 5) pe_str (fun _ _ => rfl)) pa_nil)) rfl)
        (pss_cons (ps_expr (pe_bm PySem.F.plainAttrs_list PySem.F.slot_list_append PySem.F.type_list_append mt_append (pe_dget (hu_of hr) (pv 5) pe_str (fun _ _ => rfl)) (pa_cons (pe_tup (pa_cons (pv 8) (pa_cons (pv 9) pa_nil))) pa_nil)))
        (pss_one (ps_expr (pe_bm PySem.F.plainAttrs_list PySem.F.slot_list_append PySem.F.type_list_append mt_append (pe_dget (hu_of hr) (pv 5) pe_str (fun _ _ => rfl)) (pa_cons (pv 10) pa_nil))))))
        pss_nil)))))))
    (pss_one (ps_ret (pv 5)))))), ?_⟩

  refine ⟨_, rfl, _, rfl, _, rfl, d, _, rfl, _, tp, by decide, fun H1 i1 h1 ex1 tp1 => ⟨_, _, rfl, rfl, d, 1 + i1, by rw [iv, Int.natCast_add]; rfl, _, tp1, by omega, by omega, fun H2 L b2' tp2 A1 l3 => ?_⟩⟩
  have b2 := ex1.but.trans b2'
  refine fun jd njd => ⟨_, rfl, small_line (by show 0 ≤ 1000; omega), fun pl npl rk nrk => ⟨_, rfl, L, rfl, by omega, fun tl ntl => ⟨upd_keep (upd_keep (upd_keep upd_same npl) nrk) ntl, ljk L pl rk tl, rfl, by show 4 ≤ 15; decide, ?_⟩⟩⟩
  have em : mergeK [] (ljk L pl rk tl) = ljk L pl rk tl := by kernel_rfl
  rw [em]
  have sG := sch (snw (snw (snw (snew njd (o := .dK [])) npl (o := .lst [])) nrk (o := .dT [])) ntl (o := .lst (L.map fun c => tv [c]))) njd (o := .dK (ljk L pl rk tl))
  have djd := tp2.ne_none njd
  have npl0 := none_back (snew njd (o := .dK [])) npl
  have nrk0 := none_back (snw (snew njd (o := .dK [])) npl (o := .lst [])) nrk
  have ntl0 := none_back (snw (snw (snew njd (o := .dK [])) npl (o := .lst [])) nrk (o := .dT [])) ntl
  have dpl := tp2.ne_none npl0
  have drk := tp2.ne_none nrk0
  have dtl := tp2.ne_none ntl0
  have cpl := tp2.nc_none npl0
  have crk := tp2.nc_none nrk0
  have ctl := tp2.nc_none ntl0
  have hjd := b2.back djd njd
  have hpl := b2.back dpl npl0
  have hrk := b2.back drk nrk0
  have htl := b2.back dtl ntl0
  have q1 : pl ≠ jd := (ne_of_none (upd_same : (upd H2 jd (.dK [])) jd = _) npl).symm
  have q2 : rk ≠ pl := (ne_of_none (upd_same : (upd (upd H2 jd (.dK [])) pl (.lst [])) pl = _) nrk).symm
  have q3 : tl ≠ rk := (ne_of_none (upd_same : (upd (upd (upd H2 jd (.dK [])) pl (.lst [])) rk (.dT [])) rk = _) ntl).symm
  have q4 : rk ≠ jd := (ne_of_none (upd_keep (upd_same : (upd H2 jd (.dK [])) jd = _) npl : (upd (upd H2 jd (.dK [])) pl (.lst [])) jd = _) nrk).symm
  have q5 : tl ≠ jd := (ne_of_none (upd_keep (upd_keep (upd_same : (upd H2 jd (.dK [])) jd = _) npl) nrk : (upd (upd (upd H2 jd (.dK [])) pl (.lst [])) rk (.dT [])) jd = _) ntl).symm
  have q6 : tl ≠ pl := (ne_of_none (upd_keep (upd_same : (upd (upd H2 jd (.dK [])) pl (.lst [])) pl = _) nrk : (upd (upd (upd H2 jd (.dK [])) pl (.lst [])) rk (.dT [])) pl = _) ntl).symm
  have J0 : LJ (hd d (upd (upd (upd (upd (upd H2 jd (.dK [])) pl (.lst [])) rk (.dT [])) tl (.lst (L.map fun c => tv [c]))) jd (.dK (ljk L pl rk tl)))) jd L [] pl rk tl := by
    refine ⟨hd_of djd upd_same, ⟨[], hd_of dpl ?_, .nil⟩, hd_of drk ?_, hd_of dtl ?_⟩
    · exact (upd_ne q1).trans (upd_keep (upd_keep upd_same nrk) ntl)
    · exact (upd_ne q4).trans (upd_keep upd_same ntl)
    · rw [txv_nil]; exact (upd_ne q5).trans upd_same
  have tp3 := tp2.same sG
  have b3 := b2.trans (but_same sG)
  generalize upd (upd (upd (upd (upd H2 jd (.dK [])) pl (.lst [])) rk (.dT [])) tl (.lst (L.map fun c => tv [c]))) jd (.dK (ljk L pl rk tl)) = H3 at *
  refine ⟨_, rfl, _, rfl, _, _, rfl, rfl, d, _, rfl, _, tp3, by decide, fun H4 i4 h4 ex4 tp4 => ⟨_, rfl, by omega, by omega, ?_⟩⟩
  refine for_range (lo := 0) (fun i σ H' => But1 d H H' ∧ Tp tc H' d ∧ ∃ (ps : List (Nat × Nat)) (v6 v7 v8 v9 v10 : Option V), σ = [some (.ref d), some (.int 3), some (.int 4), some (.int 5), some (tv L), some (.ref jd), v6, v7, v8, v9, v10] ∧ LJ (hd d H') jd L ps pl rk tl ∧ Jl L ps ∧ ps.length ≤ i)
    ⟨b3.trans ex4.but, tp4, [], _, _, _, _, _, rfl, J0.mono (hd_but ex4.but), Jl.nil A1 l3, by simp⟩ ?_ ?_
  · rintro i σ H5 hi ⟨b5, tp5, ps, v6, v7, v8, v9, v10, rfl, J, Jw, hpi⟩
    have hi4 : i < 4 := by omega
    have l0 : 0 < L.length := List.length_pos_iff.mpr A1.ne
    have hnp : np L ps = L.length + ps.length := rfl
    refine ⟨_, rfl, jd, _, rfl, lg_t (hd_sub _ _ J.d), _, _, rfl, .inl ⟨_, SqL.of (hd_sub _ _ J.t), rfl⟩, _, _, rfl, rfl, ?_⟩
    have en : V.int ((((txv L ps).length : Nat) : Int) - 1) = iv (np L ps - 1) := by rw [txv_len]; show V.int _ = V.int _; congr 1; omega
    dsimp only
    rw [en]
    have pk : ∀ {v : V} {l : List V}, v ∈ l → (∀ x ∈ l, ∃ z : Nat, z < np L ps ∧ x = iv z) → ∃ z : Nat, z < np L ps ∧ v = iv z := fun h f => f _ h
    refine ⟨_, rfl, _, rfl, _, rfl, _, rfl, _, _, rfl, rfl, d, _, rfl, _, tp5, by omega, fun H6 z6 h6 ex6 tp6 => ⟨small_line (by show 2 ≤ 1000; omega), fun l6 n6 => ?_⟩⟩
    refine ⟨d, .ref l6, _, rfl, _, tp6.same (snew n6), .inl ⟨l6, rfl, upd_same⟩, by simp, fun H7 u7 hu7 ex7 tp7 => ?_⟩
    obtain ⟨x, hx, rfl⟩ : ∃ z : Nat, z < np L ps ∧ u7 = iv z := by
      simp only [List.mem_cons, List.not_mem_nil, or_false] at hu7
      rcases hu7 with h | h
      · exact ⟨_, by omega, h⟩
      · exact ⟨z6, by omega, h⟩
    have b7 : But1 d H5 H7 := ex6.but.trans ((but_same (snew n6)).trans ex7.but)
    refine ⟨_, rfl, _, rfl, _, rfl, _, rfl, _, _, rfl, rfl, d, _, rfl, _, tp7, by omega, fun H8 z8 h8 ex8 tp8 => ?_⟩
    refine ⟨_, rfl, _, rfl, _, _, rfl, rfl, d, _, rfl, _, tp8, by omega, fun H9 z9 h9 ex9 tp9 => ⟨small_line (by show 3 ≤ 1000; omega), fun l9 n9 => ?_⟩⟩
    refine ⟨d, .ref l9, _, rfl, _, tp9.same (snew n9), .inl ⟨l9, rfl, upd_same⟩, by simp, fun HA uA huA exA tpA => ?_⟩
    obtain ⟨y, hy, rfl⟩ : ∃ z : Nat, z < np L ps ∧ uA = iv z := by
      simp only [List.mem_cons, List.not_mem_nil, or_false] at huA
      rcases huA with h | h | h
      · exact ⟨_, by omega, h⟩
      · exact ⟨z8, by omega, h⟩
      · exact ⟨z9, by omega, h⟩
    have bA : But1 d H5 HA := b7.trans (ex8.but.trans (ex9.but.trans ((but_same (snew n9)).trans exA.but)))
    have JA := J.mono (hd_but bA)
    have bHA := b5.trans bA
    have hjdA := hd_sub _ _ JA.d
    have htlA := hd_sub _ _ JA.t
    have t5x := Jw.t5 x hx
    have t5y := Jw.t5 y hy
    have hcl : ∀ z : Nat, (⟨(cod L (ltr L.length ps z)).toArray⟩ : Str).length = (ltr L.length ps z).length := fun z => by rw [tv_len, cod_len]
    refine ⟨_, rfl, jd, _, rfl, lg_t hjdA, _, rfl, tl, _, _, _, rfl, rfl, SqL.of htlA, at_g rfl (txv_get hx), ?_⟩
    refine ⟨_, rfl, jd, _, rfl, lg_t hjdA, _, rfl, tl, _, _, _, rfl, rfl, SqL.of htlA, at_g rfl (txv_get hy), _, _, rfl, rfl, small_line (by rw [hcl, hcl]; omega), ?_⟩
    rw [str_app, ← cod_app]
    have hlt : ∀ i ∈ ltr L.length ps x ++ ltr L.length ps y, i < L.length := fun i hi => by
      rcases List.mem_append.mp hi with q | q
      · exact Jw.pr.ltr_lt x hx i q
      · exact Jw.pr.ltr_lt y hy i q
    have hul : (ltr L.length ps x ++ ltr L.length ps y).length ≤ 10 := by rw [List.length_append]; omega
    have hcz : (⟨(cod L (ltr L.length ps x ++ ltr L.length ps y)).toArray⟩ : Str).length = (ltr L.length ps x ++ ltr L.length ps y).length := by rw [tv_len, cod_len]
    refine ⟨_, rfl, _, _, rfl, ⟨by rw [hcz]; exact small_line (by omega), rfl⟩, _, rfl, _, _, rfl, rfl, _, rfl, ?_⟩
    rw [hcz]
    refine ite2 (fun c5 => ?_) (fun _ => ⟨bHA, tpA, ps, _, _, _, _, _, rfl, JA, Jw, by omega⟩)
    have h5 : (ltr L.length ps x ++ ltr L.length ps y).length ≤ 5 := by have := of_decide_eq_true c5; omega
    have JA' := JA.mono hd_sub
    refine ⟨_, rfl, _, rfl, jd, L, ps, pl, rk, tl, _, rfl, JA', A1, Jw.pr.lt, Jw.pr.nodup, hlt, by omega, fun HB qB sB hqB => ?_⟩
    refine ⟨_, rfl, _, rfl, small_line (by show 2 ≤ 1000; omega), fun lC nC => ?_⟩
    have sC : Same HA (upd HB lC (.lst [iv x, iv y])) := snw sB nC
    have bC : But1 d H (upd HB lC (.lst [iv x, iv y])) := bHA.trans (but_same sC)
    have tpC := tpA.same sC
    have JC := JA.mono (hd_but (but_same (d := d) sC))
    refine ⟨qB, lC, (stg L.length ps (ltr L.length ps x ++ ltr L.length ps y)).map (fun n : Nat => (n : Int)), [(x : Int), (y : Int)], rfl, rfl, SqL.of (by rw [upd_keep hqB nC, ivs_int]), SqL.of upd_same, _, rfl, ?_⟩
    generalize upd HB lC (.lst [iv x, iv y]) = HC at *
    refine ite2 (fun ceq => ?_) (fun _ => ⟨bC, tpC, ps, _, _, _, _, _, rfl, JC, Jw, by omega⟩)
    have hst : stg L.length ps (ltr L.length ps x ++ ltr L.length ps y) = [x, y] := ivs_inj.mp (of_decide_eq_true ceq)
    have nin := Jw.nin hx hy hst
    obtain ⟨xs, hpx, hps⟩ := JC.p
    have hxl := Paired.length hps
    -- ranks
    refine ⟨_, rfl, jd, _, rfl, lg_p (hd_sub _ _ JC.d), _, _, rfl, .inl ⟨_, SqL.of (hd_sub _ _ hpx), rfl⟩, ?_⟩
    refine ⟨_, rfl, jd, _, rfl, lg_r (hd_sub _ _ JC.d), _, rfl, _, rfl, small_line (by show 2 ≤ 1000; omega), fun t1 m1 => ?_⟩
    have sD : Same HC (upd HC t1 (.tup [iv x, iv y])) := snew m1
    have JD := JC.mono (hd_but (but_same (d := d) sD))
    have hpD := hd_but (but_same (d := d) sD) _ _ hpx
    have hpsD := hps.mono (hd_but (but_same (d := d) sD))
    have bD := bC.trans (but_same sD)
    have tpD := tpC.same sD
    refine ⟨rk, _, rfl, DPut.t (k := kp (x, y)) (kvs := rkv ps 0) (hd_sub _ _ JD.r) upd_same (small1000 (by rw [rkv_len]; omega)), ?_⟩
    rw [hxl]
    rw [show V.int ((ps.length : Nat) : Int) = iv ps.length from rfl, rkv_put nin]
    generalize upd HC t1 (.tup [iv x, iv y]) = HD at *
    have tpE : Tp tc (upd HD rk (.dT (rkv (ps ++ [(x, y)]) 0))) d := tpD.own drk crk
    have bE := bD.sch hrk (o := .dT (rkv (ps ++ [(x, y)]) 0))
    have hjdE : (upd HD rk (.dT (rkv (ps ++ [(x, y)]) 0))) jd = some (.dK (ljk L pl rk tl)) := (upd_ne q4.symm).trans (hd_sub _ _ JD.d)
    have hplE : (upd HD rk (.dT (rkv (ps ++ [(x, y)]) 0))) pl = some (.lst xs) := (upd_ne q2.symm).trans (hd_sub _ _ hpD)
    have htlE : (upd HD rk (.dT (rkv (ps ++ [(x, y)]) 0))) tl = some (.lst (txv L ps)) := (upd_ne q3).trans (hd_sub _ _ JD.t)
    have hrkE : (upd HD rk (.dT (rkv (ps ++ [(x, y)]) 0))) rk = some (.dT (rkv (ps ++ [(x, y)]) 0)) := upd_same
    have hpsE : PairsV (hd d (upd HD rk (.dT (rkv (ps ++ [(x, y)]) 0)))) xs ps := paired_mono hpsD (by
      rintro v p ⟨c, rfl, hc⟩
      exact ⟨c, rfl, hd_of (hd_ne hc) ((upd_ne (unq (hd_sub _ _ hc) (hd_sub _ _ JD.r) (by intro e; cases e))).trans (hd_sub _ _ hc))⟩)
    generalize upd HD rk (.dT (rkv (ps ++ [(x, y)]) 0)) = HE at *
    -- pairs
    refine ⟨_, rfl, jd, _, rfl, lg_p hjdE, .inl ⟨rfl, _, SqL.of hplE⟩, _, rfl, _, rfl, small_line (by show 2 ≤ 1000; omega), fun t2 m2 => ?_⟩
    have sF : Same HE (upd HE t2 (.tup [iv x, iv y])) := snew m2
    have t2d := tpE.ne_none m2
    refine ⟨_, _, _, rfl, rfl, sF _ _ hplE, small1000 (by omega), ?_⟩
    have tpF : Tp tc (upd HE t2 (.tup [iv x, iv y])) d := tpE.same sF
    have htF : (upd HE t2 (.tup [iv x, iv y])) t2 = some (.tup [iv x, iv y]) := upd_same
    have bF := bE.trans (but_same sF)
    have hpsF := hpsE.mono (hd_but (but_same (d := d) sF))
    generalize upd HE t2 (.tup [iv x, iv y]) = HF at *
    have hplF := sF _ _ hplE
    have tpG : Tp tc (upd HF pl (.lst (xs ++ [V.ref t2]))) d := tpF.own dpl cpl
    have bG := bF.sch hpl (o := .lst (xs ++ [V.ref t2]))
    have hjdG : (upd HF pl (.lst (xs ++ [V.ref t2]))) jd = some (.dK (ljk L pl rk tl)) := (upd_ne q1.symm).trans (sF _ _ hjdE)
    have htlG : (upd HF pl (.lst (xs ++ [V.ref t2]))) tl = some (.lst (txv L ps)) := (upd_ne q6).trans (sF _ _ htlE)
    have hrkG : (upd HF pl (.lst (xs ++ [V.ref t2]))) rk = some (.dT (rkv (ps ++ [(x, y)]) 0)) := (upd_ne q2).trans (sF _ _ hrkE)
    have hplG : (upd HF pl (.lst (xs ++ [V.ref t2]))) pl = some (.lst (xs ++ [V.ref t2])) := upd_same
    have htG : (upd HF pl (.lst (xs ++ [V.ref t2]))) t2 = some (.tup [iv x, iv y]) := (upd_ne (unq htF hplF (by intro e; cases e))).trans htF
    have hpsG : PairsV (hd d (upd HF pl (.lst (xs ++ [V.ref t2])))) xs ps := paired_mono hpsF (by
      rintro v p ⟨c, rfl, hc⟩
      exact ⟨c, rfl, hd_of (hd_ne hc) ((upd_ne (unq (hd_sub _ _ hc) hplF (by intro e; cases e))).trans (hd_sub _ _ hc))⟩)
    generalize upd HF pl (.lst (xs ++ [V.ref t2])) = HG at *
    -- texts
    refine ⟨_, rfl, jd, _, rfl, lg_t hjdG, .inl ⟨rfl, _, SqL.of htlG⟩, _, rfl, _, _, _, rfl, rfl, htlG, small1000 (by rw [txv_len]; omega), ?_⟩
    refine ⟨bG.sch htl, tpG.own dtl ctl, ps ++ [(x, y)], _, _, _, _, _, rfl, ⟨hd_of djd ((upd_ne q5.symm).trans hjdG), ⟨xs ++ [V.ref t2], hd_of dpl ((upd_ne q6.symm).trans hplG), ?_⟩, hd_of drk ((upd_ne q3.symm).trans hrkG), hd_of dtl ?_⟩, Jw.snoc (by omega) hx hy hst h5, by simp; omega⟩
    · refine paired_app (paired_mono hpsG ?_) (.cons ⟨t2, rfl, hd_of t2d ((upd_ne (unq htG htlG (by intro e; cases e))).trans htG)⟩ .nil)
      rintro v p ⟨c, rfl, hc⟩
      exact ⟨c, rfl, hd_of (hd_ne hc) ((upd_ne (unq (hd_sub _ _ hc) htlG (by intro e; cases e))).trans (hd_sub _ _ hc))⟩
    · rw [txv_snoc]
      exact upd_same
  · rintro σ H5 ⟨b5, tp5, ps, v6, v7, v8, v9, v10, rfl, J, Jw, hpi⟩
    exact ⟨_, rfl, k _ jd L ps pl rk tl b5 tp5 J Jw⟩
theorem ok_law_joins (T : Bi K mg) (C1 : Has P w K mg base "_law_draw" 2 ["_law_tape_here", "_law_many"] sp_draw) (C2 : Has P w K mg base "_law_pick" 3 ["_law_tape_here", "_law_row"] sp_pick) (C3 : Has P w K mg base "_law_letters" 4 ["_law_tape_here", "_law_many"] sp_letters) (C4 : Has P w K mg base "_law_cut" 1 ["_law_joins_here", "_law_text_here"] sp_law_cut) (D : Df K mg "_law_joins" st_law_joins) :
    Has P w K mg base "_law_joins" 5 ["_law_tape_here", "_law_most", "_law_tries", "_law_size"] sp_law_joins :=
  D.ok sc_law_joins bd_law_joins (fun vs H Q E ⟨_, e, _⟩ => by rw [e]; rfl) (body_law_joins T C1 C2 C3 C4)
end
end Rj
set_option Elab.async false
set_option linter.all false
set_option maxRecDepth 100000
set_option maxHeartbeats 2000000
namespace Rj
open PySem PySem.Spec PyProof.Rows L2
theorem zi (n : Nat) : V.int (0 + (n : Int)) = iv n := by rw [Int.zero_add]
/-- the neighbors that may follow -/
def FlV (H : Hp) (L : List Nat) (ps : List (Nat × Nat)) (v : V) (l : Nat) : Prop := ∃ a S, v = .ref a ∧ H a = some (.lst (ivs S)) ∧ ∀ r ∈ S, r < np L ps ∧ stg L.length ps (ltr L.length ps l ++ ltr L.length ps r) = [l, r]
theorem FlV.mono {H H' : Hp} {L : List Nat} {ps : List (Nat × Nat)} {v : V} {l : Nat} (s : Same H H') (h : FlV H L ps v l) : FlV H' L ps v l := by
  obtain ⟨a, S, e, h, r⟩ := h
  exact ⟨a, S, e, s _ _ h, r⟩
section
variable {P : Program} {w : World} {K : PySem.W.Frag} {mg : Str → Option Value} {base : Heap} {CS : Addr}
def sp_follow : Sp := fun vs H Q _ => ∃ (jd : Addr) (L : List Nat) (ps : List (Nat × Nat)) (pl rk tl : Addr), vs = [.ref jd] ∧ LJ H jd L ps pl rk tl ∧ Jl L ps ∧
  ∀ H' fl xs, Same H H' → H' fl = some (.lst xs) → Paired (FlV H' L ps) xs (List.range (np L ps)) → Q (.ref fl) H'
abbrev st_law_follow : Stmt := top 48
theorem sc_law_follow : FnScope ["_law_joins_here", "_law_texts", "_law_follow_here", "_law_left", "_law_right"] ["_law_joins_here"] (defScope st_law_follow) := ⟨rfl, rfl, rfl, by decide +kernel, rfl, by decide +kernel, by decide +kernel⟩
theorem bd_law_follow : Bnd "_law_follow" "_law_follow" st_law_follow ["_law_joins_here"] := fun _ _ _ _ _ _ us hl => match us, hl with | [_], _ => rfl
-- 0:_law_joins_here 1:_law_texts 2:_law_follow_here 3:_law_left 4:_law_right
theorem body_law_follow (T : Bi K mg) (C_law_cut : Has P w K mg base "_law_cut" 1 ["_law_joins_here", "_law_text_here"] sp_law_cut) : Body P w K mg base "_law_follow" st_law_follow 1 ["_law_joins_here", "_law_texts", "_law_follow_here", "_law_left", "_law_right"] sp_follow := by
  have nd := sc_law_follow.nd
  intro f cdv A outer s H vs Q E hr h
  obtain ⟨jd, L, ps, pl, rk, tl, rfl, J, Jw, k⟩ := h
  refine ⟨_, (pss_cons (ps_set (i := 1) nd rfl (by first | exact .inl rfl | exact .inr rfl) (pe_dget (hu_of hr) (pv 0) pe_str (fun _ _ => rfl)))
    (pss_cons (ps_set (i := 2) nd rfl (by first | exact .inl rfl | exact .inr rfl) (pe_lst pa_nil))
    (pss_cons (ps_for PassesOwn.never rfl (pi_range1 (by rfl) T.range (pa_cons (pe_callB call_len (by rfl) T.len (by decide +kernel) (pa_cons (pv 1) pa_nil)) pa_nil)) (pg_name (i := 3) nd rfl (by first | exact .inl rfl | exact .inr rfl))
      (pss_one (ps_expr (pe_bm PySem.F.plainAttrs_list PySem.F.slot_list_append PySem.F.type_list_append mt_append (pv 2) (pa_cons (pe_lc (own := [("_law_right", 4)]) rfl nd (pi_range1 (by rfl) T.range (pa_cons (pe_callB call_len (by rfl) T.len (by decide +kernel) (pa_cons (pv 1) pa_nil)) pa_nil)) (blkOk_by (N := ["_law_joins_here", "_law_texts", "_law_follow_here", "_law_left", "_law_right"]) (sc := defScope (top 48)) (by decide +kernel)) (fun _ _ _ _ _ => (pg_name (i := 4) nd rfl (by first | exact .inl rfl | exact .inr rfl))) (fun _ _ _ _ _ => (pts_one (pt_cmpR (op_eqLK (K1 := K) (by rfl) hr.units) (c_fn C_law_cut hr (by rfl) (pa_cons (pv 0) (pa_cons (pe_op op_add_str (pe_ix (ix_listK (K1 := K) (by rfl)) (pv 1) (pv 3) (fun _ _ => rfl)) (pe_ix (ix_listK (K1 := K) (by rfl)) (pv 1) (pv 4) (fun _ _ => rfl))) pa_nil))) (pe_lst (pa_cons (pv 3) (pa_cons (pv 4) pa_nil))) (nomark _)))) (fun _ _ _ _ _ => (pv 4))) pa_nil)))))
    (pss_one (ps_ret (pv 2)))))), ?_⟩

  have l3 := Jw.l3
  have p4 := Jw.p4
  have hnp : np L ps = L.length + ps.length := rfl
  refine ⟨_, rfl, jd, _, rfl, lg_t J.d, ?_⟩
  refine ⟨small_line (by show 0 ≤ 1000; omega), fun fl nfl => ?_⟩
  have s0 := snew nfl (o := .lst [])
  refine ⟨_, rfl, _, _, rfl, .inl ⟨_, SqL.of (s0 _ _ J.t), rfl⟩, _, rfl, by rw [txv_len]; omega, by rw [txv_len]; omega, ?_⟩
  rw [txv_len]
  refine for_range (lo := 0) (fun i σ H' => Same H H' ∧ ∃ (xs : List V) (v3 v4 : Option V), σ = [some (.ref jd), some (.ref tl), some (.ref fl), v3, v4] ∧ H' fl = some (.lst xs) ∧ Paired (FlV (hd fl H') L ps) xs (List.range i) ∧ i ≤ np L ps) ⟨s0, [], _, _, rfl, upd_same, .nil, Nat.zero_le _⟩ ?_ ?_
  · rintro i σ H1 hi ⟨s1, xs, v3, v4, rfl, hf, hx, _⟩
    have hi' : i < np L ps := by omega
    have hxl := Paired.length hx
    rw [List.length_range] at hxl
    refine ⟨_, rfl, .inl ⟨rfl, _, SqL.of hf⟩, _, rfl, _, _, rfl, .inl ⟨_, SqL.of (s1 _ _ J.t), rfl⟩, _, rfl, by rw [txv_len]; omega, by rw [txv_len]; omega, fun D nD => ?_⟩
    rw [txv_len]
    refine lc_it (walk_range (lo := 0)) (fun j H' => Same H1 H' ∧ ∃ S : List Nat, H' D = some (.lst (ivs S)) ∧ S.length ≤ j ∧ ∀ r ∈ S, r < np L ps ∧ stg L.length ps (ltr L.length ps i ++ ltr L.length ps r) = [i, r]) ⟨snew nD, [], upd_same, Nat.le_refl _, fun _ h => (by cases h)⟩ (fun _ _ _ _ => True.intro) ?_ ?_
    · rintro r x H2 H2' hr ⟨s2, S, hD, hSl, hS⟩ ⟨rfl, rfl⟩
      have hr' : r < np L ps := by omega
      have sA := s1.trans s2
      have t5x := Jw.t5 i hi'
      have t5y := Jw.t5 r hr'
      have hcl : ∀ z : Nat, (⟨(cod L (ltr L.length ps z)).toArray⟩ : Str).length = (ltr L.length ps z).length := fun z => by rw [tv_len, cod_len]
      have hlt : ∀ q ∈ ltr L.length ps i ++ ltr L.length ps r, q < L.length := fun q hq => by
        rcases List.mem_append.mp hq with h | h
        · exact Jw.pr.ltr_lt i hi' q h
        · exact Jw.pr.ltr_lt r hr' q h
      have hul : (ltr L.length ps i ++ ltr L.length ps r).length ≤ 10 := by rw [List.length_append]; omega
      refine ⟨rfl, _, rfl, _, rfl, _, rfl, tl, _, _, _, rfl, rfl, SqL.of (sA _ _ J.t), at_g (by omega) (txv_get hi'), _, rfl, _, rfl, tl, _, _, _, rfl, rfl, SqL.of (sA _ _ J.t), at_g (by omega) (txv_get hr'), _, _, rfl, rfl, small_line (by rw [hcl, hcl]; omega), ?_⟩
      rw [str_app, ← cod_app]
      refine ⟨jd, L, ps, pl, rk, tl, _, rfl, J.mono sA, Jw.al, Jw.pr.lt, Jw.pr.nodup, hlt, by omega, fun H3 q s3 hq => ?_⟩
      refine ⟨_, rfl, _, rfl, small_line (by show 2 ≤ 1000; omega), fun l nl => ?_⟩
      refine ⟨q, l, (stg L.length ps (ltr L.length ps i ++ ltr L.length ps r)).map (fun n : Nat => (n : Int)), [(0 + (i : Int)), (0 + (r : Int))], rfl, rfl, SqL.of (by rw [upd_keep hq nl, ivs_int]), SqL.of upd_same, _, rfl, ?_⟩
      have s4 : Same H1 (upd H3 l (.lst [V.int (0 + (i : Int)), V.int (0 + (r : Int))])) := snw (s2.trans s3) nl
      have hD4 := (snw s3 nl (o := .lst [V.int (0 + (i : Int)), V.int (0 + (r : Int))])) _ _ hD
      refine ite2 (fun ceq => ?_) (fun _ => ⟨s4, S, hD4, by omega, hS⟩)
      have hst : stg L.length ps (ltr L.length ps i ++ ltr L.length ps r) = [i, r] := by
        have := of_decide_eq_true ceq
        rw [Int.zero_add, Int.zero_add] at this
        exact ivs_inj.mp this
      refine ⟨_, rfl, _, hD4, by rw [List.length_map]; exact small1000 (by omega), sch s4 nD, S ++ [r], ?_, by simp; omega, fun r2 h2 => ?_⟩
      · rw [upd_same]
        show some (HO.lst (ivs S ++ [V.int (0 + (r : Int))])) = _
        rw [zi]; simp [ivs]
      · rcases List.mem_append.mp h2 with h | h
        · exact hS r2 h
        · cases List.mem_singleton.mp h
          exact ⟨hr', hst⟩
    · rintro H2 ⟨s2, S, hD, hSl, hS⟩
      have hf2 := s2 _ _ hf
      refine ⟨_, _, _, rfl, rfl, hf2, small1000 (by omega), sch (s1.trans s2) nfl, xs ++ [V.ref D], _, _, rfl, upd_same, ?_, by omega⟩
      rw [List.range_succ]
      have hDf : D ≠ fl := fun e => by subst e; rw [hf] at nD; cases nD
      refine paired_app (paired_mono hx ?_) (.cons ⟨D, S, rfl, hd_of hDf ((upd_ne hDf).trans hD), hS⟩ .nil)
      rintro v l ⟨a, S', rfl, ha, h'⟩
      exact ⟨a, S', rfl, hd_of (hd_ne ha) ((upd_ne (hd_ne ha)).trans (s2 _ _ (hd_sub _ _ ha))), h'⟩
  · rintro σ H1 ⟨s1, xs, v3, v4, rfl, hf, hx, _⟩
    have : ((np L ps : Nat) : Int).toNat = np L ps := by omega
    rw [this] at hx
    exact ⟨_, rfl, k _ fl xs s1 hf (paired_mono hx fun _ _ => FlV.mono hd_sub)⟩
theorem ok_follow (T : Bi K mg) (C1 : Has P w K mg base "_law_cut" 1 ["_law_joins_here", "_law_text_here"] sp_law_cut) (D : Df K mg "_law_follow" st_law_follow) : Has P w K mg base "_law_follow" 2 ["_law_joins_here"] sp_follow :=
  D.ok sc_law_follow bd_law_follow (fun vs H Q E ⟨_, _, _, _, _, _, e, _⟩ => by rw [e]; rfl) (body_law_follow T C1)
end
end Rj
set_option Elab.async false
set_option linter.all false
set_option maxRecDepth 100000
set_option maxHeartbeats 4000000
namespace Rj
open PySem PySem.Spec PyProof.Rows L2
theorem in_ivs (p : Nat) (F : List Nat) : inV (iv p) (ivs F) = decide (p ∈ F) := by
  unfold inV
  rw [Bool.eq_iff_iff, List.any_eq_true, decide_eq_true_eq]
  constructor
  · rintro ⟨y, hy, h⟩
    obtain ⟨q, hq, rfl⟩ := List.mem_map.mp hy
    have h' : (q : Int) = (p : Int) := by simpa [eqV, iv] using h
    have : q = p := by omega
    subst this
    exact hq
  · intro h
    exact ⟨iv p, List.mem_map.mpr ⟨p, h, rfl⟩, by simp [eqV, iv]⟩
theorem ChsV.tups {H H' : Hp} {xs : List V} {cs : List Ch} (s : Tups H H') (h : ChsV H xs cs) : ChsV H' xs cs := paired_mono h fun _ _ ⟨t, e, h⟩ => ⟨t, e, s _ _ h⟩
theorem but_tups {c d : Addr} {H H' : Hp} (t : Tp c H d) (s : But1 d H H') : Tups H H' := fun a xs h => s a _ (by
  obtain ⟨ns, a', g, l, s1, t, h1, h2⟩ := t
  exact unq h h1 (by intro e; cases e)) h
theorem Tups.trans {H H1 H2 : Hp} (s : Tups H H1) (t : Tups H1 H2) : Tups H H2 := fun a xs h => t _ _ (s _ _ h)
theorem ins_perm {α : Type} (l : List α) (i : Nat) (c : α) : (l.take i ++ [c] ++ l.drop i).Perm (c :: l) := by
  have h1 : (l.take i ++ [c] ++ l.drop i).Perm ([c] ++ l.take i ++ l.drop i) := List.Perm.append_right _ List.perm_append_comm
  refine h1.trans ?_
  rw [List.append_assoc, List.take_append_drop]
  exact .refl _
theorem paired_tk {α β : Type} {F : α → β → Prop} : ∀ {xs : List α} {ys : List β} (i : Nat), Paired F xs ys → Paired F (xs.take i) (ys.take i) ∧ Paired F (xs.drop i) (ys.drop i)
  | _, _, 0, h => ⟨.nil, h⟩
  | _, _, _ + 1, .nil => ⟨.nil, .nil⟩
  | _, _, i + 1, .cons a r => ⟨.cons a (paired_tk i r).1, (paired_tk i r).2⟩
theorem paired_ins {α β : Type} {F : α → β → Prop} {xs : List α} {ys : List β} {x : α} {y : β} (i : Nat) (h : Paired F xs ys) (f : F x y) : Paired F (xs.take i ++ [x] ++ xs.drop i) (ys.take i ++ [y] ++ ys.drop i) :=
  paired_app (paired_app (paired_tk i h).1 (.cons f .nil)) (paired_tk i h).2
/-- the choices behind l, of the pieces S -/
def RwOk (L : List Nat) (ps : List (Nat × Nat)) (S : List Nat) (l : Option Nat) (cs : List Ch) : Prop := (cs.map (·.1)).Nodup ∧ ∀ c ∈ cs, (1 ≤ c.2 ∧ c.2 < 2 ^ 30) ∧ ∀ p, c.1 = some p → p ∈ S ∧ ∀ q, l = some q → q < p ∧ stg L.length ps (ltr L.length ps q ++ ltr L.length ps p) = [q, p]
theorem RwOk.ins {L : List Nat} {ps : List (Nat × Nat)} {S S' : List Nat} {l : Option Nat} {cs : List Ch} (h : RwOk L ps S l cs) (hs : ∀ p ∈ S, p ∈ S') {o : Option Nat} {z : Int} (i : Nat) (hn : o ∉ cs.map (·.1)) (hz : 1 ≤ z ∧ z < 2 ^ 30) (ho : ∀ p, o = some p → p ∈ S' ∧ ∀ q, l = some q → q < p ∧ stg L.length ps (ltr L.length ps q ++ ltr L.length ps p) = [q, p]) :
    RwOk L ps S' l (cs.take i ++ [(o, z)] ++ cs.drop i) := by
  have pm := ins_perm cs i ((o, z) : Ch)
  refine ⟨?_, fun c hc => ?_⟩
  · rw [(pm.map (·.1)).nodup_iff, List.map_cons, List.nodup_cons]
    exact ⟨hn, h.1⟩
  · rcases List.mem_cons.mp (pm.mem_iff.mp hc) with rfl | hc
    · exact ⟨hz, ho⟩
    · obtain ⟨h1, h2⟩ := h.2 c hc
      exact ⟨h1, fun p e => ⟨hs p (h2 p e).1, (h2 p e).2⟩⟩
theorem RwOk.more {L : List Nat} {ps : List (Nat × Nat)} {S S' : List Nat} {l : Option Nat} {cs : List Ch} (h : RwOk L ps S l cs) (hs : ∀ p ∈ S, p ∈ S') : RwOk L ps S' l cs :=
  ⟨h.1, fun c hc => ⟨(h.2 c hc).1, fun p e => ⟨hs p ((h.2 c hc).2 p e).1, ((h.2 c hc).2 p e).2⟩⟩⟩
/-- a row of the table -/
def TrV (H : Hp) (x : V) (e : Option Nat × List Ch) : Prop := ∃ t c ys, x = .ref t ∧ H t = some (.tup [oV e.1, .ref c]) ∧ H c = some (.lst ys) ∧ ChsV H ys e.2
theorem TrV.mono {H H' : Hp} {x : V} {e : Option Nat × List Ch} (s : Same H H') (h : TrV H x e) : TrV H' x e := by
  obtain ⟨t, c, ys, e, h, h2, h3⟩ := h
  exact ⟨t, c, ys, e, s _ _ h, s _ _ h2, h3.mono s⟩
/-- a whole table -/
structure TbOk (L : List Nat) (ps : List (Nat × Nat)) (S : List Nat) (T : List (Option Nat × List Ch)) : Prop where
  nd : S.Nodup
  lt : ∀ p ∈ S, p < np L ps
  ks : (T.map (·.1)).Perm (none :: S.map some)
  rw : ∀ e ∈ T, e.2 ≠ [] ∧ RwOk L ps S e.1 e.2
section
variable {P : Program} {w : World} {K : PySem.W.Frag} {mg : Str → Option Value} {base : Heap} {CS : Addr}
def sp_table : Sp := fun vs H Q _ => ∃ (d fl : Addr) (L : List Nat) (ps : List (Nat × Nat)) (fs : List V), vs = [.ref d, .ref fl, .bl true] ∧ ∃ tc, Tp tc H d ∧ Jl L ps ∧ hd d H fl = some (.lst fs) ∧ Paired (FlV (hd d H) L ps) fs (List.range (np L ps)) ∧
  ∀ H' tb xs S T, But1 d H H' → Tp tc H' d → hd d H' tb = some (.lst xs) → Paired (TrV (hd d H')) xs T → TbOk L ps S T → Q (.ref tb) H'
abbrev st_law_table : Stmt := top 52
theorem sc_law_table : FnScope ["_law_tape_here", "_law_follow_here", "_law_rising", "_law_chosen", "_law_piece", "_law_table_here", "_law_last", "_law_choices", "_law_may"] ["_law_tape_here", "_law_follow_here", "_law_rising"] (defScope st_law_table) := ⟨rfl, rfl, rfl, by decide +kernel, rfl, by decide +kernel, by decide +kernel⟩
theorem bd_law_table : Bnd "_law_table" "_law_table" st_law_table ["_law_tape_here", "_law_follow_here", "_law_rising"] := fun _ _ _ _ _ _ us hl => match us, hl with | [_, _, _], _ => rfl
-- 0:_law_tape_here 1:_law_follow_here 2:_law_rising 3:_law_chosen 4:_law_piece 5:_law_table_here 6:_law_last 7:_law_choices 8:_law_may
theorem body_law_table (T : Bi K mg) (C_law_draw : Has P w K mg base "_law_draw" 2 ["_law_tape_here", "_law_many"] sp_draw) (C_law_weight : Has P w K mg base "_law_weight" 4 ["_law_tape_here"] sp_weight) : Body P w K mg base "_law_table" st_law_table 4 ["_law_tape_here", "_law_follow_here", "_law_rising", "_law_chosen", "_law_piece", "_law_table_here", "_law_last", "_law_choices", "_law_may"] sp_table := by
  have nd := sc_law_table.nd
  intro f cdv A outer s H vs Q E hr h
  obtain ⟨d, fl, L, ps, fs, rfl, tc, tp, Jw, hfl, hfs, k⟩ := h
  refine ⟨_, (pss_cons (ps_setLc (i := 3) (own := [("_law_piece", 4)]) rfl nd rfl rfl (sw_true rfl rfl rfl (by decide +kernel)) (pi_range1 (by rfl) T.range (pa_cons (pe_callB call_len (by rfl) T.len (by decide +kernel) (pa_cons (pv 1) pa_nil)) pa_nil)) (blkOk_by (N := ["_law_tape_here", "_law_follow_here", "_law_rising", "_law_chosen", "_law_piece", "_law_table_here", "_law_last", "_law_choices", "_law_may"]) (sc := defScope (top 52)) (by decide +kernel)) (fun _ _ _ _ _ => (pg_name (i := 4) nd rfl (by first | exact .inl rfl | exact .inr rfl))) (fun _ _ _ _ _ => (pts_one (pt_cmpR op_gt (c_fn C_law_draw hr (by rfl) (pa_cons (pv 0) (pa_cons pe_int pa_nil))) pe_int (nomark _)))) (fun _ _ _ _ _ => (pv 4)))
    (pss_cons (ps_set (i := 5) nd rfl (by first | exact .inl rfl | exact .inr rfl) (pe_lst pa_nil))
    (pss_cons (ps_for PassesOwn.never rfl (pi_list (pe_op op_cat (pe_lst (pa_cons pe_non pa_nil)) (pv 3))) (pg_name (i := 6) nd rfl (by first | exact .inl rfl | exact .inr rfl))
      (pss_cons (ps_set (i := 7) nd rfl (by first | exact .inl rfl | exact .inr rfl) (pe_lst pa_nil))
      (pss_cons (ps_for PassesOwn.never rfl (pi_list (pv 3)) (pg_name (i := 4) nd rfl (by first | exact .inl rfl | exact .inr rfl))
        (C8.pss_cut (ps_set (i := 8) nd rfl (by first | exact .inl rfl | exact .inr rfl) (pe_or (pe_cmpR op_isN (pv 6) pe_non (nomark _)) (pe_one (pe_and (pe_cmpR op_in_seq (pv 4) (pe_ix ix_list (pv 1) (pv 6) (fun _ _ => rfl)) (by rfl)) (pe_one (pe_or (pe_cmpR op_gt (pv 4) (pv 6) (nomark _)) (pe_one (pe_not (pv 2)))))))))
        (pss_one (ps_if (PW.pt (pw_and (pt_val (pv 8)) (pw_and1 (pt_cmpR op_gt (c_fn C_law_draw hr (by rfl) (pa_cons (pv 0) (pa_cons pe_int pa_nil))) pe_int (nomark _)))))
          (pss_one (ps_expr (pe_bm PySem.F.plainAttrs_list PySem.F.slot_list_insert PySem.F.type_list_insert mt_insert (pv 7) (pa_cons (c_fn C_law_draw hr (by rfl) (pa_cons (pv 0) (pa_cons (pe_op op_add (pe_callB call_len (by rfl) T.len (by decide +kernel) (pa_cons (pv 7) pa_nil)) pe_int) pa_nil))) (pa_cons (pe_tup (pa_cons (pv 4) (pa_cons (c_fn C_law_weight hr (by rfl) (pa_cons (pv 0) pa_nil)) pa_nil))) pa_nil)))))
          pss_nil))))
      (C8.pss_cut (ps_if (PW.pt (pw_or (pt_cmpR (op_eqN hr.units) (pv 7) (pe_lst pa_nil) (nomark _)) (pw_or1 (pt_cmpR op_eq (c_fn C_law_draw hr (by rfl) (pa_cons (pv 0) (pa_cons pe_int pa_nil))) pe_int (nomark _)))))
        (pss_one (ps_expr (pe_bm PySem.F.plainAttrs_list PySem.F.slot_list_insert PySem.F.type_list_insert mt_insert (pv 7) (pa_cons (c_fn C_law_draw hr (by rfl) (pa_cons (pv 0) (pa_cons (pe_op op_add (pe_callB call_len (by rfl) T.len (by decide +kernel) (pa_cons (pv 7) pa_nil)) pe_int) pa_nil))) (pa_cons (pe_tup (pa_cons pe_non (pa_cons (c_fn C_law_weight hr (by rfl) (pa_cons (pv 0) pa_nil)) pa_nil))) pa_nil)))))
        pss_nil)
      (pss_one (ps_expr (pe_bm PySem.F.plainAttrs_list PySem.F.slot_list_insert PySem.F.type_list_insert mt_insert (pv 5) (pa_cons (c_fn C_law_draw hr (by rfl) (pa_cons (pv 0) (pa_cons (pe_op op_add (pe_callB call_len (by rfl) T.len (by decide +kernel) (pa_cons (pv 5) pa_nil)) pe_int) pa_nil))) (pa_cons (pe_tup (pa_cons (pv 6) (pa_cons (pv 7) pa_nil))) pa_nil)))))))))
    (pss_one (ps_ret (pv 5)))))), ?_⟩

  have l3 := Jw.l3
  have p4 := Jw.p4
  have hnp : np L ps = L.length + ps.length := rfl
  have hfsl := Paired.length hfs
  rw [List.length_range] at hfsl
  refine ⟨_, rfl, _, _, rfl, .inl ⟨_, SqL.of (hd_sub _ _ hfl), rfl⟩, _, rfl, by omega, by omega, fun D nD => ?_⟩
  rw [hfsl]
  have dD := tp.ne_none nD
  have cD := tp.nc_none nD
  refine lc_it (walk_range (lo := 0)) (fun j H' => But1 d H H' ∧ Tp tc H' d ∧ ∃ S : List Nat, H' D = some (.lst (ivs S)) ∧ S.Nodup ∧ S.length ≤ j ∧ ∀ r ∈ S, r < j) ⟨but_same (snew nD), tp.same (snew nD), [], upd_same, .nil, Nat.le_refl _, fun _ h => (by cases h)⟩ (fun _ _ _ _ => True.intro) ?_ ?_
  · rintro r x H1 H1' hr ⟨b1, tp1, S, hD, hS1, hS2, hS3⟩ ⟨rfl, rfl⟩
    refine ⟨rfl, _, rfl, d, _, rfl, _, tp1, by decide, fun H2 z hz ex2 tp2 => ⟨_, _, rfl, rfl, _, rfl, ?_⟩⟩
    have hD2 := (ex2 D dD).trans hD
    have b2 := b1.trans ex2.but
    refine ite2 (fun _ => ?_) (fun _ => ⟨b2, tp2, S, hD2, hS1, by omega, fun q hq => by have := hS3 q hq; omega⟩)
    refine ⟨_, rfl, _, hD2, by rw [List.length_map]; exact small1000 (by omega), b2.sch nD, tp2.own dD cD, S ++ [r], ?_, ?_, by simp; omega, fun q hq => ?_⟩
    · rw [upd_same]
      show some (HO.lst (ivs S ++ [V.int (0 + (r : Int))])) = _
      rw [zi]; simp [ivs]
    · rw [List.nodup_append]
      refine ⟨hS1, by simp, fun a ha b hb => ?_⟩
      cases List.mem_singleton.mp hb
      have := hS3 a ha
      omega
    · rcases List.mem_append.mp hq with h | h
      · have := hS3 q h; omega
      · cases List.mem_singleton.mp h; omega
  · rintro H1 ⟨b1, tp1, S, hD, hS1, hS2, hS3⟩
    refine ⟨small_line (by show 0 ≤ 1000; omega), fun tb ntb => ⟨small_line (by show 1 ≤ 1000; omega), fun l1 nl1 => ?_⟩⟩
    have dtb := tp1.ne_none ntb
    have ctb := tp1.nc_none ntb
    have sA : Same H1 (upd (upd H1 tb (.lst [])) l1 (.lst [.non])) := snw (snew ntb) nl1
    have hS3' : ∀ r ∈ S, r < np L ps := fun r hr => by have := hS3 r hr; omega
    refine ⟨_, rfl, l1, D, [.non], ivs S, rfl, rfl, upd_same, sA _ _ hD, by simp [ivs]; rw [sizeLine_eq]; omega, fun lx nlx => ?_⟩
    have sB := snw sA nlx (o := .lst ([V.non] ++ ivs S))
    have hlx : (upd (upd (upd H1 tb (.lst [])) l1 (.lst [.non])) lx (.lst ([V.non] ++ ivs S))) lx = some (.lst ((none :: S.map some).map oV)) := by
      rw [upd_same]; simp [oV, ivs, Function.comp_def]
    have htb0 : (upd (upd (upd H1 tb (.lst [])) l1 (.lst [.non])) lx (.lst ([V.non] ++ ivs S))) tb = some (.lst []) := upd_keep (upd_keep upd_same nl1) nlx
    have lxtb : lx ≠ tb := (ne_of_none (upd_keep (upd_same : (upd H1 tb (.lst [])) tb = _) nl1 : (upd (upd H1 tb (.lst [])) l1 (.lst [.non])) tb = _) nlx).symm
    have nlx1 : H1 lx = none := none_back sA nlx
    have dlx := tp1.ne_none nlx1
    have bB := b1.trans (but_same sB)
    have tpB := tp1.same sB
    have hDB := sB _ _ hD
    have htbH := b1.back dtb ntb
    have Dtb : D ≠ tb := fun e => by subst e; rw [hD] at ntb; cases ntb
    generalize upd (upd (upd H1 tb (.lst [])) l1 (.lst [.non])) lx (.lst ([V.non] ++ ivs S)) = HB at *
    have hksl : ((none :: S.map some).map oV).length = S.length + 1 := by simp
    have hksn : (none :: S.map some).Nodup := by
      rw [List.nodup_cons]
      refine ⟨by simp, ?_⟩
      rw [List.nodup_iff_pairwise_ne, List.pairwise_map]
      rw [List.nodup_iff_pairwise_ne] at hS1
      exact hS1.imp fun h e => h (Option.some.inj e)
    refine ⟨lx, rfl, ⟨_, SqL.of hlx⟩, for_list (xs := (none :: S.map some).map oV) (fun i σ H' => But1 d H H' ∧ Tp tc H' d ∧ H' D = some (.lst (ivs S)) ∧ H' lx = some (.lst ((none :: S.map some).map oV)) ∧ ∃ (xs : List V) (T : List (Option Nat × List Ch)) (v4 v6 v7 v8 : Option V), σ = [some (.ref d), some (.ref fl), some (.bl true), some (.ref D), v4, some (.ref tb), v6, v7, v8] ∧ H' tb = some (.lst xs) ∧ Paired (TrV (hd tb (hd d H'))) xs T ∧ (T.map (·.1)).Perm ((none :: S.map some).take i) ∧ ∀ e ∈ T, e.2 ≠ [] ∧ RwOk L ps S e.1 e.2)
      ⟨bB, tpB, hDB, hlx, [], [], _, _, _, _, rfl, htb0, .nil, by rw [List.take_zero]; exact .refl _, fun _ h => (by cases h)⟩ (fun _ _ _ _ q => SqL.of q.2.2.2.1) ?_ ?_⟩
    · rintro i x σ H2 hxi ⟨b2, tp2, hD2, hlx2, xs, T, v4, v6, v7, v8, rfl, htb2, hT, hks, hrw⟩
      rw [List.getElem?_map] at hxi
      obtain ⟨l, hl, rfl⟩ : ∃ l, (none :: S.map some)[i]? = some l ∧ x = oV l := by
        cases hl : (none :: S.map some)[i]? with
        | none => rw [hl] at hxi; cases hxi
        | some l => rw [hl] at hxi; cases hxi; exact ⟨l, rfl, rfl⟩
      have hlm := List.mem_of_getElem? hl
      have hil : i < S.length + 1 := by have := (List.getElem?_eq_some_iff.mp hl).1; simpa using this
      have hTl : T.length = i := by
        have := hks.length_eq
        rw [List.length_map, List.length_take] at this
        simp at this
        omega
      have hxl := Paired.length hT
      refine ⟨small_line (by show 0 ≤ 1000; omega), fun cl ncl => ?_⟩
      have dcl := tp2.ne_none ncl
      have ccl := tp2.nc_none ncl
      have cltb : cl ≠ tb := fun e => by subst e; rw [htb2] at ncl; cases ncl
      have clH := b2.back dcl ncl
      have s3 := snew ncl (o := .lst [])
      refine ⟨_, rfl, D, rfl, ⟨_, SqL.of (s3 _ _ hD2)⟩, for_list (xs := ivs S) (fun e σ H' => But1 d H2 H' ∧ Tp tc H' d ∧ ∃ (ys : List V) (cs : List Ch) (v4 v8 : Option V), σ = [some (.ref d), some (.ref fl), some (.bl true), some (.ref D), v4, some (.ref tb), some (oV l), some (.ref cl), v8] ∧ H' cl = some (.lst ys) ∧ ChsV H' ys cs ∧ RwOk L ps (S.take e) l cs ∧ (∀ c ∈ cs, c.1 ≠ none) ∧ cs.length ≤ e)
        ⟨but_same s3, tp2.same s3, [], [], _, _, rfl, upd_same, .nil, ⟨.nil, fun _ h => (by cases h)⟩, fun _ h => (by cases h), Nat.le_refl _⟩ (fun _ _ _ _ q => SqL.of (q.1 _ _ dD hD2)) ?_ ?_⟩
      · rintro e x σ H3 hxe ⟨b3, tp3, ys, cs, v4, v8, rfl, hcl, hys, hcs, hsome, hcsl⟩
        rw [List.getElem?_map] at hxe
        obtain ⟨p, hp, rfl⟩ : ∃ p, S[e]? = some p ∧ x = iv p := by
          cases hp : S[e]? with
          | none => rw [hp] at hxe; cases hxe
          | some p => rw [hp] at hxe; cases hxe; exact ⟨p, rfl, rfl⟩
        have hpS := List.mem_of_getElem? hp
        have heS := (List.getElem?_eq_some_iff.mp hp).1
        have b23 := b2.trans b3
        have hysl := Paired.length hys
        have tk1 : S.take (e + 1) = S.take e ++ [p] := take_snoc hp
        have hmore : ∀ q ∈ S.take e, q ∈ S.take (e + 1) := fun q hq => by rw [tk1]; exact List.mem_append_left _ hq
        refine ⟨fun σ H' => H' = H3 ∧ ∃ m : Bool, σ = [some (.ref d), some (.ref fl), some (.bl true), some (.ref D), some (iv p), some (.ref tb), some (oV l), some (.ref cl), some (.bl m)] ∧ (m = true → ∀ q, l = some q → q < p ∧ stg L.length ps (ltr L.length ps q ++ ltr L.length ps p) = [q, p]), ?_, ?_⟩
        · rcases l with _ | q
          · exact ⟨_, rfl, rfl, true, rfl, iteT ⟨rfl, true, rfl, fun _ q e => by cases e⟩⟩
          · have hqS : q ∈ S := by
              rcases List.mem_cons.mp hlm with h | h
              · cases h
              · obtain ⟨q', h1, h2⟩ := List.mem_map.mp h
                cases h2
                exact h1
            have hqn := hS3' q hqS
            have hfl3 := hd_sub _ _ (hd_but b23 _ _ hfl)
            have hq0 : (List.range (np L ps))[q]? = some q := by simp [hqn]
            obtain ⟨y, hy⟩ : ∃ y, fs[q]? = some y := ⟨fs[q], List.getElem?_eq_getElem (by omega)⟩
            obtain ⟨q2, hq2, hF⟩ := paired_get hfs hy
            rw [hq0] at hq2
            cases hq2
            obtain ⟨af, F, rfl, haf, hF2⟩ := hF.mono (hd_but b23)
            refine ⟨_, rfl, rfl, false, rfl, iteF ⟨_, rfl, _, rfl, _, rfl, fl, fs, _, _, rfl, rfl, SqL.of hfl3, at_g rfl hy, af, ivs F, rfl, .inl (SqL.of (hd_sub _ _ haf)), rfl, by rw [List.all_eq_true]; intro z hz; obtain ⟨n, _, rfl⟩ := List.mem_map.mp hz; rfl, ?_⟩⟩
            refine ⟨_, rfl, ?_⟩
            show if inV (iv p) (ivs F) = true then _ else _
            rw [in_ivs]
            refine ite2 (fun cin => ?_) (fun _ => ⟨rfl, false, rfl, fun h => by cases h⟩)
            have hst := (hF2 p (of_decide_eq_true cin)).2
            refine ⟨_, rfl, _, rfl, _, _, rfl, rfl, _, rfl, ?_⟩
            refine ite2 (fun cgt => ⟨rfl, true, rfl, fun _ q' e => by cases e; exact ⟨by have := of_decide_eq_true cgt; omega, hst⟩⟩) (fun _ => ⟨_, rfl, true, rfl, rfl, false, rfl, fun h => by cases h⟩)
        · rintro σ H3' ⟨rfl, m, rfl, hm⟩
          refine ⟨_, rfl, m, rfl, ?_⟩
          refine ite2 (fun cm => ?_) (fun _ => iteF ⟨b3, tp3, ys, cs, _, _, rfl, hcl, hys, hcs.more hmore, hsome, by omega⟩)
          have hm' := hm cm
          refine ⟨_, rfl, d, _, rfl, _, tp3, by decide, fun H4 z4 h4 ex4 tp4 => ⟨_, _, rfl, rfl, _, rfl, ?_⟩⟩
          have b4 := b3.trans ex4.but
          have hcl4 := ex4.but _ _ dcl hcl
          have hys4 := hys.tups (but_tups tp3 ex4.but)
          refine ite2 (fun _ => ?_) (fun _ => ⟨b4, tp4, ys, cs, _, _, rfl, hcl4, hys4, hcs.more hmore, hsome, by omega⟩)
          refine ⟨_, rfl, .inl ⟨rfl, _, SqL.of hcl4⟩, _, rfl, _, rfl, _, _, rfl, .inl ⟨_, SqL.of hcl4, rfl⟩, _, _, rfl, rfl, d, _, rfl, _, tp4, by omega, fun H6 z6 h6 ex6 tp6 => ?_⟩
          refine ⟨_, rfl, _, rfl, d, rfl, _, tp6, fun H7 z7 h71 h72 b7 tp7 => ⟨small_line (by show 2 ≤ 1000; omega), fun t7 nt7 => ?_⟩⟩
          have s8 := snew nt7 (o := .tup [iv p, iv z7])
          have b8 : But1 d H4 (upd H7 t7 (.tup [iv p, iv z7])) := ex6.but.trans (b7.trans (but_same s8))
          have tp8 := tp7.same s8
          have hcl8 := b8 _ _ dcl hcl4
          have hys8 := hys4.tups (but_tups tp4 b8)
          have ht8 : (upd H7 t7 (.tup [iv p, iv z7])) t7 = some (.tup [iv p, iv z7]) := upd_same
          generalize upd H7 t7 (.tup [iv p, iv z7]) = H8 at *
          refine ⟨cl, ys, z6, .ref t7, rfl, rfl, hcl8, small1000 (by omega), by omega, by omega, ?_⟩
          rw [Int.toNat_natCast]
          have tu := tups_lst (o := .lst (ys.take z6 ++ [V.ref t7] ++ ys.drop z6)) hcl8
          have hni : some p ∉ cs.map (·.1) := fun hm2 => by
            obtain ⟨c, hc, hce⟩ := List.mem_map.mp hm2
            have h1 := ((hcs.2 c hc).2 p hce).1
            obtain ⟨j, hj⟩ := List.getElem?_of_mem h1
            rw [List.getElem?_take] at hj
            split at hj
            · rename_i hje
              obtain ⟨a1, a2⟩ := List.getElem?_eq_some_iff.mp hj
              obtain ⟨a3, a4⟩ := List.getElem?_eq_some_iff.mp hp
              rw [List.nodup_iff_pairwise_ne, List.pairwise_iff_getElem] at hS1
              exact hS1 j e a1 a3 hje (a2.trans a4.symm)
            · cases hj
          refine ⟨(b4.trans b8).sch ncl, tp8.own dcl ccl, _, cs.take z6 ++ [(some p, (z7 : Int))] ++ cs.drop z6, _, _, rfl, upd_same, paired_ins z6 (hys8.tups tu) ⟨t7, rfl, tu _ _ ht8⟩, hcs.ins hmore z6 hni ⟨by omega, by omega⟩ (fun p' e' => by cases e'; exact ⟨by rw [tk1]; simp, hm'⟩), fun c hc => ?_, ?_⟩
          · rcases List.mem_cons.mp ((ins_perm cs z6 _).mem_iff.mp hc) with rfl | hc
            · simp
            · exact hsome c hc
          · rw [(ins_perm cs z6 _).length_eq, List.length_cons]
            omega
      · rintro σ H3 ⟨b3, tp3, ys, cs, v4, v8, rfl, hcl, hys, hcs, hsome, hcsl⟩
        rw [List.length_map, List.take_length] at hcs
        rw [List.length_map] at hcsl
        have hysl := Paired.length hys
        have hni : none ∉ cs.map (·.1) := fun hm2 => by
          obtain ⟨c, hc, hce⟩ := List.mem_map.mp hm2
          exact hsome c hc hce
        refine ⟨fun σ H' => But1 d H2 H' ∧ Tp tc H' d ∧ ∃ (ys : List V) (cs : List Ch) (v4 v8 : Option V), σ = [some (.ref d), some (.ref fl), some (.bl true), some (.ref D), v4, some (.ref tb), some (oV l), some (.ref cl), v8] ∧ H' cl = some (.lst ys) ∧ ChsV H' ys cs ∧ RwOk L ps S l cs ∧ cs ≠ [] ∧ cs.length ≤ S.length + 1, ?_, ?_⟩
        · refine ⟨_, rfl, small_line (by show 0 ≤ 1000; omega), fun eb neb => ?_⟩
          have s4 := snew neb (o := .lst [])
          have b4 : But1 d H2 (upd H3 eb (.lst [])) := b3.trans (but_same s4)
          have tp4 := tp3.same s4
          have hcl4 := s4 _ _ hcl
          have hys4 := hys.mono s4
          have heb : (upd H3 eb (.lst [])) eb = some (.lst []) := upd_same
          generalize upd H3 eb (.lst []) = H4 at *
          refine ⟨cl, eb, ys, cs, rfl, rfl, SqL.of hcl4, SqL.of heb, hys4, _, rfl, ?_⟩
          by_cases hnil : cs = []
          · have e0 : cs.isEmpty = true := by rw [hnil]; rfl
            rw [e0]
            refine iteT (iteT ?_)
            refine ⟨_, rfl, .inl ⟨rfl, _, SqL.of hcl4⟩, _, rfl, _, rfl, _, _, rfl, .inl ⟨_, SqL.of hcl4, rfl⟩, _, _, rfl, rfl, d, _, rfl, _, tp4, by omega, fun H6 z6 h6 ex6 tp6 => ?_⟩
            refine ⟨_, rfl, d, rfl, _, tp6, fun H7 z7 h71 h72 b7 tp7 => ⟨small_line (by show 2 ≤ 1000; omega), fun t7 nt7 => ?_⟩⟩
            have s8 := snew nt7 (o := .tup [.non, iv z7])
            have b8 : But1 d H4 (upd H7 t7 (.tup [.non, iv z7])) := ex6.but.trans (b7.trans (but_same s8))
            have tp8 := tp7.same s8
            have hcl8 := b8 _ _ dcl hcl4
            have hys8 := hys4.tups (but_tups tp4 b8)
            have ht8 : (upd H7 t7 (.tup [.non, iv z7])) t7 = some (.tup [.non, iv z7]) := upd_same
            generalize upd H7 t7 (.tup [.non, iv z7]) = H8 at *
            refine ⟨cl, ys, z6, .ref t7, rfl, rfl, hcl8, small1000 (by omega), by omega, by omega, ?_⟩
            rw [Int.toNat_natCast]
            have tu := tups_lst (o := .lst (ys.take z6 ++ [V.ref t7] ++ ys.drop z6)) hcl8
            exact ⟨(b4.trans b8).sch ncl, tp8.own dcl ccl, _, cs.take z6 ++ [(none, (z7 : Int))] ++ cs.drop z6, _, _, rfl, upd_same, paired_ins z6 (hys8.tups tu) ⟨t7, rfl, tu _ _ ht8⟩, hcs.ins (fun _ h => h) z6 hni ⟨by omega, by omega⟩ (fun p' e' => by cases e'), by simp, by rw [(ins_perm cs z6 _).length_eq, List.length_cons]; omega⟩
          · have e0 : cs.isEmpty = false := by cases cs with
              | nil => exact absurd rfl hnil
              | cons => rfl
            rw [e0]
            refine iteF ⟨_, rfl, d, _, rfl, _, tp4, by decide, fun H5 z5 h5 ex5 tp5 => ⟨rfl, _, rfl, ?_⟩⟩
            have b5 := b4.trans ex5.but
            have hcl5 := ex5.but _ _ dcl hcl4
            have hys5 := hys4.tups (but_tups tp4 ex5.but)
            refine ite2 (fun _ => ?_) (fun _ => ⟨b5, tp5, ys, cs, _, _, rfl, hcl5, hys5, hcs, hnil, by omega⟩)
            refine ⟨_, rfl, .inl ⟨rfl, _, SqL.of hcl5⟩, _, rfl, _, rfl, _, _, rfl, .inl ⟨_, SqL.of hcl5, rfl⟩, _, _, rfl, rfl, d, _, rfl, _, tp5, by omega, fun H6 z6 h6 ex6 tp6 => ?_⟩
            refine ⟨_, rfl, d, rfl, _, tp6, fun H7 z7 h71 h72 b7 tp7 => ⟨small_line (by show 2 ≤ 1000; omega), fun t7 nt7 => ?_⟩⟩
            have s8 := snew nt7 (o := .tup [.non, iv z7])
            have b8 : But1 d H5 (upd H7 t7 (.tup [.non, iv z7])) := ex6.but.trans (b7.trans (but_same s8))
            have tp8 := tp7.same s8
            have hcl8 := b8 _ _ dcl hcl5
            have hys8 := hys5.tups (but_tups tp5 b8)
            have ht8 : (upd H7 t7 (.tup [.non, iv z7])) t7 = some (.tup [.non, iv z7]) := upd_same
            generalize upd H7 t7 (.tup [.non, iv z7]) = H8 at *
            refine ⟨cl, ys, z6, .ref t7, rfl, rfl, hcl8, small1000 (by omega), by omega, by omega, ?_⟩
            rw [Int.toNat_natCast]
            have tu := tups_lst (o := .lst (ys.take z6 ++ [V.ref t7] ++ ys.drop z6)) hcl8
            exact ⟨(b5.trans b8).sch ncl, tp8.own dcl ccl, _, cs.take z6 ++ [(none, (z7 : Int))] ++ cs.drop z6, _, _, rfl, upd_same, paired_ins z6 (hys8.tups tu) ⟨t7, rfl, tu _ _ ht8⟩, hcs.ins (fun _ h => h) z6 hni ⟨by omega, by omega⟩ (fun p' e' => by cases e'), by simp, by rw [(ins_perm cs z6 _).length_eq, List.length_cons]; omega⟩
        · rintro σ H4 ⟨b4, tp4, ys, cs, v4, v8, rfl, hcl4, hys4, hcs, hne, hcl5⟩
          have htb4 := b4 _ _ dtb htb2
          refine ⟨_, rfl, .inl ⟨rfl, _, SqL.of htb4⟩, _, rfl, _, rfl, _, _, rfl, .inl ⟨_, SqL.of htb4, rfl⟩, _, _, rfl, rfl, d, _, rfl, _, tp4, by omega, fun H6 z6 h6 ex6 tp6 => ?_⟩
          refine ⟨_, rfl, _, rfl, small_line (by show 2 ≤ 1000; omega), fun t7 nt7 => ?_⟩
          have s8 := snew nt7 (o := .tup [oV l, .ref cl])
          have t7d := tp6.ne_none nt7
          have b8 : But1 d H4 (upd H6 t7 (.tup [oV l, .ref cl])) := ex6.but.trans (but_same s8)
          have tp8 := tp6.same s8
          have hcl8 := b8 _ _ dcl hcl4
          have hys8 := hys4.tups (but_tups tp4 b8)
          have htb8 := b8 _ _ dtb htb4
          have b28 := b4.trans b8
          have ht8 : (upd H6 t7 (.tup [oV l, .ref cl])) t7 = some (.tup [oV l, .ref cl]) := upd_same
          generalize upd H6 t7 (.tup [oV l, .ref cl]) = H8 at *
          refine ⟨tb, xs, z6, .ref t7, rfl, rfl, htb8, small1000 (by omega), by omega, by omega, ?_⟩
          rw [Int.toNat_natCast]
          have t7tb : t7 ≠ tb := unq ht8 htb8 (by intro e; cases e)
          have up : Same (hd tb (hd d H8)) (hd tb (hd d (upd H8 tb (.lst (xs.take z6 ++ [V.ref t7] ++ xs.drop z6))))) := fun b o h => hd_of (hd_ne h) (hd_of (hd_ne (hd_sub _ _ h)) ((upd_ne (hd_ne h)).trans (hd_sub _ _ (hd_sub _ _ h))))
          have mv : Same (hd tb (hd d H2)) (hd tb (hd d H8)) := fun b o h => hd_of (hd_ne h) (hd_but b28 _ _ (hd_sub _ _ h))
          have chd : ∀ {a : Addr} {o : HO}, H8 a = some o → a ≠ d → a ≠ tb → hd tb (hd d H8) a = some o := fun {a o} h h1 h2 => hd_of h2 (hd_of h1 h)
          have hchs : ChsV (hd tb (hd d H8)) ys cs := paired_mono hys8 (by
            rintro v c ⟨t, rfl, ht⟩
            refine ⟨t, rfl, chd ht ?_ (unq ht htb8 (by intro e; cases e))⟩
            obtain ⟨ns, a, g, l', s1, t', h1, h2⟩ := tp8
            exact unq ht h1 (by intro e; cases e))
          have hrow : TrV (hd tb (hd d H8)) (.ref t7) (l, cs) := ⟨t7, cl, ys, rfl, chd ht8 t7d t7tb, chd hcl8 dcl cltb, hchs⟩
          refine ⟨(b2.trans b28).sch htbH, tp8.own dtb ctb, (upd_ne Dtb).trans (b28 _ _ dD hD2), (upd_ne lxtb).trans (b28 _ _ dlx hlx2), _, T.take z6 ++ [(l, cs)] ++ T.drop z6, _, _, _, _, rfl, upd_same, paired_mono (paired_ins z6 (paired_mono hT fun _ _ => TrV.mono mv) hrow) (fun _ _ => TrV.mono up), ?_, fun e he => ?_⟩
          · rw [take_snoc hl]
            refine ((ins_perm T z6 (l, cs)).map (·.1)).trans ?_
            rw [List.map_cons]
            refine (List.Perm.cons _ hks).trans ?_
            exact (List.perm_append_comm (l₁ := [l]) (l₂ := (none :: S.map some).take i))
          · rcases List.mem_cons.mp ((ins_perm T z6 _).mem_iff.mp he) with rfl | he
            · exact ⟨hne, hcs⟩
            · exact hrw e he
    · rintro σ H2 ⟨b2, tp2, hD2, hlx2, xs, T, v4, v6, v7, v8, rfl, htb2, hT, hks, hrw⟩
      rw [List.length_map, List.take_length] at hks
      exact ⟨_, rfl, k _ tb xs S T b2 tp2 (hd_of dtb htb2) (paired_mono hT fun _ _ => TrV.mono hd_sub) ⟨hS1, hS3', hks, hrw⟩⟩
theorem ok_table (T : Bi K mg) (C1 : Has P w K mg base "_law_draw" 2 ["_law_tape_here", "_law_many"] sp_draw) (C2 : Has P w K mg base "_law_weight" 4 ["_law_tape_here"] sp_weight) (D : Df K mg "_law_table" st_law_table) : Has P w K mg base "_law_table" 5 ["_law_tape_here", "_law_follow_here", "_law_rising"] sp_table :=
  D.ok sc_law_table bd_law_table (fun vs H Q E ⟨_, _, _, _, _, e, _⟩ => by rw [e]; rfl) (body_law_table T C1 C2)
end
end Rj
set_option Elab.async false
set_option linter.all false
set_option maxRecDepth 100000
set_option maxHeartbeats 4000000
namespace Rj
open PySem PySem.Spec PyProof.Rows L2
/-! ### the model of a table -/
def wtT (T : List (Option Nat × List Ch)) (l : Option Nat) : List Ch := ((T.find? fun e => decide (e.1 = l)).map (·.2)).getD []
def mkM (L : List Nat) (ps : List (Nat × Nat)) (T : List (Option Nat × List Ch)) : Mdl := ⟨T.map (·.1), wtT T, fun p => cod L (ltr L.length ps p), np L ps⟩
theorem wtT_of : ∀ {T : List (Option Nat × List Ch)} {l : Option Nat} {cs : List Ch}, (T.map (·.1)).Nodup → (l, cs) ∈ T → wtT T l = cs
  | [], _, _, _, h => by cases h
  | e :: T, l, cs, hn, h => by
    rw [List.map_cons, List.nodup_cons] at hn
    unfold wtT
    rw [List.find?_cons]
    by_cases q : e.1 = l
    · rw [decide_eq_true q]
      rcases List.mem_cons.mp h with rfl | h
      · rfl
      · exact absurd (List.mem_map.mpr ⟨_, h, q.symm⟩) hn.1
    · rw [decide_eq_false q]
      rcases List.mem_cons.mp h with rfl | h
      · exact absurd rfl q
      · exact wtT_of hn.2 h
theorem sumf_bound : ∀ {cs : List Ch} {B : Int}, 0 ≤ B → (∀ c ∈ cs, c.2 ≤ B) → sumf (·.2) cs ≤ B * cs.length
  | [], B, _, _ => by simp [sumf_nil]
  | c :: cs, B, hB, h => by
    rw [sumf_cons]
    have h1 := h c (List.mem_cons_self ..)
    have h2 := sumf_bound (cs := cs) hB fun x hx => h x (List.mem_cons_of_mem _ hx)
    rw [List.length_cons, Int.natCast_add, Int.mul_add]
    simp only [Int.natCast_one, Int.mul_one]
    omega
theorem prod_bound : ∀ {l : List Int} {k : Nat}, (∀ a ∈ l, 0 < a ∧ a ≤ 2 ^ k) → prod l ≤ 2 ^ (k * l.length)
  | [], k, _ => by show (1 : Int) ≤ 2 ^ (k * 0); simp
  | a :: l, k, h => by
    obtain ⟨h1, h2⟩ := h a (List.mem_cons_self ..)
    have h3 := prod_bound (l := l) fun x hx => h x (List.mem_cons_of_mem _ hx)
    have h4 : 0 < prod l := prod_pos fun x hx => (h x (List.mem_cons_of_mem _ hx)).1
    show a * prod l ≤ 2 ^ (k * (l.length + 1))
    rw [Nat.mul_add, Nat.mul_one, Int.pow_add, Int.mul_comm]
    exact Int.mul_le_mul h3 h2 (by omega) (by omega)
theorem TbOk.nodup {L : List Nat} {ps : List (Nat × Nat)} {S : List Nat} {T : List (Option Nat × List Ch)} (t : TbOk L ps S T) : (T.map (·.1)).Nodup := by
  rw [t.ks.nodup_iff, List.nodup_cons]
  refine ⟨by simp, ?_⟩
  have := t.nd
  rw [List.nodup_iff_pairwise_ne] at this ⊢
  rw [List.pairwise_map]
  exact this.imp fun h e => h (Option.some.inj e)
theorem nodup_len {S : List Nat} {n : Nat} (h : S.Nodup) (hl : ∀ p ∈ S, p < n) : S.length ≤ n := by
  have := (List.Nodup.length_le_of_subset h (l₂ := List.range n) fun p hp => List.mem_range.mpr (hl p hp))
  simpa using this
theorem TbOk.mw {L : List Nat} {ps : List (Nat × Nat)} {S : List Nat} {T : List (Option Nat × List Ch)} (Jw : Jl L ps) (t : TbOk L ps S T) : Mw L ps (mkM L ps T) := by
  have hnd := t.nodup
  have h7 : np L ps ≤ 7 := by have := Jw.l3; have := Jw.p4; show L.length + ps.length ≤ 7; omega
  have hSl := nodup_len t.nd t.lt
  have mem : ∀ {l : Option Nat}, l ∈ T.map (·.1) → ∃ cs, (l, cs) ∈ T ∧ wtT T l = cs := fun {l} h => by
    obtain ⟨⟨l', cs⟩, h1, rfl⟩ := List.mem_map.mp h
    exact ⟨cs, h1, wtT_of hnd h1⟩
  have key : ∀ {l : Option Nat}, l ∈ T.map (·.1) ↔ l = none ∨ ∃ p ∈ S, l = some p := fun {l} => by
    rw [t.ks.mem_iff, List.mem_cons, List.mem_map]
    constructor
    · rintro (h | ⟨p, h1, h2⟩)
      · exact .inl h
      · exact .inr ⟨p, h1, h2.symm⟩
    · rintro (h | ⟨p, h1, h2⟩)
      · exact .inl h
      · exact .inr ⟨p, h1, h2.symm⟩
  have lw : ∀ l ∈ T.map (·.1), (wtT T l).length ≤ 8 := fun l hl => by
    obtain ⟨cs, h1, h2⟩ := mem hl
    rw [h2]
    obtain ⟨_, h3, h4⟩ := t.rw _ h1
    have hs : ∀ o ∈ cs.map (·.1), o ∈ none :: S.map some := fun o ho => by
      obtain ⟨c, hc, rfl⟩ := List.mem_map.mp ho
      cases e : c.1 with
      | none => exact List.mem_cons_self ..
      | some p => exact List.mem_cons_of_mem _ (List.mem_map.mpr ⟨p, ((h4 c hc).2 p e).1, rfl⟩)
    have := List.Nodup.length_le_of_subset h3 hs
    simp at this
    omega
  have ok : (mkM L ps T).Ok := by
    refine ⟨hnd, key.mpr (.inl rfl), fun p hp => ?_, fun l hl c hc => ?_, fun l hl => ?_, fun l hl p v hc => ?_, fun l hl => ?_, fun p hp => ?_⟩
    · rcases key.mp hp with h | ⟨q, hq, h⟩
      · cases h
      · cases h; exact t.lt p hq
    · obtain ⟨cs, h1, h2⟩ := mem hl
      have hc' : c ∈ wtT T l := hc
      rw [h2] at hc'
      exact ((t.rw _ h1).2.2 c hc').1.1
    · obtain ⟨cs, h1, h2⟩ := mem hl
      show wtT T l ≠ []
      rw [h2]
      exact (t.rw _ h1).1
    · obtain ⟨cs, h1, h2⟩ := mem hl
      have hc' : (some p, v) ∈ wtT T l := hc
      rw [h2] at hc'
      obtain ⟨_, h4⟩ := (t.rw _ h1).2.2 _ hc'
      obtain ⟨h5, h6⟩ := h4 p rfl
      refine ⟨key.mpr (.inr ⟨p, h5, rfl⟩), ?_⟩
      cases l with
      | none => simp [rk]
      | some q => have := (h6 q rfl).1; simp [rk]; omega
    · obtain ⟨cs, h1, h2⟩ := mem hl
      show ((wtT T l).map (·.1)).Nodup
      rw [h2]
      exact (t.rw _ h1).2.1
    · intro e
      have h0 := congrArg List.length e
      rw [show (mkM L ps T).txt p = cod L (ltr L.length ps p) from rfl, cod_len] at h0
      exact Jw.pr.ltr_ne p hp (List.length_eq_zero_iff.mp h0)
  have wB : ∀ l ∈ T.map (·.1), (mkM L ps T).W l ≤ 2 ^ 33 := fun l hl => by
    obtain ⟨cs, h1, h2⟩ := mem hl
    have h8 := lw l hl
    show sumf (·.2) (wtT T l) ≤ _
    have := sumf_bound (cs := wtT T l) (B := 2 ^ 30) (by decide) fun c hc => by
      rw [h2] at hc
      have := ((t.rw _ h1).2.2 c hc).1.2
      omega
    omega
  have hkl : (T.map (·.1)).length ≤ 8 := by
    have := t.ks.length_eq
    simp at this ⊢
    omega
  refine ⟨Jw, rfl, fun _ _ => rfl, ok, fun l hl => by have := wB l hl; omega, ?_, hkl, lw, fun p q v hp hc => ?_⟩
  · have h := prod_bound (l := (T.map (·.1)).map (mkM L ps T).W) (k := 33) fun a ha => by
      obtain ⟨l, hl, rfl⟩ := List.mem_map.mp ha
      exact ⟨ok.Wpos hl, wB l hl⟩
    have h2 : (2 : Int) ^ (33 * ((T.map (·.1)).map (mkM L ps T).W).length) ≤ 2 ^ 264 := by
      rw [List.length_map]
      have := Nat.pow_le_pow_right (n := 2) (by decide) (show 33 * (T.map (·.1)).length ≤ 264 by omega)
      exact_mod_cast this
    have h3 : (2 : Int) ^ 264 < 2 ^ 400 := by decide
    show prod _ < _
    exact Int.lt_of_le_of_lt (Int.le_trans h h2) h3
  · obtain ⟨cs, h1, h2⟩ := mem hp
    have hc' : (some q, v) ∈ wtT T (some p) := hc
    rw [h2] at hc'
    obtain ⟨_, h4⟩ := (t.rw _ h1).2.2 _ hc'
    obtain ⟨h5, h6⟩ := h4 q rfl
    have hpn : p < np L ps := by
      rcases key.mp hp with h | ⟨r, hr, h⟩
      · cases h
      · cases h; exact t.lt p hr
    refine Jw.pr.nc_of (Nat.le_refl _) hpn (t.lt q h5) ?_
    rw [List.take_length]
    exact (h6 p rfl).2
/-! ### the weights, by hand -/
def RwD (P : Program) (w : World) (H : Hp) (v : V) (cs : List Ch) : Prop := ∃ t, v = .ref t ∧ H t = some (DN P w t (cs.map fun c => (oK c.1, V.int c.2)))
theorem RwD.mono {P : Program} {w : World} {H H' : Hp} {v : V} {cs : List Ch} (s : Same H H') (h : RwD P w H v cs) : RwD P w H' v cs := by
  obtain ⟨t, e, h⟩ := h
  exact ⟨t, e, s _ _ h⟩
def WtV (P : Program) (w : World) (H : Hp) (kv : NKey × V) (e : Option Nat × List Ch) : Prop := kv.1 = oK e.1 ∧ RwD P w H kv.2 e.2
theorem WtV.mono {P : Program} {w : World} {H H' : Hp} {kv : NKey × V} {e : Option Nat × List Ch} (s : Same H H') (h : WtV P w H kv e) : WtV P w H' kv e := ⟨h.1, h.2.mono s⟩
theorem dn_ne {P : Program} {w : World} {a : Addr} {kvs : List (NKey × V)} {o : HO} (h : ∀ f, o ≠ .ext f) : DN P w a kvs ≠ o := fun e => h _ e.symm
theorem nval_none {kvs : List (NKey × V)} {k : NKey} (h : k ∉ kvs.map (·.1)) : valV kvs k = none := by
  induction kvs with
  | nil => rfl
  | cons p r ih =>
    rw [List.map_cons, List.mem_cons, not_or] at h
    rw [valV_neg (fun e => h.1 e.symm)]
    exact ih h.2
section
variable {P : Program} {w : World} {K : PySem.W.Frag} {mg : Str → Option Value} {base : Heap} {CS : Addr}
def sp_weights (P : Program) (w : World) : Sp := fun vs H Q _ => ∃ (tb : Addr) (xs : List V) (T : List (Option Nat × List Ch)), vs = [.ref tb] ∧ H tb = some (.lst xs) ∧ Paired (TrV H) xs T ∧ (T.map (·.1)).Nodup ∧ (∀ e ∈ T, (e.2.map (·.1)).Nodup ∧ e.2.length ≤ 8) ∧ T.length ≤ 8 ∧
  ∀ H' wd kvs, Same H H' → H' wd = some (DN P w wd kvs) → Paired (WtV P w (hd wd H')) kvs T → Q (.ref wd) H'
abbrev st_law_weights : Stmt := top 53
theorem sc_law_weights : FnScope ["_law_table_here", "_law_weights_here", "_law_last", "_law_choices", "_law_row", "_law_piece", "_law_weight_here"] ["_law_table_here"] (defScope st_law_weights) := ⟨rfl, rfl, rfl, by decide +kernel, rfl, by decide +kernel, by decide +kernel⟩
theorem bd_law_weights : Bnd "_law_weights" "_law_weights" st_law_weights ["_law_table_here"] := fun _ _ _ _ _ _ us hl => match us, hl with | [_], _ => rfl
-- 0:_law_table_here 1:_law_weights_here 2:_law_last 3:_law_choices 4:_law_row 5:_law_piece 6:_law_weight_here
theorem body_law_weights (T : Bi K mg) : Body P w K mg base "_law_weights" st_law_weights 0 ["_law_table_here", "_law_weights_here", "_law_last", "_law_choices", "_law_row", "_law_piece", "_law_weight_here"] (sp_weights P w) := by
  have nd := sc_law_weights.nd
  intro f cdv A outer s H vs Q E hr h
  obtain ⟨tb, xs, TT, rfl, htb, hT, hnd, hcs, hTl, k⟩ := h
  refine ⟨_, (pss_cons (ps_set (i := 1) nd rfl (by first | exact .inl rfl | exact .inr rfl) pe_new)
    (pss_cons (ps_for PassesOwn.never rfl (pi_list (pv 0)) (pg_tup (n := 2) rfl (pgs_cons (pg_name (i := 2) nd rfl (by first | exact .inl rfl | exact .inr rfl)) (pgs_cons (pg_name (i := 3) nd rfl (by first | exact .inl rfl | exact .inr rfl)) pgs_nil)))
      (pss_cons (ps_set (i := 4) nd rfl (by first | exact .inl rfl | exact .inr rfl) pe_new)
      (pss_cons (ps_for PassesOwn.never rfl (pi_list (pv 3)) (pg_tup (n := 2) rfl (pgs_cons (pg_name (i := 5) nd rfl (by first | exact .inl rfl | exact .inr rfl)) (pgs_cons (pg_name (i := 6) nd rfl (by first | exact .inl rfl | exact .inr rfl)) pgs_nil)))
        (pss_one (ps_nput (pv 4) (pv 5) (pv 6) rfl)))
      (pss_one (ps_nput (pv 1) (pv 2) (pv 4) rfl)))))
    (pss_one (ps_ret (pv 1))))), ?_⟩

  refine fun wd nwd => ?_
  have s0 := snew nwd (o := DN P w wd [])
  refine ⟨_, rfl, tb, rfl, ⟨_, SqL.of (s0 _ _ htb)⟩, for_list (xs := xs) (fun i σ H' => Same H H' ∧ ∃ (kvs : List (NKey × V)) (v2 v3 v4 v5 v6 : Option V), σ = [some (.ref tb), some (.ref wd), v2, v3, v4, v5, v6] ∧ H' wd = some (DN P w wd kvs) ∧ Paired (WtV P w (hd wd H')) kvs (TT.take i)) ⟨s0, [], _, _, _, _, _, rfl, upd_same, .nil⟩ (fun _ _ _ _ q => SqL.of (q.1 _ _ htb)) ?_ ?_⟩
  · rintro i x σ H1 hxi ⟨s1, kvs, v2, v3, v4, v5, v6, rfl, hw, hk⟩
    obtain ⟨⟨l, cs⟩, hl, ⟨t, c, ys, rfl, ht, hc, hys⟩, hsn⟩ := paired_take hT hxi
    have hlm := List.mem_of_getElem? hl
    obtain ⟨hcn, hcl⟩ := hcs _ hlm
    dsimp only at hcn hcl hys
    have hysl := Paired.length hys
    have hkl := Paired.length hk
    rw [List.length_take] at hkl
    refine ⟨t, _, rfl, SqT.of (s1 _ _ ht), rfl, _, _, rfl, _, _, rfl, rfl, fun rd nrd => ?_⟩
    have s2 := snew nrd (o := DN P w rd [])
    have rdw : rd ≠ wd := (ne_of_none hw nrd).symm
    refine ⟨_, rfl, c, rfl, ⟨_, SqL.of (s2 _ _ (s1 _ _ hc))⟩, for_list (xs := ys) (fun e σ H' => Same H1 H' ∧ ∃ (v5 v6 : Option V), σ = [some (.ref tb), some (.ref wd), some (oV l), some (.ref c), some (.ref rd), v5, v6] ∧ H' rd = some (DN P w rd ((cs.take e).map fun c => (oK c.1, V.int c.2)))) ⟨s2, _, _, rfl, upd_same⟩ (fun _ _ _ _ q => SqL.of (q.1 _ _ (s1 _ _ hc))) ?_ ?_⟩
    · rintro e y σ H2 hye ⟨s3, v5, v6, rfl, hr⟩
      obtain ⟨ch, hch, ⟨t2, rfl, ht2⟩, hsn2⟩ := paired_take hys hye
      refine ⟨t2, _, rfl, SqT.of (s3 _ _ (s1 _ _ ht2)), rfl, _, _, rfl, _, _, rfl, rfl, _, rfl, _, rfl, _, rfl, rd, _, oK ch.1, rfl, (nV_oK _).symm, hr, ?_, sch s3 nrd, _, _, rfl, ?_⟩
      · rw [List.length_map, List.length_take]; exact small1000 (by omega)
      · rw [upd_same, putK_new, hsn2, List.map_append]
        · rfl
        · refine nval_none fun hm => ?_
          rw [List.map_map] at hm
          obtain ⟨c2, hc2, e2⟩ := List.mem_map.mp hm
          have e3 : c2.1 = ch.1 := oK_inj e2
          obtain ⟨j, hj⟩ := List.getElem?_of_mem hc2
          rw [List.getElem?_take] at hj
          split at hj
          · rename_i hje
            have a1 : (cs.map (·.1))[j]? = some c2.1 := by rw [List.getElem?_map, hj]; rfl
            have a2 : (cs.map (·.1))[e]? = some ch.1 := by rw [List.getElem?_map, hch]; rfl
            obtain ⟨l1, e4⟩ := List.getElem?_eq_some_iff.mp a1
            obtain ⟨l2, e5⟩ := List.getElem?_eq_some_iff.mp a2
            rw [List.nodup_iff_pairwise_ne, List.pairwise_iff_getElem] at hcn
            exact hcn j e l1 l2 hje (by rw [e4, e5, e3])
          · cases hj
    · rintro σ H2 ⟨s3, v5, v6, rfl, hr⟩
      rw [hysl, List.take_length] at hr
      have hw2 := s3 _ _ hw
      have hno : oK l ∉ kvs.map (·.1) := fun hm => by
        obtain ⟨kv, hkv, e1⟩ := List.mem_map.mp hm
        obtain ⟨j, hj⟩ := List.getElem?_of_mem hkv
        obtain ⟨e2, he2, hwt⟩ := paired_get hk hj
        rw [List.getElem?_take] at he2
        split at he2
        · rename_i hji
          have e3 : e2.1 = l := oK_inj (hwt.1.symm.trans e1)
          have a1 : (TT.map (·.1))[j]? = some e2.1 := by rw [List.getElem?_map, he2]; rfl
          have a2 : (TT.map (·.1))[i]? = some l := by rw [List.getElem?_map, hl]; rfl
          obtain ⟨l1, e4⟩ := List.getElem?_eq_some_iff.mp a1
          obtain ⟨l2, e5⟩ := List.getElem?_eq_some_iff.mp a2
          rw [List.nodup_iff_pairwise_ne, List.pairwise_iff_getElem] at hnd
          exact hnd j i l1 l2 hji (by rw [e4, e5, e3])
        · cases he2
      refine ⟨_, rfl, _, rfl, _, rfl, wd, kvs, oK l, rfl, (nV_oK _).symm, hw2, small1000 (by omega), sch (s1.trans s3) nwd, _, _, _, _, _, _, rfl, upd_same, ?_⟩
      rw [putK_new _ (nval_none hno), hsn]
      refine paired_app (paired_mono hk ?_) (.cons ⟨rfl, rd, rfl, hd_of rdw ((upd_ne rdw).trans hr)⟩ .nil)
      rintro kv e ⟨e1, t', e2, h'⟩
      exact ⟨e1, t', e2, hd_of (hd_ne h') ((upd_ne (hd_ne h')).trans (s3 _ _ (hd_sub _ _ h')))⟩
  · rintro σ H1 ⟨s1, kvs, v2, v3, v4, v5, v6, rfl, hw, hk⟩
    rw [Paired.length hT, List.take_length] at hk
    exact ⟨_, rfl, k _ wd kvs s1 hw hk⟩
theorem ok_weights (T : Bi K mg) (D : Df K mg "_law_weights" st_law_weights) : Has P w K mg base "_law_weights" 1 ["_law_table_here"] (sp_weights P w) :=
  D.ok sc_law_weights bd_law_weights (fun vs H Q E ⟨_, _, _, e, _⟩ => by rw [e]; rfl) (body_law_weights T)
/-- a row of the passed table -/
def TcV (H : Hp) (x : V) (e : Option Nat × List Ch) : Prop := ∃ t c ys, x = .ref t ∧ H t = some (.tup [oV e.1, .ref c]) ∧ LT H c ys ∧ ChsV H ys e.2
theorem TcV.mono {H H' : Hp} {x : V} {e : Option Nat × List Ch} (s : Same H H') (h : TcV H x e) : TcV H' x e := by
  obtain ⟨t, c, ys, e, h, h2, h3⟩ := h
  exact ⟨t, c, ys, e, s _ _ h, h2.mono s, h3.mono s⟩
def sp_passed : Sp := fun vs H Q _ => ∃ (d tb : Addr) (xs : List V) (T : List (Option Nat × List Ch)), vs = [.ref d, .ref tb] ∧ ∃ tc, Tp tc H d ∧ hd d H tb = some (.lst xs) ∧ Paired (TrV (hd d H)) xs T ∧ T.length ≤ 8 ∧
  ∀ H' q zs, But1 d H H' → Tp tc H' d → LT (hd d H') q zs → Paired (TcV (hd d H')) zs T → Q (.ref q) H'
abbrev st_law_passed : Stmt := top 54
theorem sc_law_passed : FnScope ["_law_tape_here", "_law_table_here", "_law_rows", "_law_last", "_law_choices"] ["_law_tape_here", "_law_table_here"] (defScope st_law_passed) := ⟨rfl, rfl, rfl, by decide +kernel, rfl, by decide +kernel, by decide +kernel⟩
theorem bd_law_passed : Bnd "_law_passed" "_law_passed" st_law_passed ["_law_tape_here", "_law_table_here"] := fun _ _ _ _ _ _ us hl => match us, hl with | [_, _], _ => rfl
-- 0:_law_tape_here 1:_law_table_here 2:_law_rows 3:_law_last 4:_law_choices
theorem body_law_passed (T : Bi K mg) (C_law_pick : Has P w K mg base "_law_pick" 3 ["_law_tape_here", "_law_row"] sp_pick) : Body P w K mg base "_law_passed" st_law_passed 3 ["_law_tape_here", "_law_table_here", "_law_rows", "_law_last", "_law_choices"] sp_passed := by
  have nd := sc_law_passed.nd
  intro f cdv A outer s H vs Q E hr h
  obtain ⟨d, tb, xs, TT, rfl, tc, tp, htb, hT, hTl, k⟩ := h
  refine ⟨_, (pss_cons (ps_setLc (i := 2) (own := [("_law_last", 3), ("_law_choices", 4)]) rfl nd rfl rfl (sw_true rfl rfl rfl (by decide +kernel)) (pi_list (pv 1)) (blkOk_by (N := ["_law_tape_here", "_law_table_here", "_law_rows", "_law_last", "_law_choices"]) (sc := defScope (top 54)) (by decide +kernel)) (fun _ _ _ _ _ => (pg_tupK (K1 := K) (by rfl) (n := 2) rfl (pgs_cons (pg_name (i := 3) nd rfl (by first | exact .inl rfl | exact .inr rfl)) (pgs_cons (pg_name (i := 4) nd rfl (by first | exact .inl rfl | exact .inr rfl)) pgs_nil)))) (fun _ _ _ _ _ => pts_nil) (fun _ _ _ _ _ => (pe_tup (pa_cons (pv 3) (pa_cons (c_fn C_law_pick hr (by rfl) (pa_cons (pv 0) (pa_cons (pe_lst (pa_cons (pe_callTy (call_list_ofK (K1 := K) (by rfl)) (by rfl) T.list (by decide +kernel) (pa_cons (pv 4) pa_nil)) (pa_cons (pe_callTy (call_tuple_ofK (K1 := K) (by rfl)) (by rfl) T.tuple (by decide +kernel) (pa_cons (pv 4) pa_nil)) pa_nil))) pa_nil))) pa_nil)))))
    (pss_one (ps_ret (c_fn C_law_pick hr (by rfl) (pa_cons (pv 0) (pa_cons (pe_lst (pa_cons (pv 2) (pa_cons (pe_callTy call_tuple_of (by rfl) T.tuple (by decide +kernel) (pa_cons (pv 2) pa_nil)) pa_nil))) pa_nil)))))), ?_⟩

  have hxl := Paired.length hT
  refine ⟨_, rfl, tb, rfl, ⟨_, SqL.of (hd_sub _ _ htb)⟩, fun D nD => ?_⟩
  have dD := tp.ne_none nD
  have cD := tp.nc_none nD
  refine lc_it (walk_list (xs := xs)) (fun i H' => But1 d H H' ∧ Tp tc H' d ∧ ∃ zs, H' D = some (.lst zs) ∧ Paired (TcV (hd D (hd d H'))) zs (TT.take i)) ⟨but_same (snew nD), tp.same (snew nD), [], upd_same, .nil⟩ (fun i H' _ q => SqL.of (q.1.to htb)) ?_ ?_
  · rintro i x H1 H1' hi ⟨b1, tp1, zs, hD, hz⟩ ⟨rfl, hxi⟩
    obtain ⟨⟨l, cs⟩, hl, ⟨t, c, ys, rfl, ht, hc, hys⟩, hsn⟩ := paired_take hT hxi
    have hzl := Paired.length hz
    rw [List.length_take] at hzl
    refine ⟨t, _, rfl, SqT.of (b1.to ht), rfl, _, _, rfl, _, _, rfl, rfl, rfl, _, rfl, _, rfl, _, rfl, c, ys, rfl, .inl (SqL.of (b1.to hc)), fun c1 n1 => ?_⟩
    have s1 := snew n1 (o := .lst ys)
    refine ⟨_, rfl, c, ys, rfl, .inl ⟨SqL.of (s1 _ _ (b1.to hc)), fun c2 n2 => ⟨small_line (by show 2 ≤ 1000; omega), fun l3 n3 => ?_⟩⟩⟩
    have s2 := snw s1 n2 (o := .tup ys)
    have s3 := snw s2 n3 (o := .lst [V.ref c1, V.ref c2])
    have dc1 := tp1.ne_none n1
    have dc2 := tp1.ne_none (none_back s1 n2)
    have Dc1 : c1 ≠ D := (ne_of_none hD n1).symm
    have Dc2 : c2 ≠ D := (ne_of_none (s1 _ _ hD) n2).symm
    have h1 := upd_keep (u := .lst [V.ref c1, V.ref c2]) (upd_keep (u := .tup ys) (upd_same (H := H1') (a := c1) (o := .lst ys)) n2) n3
    have h2 := upd_keep (u := .lst [V.ref c1, V.ref c2]) (upd_same (H := upd H1' c1 (.lst ys)) (a := c2) (o := .tup ys)) n3
    refine ⟨d, .ref l3, _, rfl, _, tp1.same s3, .inl ⟨l3, rfl, upd_same⟩, by simp, fun H5 v hv ex5 tp5 => ⟨small_line (by show 2 ≤ 1000; omega), fun t6 n6 => ?_⟩⟩
    have b5 : But1 d H1' H5 := (but_same s3).trans ex5.but
    obtain ⟨q, rfl, hq, dq, Dq⟩ : ∃ q, v = .ref q ∧ LT H5 q ys ∧ q ≠ d ∧ q ≠ D := by
      simp only [List.mem_cons, List.not_mem_nil, or_false] at hv
      rcases hv with h | h
      · exact ⟨c1, h, .inl (ex5.but _ _ dc1 h1), dc1, Dc1⟩
      · exact ⟨c2, h, .inr (ex5.but _ _ dc2 h2), dc2, Dc2⟩
    have s6 := snew n6 (o := .tup [oV l, .ref q])
    have b6 : But1 d H1' (upd H5 t6 (.tup [oV l, .ref q])) := b5.trans (but_same s6)
    have tp6 := tp5.same s6
    have hD6 := b6 _ _ dD hD
    have hq6 := hq.mono s6
    have t6d := tp5.ne_none n6
    have ht6 : (upd H5 t6 (.tup [oV l, .ref q])) t6 = some (.tup [oV l, .ref q]) := upd_same
    have t6D : t6 ≠ D := unq ht6 hD6 (by intro e; cases e)
    generalize upd H5 t6 (.tup [oV l, .ref q]) = H6 at *
    refine ⟨zs, hD6, small1000 (by omega), (b1.trans b6).sch nD, tp6.own dD cD, _, upd_same, ?_⟩
    have old : ∀ {a : Addr} {o : HO}, hd D (hd d H1') a = some o → hd D (hd d (upd H6 D (.lst (zs ++ [V.ref t6])))) a = some o := fun {a o} h => hd_of (hd_ne h) (hd_of (hd_ne (hd_sub _ _ h)) ((upd_ne (hd_ne h)).trans (b6.to (hd_sub _ _ h))))
    have new : ∀ {a : Addr} {o : HO}, H6 a = some o → a ≠ d → a ≠ D → hd D (hd d (upd H6 D (.lst (zs ++ [V.ref t6])))) a = some o := fun {a o} h h1 h2 => hd_of h2 (hd_of h1 ((upd_ne h2).trans h))
    rw [hsn]
    refine paired_app (paired_mono hz fun _ _ => TcV.mono fun a o h => old h) (.cons ⟨t6, q, ys, rfl, new ht6 t6d t6D, hq6.imp (fun h => new h dq Dq) (fun h => new h dq Dq), paired_mono hys ?_⟩ .nil)
    rintro v ch ⟨t7, rfl, h7⟩
    have h8 := (b1.trans b6).to h7
    exact ⟨t7, rfl, new h8 (hd_ne h7) (ne_of_none (hd_sub _ _ h7) nD)⟩
  · rintro H1 ⟨b1, tp1, zs, hD, hz⟩
    rw [hxl, List.take_length] at hz
    refine ⟨_, rfl, _, rfl, _, rfl, D, zs, rfl, .inl ⟨SqL.of hD, fun p np => ⟨small_line (by show 2 ≤ 1000; omega), fun l2 n2 => ?_⟩⟩⟩
    have s1 := snew np (o := .tup zs)
    have s2 := snw s1 n2 (o := .lst [V.ref D, V.ref p])
    have dp := tp1.ne_none np
    have hp := upd_keep (u := .lst [V.ref D, V.ref p]) (upd_same (H := H1) (a := p) (o := .tup zs)) n2
    refine ⟨d, .ref l2, _, rfl, _, tp1.same s2, .inl ⟨l2, rfl, upd_same⟩, by simp, fun H3 v hv ex3 tp3 => ?_⟩
    have b3 : But1 d H1 H3 := (but_same s2).trans ex3.but
    have hz3 : Paired (TcV (hd d H3)) zs TT := paired_mono hz fun _ _ => TcV.mono fun a o h => hd_but b3 _ _ (hd_sub _ _ h)
    simp only [List.mem_cons, List.not_mem_nil, or_false] at hv
    rcases hv with rfl | rfl
    · exact k H3 D zs (b1.trans b3) tp3 (.inl (hd_of dD (b3 _ _ dD hD))) hz3
    · exact k H3 p zs (b1.trans b3) tp3 (.inr (hd_of dp (ex3.but _ _ dp hp))) hz3
theorem ok_passed (T : Bi K mg) (C1 : Has P w K mg base "_law_pick" 3 ["_law_tape_here", "_law_row"] sp_pick) (D : Df K mg "_law_passed" st_law_passed) : Has P w K mg base "_law_passed" 4 ["_law_tape_here", "_law_table_here"] sp_passed :=
  D.ok sc_law_passed bd_law_passed (fun vs H Q E ⟨_, _, _, _, e, _⟩ => by rw [e]; rfl) (body_law_passed T C1)
end
end Rj
set_option Elab.async false
set_option linter.all false
set_option maxRecDepth 100000
set_option maxHeartbeats 4000000
namespace Rj
open PySem PySem.Spec PyProof.Rows L2
/-- no letter is a key -/
def NoLt (kvs : List (Key × V)) : Prop := ∀ c : Nat, valV kvs (.inr ⟨#[c]⟩) = none
theorem kval_none {kvs : List (Key × V)} {k : Key} (h : k ∉ kvs.map (·.1)) : valV kvs k = none := by
  induction kvs with
  | nil => rfl
  | cons p r ih =>
    rw [List.map_cons, List.mem_cons, not_or] at h
    rw [valV_neg (fun e => h.1 e.symm)]
    exact ih h.2
theorem tk_nolt {c : Addr} {a g l s t : Int} : NoLt (tk c a g l s t) := fun x => by
  have ln : ∀ k : Str, k.length ≠ 1 → (Sum.inr ⟨#[x]⟩ : Key) ≠ Sum.inr k := fun k h e => h (by
    have := Sum.inr.inj e
    rw [← this]; rfl)
  refine kval_none fun hm => ?_
  simp only [tk, List.map_cons, List.map_nil, List.mem_cons, List.not_mem_nil, or_false] at hm
  rcases hm with h | h | h | h | h | h
  · exact ln _ (by decide +kernel) h
  · exact ln _ (by decide +kernel) h
  · exact ln _ (by decide +kernel) h
  · exact ln _ (by decide +kernel) h
  · exact ln _ (by decide +kernel) h
  · exact ln _ (by decide +kernel) h
theorem nil_nolt : NoLt [] := fun _ => rfl
theorem JO.but {H H' : Hp} {p C a : Addr} {L : List Nat} {ps : List (Nat × Nat)} {kvs : List (Key × V)} (s : But1 p H H') (hp : H p = some (.dK kvs)) (hn : NoLt kvs) (hL : L ≠ []) (h : JO H C a L ps) : JO H' C a L ps := by
  obtain ⟨tl, rd, nd, ⟨dx, pt, m, xs, h1, h2, h3⟩, h4, h5, nk, h6, h7, h8⟩ := h
  have k : ∀ {x : Addr} {o : HO}, H x = some o → o ≠ .dK kvs → H' x = some o := fun {x o} h n => s x o (unq h hp n) h
  refine ⟨tl, rd, nd, ⟨dx, pt, m, xs, k h1 (by intro e; cases e), k h2 (by intro e; cases e), paired_mono h3 fun v q ⟨b, e, hb⟩ => ⟨b, e, k hb (by intro e; cases e)⟩⟩, k h4 (by intro e; cases e), k h5 (by intro e; cases e), nk, ?_, h7, h8⟩
  refine s nd _ (fun e => ?_) h6
  subst e
  rw [hp] at h6
  have e2 : kvs = nk := by injection h6 with h; injection h
  subst e2
  obtain ⟨c, r, e3⟩ := List.exists_cons_of_ne_nil hL
  have := h7 0 c (by rw [e3]; rfl)
  rw [hn c] at this
  cases this
theorem MO.but {P : Program} {w : World} {H H' : Hp} {p CM CJ a : Addr} {L : List Nat} {ps : List (Nat × Nat)} {M : Mdl} {kvs : List (Key × V)} (s : But1 p H H') (hp : H p = some (.dK kvs)) (hn : NoLt kvs) (hL : L ≠ []) (h : MO P w H CM CJ a L ps M) : MO P w H' CM CJ a L ps M := by
  obtain ⟨dx, j, rd, kv, h1, h2, h3, h4⟩ := h
  have k : ∀ {x : Addr} {o : HO}, H x = some o → o ≠ .dK kvs → H' x = some o := fun {x o} h n => s x o (unq h hp n) h
  refine ⟨dx, j, rd, kv, k h1 (by intro e; cases e), h2.but s hp hn hL, k h3 (by intro e; unfold DN at e; cases e), paired_mono h4 fun v q ⟨e, t, xs, e2, h, c⟩ => ⟨e, t, xs, e2, k h (by intro e; cases e), paired_mono c fun v q ⟨b, e, hb⟩ => ⟨b, e, k hb (by intro e; cases e)⟩⟩⟩
theorem WtV.but {P : Program} {w : World} {H H' : Hp} {p : Addr} {kvs : List (Key × V)} {kv : NKey × V} {e : Option Nat × List Ch} (s : But1 p H H') (hp : H p = some (.dK kvs)) (h : WtV P w H kv e) : WtV P w H' kv e := by
  obtain ⟨h1, t, h2, h3⟩ := h
  exact ⟨h1, t, h2, s t _ (unq h3 hp (by intro e; unfold DN at e; cases e)) h3⟩
theorem hd_b1 {d : Addr} {H : Hp} : But1 d H (hd d H) := fun x o n h => hd_of n h
theorem Tp.dk {c d : Addr} {H : Hp} (t : Tp c H d) : ∃ kvs, H d = some (.dK kvs) ∧ NoLt kvs := by
  obtain ⟨ns, a, g, l, s1, t, h1, h2⟩ := t
  exact ⟨_, h1, tk_nolt⟩
theorem hdk {c d a : Addr} {H : Hp} {o : HO} (t : Tp c H d) (h : H a = some o) (n : ∀ kvs, o ≠ .dK kvs) : hd d H a = some o := by
  obtain ⟨kvs, h1, _⟩ := t.dk
  exact hd_of (unq h h1 (n _)) h
theorem paired_fst {α β γ : Type} {F : α → β × γ → Prop} {G : α → β → Prop} : ∀ {xs : List α} {T : List (β × γ)}, Paired F xs T → (∀ x e, e ∈ T → F x e → G x e.1) → Paired G xs (T.map (·.1))
  | _, _, .nil, _ => .nil
  | _, _, .cons a r, h => .cons (h _ _ (List.mem_cons_self ..) a) (paired_fst r fun x e he => h x e (List.mem_cons_of_mem _ he))
/-! ### a world -/
def wok (jd we ma mo : Addr) : List (Key × V) := [(.inr "joins", .ref jd), (.inr "weights", .ref we), (.inr "made", .ref ma), (.inr "model", .ref mo)]
section
variable {jd we ma mo : Addr}
theorem wo_j : valV (wok jd we ma mo) (.inr "joins") = some (.ref jd) := by kernel_rfl
theorem wo_w : valV (wok jd we ma mo) (.inr "weights") = some (.ref we) := by kernel_rfl
theorem wo_m : valV (wok jd we ma mo) (.inr "model") = some (.ref mo) := by kernel_rfl
variable {H : Hp} {d : Addr} (h : H d = some (.dK (wok jd we ma mo)))
include h
theorem wg_j : DGet H d (.str "joins") (some (.ref jd)) := wo_j (we := we) (ma := ma) (mo := mo) ▸ DGet.k (k := .inr "joins") h
theorem wg_w : DGet H d (.str "weights") (some (.ref we)) := wo_w (jd := jd) (ma := ma) (mo := mo) ▸ DGet.k (k := .inr "weights") h
theorem wg_m : DGet H d (.str "model") (some (.ref mo)) := wo_m (we := we) (ma := ma) (jd := jd) ▸ DGet.k (k := .inr "model") h
end
/-- all that a world keeps -/
structure Wo (P : Program) (w : World) (CM CJ : Addr) (H : Hp) (wd : Addr) (L : List Nat) (ps : List (Nat × Nat)) (T : List (Option Nat × List Ch)) : Prop where
  mw : Mw L ps (mkM L ps T)
  nd : (T.map (·.1)).Nodup
  lc : ∀ e ∈ T, (e.2.map (·.1)).Nodup ∧ e.2.length ≤ 8
  ex : ∃ jd we ma mo pl rk tl kvs, H wd = some (.dK (wok jd we ma mo)) ∧ LJ H jd L ps pl rk tl ∧ MO P w H CM CJ mo L ps (mkM L ps T) ∧ H we = some (DN P w we kvs) ∧ Paired (WtV P w (hd we H)) kvs T
theorem Wo.mono {P : Program} {w : World} {CM CJ : Addr} {H H' : Hp} {wd : Addr} {L : List Nat} {ps : List (Nat × Nat)} {T : List (Option Nat × List Ch)} (s : Same H H') (h : Wo P w CM CJ H wd L ps T) : Wo P w CM CJ H' wd L ps T := by
  obtain ⟨jd, we, ma, mo, pl, rk, tl, kvs, h1, h2, h3, h4, h5⟩ := h.ex
  exact ⟨h.mw, h.nd, h.lc, jd, we, ma, mo, pl, rk, tl, kvs, s _ _ h1, h2.mono s, h3.mono s, s _ _ h4, paired_mono h5 fun _ _ => WtV.mono (hd_but (but_same s))⟩
theorem TbOk.lc {L : List Nat} {ps : List (Nat × Nat)} {S : List Nat} {T : List (Option Nat × List Ch)} (Jw : Jl L ps) (t : TbOk L ps S T) : (∀ e ∈ T, (e.2.map (·.1)).Nodup ∧ e.2.length ≤ 8) ∧ T.length ≤ 8 := by
  have m := t.mw Jw
  refine ⟨fun e he => ⟨(t.rw e he).2.1, ?_⟩, by have := m.kl; rw [show (mkM L ps T).keys = T.map (·.1) from rfl, List.length_map] at this; exact this⟩
  have := m.lw e.1 (List.mem_map.mpr ⟨e, he, rfl⟩)
  rw [show (mkM L ps T).wt e.1 = wtT T e.1 from rfl, wtT_of t.nodup (show (e.1, e.2) ∈ T from he)] at this
  exact this
section
variable {P : Program} {w : World} {K : PySem.W.Frag} {mg : Str → Option Value} {base : Heap} {CJ CM CS : Addr}
def sp_world (P : Program) (w : World) (CM CJ : Addr) : Sp := fun vs H Q _ => ∃ d : Addr, vs = [.ref d, .int 3, .int 4, .bl true] ∧ ∃ tc, Tp tc H d ∧ ∀ H' wd L ps T, But1 d H H' → Tp tc H' d → Wo P w CM CJ (hd d H') wd L ps T → Q (.ref wd) H'
abbrev st_law_world : Stmt := top 55
theorem sc_law_world : FnScope ["_law_tape_here", "_law_most", "_law_tries", "_law_rising", "_law_joins_here", "_law_table_here", "_law_made"] ["_law_tape_here", "_law_most", "_law_tries", "_law_rising"] (defScope st_law_world) := ⟨rfl, rfl, rfl, by decide +kernel, rfl, by decide +kernel, by decide +kernel⟩
theorem bd_law_world : Bnd "_law_world" "_law_world" st_law_world ["_law_tape_here", "_law_most", "_law_tries", "_law_rising"] := fun _ _ _ _ _ _ us hl => match us, hl with | [_, _, _, _], _ => rfl
-- 0:_law_tape_here 1:_law_most 2:_law_tries 3:_law_rising 4:_law_joins_here 5:_law_table_here 6:_law_made
theorem body_law_world (T : Bi K mg) (C_law_joins : Has P w K mg base "_law_joins" 5 ["_law_tape_here", "_law_most", "_law_tries", "_law_size"] sp_law_joins) (C_law_follow : Has P w K mg base "_law_follow" 2 ["_law_joins_here"] sp_follow) (C_law_table : Has P w K mg base "_law_table" 5 ["_law_tape_here", "_law_follow_here", "_law_rising"] sp_table) (C_law_weights : Has P w K mg base "_law_weights" 1 ["_law_table_here"] (sp_weights P w)) (C_law_passed : Has P w K mg base "_law_passed" 4 ["_law_tape_here", "_law_table_here"] sp_passed) (C_Joins : HasI P w K mg base CJ "Joins" 5 ["self", "alphabet", "pairs"] (sp_Joins CJ)) (C_Model : HasI P w K mg base CM "Model" 9 ["self", "joins", "table"] (sp_Model P w CM CJ)) : Body P w K mg base "_law_world" st_law_world 10 ["_law_tape_here", "_law_most", "_law_tries", "_law_rising", "_law_joins_here", "_law_table_here", "_law_made"] (sp_world P w CM CJ) := by
  have nd := sc_law_world.nd
  intro f cdv A outer s H vs Q E hr h
  obtain ⟨d, rfl, tc, tp, k⟩ := h
  refine ⟨_, (pss_cons (ps_set (i := 4) nd rfl (by first | exact .inl rfl | exact .inr rfl) (c_fn C_law_joins hr (by rfl) (pa_cons (pv 0) (pa_cons (pv 1) (pa_cons (pv 2) (pa_cons pe_int pa_nil))))))
    (pss_cons (ps_set (i := 5) nd rfl (by first | exact .inl rfl | exact .inr rfl) (c_fn C_law_table hr (by rfl) (pa_cons (pv 0) (pa_cons (c_fn C_law_follow hr (by rfl) (pa_cons (pv 4) pa_nil)) (pa_cons (pv 3) pa_nil)))))
    (pss_cons (ps_set (i := 6) nd rfl (by first | exact .inl rfl | exact .inr rfl) (c_mk C_Joins hr (by rfl) (pa_cons (pe_dget (hu_of hr) (pv 4) pe_str (fun _ _ => rfl)) (pa_cons (pe_callTy call_tuple_of (by rfl) T.tuple (by decide +kernel) (pa_cons (pe_dget (hu_of hr) (pv 4) pe_str (fun _ _ => rfl)) pa_nil)) pa_nil))))
    (pss_one (ps_ret (pe_disp (pps_cons pe_str (pv 4) (pps_cons pe_str (c_fn C_law_weights hr (by rfl) (pa_cons (pv 5) pa_nil)) (pps_cons pe_str (pv 6) (pps_cons pe_str (c_mk C_Model hr (by rfl) (pa_cons (pv 6) (pa_cons (c_fn C_law_passed hr (by rfl) (pa_cons (pv 0) (pa_cons (pv 5) pa_nil))) pa_nil))) pps_nil)))) (by rfl) (by rfl) (fun z => by cases z) (by decide))))))), ?_⟩

  refine ⟨_, rfl, _, rfl, _, rfl, d, rfl, _, tp, fun H1 jd L ps pl rk tl b1 tp1 J Jw => ?_⟩
  have hL := Jw.al.ne
  refine ⟨_, rfl, _, rfl, jd, L, ps, pl, rk, tl, rfl, J.mono hd_sub, Jw, fun H2 fl fs s2 hfl hfs => ⟨_, rfl, d, fl, L, ps, fs, rfl, _, tp1.same s2, Jw, hdk (tp1.same s2) hfl (by intro _ e; cases e), paired_mono hfs fun v l ⟨a, S, e, h, r⟩ => ⟨a, S, e, hdk (tp1.same s2) h (by intro _ e; cases e), r⟩, fun H3 tb xs S TT b3 tp3 htb hT tok => ?_⟩⟩
  have J3 := J.mono (hd_but ((but_same s2).trans b3))
  have b13 := b1.trans ((but_same s2).trans b3)
  obtain ⟨ys, hpl, hys⟩ := J3.p
  refine ⟨_, rfl, jd, _, rfl, lg_l (hd_sub _ _ J3.d), _, rfl, jd, _, rfl, lg_p (hd_sub _ _ J3.d), pl, ys, rfl, .inl ⟨SqL.of (hd_sub _ _ hpl), fun pt npt => ?_⟩⟩
  have s4 := snew npt (o := .tup ys)
  refine fun ma dx nx ndx ne => ⟨ma, dx, pt, L, ps, ys, rfl, upd_same, ?_, ?_, Jw, fun H5 bj Jo => ⟨rfl, ?_⟩⟩
  · exact upd_keep (upd_keep upd_same ndx) (by rw [upd_ne ne.symm]; exact nx)
  · exact (hys.mono hd_sub).mono (snw (snw s4 ndx) (by rw [upd_ne ne.symm]; exact nx))
  have s5 : Same H3 H5 := s4.trans (But1.same ndx nx ne bj)
  have tp5 := tp3.same s5
  have htb5 := hd_but (but_same (d := d) s5) _ _ htb
  have hT5 := paired_mono hT fun _ _ => TrV.mono (hd_but (but_same (d := d) s5))
  have m := tok.mw Jw
  obtain ⟨lc, tl8⟩ := tok.lc Jw
  refine fun wd nwd => ⟨_, rfl, ?_⟩
  have s6 := snew nwd (o := .dK [])
  refine ⟨_, rfl, tb, xs, TT, rfl, s6 _ _ (hd_sub _ _ htb5), paired_mono hT5 fun _ _ => TrV.mono (hd_sub.trans s6), tok.nodup, lc, tl8, fun H7 we kvs s7 hwe hkv => ?_⟩
  have s57 := s6.trans s7
  have tp7 := tp5.same s57
  refine ⟨_, rfl, _, rfl, _, rfl, _, rfl, d, tb, xs, TT, rfl, _, tp7, hd_but (but_same (d := d) s57) _ _ htb5, paired_mono hT5 fun _ _ => TrV.mono (hd_but (but_same (d := d) s57)), tl8, fun H8 q zs b8 tp8 hq hz => ?_⟩
  obtain ⟨kd7, hd7, hn7⟩ := tp7.dk
  have Jo8 : JO H8 CJ ma L ps := (Jo.mono s57).but b8 hd7 hn7 hL
  refine fun mo dx2 nx2 ndx2 ne2 => ⟨H8, mo, dx2, ma, q, L, ps, mkM L ps TT, zs, rfl, snw (snew ndx2) (by rw [upd_ne ne2.symm]; exact nx2), nx2, upd_same, Jo8, m, hq.mono hd_sub, paired_fst hz fun x e he ⟨t, c, ys2, e1, h1, h2, h3⟩ => ⟨t, c, ys2, e1, hd_sub _ _ h1, h2.mono hd_sub, ?_⟩, fun H9 s9 Mo => ⟨rfl, ?_⟩⟩
  · rw [show (mkM L ps TT).wt e.1 = wtT TT e.1 from rfl, wtT_of tok.nodup (show (e.1, e.2) ∈ TT from he)]
    exact h3.mono hd_sub
  have wdd := tp5.ne_none nwd
  have hwd7 : H7 wd = some (.dK []) := s7 _ _ upd_same
  have hwd9 : H9 wd = some (.dK []) := s9 _ _ (b8 _ _ wdd hwd7)
  refine ⟨hwd9, wok jd we ma mo, rfl, by show 4 ≤ 15; decide, ?_⟩
  have em : mergeK [] (wok jd we ma mo) = wok jd we ma mo := by kernel_rfl
  rw [em]
  have tp9 := tp8.same s9
  have b59 : But1 d H5 (upd H9 wd (.dK (wok jd we ma mo))) := fun x o hx h => (upd_ne (ne_of_none h nwd)).trans (s9 _ _ (b8 x o hx (s57 _ _ h)))
  have bw : But1 wd H9 (upd H9 wd (.dK (wok jd we ma mo))) := But1.refl.own
  have tpF : Tp tc (upd H9 wd (.dK (wok jd we ma mo))) d := tp9.own wdd (tp5.nc_none nwd)
  obtain ⟨kd, hdF, hnF⟩ := tpF.dk
  have b79 : But1 d H7 H9 := b8.trans (but_same s9)
  refine k _ wd L ps TT (b13.trans ((but_same s5).trans b59)) tpF ⟨m, tok.nodup, lc, jd, we, ma, mo, pl, rk, tl, kvs, hd_of wdd upd_same, J3.mono (hd_but ((but_same s5).trans b59)), (Mo.but bw hwd9 nil_nolt hL).but hd_b1 hdF hnF hL, ?_, ?_⟩
  · refine hdk tpF ((upd_ne (unq (b79 we _ (unq hwe hd7 (by intro e; unfold DN at e; cases e)) hwe) hwd9 (by intro e; unfold DN at e; cases e))).trans (b79 we _ (unq hwe hd7 (by intro e; unfold DN at e; cases e)) hwe)) (by intro _ e; unfold DN at e; cases e)
  · refine paired_mono hkv ?_
    rintro v e ⟨e1, t, e2, h3⟩
    have h4 := hd_sub _ _ h3
    have h5 := b79 t _ (unq h4 hd7 (by intro e; unfold DN at e; cases e)) h4
    have h6 := bw t _ (unq h5 hwd9 (by intro e; unfold DN at e; cases e)) h5
    exact ⟨e1, t, e2, hd_of (hd_ne h3) (hdk tpF h6 (by intro _ e; unfold DN at e; cases e))⟩
theorem ok_world (T : Bi K mg) (C1 : Has P w K mg base "_law_joins" 5 ["_law_tape_here", "_law_most", "_law_tries", "_law_size"] sp_law_joins) (C2 : Has P w K mg base "_law_follow" 2 ["_law_joins_here"] sp_follow) (C3 : Has P w K mg base "_law_table" 5 ["_law_tape_here", "_law_follow_here", "_law_rising"] sp_table) (C4 : Has P w K mg base "_law_weights" 1 ["_law_table_here"] (sp_weights P w)) (C5 : Has P w K mg base "_law_passed" 4 ["_law_tape_here", "_law_table_here"] sp_passed) (C6 : HasI P w K mg base CJ "Joins" 5 ["self", "alphabet", "pairs"] (sp_Joins CJ)) (C7 : HasI P w K mg base CM "Model" 9 ["self", "joins", "table"] (sp_Model P w CM CJ)) (D : Df K mg "_law_world" st_law_world) :
    Has P w K mg base "_law_world" 11 ["_law_tape_here", "_law_most", "_law_tries", "_law_rising"] (sp_world P w CM CJ) :=
  D.ok sc_law_world bd_law_world (fun vs H Q E ⟨_, e, _⟩ => by rw [e]; rfl) (body_law_world T C1 C2 C3 C4 C5 C6 C7)
end
end Rj
set_option Elab.async false
set_option linter.all false
set_option maxRecDepth 100000
set_option maxHeartbeats 4000000
namespace Rj
open PySem PySem.Spec PyProof.Rows L2
theorem cut_to (s : List Nat) (n : Nat) : cutS (⟨s.toArray⟩ : Str) none (some ((n : Nat) : Int)) = ⟨(s.take n).toArray⟩ := by
  rw [C8.cutS_slice]
  have := SX.slice_to (a := s) (i := (n : Int)) (by omega)
  rw [Int.toNat_natCast] at this
  exact this
theorem cod_take (L u : List Nat) (n : Nat) : (cod L u).take n = cod L (u.take n) := by simp [cod, List.map_take]
theorem rd_frz {H : Hp} {t a : Addr} {od : Obj} {u o : HO} (ht : H t = some u) (ha : H a = some o) : Rd (upd H t (.frz od u)) a o := by
  by_cases e : a = t
  · subst e
    rw [ha] at ht
    cases ht
    exact .inr ⟨od, upd_same⟩
  · exact .inl ((upd_ne e).trans ha)
theorem sign_in {L : List Nat} {v : V} (h : v ∈ L.map fun c => tv [c]) : ∃ i, i < L.length ∧ v = tv (cod L [i]) := by
  obtain ⟨c, hc, rfl⟩ := List.mem_map.mp h
  obtain ⟨i, hi⟩ := List.getElem?_of_mem hc
  obtain ⟨hl, e⟩ := List.getElem?_eq_some_iff.mp hi
  exact ⟨i, hl, by simp [cod, hl, e]⟩
theorem wt_get {P : Program} {w : World} {H : Hp} {l : Option Nat} : ∀ {kvs : List (NKey × V)} {T : List (Option Nat × List Ch)}, Paired (WtV P w H) kvs T → l ∈ T.map (·.1) → ∃ t, valV kvs (oK l) = some (.ref t) ∧ H t = some (DN P w t ((wtT T l).map fun c => (oK c.1, V.int c.2)))
  | _, _, .nil, h => by cases h
  | kv :: kvs, e :: T, .cons ⟨e1, t, e2, h1⟩ r, h => by
    by_cases q : e.1 = l
    · subst q
      refine ⟨t, by rw [valV_pos e1, e2], ?_⟩
      have : wtT (e :: T) e.1 = e.2 := by unfold wtT; rw [List.find?_cons, decide_eq_true rfl]; rfl
      rw [this]
      exact h1
    · rw [valV_neg (by rw [e1]; exact fun z => q (oK_inj z))]
      have : wtT (e :: T) l = wtT T l := by unfold wtT; rw [List.find?_cons, decide_eq_false q]
      rw [this]
      refine wt_get r ?_
      rcases List.mem_cons.mp h with z | z
      · exact absurd z.symm q
      · exact z
theorem flat_id : ∀ us : List Nat, (us.flatMap fun i => [i]) = us
  | [] => rfl
  | a :: us => congrArg (a :: ·) (flat_id us)
theorem eq_int {i j : Int} : decide (V.int i = V.int j) = decide (i = j) := by
  rw [Bool.eq_iff_iff]; simp
section
variable {P : Program} {w : World} {K : PySem.W.Frag} {mg : Str → Option Value} {base : Heap} {CJ CM CS : Addr}
def sp_text (P : Program) (w : World) (CM CJ : Addr) : Sp := fun vs H Q _ => ∃ (d wd : Addr) (L : List Nat) (ps : List (Nat × Nat)) (T : List (Option Nat × List Ch)), vs = [.ref d, .ref wd, .int 18] ∧ ∃ tc, Tp tc H d ∧ Wo P w CM CJ (hd d H) wd L ps T ∧
  ∀ H' u, But1 d H H' → Tp tc H' d → (∀ i ∈ u, i < L.length) → u.length ≤ 18 → Q (tv (cod L u)) H'
abbrev st_law_text : Stmt := top 56
theorem sc_law_text : FnScope ["_law_tape_here", "_law_world_here", "_law_most", "_law_joins_here", "_law_k", "_law_text_here", "_law_last", "_law_pieces", "_law_piece"] ["_law_tape_here", "_law_world_here", "_law_most"] (defScope st_law_text) := ⟨rfl, rfl, rfl, by decide +kernel, rfl, by decide +kernel, by decide +kernel⟩
theorem bd_law_text : Bnd "_law_text" "_law_text" st_law_text ["_law_tape_here", "_law_world_here", "_law_most"] := fun _ _ _ _ _ _ us hl => match us, hl with | [_, _, _], _ => rfl
-- 0:_law_tape_here 1:_law_world_here 2:_law_most 3:_law_joins_here 4:_law_k 5:_law_text_here 6:_law_last 7:_law_pieces 8:_law_piece
theorem body_law_text (T : Bi K mg) (C_law_draw : Has P w K mg base "_law_draw" 2 ["_law_tape_here", "_law_many"] sp_draw) (C_law_pick : Has P w K mg base "_law_pick" 3 ["_law_tape_here", "_law_row"] sp_pick) : Body P w K mg base "_law_text" st_law_text 3 ["_law_tape_here", "_law_world_here", "_law_most", "_law_joins_here", "_law_k", "_law_text_here", "_law_last", "_law_pieces", "_law_piece"] (sp_text P w CM CJ) := by
  have nd := sc_law_text.nd
  intro f cdv A outer s H vs Q E hr h
  obtain ⟨d, wd, L, ps, TT, rfl, tc, tp, Wx, k⟩ := h
  refine ⟨_, (pss_cons (ps_set (i := 3) nd rfl (by first | exact .inl rfl | exact .inr rfl) (pe_dget (hu_of hr) (pv 1) pe_str (fun _ _ => rfl)))
    (pss_cons (ps_if (pt_cmpR op_eq (c_fn C_law_draw hr (by rfl) (pa_cons (pv 0) (pa_cons pe_int pa_nil))) pe_int (nomark _))
      (pss_one (ps_ret (pe_join pe_str (pe_lc (own := [("_law_k", 4)]) rfl nd (pi_range1 (by rfl) T.range (pa_cons (c_fn C_law_draw hr (by rfl) (pa_cons (pv 0) (pa_cons (pv 2) pa_nil))) pa_nil)) (blkOk_by (N := ["_law_tape_here", "_law_world_here", "_law_most", "_law_joins_here", "_law_k", "_law_text_here", "_law_last", "_law_pieces", "_law_piece"]) (sc := defScope (top 56)) (by decide +kernel)) (fun _ _ _ _ _ => (pg_name (i := 4) nd rfl (by first | exact .inl rfl | exact .inr rfl))) (fun _ _ _ _ _ => pts_nil) (fun _ _ _ _ _ => (c_fn C_law_pick hr (by rfl) (pa_cons (pv 0) (pa_cons (pe_dget (hu_of hr) (pv 3) pe_str (fun _ _ => rfl)) pa_nil))))))))
      pss_nil)
    (pss_cons (ps_set (i := 5) nd rfl (by first | exact .inl rfl | exact .inr rfl) pe_str)
    (pss_cons (ps_set (i := 6) nd rfl (by first | exact .inl rfl | exact .inr rfl) pe_non)
    (C8.pss_cut (ps_for PassesOwn.never rfl (pi_range1 (by rfl) T.range (pa_cons (c_fn C_law_draw hr (by rfl) (pa_cons (pv 0) (pa_cons pe_int pa_nil))) pa_nil)) (pg_name (i := 4) nd rfl (by first | exact .inl rfl | exact .inr rfl))
      (pss_cons (ps_lock (ps_setLc (i := 7) (own := [("_law_piece", 8)]) rfl nd rfl rfl (sw_true rfl rfl rfl (by decide +kernel)) (pi_nkeys (pe_nget2 (pe_dget (hu_of hr) (pv 1) pe_str (fun _ _ => rfl)) (pv 6) pe_new ⟨rfl, rfl, rfl, rfl⟩)) (blkOk_by (N := ["_law_tape_here", "_law_world_here", "_law_most", "_law_joins_here", "_law_k", "_law_text_here", "_law_last", "_law_pieces", "_law_piece"]) (sc := defScope (top 56)) (by decide +kernel)) (fun _ _ _ _ _ => (pg_name (i := 8) nd rfl (by first | exact .inl rfl | exact .inr rfl))) (fun _ _ _ _ _ => (pts_one (pt_cmpR op_notN (pv 8) pe_non (nomark _)))) (fun _ _ _ _ _ => (pv 8))))
      (pss_cons (ps_if (pt_cmpR (op_eqL hr.units) (pv 7) (pe_lst pa_nil) (nomark _))
        (pss_one ps_break)
        pss_nil)
      (pss_cons (ps_set (i := 6) nd rfl (by first | exact .inl rfl | exact .inr rfl) (c_fn C_law_pick hr (by rfl) (pa_cons (pv 0) (pa_cons (pv 7) pa_nil))))
      (pss_one (ps_set (i := 5) nd rfl (by first | exact .inl rfl | exact .inr rfl) (pe_op op_add_str (pv 5) (pe_ix ix_list (pe_dget (hu_of hr) (pv 3) pe_str (fun _ _ => rfl)) (pv 6) (fun _ _ => rfl)))))))))
    (pss_cons (ps_set (i := 5) nd rfl (by first | exact .inl rfl | exact .inr rfl) (pe_slice sl_str (pv 5) po_none (po_some (c_fn C_law_pick hr (by rfl) (pa_cons (pv 0) (pa_cons (pe_lst (pa_cons (pe_callB call_len (by rfl) T.len (by decide +kernel) (pa_cons (pv 5) pa_nil)) (pa_cons (c_fn C_law_draw hr (by rfl) (pa_cons (pv 0) (pa_cons (pe_op op_add (pe_callB call_len (by rfl) T.len (by decide +kernel) (pa_cons (pv 5) pa_nil)) pe_int) pa_nil))) pa_nil))) pa_nil))))))
    (C8.pss_cut (ps_if (pt_cmpR op_eq (c_fn C_law_draw hr (by rfl) (pa_cons (pv 0) (pa_cons pe_int pa_nil))) pe_int (nomark _))
      (pss_one (ps_set (i := 5) nd rfl (by first | exact .inl rfl | exact .inr rfl) (pe_op op_add_str (pv 5) (c_fn C_law_pick hr (by rfl) (pa_cons (pv 0) (pa_cons (pe_dget (hu_of hr) (pv 3) pe_str (fun _ _ => rfl)) pa_nil))))))
      pss_nil)
    (pss_one (ps_ret (pe_slice sl_str (pv 5) po_none (po_some (pv 2)))))))))))), ?_⟩

  have m := Wx.mw
  have Jw := m.jl
  have l3 := Jw.l3
  have hL := Jw.al.ne
  have l0 := List.length_pos_iff.mpr hL
  have items : ∀ {H' : Hp}, Items H' (tv L) (L.map fun c => tv [c]) := fun {H'} => .inr ⟨L, rfl, by omega, rfl⟩
  have ine : (L.map fun c => tv [c]) ≠ [] := fun e => hL (List.map_eq_nil_iff.mp e)
  obtain ⟨jd, we, ma, mo, pl, rk, tl, kvs, hwd, J, Mo, hwe, hkv⟩ := Wx.ex
  refine ⟨_, rfl, wd, _, rfl, wg_j (hd_sub _ _ hwd), ?_⟩
  refine ⟨_, rfl, d, _, rfl, _, tp, by decide, fun H1 z1 hz1 ex1 tp1 => ⟨rfl, _, rfl, ?_⟩⟩
  have b1 := ex1.but
  refine ite2 (fun _ => ?_) (fun _ => ?_)
  · refine ⟨⟨_, rfl⟩, _, rfl, _, rfl, d, _, rfl, _, tp1, by decide, fun H2 z2 hz2 ex2 tp2 => ⟨_, rfl, by omega, by omega, fun D nD => ?_⟩⟩
    have dD := tp2.ne_none nD
    have cD := tp2.nc_none nD
    have b2 := b1.trans ex2.but
    have DH := b2.back dD nD
    refine lc_it (walk_range (lo := 0)) (fun i H' => But1 d H H' ∧ Tp tc H' d ∧ ∃ us : List Nat, H' D = some (.lst (us.map fun i => tv (cod L [i]))) ∧ (∀ i ∈ us, i < L.length) ∧ us.length ≤ i) ⟨b2.trans (but_same (snew nD)), tp2.same (snew nD), [], upd_same, fun _ h => (by cases h), Nat.le_refl _⟩ (fun _ _ _ _ => True.intro) ?_ ?_
    · rintro r x H3 H3' hr ⟨b3, tp3, us, hD, hus, hul⟩ ⟨rfl, rfl⟩
      refine ⟨rfl, _, rfl, _, rfl, jd, _, rfl, lg_l (b3.to J.d), d, _, _, rfl, _, tp3, items, ine, fun H4 v hv ex4 tp4 => ?_⟩
      obtain ⟨i, hi, rfl⟩ := sign_in hv
      have hD4 := (ex4 D dD).trans hD
      refine ⟨_, hD4, by rw [List.length_map]; exact small1000 (by omega), (b3.trans ex4.but).sch DH, tp4.own dD cD, us ++ [i], by rw [upd_same, List.map_append]; rfl, fun q hq => ?_, by simp; omega⟩
      rcases List.mem_append.mp hq with h | h
      · exact hus q h
      · cases List.mem_singleton.mp h; exact hi
    · rintro H3 ⟨b3, tp3, us, hD, hus, hul⟩
      have hul' : us.length ≤ 17 := by omega
      refine ⟨_, D, (us.map fun i => cod L [i]).map fun u => (⟨u.toArray⟩ : Str), rfl, rfl, .inl (SqL.of (by rw [hD, List.map_map, List.map_map]; rfl)), ?_, ?_⟩
      · have hb0 : ("" : Str).length = 0 := by decide +kernel
        rw [hb0, List.map_map, List.map_map]
        have := sum_le (f := ((fun x : Str => x.length) ∘ fun u : List Nat => (⟨u.toArray⟩ : Str)) ∘ fun i : Nat => cod L [i]) (c := 1) (l := us) fun y _ => by show (⟨(cod L [y]).toArray⟩ : Str).length ≤ 1; rw [tv_len, cod_len]; simp
        omega
      · rw [join_nil, ← cod_flat L (fun i => [i]), flat_id]
        exact k H3 us b3 tp3 hus (by omega)
  · refine ⟨fun σ H' => But1 d H H' ∧ Tp tc H' d ∧ ∃ (u : List Nat) (v4 v6 v7 v8 : Option V), σ = [some (.ref d), some (.ref wd), some (.int 18), some (.ref jd), v4, some (tv (cod L u)), v6, v7, v8] ∧ (∀ i ∈ u, i < L.length) ∧ u.length ≤ 35, ?_, ?_⟩
    · refine ⟨_, rfl, d, _, rfl, _, tp1, by decide, fun H2 z2 hz2 ex2 tp2 => ⟨_, rfl, by omega, by omega, ?_⟩⟩
      have b2 := b1.trans ex2.but
      refine for_range (lo := 0) (fun i σ H' => But1 d H H' ∧ Tp tc H' d ∧ ∃ (u : List Nat) (l : Option Nat) (v4 v7 v8 : Option V), σ = [some (.ref d), some (.ref wd), some (.int 18), some (.ref jd), v4, some (tv (cod L u)), some (oV l), v7, v8] ∧ (∀ i ∈ u, i < L.length) ∧ u.length ≤ 5 * i ∧ l ∈ (mkM L ps TT).keys)
        ⟨b2, tp2, [], none, none, none, none, ?_, fun _ h => (by cases h), by simp, m.ok.none_⟩ ?_ ?_
      · have e0 : V.str ("" : Str) = tv (cod L []) := by rw [blank0]; rfl
        rw [← e0]; rfl
      · rintro i σ H3 hi ⟨b3, tp3, u, l, v4, v7, v8, rfl, hu, hul, hl⟩
        have hi7 : i < 7 := by omega
        obtain ⟨t, hv, ht⟩ := wt_get (paired_mono hkv fun _ _ => WtV.mono hd_sub) hl
        have ht3 := b3.to ht
        have hwd3 := b3.to hwd
        have hwe3 := b3.to hwe
        have tw : t ≠ wd := unq ht3 hwd3 (by intro e; unfold DN at e; cases e)
        have td : t ≠ d := hd_ne ht
        have lw := m.lw l hl
        refine ⟨t, _, ht3, True.intro, fun od => ⟨_, rfl, wd, _, rfl, wg_w ((upd_ne tw.symm).trans hwd3), we, rfl, ⟨kvs, rd_frz ht3 hwe3⟩, _, rfl, fun e1 ne1 => ?_⟩⟩
        have rwe : Rd (upd (upd H3 t (.frz od (DN P w t ((wtT TT l).map fun c => (oK c.1, V.int c.2))))) e1 (DN P w e1 [])) we (DN P w we kvs) := by
          rcases rd_frz (od := od) ht3 hwe3 with h | ⟨o, h⟩
          · exact .inl (upd_keep h ne1)
          · exact .inr ⟨o, upd_keep h ne1⟩
        have hfz := upd_keep (u := DN P w e1 []) (upd_same (H := H3) (a := t) (o := .frz od (DN P w t ((wtT TT l).map fun c => (oK c.1, V.int c.2))))) ne1
        refine ⟨some (.ref t), ⟨kvs, oK l, rwe, (nV_oK l).symm, hv.symm⟩, t, od, _, rfl, hfz, fun D nD => ?_⟩
        have fzs : (upd H3 t (.frz od (DN P w t ((wtT TT l).map fun c => (oK c.1, V.int c.2))))) t = some (.frz od (DN P w t ((wtT TT l).map fun c => (oK c.1, V.int c.2)))) := upd_same
        have nL : ∀ {x : Addr}, (upd H3 t (.frz od (DN P w t ((wtT TT l).map fun c => (oK c.1, V.int c.2))))) x = none → x ≠ t ∧ H3 x = none := fun {x} h => by
          have hxt : x ≠ t := (ne_of_none fzs h).symm
          rw [upd_ne hxt] at h
          exact ⟨hxt, h⟩
        obtain ⟨Dt, D3⟩ := nL (none_back (snew ne1) nD)
        have bE : But1 t H3 (upd (upd H3 t (.frz od (DN P w t ((wtT TT l).map fun c => (oK c.1, V.int c.2))))) e1 (DN P w e1 [])) := But1.refl.own.new ne1
        refine lc_nkeys (fun i H' => But1 t H3 H' ∧ H' t = some (.frz od (DN P w t ((wtT TT l).map fun c => (oK c.1, V.int c.2)))) ∧ ∃ S : List Nat, H' D = some (.lst (ivs S)) ∧ S.length ≤ i ∧ ∀ p ∈ S, some p ∈ (mkM L ps TT).keys) ⟨bE.new nD, upd_keep hfz nD, [], upd_same, Nat.le_refl _, fun _ h => (by cases h)⟩ (fun _ _ _ q => q.2.1) ?_ ?_
        · rintro e kx vx H4 hke ⟨b4, hf4, S, hD, hSl, hS⟩
          rw [List.getElem?_map] at hke
          obtain ⟨ch, hch, he⟩ : ∃ ch, (wtT TT l)[e]? = some ch ∧ (oK ch.1, V.int ch.2) = (kx, vx) := by
            cases hch : (wtT TT l)[e]? with
            | none => rw [hch] at hke; cases hke
            | some ch => rw [hch] at hke; exact ⟨ch, rfl, Option.some.inj hke⟩
          cases he
          have hel := (List.getElem?_eq_some_iff.mp hch).1
          have hcm : ch ∈ (mkM L ps TT).wt l := List.mem_of_getElem? hch
          have lw' : (wtT TT l).length ≤ 8 := lw
          obtain ⟨o, vv⟩ := ch
          rw [nV_oK]
          rcases o with _ | p
          · exact ⟨rfl, _, rfl, rfl, false, rfl, iteF ⟨b4, hf4, S, hD, by omega, hS⟩⟩
          · have hpk := (m.ok.key l hl p vv hcm).1
            refine ⟨rfl, _, rfl, rfl, true, rfl, iteT ⟨_, rfl, _, hD, by rw [List.length_map]; exact small1000 (by omega), b4.sch D3, (upd_ne Dt.symm).trans hf4, S ++ [p], by rw [upd_same]; simp [ivs, oV], by simp; omega, fun q hq => ?_⟩⟩
            rcases List.mem_append.mp hq with h | h
            · exact hS q h
            · cases List.mem_singleton.mp h; exact hpk
        · rintro H4 ⟨b4, hf4, S, hD, hSl, hS⟩
          refine ⟨hf4, ?_⟩
          rw [List.length_map] at hSl
          have lw' : (wtT TT l).length ≤ 8 := lw
          have sU : Same H3 (upd H4 t (DN P w t ((wtT TT l).map fun c => (oK c.1, V.int c.2)))) := fun x o h => by
            by_cases e : x = t
            · subst e
              rw [ht3] at h
              rw [← h]
              exact upd_same
            · exact (upd_ne e).trans (b4 x o e h)
          have hDU : (upd H4 t (DN P w t ((wtT TT l).map fun c => (oK c.1, V.int c.2)))) D = some (.lst (ivs S)) := (upd_ne Dt).trans hD
          have bU := b3.trans (but_same sU)
          have tpU := tp3.same sU
          generalize upd H4 t (DN P w t ((wtT TT l).map fun c => (oK c.1, V.int c.2))) = HU at *
          refine ⟨_, rfl, small_line (by show 0 ≤ 1000; omega), fun e2 ne2 => ⟨D, e2, S.map (fun n : Nat => (n : Int)), [], rfl, rfl, SqL.of (by rw [upd_keep hDU ne2, ivs_int]), SqL.of upd_same, _, rfl, ?_⟩⟩
          have sV := snew ne2 (o := .lst [])
          have bV := bU.trans (but_same sV)
          have tpV := tpU.same sV
          have hDV := sV _ _ hDU
          generalize upd HU e2 (.lst []) = HV at *
          refine ite2 (fun _ => ⟨bV, tpV, u, _, _, _, _, rfl, hu, by omega⟩) (fun hne => ?_)
          have hSne : S ≠ [] := fun e => hne (by rw [e]; exact decide_eq_true rfl)
          refine ⟨_, rfl, _, rfl, d, _, _, rfl, _, tpV, .inl ⟨D, rfl, hDV⟩, fun e => hSne (List.map_eq_nil_iff.mp e), fun HW v hvm exW tpW => ?_⟩
          obtain ⟨p, hp, rfl⟩ := List.mem_map.mp hvm
          have hpk := hS p hp
          have hpn := m.key hpk
          have bW := bV.trans exW.but
          have t5 := Jw.t5 p hpn
          refine ⟨_, rfl, _, rfl, jd, _, rfl, lg_t (bW.to J.d), _, rfl, tl, _, _, _, rfl, rfl, SqL.of (bW.to J.t), at_g rfl (txv_get hpn), _, _, rfl, rfl, small_line (by rw [tv_len, tv_len, cod_len, cod_len]; omega), ?_⟩
          rw [str_app, ← cod_app]
          refine ⟨bW, tpW, u ++ ltr L.length ps p, some p, _, _, _, rfl, fun q hq => ?_, by rw [List.length_append]; omega, hpk⟩
          rcases List.mem_append.mp hq with h | h
          · exact hu q h
          · exact Jw.pr.ltr_lt p hpn q h
      · rintro σ H3 ⟨b3, tp3, u, l, v4, v7, v8, rfl, hu, hul, hl⟩
        exact ⟨b3, tp3, u, _, _, _, _, rfl, hu, by omega⟩
    · rintro σ H2 ⟨b2, tp2, u, v4, v6, v7, v8, rfl, hu, hul⟩
      have hz : ∀ u : List Nat, u.length ≤ 100 → (⟨(cod L u).toArray⟩ : Str).length ≤ sizeLine := fun u h => by rw [tv_len, cod_len]; exact small_line (by omega)
      have hzl : ∀ u : List Nat, (⟨(cod L u).toArray⟩ : Str).length = u.length := fun u => by rw [tv_len, cod_len]
      refine ⟨_, rfl, _, rfl, _, rfl, _, _, rfl, ⟨hz u (by omega), rfl⟩, _, rfl, _, rfl, _, _, rfl, ⟨hz u (by omega), rfl⟩, _, _, rfl, rfl, d, _, rfl, _, tp2, by rw [hzl]; omega, fun H3 z3 hz3 ex3 tp3 => ⟨small_line (by show 2 ≤ 1000; omega), fun l3 n3 => ?_⟩⟩
      have s3 := snew n3 (o := .lst [V.int ((⟨(cod L u).toArray⟩ : Str).length : Int), iv z3])
      refine ⟨d, .ref l3, _, rfl, _, tp3.same s3, .inl ⟨l3, rfl, upd_same⟩, by simp, fun H4 v hv ex4 tp4 => ?_⟩
      obtain ⟨n, rfl⟩ : ∃ n : Nat, v = iv n := by
        simp only [List.mem_cons, List.not_mem_nil, or_false] at hv
        rcases hv with h | h
        · exact ⟨_, h⟩
        · exact ⟨_, h⟩
      have b4 := b2.trans (ex3.but.trans ((but_same s3).trans ex4.but))
      refine ⟨_, rfl, _, rfl, hz u (by omega), ?_⟩
      rw [cut_to, cod_take]
      have hu2 : ∀ i ∈ u.take n, i < L.length := fun i hi => hu i (List.mem_of_mem_take hi)
      have hul2 : (u.take n).length ≤ 35 := by rw [List.length_take]; omega
      generalize u.take n = u2 at *
      refine ⟨fun σ H' => But1 d H H' ∧ Tp tc H' d ∧ ∃ (u : List Nat) (v4 v6 v7 v8 : Option V), σ = [some (.ref d), some (.ref wd), some (.int 18), some (.ref jd), v4, some (tv (cod L u)), v6, v7, v8] ∧ (∀ i ∈ u, i < L.length) ∧ u.length ≤ 36, ?_, ?_⟩
      · refine ⟨_, rfl, d, _, rfl, _, tp4, by decide, fun H5 z5 hz5 ex5 tp5 => ⟨rfl, _, rfl, ?_⟩⟩
        have b5 := b4.trans ex5.but
        refine ite2 (fun _ => ?_) (fun _ => ⟨b5, tp5, u2, _, _, _, _, rfl, hu2, by omega⟩)
        refine ⟨_, rfl, _, rfl, _, rfl, jd, _, rfl, lg_l (b5.to J.d), d, _, _, rfl, _, tp5, items, ine, fun H6 v hv ex6 tp6 => ?_⟩
        obtain ⟨i, hi, rfl⟩ := sign_in hv
        refine ⟨_, _, rfl, rfl, small_line (by rw [hzl, hzl]; simp; omega), ?_⟩
        rw [str_app, ← cod_app]
        refine ⟨b5.trans ex6.but, tp6, u2 ++ [i], _, _, _, _, rfl, fun q hq => ?_, by simp; omega⟩
        rcases List.mem_append.mp hq with h | h
        · exact hu2 q h
        · cases List.mem_singleton.mp h; exact hi
      · rintro σ H5 ⟨b5, tp5, u3, v4, v6, v7, v8, rfl, hu3, hul3⟩
        refine ⟨_, rfl, _, rfl, 18, rfl, _, rfl, hz u3 (by omega), ?_⟩
        have e18 : (18 : Int) = ((18 : Nat) : Int) := rfl
        rw [e18, cut_to, cod_take]
        exact k H5 _ b5 tp5 (fun i hi => hu3 i (List.mem_of_mem_take hi)) (by rw [List.length_take]; omega)
theorem ok_text (T : Bi K mg) (C1 : Has P w K mg base "_law_draw" 2 ["_law_tape_here", "_law_many"] sp_draw) (C2 : Has P w K mg base "_law_pick" 3 ["_law_tape_here", "_law_row"] sp_pick) (D : Df K mg "_law_text" st_law_text) : Has P w K mg base "_law_text" 4 ["_law_tape_here", "_law_world_here", "_law_most"] (sp_text P w CM CJ) :=
  D.ok sc_law_text bd_law_text (fun vs H Q E ⟨_, _, _, _, _, e, _⟩ => by rw [e]; rfl) (body_law_text T C1 C2)
end
end Rj
set_option Elab.async false
set_option linter.all false
set_option maxRecDepth 100000
set_option maxHeartbeats 4000000
namespace Rj
open PySem PySem.Spec PyProof.Rows L2
theorem prod_snoc : ∀ (l : List Int) (a : Int), prod (l ++ [a]) = prod l * a
  | [], a => by show a * 1 = 1 * a; omega
  | b :: l, a => by show b * prod (l ++ [a]) = b * prod l * a; rw [prod_snoc l a, Int.mul_assoc]
theorem vals_int (cs : List Ch) : ((cs.map fun c => (oK c.1, V.int c.2)).map (·.2)) = (cs.map (·.2)).map V.int := by
  rw [List.map_map, List.map_map]; rfl
/-! ### all rows, in plain words -/
def fsum (L : List Nat) (ps : List (Nat × Nat)) (s : List Nat) (F : List (List Nat × Int)) : Int := sumf (fun e => if s <+: tR L ps e.1 then e.2 else 0) F
def kd (M : Mdl) (L : List Nat) (ps : List (Nat × Nat)) (s R : List Nat) (c : Ch) : Int := match c.1 with
  | none => if s <+: tR L ps R then M.pts R / M.W (lastO R) * c.2 else 0
  | some p => itm M L ps s (R ++ [p])
theorem itm_kd {M : Mdl} {L : List Nat} {ps : List (Nat × Nat)} (m : Mw L ps M) {s R : List Nat} (hC : M.Can R) : itm M L ps s R = sumf (kd M L ps s R) (M.wt (lastO R)) := by
  have hl := m.ok.can_le hC
  have n7 := m.n7
  rw [m.n] at hl
  have hk := m.ok.can_key hC
  unfold itm
  rw [show 8 - R.length = (7 - R.length) + 1 by omega, M.Vo_turn _ _ _ _ _ (m.ok.even hC)]
  refine sumf_congr fun c hc => ?_
  obtain ⟨o, v⟩ := c
  cases o with
  | none => rfl
  | some p =>
    have hp := m.key (m.ok.key _ hk p v hc).1
    unfold kd
    dsimp only
    unfold itm
    rw [lastO_snoc, M.pts_snoc, wOf_mem (m.ok.ndc _ hk) hc, tR_snoc, List.length_append, m.txt p hp]
    rw [show 8 - (R.length + [p].length) = 7 - R.length from by show 8 - (R.length + 1) = _; omega]
/-- a found row -/
def FOk (M : Mdl) (e : List Nat × Int) : Prop := M.Can e.1 ∧ ∃ n, (none, n) ∈ M.wt (lastO e.1) ∧ e.2 = M.pts e.1 / M.W (lastO e.1) * n
structure Bf (M : Mdl) (L : List Nat) (ps : List (Nat × Nat)) (k : Nat) (F : List (List Nat × Int)) (More Rest : List (List Nat)) : Prop where
  f : ∀ e ∈ F, FOk M e
  m : ∀ R ∈ More, M.Can R ∧ R.length = k + 1
  r : ∀ R ∈ Rest, M.Can R ∧ R.length = k
  sum : ∀ s, fsum L ps s F + sumf (itm M L ps s) More + sumf (itm M L ps s) Rest = M.V 8 M.T none s
  pt : F.length + pot More + pot Rest ≤ 9 ^ 7
theorem Bf.start {M : Mdl} {L : List Nat} {ps : List (Nat × Nat)} : Bf M L ps 0 [] [] [[]] := by
  refine ⟨fun _ h => (by cases h), fun _ h => (by cases h), fun R h => ?_, fun s => ?_, by decide⟩
  · cases List.mem_singleton.mp h
    exact ⟨.nil, rfl⟩
  · unfold fsum
    rw [sumf_nil, sumf_nil, sumf_cons, sumf_nil]
    show 0 + 0 + (M.V 8 M.T none s + 0) = _
    omega
theorem Bf.next {M : Mdl} {L : List Nat} {ps : List (Nat × Nat)} {k : Nat} {F : List (List Nat × Int)} {More : List (List Nat)} (b : Bf M L ps k F More []) : Bf M L ps (k + 1) F [] More :=
  ⟨b.f, fun _ h => (by cases h), b.m, fun s => by have := b.sum s; rw [sumf_nil] at *; omega, by have := b.pt; have e : pot [] = 0 := rfl; omega⟩
/-- while the choices of R are looked at -/
structure Bk (M : Mdl) (L : List Nat) (ps : List (Nat × Nat)) (k : Nat) (F0 : List (List Nat × Int)) (M0 : List (List Nat)) (R : List Nat) (i : Nat) (F : List (List Nat × Int)) (More : List (List Nat)) : Prop where
  f : ∀ e ∈ F, FOk M e
  m : ∀ R ∈ More, M.Can R ∧ R.length = k + 1
  sum : ∀ s, fsum L ps s F + sumf (itm M L ps s) More = fsum L ps s F0 + sumf (itm M L ps s) M0 + sumf (kd M L ps s R) ((M.wt (lastO R)).take i)
  pt : F.length + pot More ≤ F0.length + pot M0 + i * pw R + (if none ∈ ((M.wt (lastO R)).take i).map (·.1) then 1 else 0)
theorem Bk.start {M : Mdl} {L : List Nat} {ps : List (Nat × Nat)} {k : Nat} {F0 : List (List Nat × Int)} {M0 Rest : List (List Nat)} {R : List Nat} (b : Bf M L ps k F0 M0 (R :: Rest)) : Bk M L ps k F0 M0 R 0 F0 M0 :=
  ⟨b.f, b.m, fun s => by rw [List.take_zero, sumf_nil]; omega, by omega⟩
theorem fsum_snoc (L : List Nat) (ps : List (Nat × Nat)) (s : List Nat) (F : List (List Nat × Int)) (e : List Nat × Int) : fsum L ps s (F ++ [e]) = fsum L ps s F + if s <+: tR L ps e.1 then e.2 else 0 := by
  unfold fsum
  rw [sumf_app, sumf_cons, sumf_nil]; omega
theorem Bk.end_ {M : Mdl} {L : List Nat} {ps : List (Nat × Nat)} (m : Mw L ps M) {k : Nat} {F0 F : List (List Nat × Int)} {M0 More : List (List Nat)} {R : List Nat} {i : Nat} (b : Bk M L ps k F0 M0 R i F More) (hC : M.Can R) {n : Int} (hi : (M.wt (lastO R))[i]? = some (none, n)) :
    Bk M L ps k F0 M0 R (i + 1) (F ++ [(R, M.pts R / M.W (lastO R) * n)]) More := by
  have hsn := take_snoc hi
  have hk := m.ok.can_key hC
  have hni : none ∉ ((M.wt (lastO R)).take i).map (·.1) := fun hm => by
    have hnd := m.ok.ndc _ hk
    obtain ⟨c, hc, e⟩ := List.mem_map.mp hm
    obtain ⟨j, hj⟩ := List.getElem?_of_mem hc
    rw [List.getElem?_take] at hj
    split at hj
    · rename_i hji
      have a1 : ((M.wt (lastO R)).map (·.1))[j]? = some c.1 := by rw [List.getElem?_map, hj]; rfl
      have a2 : ((M.wt (lastO R)).map (·.1))[i]? = some none := by rw [List.getElem?_map, hi]; rfl
      obtain ⟨l1, e4⟩ := List.getElem?_eq_some_iff.mp a1
      obtain ⟨l2, e5⟩ := List.getElem?_eq_some_iff.mp a2
      rw [List.nodup_iff_pairwise_ne, List.pairwise_iff_getElem] at hnd
      exact hnd j i l1 l2 hji (by rw [e4, e5, e])
    · cases hj
  refine ⟨fun e he => ?_, b.m, fun s => ?_, ?_⟩
  · rcases List.mem_append.mp he with h | h
    · exact b.f e h
    · cases List.mem_singleton.mp h
      exact ⟨hC, n, List.mem_of_getElem? hi, rfl⟩
  · have := b.sum s
    rw [fsum_snoc, hsn, sumf_app, sumf_cons, sumf_nil]
    show _ + (if s <+: tR L ps R then M.pts R / M.W (lastO R) * n else 0) + _ = _ + _ + (_ + ((if s <+: tR L ps R then M.pts R / M.W (lastO R) * n else 0) + 0))
    omega
  · have := b.pt
    rw [if_neg hni] at this
    rw [hsn, if_pos (by simp), List.length_append, Nat.add_mul, Nat.one_mul]
    simp only [List.length_cons, List.length_nil]
    omega
theorem Bk.push {M : Mdl} {L : List Nat} {ps : List (Nat × Nat)} (m : Mw L ps M) {k : Nat} {F0 F : List (List Nat × Int)} {M0 More : List (List Nat)} {R : List Nat} {i : Nat} (b : Bk M L ps k F0 M0 R i F More) (hC : M.Can R) (hRk : R.length = k) {p : Nat} {n : Int} (hi : (M.wt (lastO R))[i]? = some (some p, n)) :
    Bk M L ps k F0 M0 R (i + 1) F (More ++ [R ++ [p]]) := by
  have hsn := take_snoc hi
  have hC' : M.Can (R ++ [p]) := .snoc hC (List.mem_of_getElem? hi)
  have hl := m.ok.can_le hC'
  have n7 := m.n7
  rw [m.n] at hl
  refine ⟨b.f, fun x hx => ?_, fun s => ?_, ?_⟩
  · rcases List.mem_append.mp hx with h | h
    · exact b.m x h
    · cases List.mem_singleton.mp h
      exact ⟨hC', by simp [hRk]⟩
  · have := b.sum s
    rw [hsn, sumf_app, sumf_cons, sumf_nil, sumf_app, sumf_cons, sumf_nil]
    show _ + (_ + (itm M L ps s (R ++ [p]) + 0)) = _ + _ + (_ + (itm M L ps s (R ++ [p]) + 0))
    omega
  · have := b.pt
    rw [pot_app, pot_one, pw_snoc (by omega), hsn, Nat.add_mul, Nat.one_mul]
    have e : (none ∈ ((M.wt (lastO R)).take i ++ [(some p, n)]).map (·.1)) ↔ none ∈ ((M.wt (lastO R)).take i).map (·.1) := by simp
    by_cases h : none ∈ ((M.wt (lastO R)).take i).map (·.1)
    · rw [if_pos h] at this
      rw [if_pos (e.mpr h)]
      omega
    · rw [if_neg h] at this
      rw [if_neg (fun q => h (e.mp q))]
      omega
theorem Bk.done {M : Mdl} {L : List Nat} {ps : List (Nat × Nat)} (m : Mw L ps M) {k : Nat} {F0 F : List (List Nat × Int)} {M0 More Rest : List (List Nat)} {R : List Nat} (b0 : Bf M L ps k F0 M0 (R :: Rest)) (b : Bk M L ps k F0 M0 R (M.wt (lastO R)).length F More) : Bf M L ps k F More Rest := by
  have hC := (b0.r R (List.mem_cons_self ..)).1
  have hk := m.ok.can_key hC
  have h8 := m.lw _ hk
  refine ⟨b.f, b.m, fun x hx => b0.r x (List.mem_cons_of_mem _ hx), fun s => ?_, ?_⟩
  · have h1 := b.sum s
    have h2 := b0.sum s
    rw [List.take_length, ← itm_kd m hC] at h1
    rw [sumf_cons] at h2
    omega
  · have h1 := b.pt
    have h2 := b0.pt
    have h3 := pw_lt R
    have h4 : (M.wt (lastO R)).length * pw R ≤ 8 * pw R := Nat.mul_le_mul_right _ h8
    have h5 : pot (R :: Rest) = 9 ^ (7 - R.length) + pot Rest := by rw [show R :: Rest = [R] ++ Rest from rfl, pot_app, pot_one]
    split at h1 <;> omega
section
variable {P : Program} {w : World} {K : PySem.W.Frag} {mg : Str → Option Value} {base : Heap} {CJ CM CS : Addr}
def sp_all (P : Program) (w : World) : Sp := fun vs H Q _ => ∃ (we : Addr) (L : List Nat) (ps : List (Nat × Nat)) (T : List (Option Nat × List Ch)) (kvs : List (NKey × V)), vs = [.ref we] ∧ Mw L ps (mkM L ps T) ∧ H we = some (DN P w we kvs) ∧ Paired (WtV P w (hd we H)) kvs T ∧
  ∀ H', Same H H' → Q (.int (mkM L ps T).T) H'
abbrev st_law_all : Stmt := top 57
theorem sc_law_all : FnScope ["_law_weights_here", "_law_whole", "_law_last"] ["_law_weights_here"] (defScope st_law_all) := ⟨rfl, rfl, rfl, by decide +kernel, rfl, by decide +kernel, by decide +kernel⟩
theorem bd_law_all : Bnd "_law_all" "_law_all" st_law_all ["_law_weights_here"] := fun _ _ _ _ _ _ us hl => match us, hl with | [_], _ => rfl
-- 0:_law_weights_here 1:_law_whole 2:_law_last
theorem body_law_all (T : Bi K mg) : Body P w K mg base "_law_all" st_law_all 0 ["_law_weights_here", "_law_whole", "_law_last"] (sp_all P w) := by
  have nd := sc_law_all.nd
  intro f cdv A outer s H vs Q E hr h
  obtain ⟨we, L, ps, TT, kvs, rfl, m, hwe, hkv, k⟩ := h
  refine ⟨_, (pss_cons (ps_set (i := 1) nd rfl (by first | exact .inl rfl | exact .inr rfl) pe_int)
    (pss_cons (ps_lock (ps_for PassesOwn.never rfl (pi_nkeys (pv 0)) (pg_name (i := 2) nd rfl (by first | exact .inl rfl | exact .inr rfl))
      (pss_one (ps_set (i := 1) nd rfl (by first | exact .inl rfl | exact .inr rfl) (pe_op op_mul (pv 1) (pe_callB (cr_sum rfl) (by rfl) T.sum (by decide +kernel) (pa_cons (pe_vals rfl (pe_nget (pv 0) (pv 2) (fun _ _ => rfl)) (by rfl) T.list (by decide +kernel)) pa_nil)))))))
    (pss_one (ps_ret (pv 1))))), ?_⟩

  refine ⟨we, _, hwe, True.intro, fun od => ⟨_, rfl, we, od, kvs, rfl, upd_same, it_nkeys (fun i σ H' => But1 we H H' ∧ H' we = some (.frz od (DN P w we kvs)) ∧ ∃ (v2 : Option V), σ = [some (.ref we), some (.int (prod (((mkM L ps TT).keys.take i).map (mkM L ps TT).W))), v2]) ⟨But1.refl.own, upd_same, _, rfl⟩ (fun _ _ _ _ q => q.2.1) ?_ ?_⟩⟩
  · rintro i kx vx σ H1 hki ⟨b1, hf, v2, rfl⟩
    obtain ⟨e, he, hwt⟩ := paired_get hkv hki
    have hek : (mkM L ps TT).keys[i]? = some e.1 := by show (TT.map (·.1))[i]? = _; rw [List.getElem?_map, he]; rfl
    have hem := List.mem_of_getElem? hek
    obtain ⟨t, hv, ht⟩ := wt_get hkv hem
    have e1 : kx = oK e.1 := hwt.1
    subst e1
    rw [nV_oK]
    have hW1 := m.ok.Wpos hem
    have hW2 := m.wB _ hem
    refine ⟨_, rfl, _, rfl, _, rfl, we, .ref t, rfl, ⟨kvs, oK e.1, .inr ⟨od, hf⟩, (nV_oK _).symm, hv.symm⟩, t, _, rfl, b1 t _ (hd_ne ht) (hd_sub _ _ ht), fun q nq => ⟨q, (wtT TT e.1).map (·.2), rfl, SqL.of (by rw [upd_same, vals_int]), ?_⟩⟩
    have hs : ((wtT TT e.1).map (·.2)).sum = (mkM L ps TT).W e.1 := rfl
    rw [hs]
    refine ⟨_, _, rfl, rfl, .inr ⟨by omega, by omega⟩, b1.new nq, upd_keep hf nq, some (oV e.1), ?_⟩
    rw [take_snoc hek, List.map_append, List.map_cons, List.map_nil, prod_snoc]
    rfl
  · rintro σ H1 ⟨b1, hf, v2, rfl⟩
    refine ⟨hf, _, rfl, ?_⟩
    have hl := Paired.length hkv
    have : (mkM L ps TT).keys.take kvs.length = (mkM L ps TT).keys := by rw [hl]; exact List.take_of_length_le (by show (TT.map (·.1)).length ≤ _; simp)
    rw [this]
    refine k _ fun x o h => ?_
    by_cases e : x = we
    · subst e
      rw [hwe] at h
      rw [← h]
      exact upd_same
    · exact (upd_ne e).trans (b1 x o e h)
theorem ok_all (T : Bi K mg) (D : Df K mg "_law_all" st_law_all) : Has P w K mg base "_law_all" 1 ["_law_weights_here"] (sp_all P w) :=
  D.ok sc_law_all bd_law_all (fun vs H Q E ⟨_, _, _, _, _, e, _⟩ => by rw [e]; rfl) (body_law_all T)
end
end Rj
set_option Elab.async false
set_option linter.all false
set_option maxRecDepth 100000
set_option maxHeartbeats 4000000
namespace Rj
open PySem PySem.Spec PyProof.Rows L2
def FndV (H : Hp) (x : V) (e : List Nat × Int) : Prop := ∃ t r, x = .ref t ∧ H t = some (.tup [.ref r, .int e.2]) ∧ H r = some (.tup (ivs e.1))
def FrtV (M : Mdl) (H : Hp) (x : V) (R : List Nat) : Prop := ∃ t r, x = .ref t ∧ H t = some (.tup [.ref r, oV (lastO R), .int (M.pts R)]) ∧ H r = some (.tup (ivs R))
theorem FndV.mono {H H' : Hp} {x : V} {e : List Nat × Int} (s : Tups H H') (h : FndV H x e) : FndV H' x e := by
  obtain ⟨t, r, e, h1, h2⟩ := h
  exact ⟨t, r, e, s _ _ h1, s _ _ h2⟩
theorem FrtV.mono {M : Mdl} {H H' : Hp} {x : V} {R : List Nat} (s : Tups H H') (h : FrtV M H x R) : FrtV M H' x R := by
  obtain ⟨t, r, e, h1, h2⟩ := h
  exact ⟨t, r, e, s _ _ h1, s _ _ h2⟩
theorem tups_dn {P : Program} {w : World} {H : Hp} {l : Addr} {kvs : List (NKey × V)} {o : HO} (h : H l = some (DN P w l kvs)) : Tups H (upd H l o) := fun a ys ha => (upd_ne (unq ha h (by intro e; unfold DN at e; cases e))).trans ha
theorem tups_frz {H : Hp} {l : Addr} {od : Obj} {u o : HO} (h : H l = some (.frz od u)) : Tups H (upd H l o) := fun a ys ha => (upd_ne (unq ha h (by intro e; cases e))).trans ha
theorem Tups.refl {H : Hp} : Tups H H := fun _ _ h => h
theorem val_cs {cs : List Ch} (hn : (cs.map (·.1)).Nodup) {c : Ch} (h : c ∈ cs) : valV (cs.map fun c => (oK c.1, V.int c.2)) (oK c.1) = some (.int c.2) := by
  induction cs with
  | nil => cases h
  | cons a cs ih =>
    rw [List.map_cons, List.nodup_cons] at hn
    by_cases e : a.1 = c.1
    · rcases List.mem_cons.mp h with rfl | h
      · exact valV_pos (p := (oK c.1, V.int c.2)) rfl
      · exact absurd (List.mem_map.mpr ⟨c, h, e.symm⟩) hn.1
    · rcases List.mem_cons.mp h with rfl | h
      · exact absurd rfl e
      · rw [List.map_cons, valV_neg (fun z => e (oK_inj z))]
        exact ih hn.2 h
section
variable {P : Program} {w : World} {K : PySem.W.Frag} {mg : Str → Option Value} {base : Heap} {CJ CM CS : Addr}
def sp_all_rows (P : Program) (w : World) : Sp := fun vs H Q _ => ∃ (we : Addr) (L : List Nat) (ps : List (Nat × Nat)) (T : List (Option Nat × List Ch)) (kvs : List (NKey × V)), vs = [.ref we, iv (np L ps)] ∧ Mw L ps (mkM L ps T) ∧ H we = some (DN P w we kvs) ∧ Paired (WtV P w (hd we H)) kvs T ∧
  ∀ H' fl xs F, Same H H' → H' fl = some (.lst xs) → Paired (FndV H') xs F → (∀ e ∈ F, FOk (mkM L ps T) e) → (∀ s, fsum L ps s F = (mkM L ps T).V 8 (mkM L ps T).T none s) → F.length ≤ 9 ^ 7 → Q (.ref fl) H'
abbrev st_law_all_rows : Stmt := top 58
theorem sc_law_all_rows : FnScope ["_law_weights_here", "_law_many", "_law_found", "_law_front", "_law_k", "_law_more", "_law_row", "_law_last", "_law_parts", "_law_choices", "_law_each", "_law_piece"] ["_law_weights_here", "_law_many"] (defScope st_law_all_rows) := ⟨rfl, rfl, rfl, by decide +kernel, rfl, by decide +kernel, by decide +kernel⟩
theorem bd_law_all_rows : Bnd "_law_all_rows" "_law_all_rows" st_law_all_rows ["_law_weights_here", "_law_many"] := fun _ _ _ _ _ _ us hl => match us, hl with | [_, _], _ => rfl
-- 0:_law_weights_here 1:_law_many 2:_law_found 3:_law_front 4:_law_k 5:_law_more 6:_law_row 7:_law_last 8:_law_parts 9:_law_choices 10:_law_each 11:_law_piece
theorem body_law_all_rows (T : Bi K mg) (C_law_all : Has P w K mg base "_law_all" 1 ["_law_weights_here"] (sp_all P w)) : Body P w K mg base "_law_all_rows" st_law_all_rows 1 ["_law_weights_here", "_law_many", "_law_found", "_law_front", "_law_k", "_law_more", "_law_row", "_law_last", "_law_parts", "_law_choices", "_law_each", "_law_piece"] (sp_all_rows P w) := by
  have nd := sc_law_all_rows.nd
  intro f cdv A outer s H vs Q E hr h
  obtain ⟨we, L, ps, TT, kvs, rfl, m, hwe, hkv, k⟩ := h
  refine ⟨_, (pss_cons (ps_set (i := 2) nd rfl (by first | exact .inl rfl | exact .inr rfl) (pe_lst pa_nil))
    (pss_cons (ps_set (i := 3) nd rfl (by first | exact .inl rfl | exact .inr rfl) (pe_lst (pa_cons (pe_tup (pa_cons (pe_tup pa_nil) (pa_cons pe_non (pa_cons (c_fn C_law_all hr (by rfl) (pa_cons (pv 0) pa_nil)) pa_nil)))) pa_nil)))
    (pss_cons (ps_for PassesOwn.never rfl (pi_range1 (by rfl) T.range (pa_cons (pe_op op_add (pv 1) pe_int) pa_nil)) (pg_name (i := 4) nd rfl (by first | exact .inl rfl | exact .inr rfl))
      (pss_cons (ps_set (i := 5) nd rfl (by first | exact .inl rfl | exact .inr rfl) (pe_lst pa_nil))
      (pss_cons (ps_for PassesOwn.never rfl (pi_list (pv 3)) (pg_tup (n := 3) rfl (pgs_cons (pg_name (i := 6) nd rfl (by first | exact .inl rfl | exact .inr rfl)) (pgs_cons (pg_name (i := 7) nd rfl (by first | exact .inl rfl | exact .inr rfl)) (pgs_cons (pg_name (i := 8) nd rfl (by first | exact .inl rfl | exact .inr rfl)) pgs_nil))))
        (pss_cons (ps_set (i := 9) nd rfl (by first | exact .inl rfl | exact .inr rfl) (pe_nget (pv 0) (pv 7) (fun _ _ => rfl)))
        (pss_cons (ps_set (i := 10) nd rfl (by first | exact .inl rfl | exact .inr rfl) (pe_op op_fdivW (pv 8) (pe_callB (cr_sum rfl) (by rfl) T.sum (by decide +kernel) (pa_cons (pe_vals rfl (pv 9) (by rfl) T.list (by decide +kernel)) pa_nil))))
        (pss_one (ps_lock (ps_for PassesOwn.never rfl (pi_nkeys (pv 9)) (pg_name (i := 11) nd rfl (by first | exact .inl rfl | exact .inr rfl))
          (pss_one (ps_if (pt_cmpR op_isN (pv 11) pe_non (nomark _))
            (pss_one (ps_expr (pe_bm PySem.F.plainAttrs_list PySem.F.slot_list_append PySem.F.type_list_append mt_append (pv 2) (pa_cons (pe_tup (pa_cons (pv 6) (pa_cons (pe_op op_mul (pv 10) (pe_nget (pv 9) (pv 11) (fun _ _ => rfl))) pa_nil))) pa_nil))))
            (pss_one (ps_expr (pe_bm PySem.F.plainAttrs_list PySem.F.slot_list_append PySem.F.type_list_append mt_append (pv 5) (pa_cons (pe_tup (pa_cons (pe_op op_catA (pv 6) (pe_tup (pa_cons (pv 11) pa_nil))) (pa_cons (pv 11) (pa_cons (pe_op op_mul (pv 10) (pe_nget (pv 9) (pv 11) (fun _ _ => rfl))) pa_nil)))) pa_nil))))))))))))
      (pss_one (ps_set (i := 3) nd rfl (by first | exact .inl rfl | exact .inr rfl) (pe_callTy call_list_of (by rfl) T.list (by decide +kernel) (pa_cons (pv 5) pa_nil)))))))
    (pss_one (ps_ret (pv 2)))))), ?_⟩

  have n7 := m.n7
  have h97 : 9 ^ 7 < 16777216 := by decide
  have hTp := m.ok.Tpos
  generalize hM : mkM L ps TT = M at *
  have hMk : ∀ {l : Option Nat}, l ∈ M.keys → l ∈ TT.map (·.1) := fun {l} h => by rw [← hM] at h; exact h
  have hMw : ∀ l, M.wt l = wtT TT l := fun l => by rw [← hM]; rfl
  refine ⟨small_line (by show 0 ≤ 1000; omega), fun fl nfl => ?_⟩
  have s1 := snew nfl (o := .lst [])
  refine ⟨small_line (by show 0 ≤ 1000; omega), fun r0 nr0 => ?_⟩
  have s2 := snw s1 nr0 (o := .tup [])
  refine ⟨_, rfl, we, L, ps, TT, kvs, rfl, by rw [hM]; exact m, s2 _ _ hwe, paired_mono hkv fun _ _ => WtV.mono (hd_but (but_same s2)), fun H3 s3 => ⟨small_line (by show 3 ≤ 1000; omega), fun t0 nt0 => ⟨small_line (by show 1 ≤ 1000; omega), fun fr nfr => ?_⟩⟩⟩
  rw [hM] at nfr ⊢
  have fl2 : (upd (upd H fl (.lst [])) r0 (.tup [])) fl = some (.lst []) := upd_keep upd_same nr0
  have fl3 := s3 _ _ fl2
  have fl4 := upd_keep (u := .tup [V.ref r0, V.non, V.int M.T]) fl3 nt0
  have r03 := s3 _ _ (upd_same : (upd (upd H fl (.lst [])) r0 (.tup [])) r0 = _)
  have s4 := snw (s2.trans s3) nt0 (o := .tup [V.ref r0, V.non, V.int M.T])
  have s5 := snw s4 nfr (o := .lst [V.ref t0])
  refine ⟨_, rfl, _, _, rfl, rfl, _, rfl, by omega, by omega, ?_⟩
  refine for_range (lo := 0) (fun kk σ H' => Same H H' ∧ ∃ (fr : Addr) (fs ws : List V) (F : List (List Nat × Int)) (Ws : List (List Nat)) (v4 v5 v6 v7 v8 v9 v10 v11 : Option V), σ = [some (.ref we), some (iv (np L ps)), some (.ref fl), some (.ref fr), v4, v5, v6, v7, v8, v9, v10, v11] ∧ H' fl = some (.lst fs) ∧ H' fr = some (.lst ws) ∧ fr ≠ fl ∧ Paired (FndV H') fs F ∧ Paired (FrtV M H') ws Ws ∧ Bf M L ps kk F [] Ws)
    ⟨s5, fr, [], [V.ref t0], [], [[]], _, _, _, _, _, _, _, _, rfl, upd_keep fl4 nfr, upd_same, (ne_of_none fl4 nfr).symm, .nil, .cons ⟨t0, r0, rfl, upd_keep (by rw [upd_same, M.pts_nil]; rfl) nfr, upd_keep (upd_keep r03 nt0) nfr⟩ .nil, Bf.start⟩ ?_ ?_
  · rintro kk σ H1 hkk ⟨sH, fr, fs, ws, F, Ws, v4, v5, v6, v7, v8, v9, v10, v11, rfl, hfl, hfr, hne, pF, pW, bf⟩
    have hkn : kk ≤ np L ps := by omega
    refine ⟨small_line (by show 0 ≤ 1000; omega), fun ml nml => ?_⟩
    have sm := snew nml (o := .lst [])
    have mlfl : ml ≠ fl := (ne_of_none hfl nml).symm
    have mlfr : ml ≠ fr := (ne_of_none hfr nml).symm
    have mlH := none_back sH nml
    have hWl := Paired.length pW
    refine ⟨_, rfl, fr, rfl, ⟨_, SqL.of (sm _ _ hfr)⟩, for_list (xs := ws) (fun j σ H' => Same H H' ∧ Tups H1 H' ∧ H' fr = some (.lst ws) ∧ ∃ (fs ms : List V) (F : List (List Nat × Int)) (More : List (List Nat)) (v6 v7 v8 v9 v10 v11 : Option V), σ = [some (.ref we), some (iv (np L ps)), some (.ref fl), some (.ref fr), some (.int (0 + kk)), some (.ref ml), v6, v7, v8, v9, v10, v11] ∧ H' fl = some (.lst fs) ∧ H' ml = some (.lst ms) ∧ Paired (FndV H') fs F ∧ Paired (FrtV M H') ms More ∧ Bf M L ps kk F More (Ws.drop j))
      ⟨sH.trans sm, tups_of sm, sm _ _ hfr, fs, [], F, [], _, _, _, _, _, _, rfl, sm _ _ hfl, upd_same, paired_mono pF fun _ _ => FndV.mono (tups_of sm), .nil, bf⟩ (fun _ _ _ _ q => SqL.of q.2.2.1) ?_ ?_⟩
    · rintro j x σ H2 hxj ⟨s2', tu2, hfr2, fs, ms, F, More, v6, v7, v8, v9, v10, v11, rfl, hfl2, hml2, pF2, pM2, bf2⟩
      obtain ⟨R, hR, t, r, rfl, ht, hr⟩ := paired_get pW hxj
      have hdr : Ws.drop j = R :: Ws.drop (j + 1) := by
        obtain ⟨h1, h2⟩ := List.getElem?_eq_some_iff.mp hR
        rw [List.drop_eq_getElem_cons h1, h2]
      rw [hdr] at bf2
      obtain ⟨hC, hRk⟩ := bf2.r R (List.mem_cons_self ..)
      have hk := m.ok.can_key hC
      obtain ⟨tt, hv, htt⟩ := wt_get hkv (hMk hk)
      rw [← hMw] at htt
      have htt2 := s2' _ _ (hd_sub _ _ htt)
      have hW1 := m.ok.Wpos hk
      have hW2 := m.wB _ hk
      have hcn := m.ok.ndc _ hk
      have h8 := m.lw _ hk
      have hpl := m.ok.pts_le hC
      refine ⟨t, _, rfl, SqT.of (tu2 _ _ ht), rfl, _, _, rfl, _, _, rfl, _, _, rfl, rfl, ?_⟩
      refine ⟨_, rfl, _, rfl, we, .ref tt, rfl, ⟨kvs, oK (lastO R), .inl (s2' _ _ hwe), (nV_oK _).symm, hv.symm⟩, ?_⟩
      refine ⟨_, rfl, _, rfl, tt, _, rfl, htt2, fun q nq => ⟨q, (M.wt (lastO R)).map (·.2), rfl, SqL.of (by rw [upd_same, vals_int]), ?_⟩⟩
      rw [show ((M.wt (lastO R)).map (·.2)).sum = M.W (lastO R) from rfl]
      refine ⟨_, _, rfl, rfl, wide_div (b := 40) hW1 (by omega) (by decide) (by decide), ?_⟩
      have s3' := snew nq (o := .lst (((M.wt (lastO R)).map fun c => (oK c.1, V.int c.2)).map (·.2)))
      have sA : Same H (upd H2 q (.lst (((M.wt (lastO R)).map fun c => (oK c.1, V.int c.2)).map (·.2)))) := s2'.trans s3'
      have htt3 := s3' _ _ htt2
      have hfl3 := s3' _ _ hfl2
      have hml3 := s3' _ _ hml2
      have hfr3 := s3' _ _ hfr2
      have pF3 := paired_mono pF2 fun _ _ => FndV.mono (tups_of s3')
      have pM3 := paired_mono pM2 fun _ _ => FrtV.mono (tups_of s3')
      have tu3 := tu2.trans (tups_of s3')
      have hr3 := tu3 _ _ hr
      generalize upd H2 q (.lst (((M.wt (lastO R)).map fun c => (oK c.1, V.int c.2)).map (·.2))) = H3 at *
      have ttfl : tt ≠ fl := unq htt3 hfl3 (by intro e; unfold DN at e; cases e)
      have ttml : tt ≠ ml := unq htt3 hml3 (by intro e; unfold DN at e; cases e)
      have ttfr : tt ≠ fr := unq htt3 hfr3 (by intro e; unfold DN at e; cases e)
      refine ⟨tt, _, htt3, True.intro, fun od => ⟨_, rfl, tt, od, _, rfl, upd_same, it_nkeys (fun i σ H' => But tt fl ml ml H3 H' ∧ Tups H3 H' ∧ H' tt = some (.frz od (DN P w tt ((M.wt (lastO R)).map fun c => (oK c.1, V.int c.2)))) ∧ ∃ (fs ms : List V) (F' : List (List Nat × Int)) (More' : List (List Nat)) (v11 : Option V), σ = [some (.ref we), some (iv (np L ps)), some (.ref fl), some (.ref fr), some (.int (0 + kk)), some (.ref ml), some (.ref r), some (oV (lastO R)), some (.int (M.pts R)), some (.ref tt), some (.int (M.pts R / M.W (lastO R))), v11] ∧ H' fl = some (.lst fs) ∧ H' ml = some (.lst ms) ∧ Paired (FndV H') fs F' ∧ Paired (FrtV M H') ms More' ∧ Bk M L ps kk F More R i F' More')
        ⟨fun x o h1 _ _ _ h => (upd_ne h1).trans h, tups_dn htt3, upd_same, fs, ms, F, More, _, rfl, (upd_ne ttfl.symm).trans hfl3, (upd_ne ttml.symm).trans hml3, paired_mono pF3 fun _ _ => FndV.mono (tups_dn htt3), paired_mono pM3 fun _ _ => FrtV.mono (tups_dn htt3), Bk.start bf2⟩ (fun _ _ _ _ q => q.2.2.1) ?_ ?_⟩⟩
      · rintro i kx vx σ H4 hki ⟨b4, tu4, hf4, fs, ms, F', More', v11, rfl, hfl4, hml4, pF4, pM4, bk⟩
        rw [List.getElem?_map] at hki
        obtain ⟨ch, hch, he⟩ : ∃ ch, (M.wt (lastO R))[i]? = some ch ∧ (oK ch.1, V.int ch.2) = (kx, vx) := by
          cases hch : (M.wt (lastO R))[i]? with
          | none => rw [hch] at hki; cases hki
          | some ch => rw [hch] at hki; exact ⟨ch, rfl, Option.some.inj hki⟩
        cases he
        have hcm := List.mem_of_getElem? hch
        have hcl := (List.getElem?_eq_some_iff.mp hch).1
        obtain ⟨w1, w2⟩ := m.ok.w_le hk hcm
        have hvc := val_cs hcn hcm
        have hFl := Paired.length pF4
        have hMl := Paired.length pM4
        have hr4 := tu4 _ _ hr3
        have hsz : F'.length + pot More' ≤ 9 ^ 7 := by
          have e1 := bk.pt
          have e2 := bf2.pt
          have e3 := pw_lt R
          have e4 : i * pw R ≤ 8 * pw R := Nat.mul_le_mul_right _ (by omega)
          have e5 : pot (R :: Ws.drop (j + 1)) = 9 ^ (7 - R.length) + pot (Ws.drop (j + 1)) := by rw [show R :: Ws.drop (j + 1) = [R] ++ Ws.drop (j + 1) from rfl, pot_app, pot_one]
          split at e1 <;> omega
        have hpl2 := pot_len More'
        obtain ⟨o, vv⟩ := ch
        rw [nV_oK]
        rcases o with _ | p
        · refine ⟨_, rfl, rfl, true, rfl, iteT ?_⟩
          refine ⟨_, rfl, .inl ⟨rfl, _, SqL.of hfl4⟩, _, rfl, _, rfl, _, rfl, _, rfl, tt, _, rfl, ⟨_, oK none, .inr ⟨od, hf4⟩, (nV_oK _).symm, hvc.symm⟩, _, _, rfl, rfl, .inr ⟨by simp only at w1; omega, by simp only at w2; omega⟩, small_line (by show 2 ≤ 1000; omega), fun t2 nt2 => ?_⟩
          have s5' := snew nt2 (o := .tup [V.ref r, V.int (M.pts R / M.W (lastO R) * vv)])
          have hfl5 := s5' _ _ hfl4
          have tE := tups_lst (o := .lst (fs ++ [V.ref t2])) hfl5
          have tF := (tups_of s5').trans tE
          refine ⟨_, _, _, rfl, rfl, hfl5, by rw [sizeLine_eq]; omega, fun x o h1 h2 h3 h4 h => (upd_ne h2).trans (s5' _ _ (b4 x o h1 h2 h3 h4 h)), tu4.trans tF, (upd_ne ttfl).trans (s5' _ _ hf4), fs ++ [V.ref t2], ms, F' ++ [(R, M.pts R / M.W (lastO R) * vv)], More', some (oV none), rfl, upd_same, (upd_ne mlfl).trans (s5' _ _ hml4), paired_app (paired_mono pF4 fun _ _ => FndV.mono tF) (.cons ⟨t2, r, rfl, tE _ _ upd_same, tF _ _ hr4⟩ .nil), paired_mono pM4 fun _ _ => FrtV.mono tF, bk.end_ m hC hch⟩
        · refine ⟨_, rfl, rfl, false, rfl, iteF ?_⟩
          have hRl := m.ok.can_le hC
          rw [m.n] at hRl
          refine ⟨_, rfl, .inl ⟨rfl, _, SqL.of hml4⟩, _, rfl, _, rfl, small_line (by show 1 ≤ 1000; omega), fun p1 np1 => catA_by (upd_keep hr4 np1) upd_same (by simp) (small_line (by simp; omega)) fun H5 z s5' hz => ?_⟩
          have sB : Same H4 H5 := (snew np1).trans s5'
          have hz' : H5 z = some (.tup (ivs (R ++ [p]))) := by rw [hz]; simp [ivs, oV]
          refine ⟨_, rfl, _, rfl, _, rfl, _, rfl, tt, _, rfl, ⟨_, oK (some p), .inr ⟨od, sB _ _ hf4⟩, (nV_oK _).symm, hvc.symm⟩, _, _, rfl, rfl, .inr ⟨by simp only at w1; omega, by simp only at w2; omega⟩, small_line (by show 3 ≤ 1000; omega), fun t2 nt2 => ?_⟩
          have s6' := snew nt2 (o := .tup [V.ref z, oV (some p), V.int (M.pts R / M.W (lastO R) * vv)])
          have sC := sB.trans s6'
          have hml5 := sC _ _ hml4
          have tE := tups_lst (o := .lst (ms ++ [V.ref t2])) hml5
          have tF := (tups_of sC).trans tE
          have hpts : M.pts (R ++ [p]) = M.pts R / M.W (lastO R) * vv := by rw [M.pts_snoc, wOf_mem hcn hcm]
          refine ⟨_, _, _, rfl, rfl, hml5, by rw [sizeLine_eq]; omega, fun x o h1 h2 h3 h4 h => (upd_ne h3).trans (sC _ _ (b4 x o h1 h2 h3 h4 h)), tu4.trans tF, (upd_ne ttml).trans (sC _ _ hf4), fs, ms ++ [V.ref t2], F', More' ++ [R ++ [p]], some (oV (some p)), rfl, (upd_ne mlfl.symm).trans (sC _ _ hfl4), upd_same, paired_mono pF4 fun _ _ => FndV.mono tF, paired_app (paired_mono pM4 fun _ _ => FrtV.mono tF) (.cons ⟨t2, z, rfl, tE _ _ (by rw [upd_same, lastO_snoc, hpts]), tE _ _ (upd_keep hz' nt2)⟩ .nil), bk.push m hC hRk hch⟩
      · rintro σ H4 ⟨b4, tu4, hf4, fs, ms, F', More', v11, rfl, hfl4, hml4, pF4, pM4, bk⟩
        rw [List.length_map] at bk
        have tG := tups_frz (o := DN P w tt ((M.wt (lastO R)).map fun c => (oK c.1, V.int c.2))) hf4
        refine ⟨hf4, fun x o h => ?_, (tu3.trans tu4).trans tG, (upd_ne ttfr.symm).trans (b4 fr _ ttfr.symm hne mlfr.symm mlfr.symm hfr3), fs, ms, F', More', _, _, _, _, _, _, rfl, (upd_ne ttfl.symm).trans hfl4, (upd_ne ttml.symm).trans hml4, paired_mono pF4 fun _ _ => FndV.mono tG, paired_mono pM4 fun _ _ => FrtV.mono tG, Bk.done m bf2 bk⟩
        by_cases e : x = tt
        · subst e
          have := sA _ _ h
          rw [htt3] at this
          rw [← this]
          exact upd_same
        · exact (upd_ne e).trans (b4 x o e (ne_of_none h nfl) (ne_of_none h mlH) (ne_of_none h mlH) (sA _ _ h))
    · rintro σ H2 ⟨s2', tu2, hfr2, fs, ms, F, More, v6, v7, v8, v9, v10, v11, rfl, hfl2, hml2, pF2, pM2, bf2⟩
      rw [hWl, List.drop_length] at bf2
      refine ⟨_, rfl, ml, ms, rfl, .inl (SqL.of hml2), fun fr2 nfr2 => ?_⟩
      have s3' := snew nfr2 (o := .lst ms)
      exact ⟨s2'.trans s3', fr2, fs, ms, F, More, _, _, _, _, _, _, _, _, rfl, s3' _ _ hfl2, upd_same, (ne_of_none hfl2 nfr2).symm, paired_mono pF2 fun _ _ => FndV.mono (tups_of s3'), paired_mono pM2 fun _ _ => FrtV.mono (tups_of s3'), bf2.next⟩
  · rintro σ H1 ⟨sH, fr, fs, ws, F, Ws, v4, v5, v6, v7, v8, v9, v10, v11, rfl, hfl, hfr, hne, pF, pW, bf⟩
    have hWs : Ws = [] := by
      cases Ws with
      | nil => rfl
      | cons R Ws =>
        obtain ⟨hC, hl⟩ := bf.r R (List.mem_cons_self ..)
        have := m.ok.can_le hC
        rw [m.n] at this
        omega
    subst hWs
    refine ⟨_, rfl, k H1 fl fs F sH hfl pF bf.f (fun s => ?_) ?_⟩
    · have := bf.sum s
      rw [sumf_nil] at this
      omega
    · have := bf.pt
      omega
theorem ok_all_rows (T : Bi K mg) (C1 : Has P w K mg base "_law_all" 1 ["_law_weights_here"] (sp_all P w)) (D : Df K mg "_law_all_rows" st_law_all_rows) : Has P w K mg base "_law_all_rows" 2 ["_law_weights_here", "_law_many"] (sp_all_rows P w) :=
  D.ok sc_law_all_rows bd_law_all_rows (fun vs H Q E ⟨_, _, _, _, _, e, _⟩ => by rw [e]; rfl) (body_law_all_rows T C1)
end
end Rj
set_option Elab.async false
set_option linter.all false
set_option maxRecDepth 100000
set_option maxHeartbeats 4000000
namespace Rj
open PySem PySem.Spec PyProof.Rows L2
def TxV (L : List Nat) (ps : List (Nat × Nat)) (H : Hp) (x : V) (e : List Nat × Int) : Prop := ∃ t, x = .ref t ∧ H t = some (.tup [tv (tR L ps e.1), .int e.2])
theorem TxV.mono {L : List Nat} {ps : List (Nat × Nat)} {H H' : Hp} {x : V} {e : List Nat × Int} (s : Same H H') (h : TxV L ps H x e) : TxV L ps H' x e := by
  obtain ⟨t, e, h⟩ := h
  exact ⟨t, e, s _ _ h⟩
theorem fsum_filter (L : List Nat) (ps : List (Nat × Nat)) (s : List Nat) : ∀ F : List (List Nat × Int), ((F.filter fun e => s.isPrefixOf (tR L ps e.1)).map (·.2)).sum = fsum L ps s F
  | [] => rfl
  | e :: F => by
    have ih := fsum_filter L ps s F
    unfold fsum at ih ⊢
    rw [sumf_cons, List.filter_cons]
    by_cases h : s <+: tR L ps e.1
    · rw [if_pos h, if_pos (List.isPrefixOf_iff_prefix.mpr h), List.map_cons, List.sum_cons, ih]
    · rw [if_neg h, if_neg (fun q => h (List.isPrefixOf_iff_prefix.mp q)), ih]; omega
theorem fsum_nil (L : List Nat) (ps : List (Nat × Nat)) (F : List (List Nat × Int)) : (F.map (·.2)).sum = fsum L ps [] F := by
  rw [← fsum_filter]
  congr 1
  congr 1
  exact (List.filter_eq_self.mpr fun _ _ => rfl).symm
/-- a text that is asked -/
def AskV (L : List Nat) (v : V) : Prop := ∃ u, v = tv (cod L u) ∧ (∀ i ∈ u, i < L.length) ∧ u.length ≤ 19
section
variable {P : Program} {w : World} {K : PySem.W.Frag} {mg : Str → Option Value} {base : Heap} {CJ CM CS : Addr}
def sp_law (K : PySem.W.Frag) : Sp := fun vs H Q _ => ∃ (x : Addr) (ns : List Int), vs = [.ref x] ∧ SqL K H x (ns.map V.int) ∧ ∀ H', Q (.bl true) H'
abbrev st_law : Stmt := top 59
theorem sc_law : FnScope ["_law_script", "_law_tape_here", "_law_world_here", "_law_model", "_law_rows", "_law_whole", "_law_texts", "_law_piece", "_law_row", "_law_parts", "_law_pair", "_law_asked", "_law_k", "_law_text_here", "_law_due"] ["_law_script"] (defScope st_law) := ⟨rfl, rfl, rfl, by decide +kernel, rfl, by decide +kernel, by decide +kernel⟩
theorem bd_law : Bnd "law" "law" st_law ["_law_script"] := fun _ _ _ _ _ _ us hl => match us, hl with | [_], _ => rfl
-- 0:_law_script 1:_law_tape_here 2:_law_world_here 3:_law_model 4:_law_rows 5:_law_whole 6:_law_texts 7:_law_piece 8:_law_row 9:_law_parts 10:_law_pair 11:_law_asked 12:_law_k 13:_law_text_here 14:_law_due
theorem body_law (T : Bi K mg) (TM : TMx K CM) (C_law_tape : Has P w K mg base "_law_tape" 1 ["_law_script"] (sp_tape K)) (C_law_draw : Has P w K mg base "_law_draw" 2 ["_law_tape_here", "_law_many"] sp_draw) (C_law_pick : Has P w K mg base "_law_pick" 3 ["_law_tape_here", "_law_row"] sp_pick) (C_law_world : Has P w K mg base "_law_world" 11 ["_law_tape_here", "_law_most", "_law_tries", "_law_rising"] (sp_world P w CM CJ)) (C_law_all_rows : Has P w K mg base "_law_all_rows" 2 ["_law_weights_here", "_law_many"] (sp_all_rows P w)) (C_law_all : Has P w K mg base "_law_all" 1 ["_law_weights_here"] (sp_all P w)) (C_law_text : Has P w K mg base "_law_text" 4 ["_law_tape_here", "_law_world_here", "_law_most"] (sp_text P w CM CJ)) (C_law_share : Has P w K mg base "_law_share" 1 ["_law_over", "_law_under"] sp_law_share) (C_law_is_share : Has P w K mg base "_law_is_share" 1 ["_law_actual", "_law_due"] (sp_is_share CS)) (C_begins : Has P w K mg base "begins" 7 ["model", "text"] (sp_begins P w CM CJ CS)) (C_chance_of_row : HasM P w K mg base CM "chance_of_row" 7 ["self", "row"] (sp_cor P w CM CJ CS)) (C_chance_of_text : HasM P w K mg base CM "chance_of_text" 8 ["self", "text"] (sp_cot P w CM CJ CS)) : Body P w K mg base "law" st_law 11 ["_law_script", "_law_tape_here", "_law_world_here", "_law_model", "_law_rows", "_law_whole", "_law_texts", "_law_piece", "_law_row", "_law_parts", "_law_pair", "_law_asked", "_law_k", "_law_text_here", "_law_due"] (sp_law K) := by
  have nd := sc_law.nd
  intro f cdv A outer s H vs Q E hr h
  obtain ⟨x, ns, rfl, hx, k⟩ := h
  refine ⟨_, (pss_cons (ps_set (i := 1) nd rfl (by first | exact .inl rfl | exact .inr rfl) (c_fn C_law_tape hr (by rfl) (pa_cons (pv 0) pa_nil)))
    (pss_cons (ps_set (i := 2) nd rfl (by first | exact .inl rfl | exact .inr rfl) (c_fn C_law_world hr (by rfl) (pa_cons (pv 1) (pa_cons pe_int (pa_cons pe_int (pa_cons pe_bl pa_nil))))))
    (pss_cons (ps_set (i := 3) nd rfl (by first | exact .inl rfl | exact .inr rfl) (pe_dget (hu_of hr) (pv 2) pe_str (fun _ _ => rfl)))
    (pss_cons (ps_set (i := 4) nd rfl (by first | exact .inl rfl | exact .inr rfl) (c_fn C_law_all_rows hr (by rfl) (pa_cons (pe_dget (hu_of hr) (pv 2) pe_str (fun _ _ => rfl)) (pa_cons (pe_callB call_len (by rfl) T.len (by decide +kernel) (pa_cons (pe_dget (hu_of hr) (pe_dget (hu_of hr) (pv 2) pe_str (fun _ _ => rfl)) pe_str (fun _ _ => rfl)) pa_nil)) pa_nil))))
    (pss_cons (ps_set (i := 5) nd rfl (by first | exact .inl rfl | exact .inr rfl) (c_fn C_law_all hr (by rfl) (pa_cons (pe_dget (hu_of hr) (pv 2) pe_str (fun _ _ => rfl)) pa_nil)))
    (pss_cons (ps_setLc (i := 6) (own := [("_law_row", 8), ("_law_parts", 9)]) rfl nd rfl rfl (sw_true rfl rfl rfl (by decide +kernel)) (pi_list (pv 4)) (blkOk_by (N := ["_law_script", "_law_tape_here", "_law_world_here", "_law_model", "_law_rows", "_law_whole", "_law_texts", "_law_piece", "_law_row", "_law_parts", "_law_pair", "_law_asked", "_law_k", "_law_text_here", "_law_due"]) (sc := defScope (top 59)) (by decide +kernel)) (fun _ _ _ _ _ => (pg_tupK (K1 := K) (by rfl) (n := 2) rfl (pgs_cons (pg_name (i := 8) nd rfl (by first | exact .inl rfl | exact .inr rfl)) (pgs_cons (pg_name (i := 9) nd rfl (by first | exact .inl rfl | exact .inr rfl)) pgs_nil)))) (fun _ _ _ _ _ => pts_nil) (fun _ _ _ _ _ => (pe_tup (pa_cons (pe_joinK (K1 := K) (by rfl) pe_str (pe_lc (own := [("_law_piece", 7)]) rfl nd (pi_tupK (K1 := K) (by rfl) (pv 8)) (blkOk_by (N := ["_law_script", "_law_tape_here", "_law_world_here", "_law_model", "_law_rows", "_law_whole", "_law_texts", "_law_piece", "_law_row", "_law_parts", "_law_pair", "_law_asked", "_law_k", "_law_text_here", "_law_due"]) (sc := _) (by kernel_rfl)) (fun _ _ _ _ _ => (pg_name (i := 7) nd rfl (by first | exact .inl rfl | exact .inr rfl))) (fun _ _ _ _ _ => pts_nil) (fun _ _ _ _ _ => (pe_ix (ix_listK (K1 := K) (by rfl)) (pe_dget (hu_of hr) (pe_dget (hu_of hr) (pv 2) pe_str (fun _ _ => rfl)) pe_str (fun _ _ => rfl)) (pv 7) (fun _ _ => rfl))))) (pa_cons (pv 9) pa_nil)))))
    (pss_cons (ps_if (pt_cmpR op_ne (pe_callB (cr_sum rfl) (by rfl) T.sum (by decide +kernel) (pa_cons (pe_lc (own := [("_law_pair", 10)]) rfl nd (pi_list (pv 6)) (blkOk_by (N := ["_law_script", "_law_tape_here", "_law_world_here", "_law_model", "_law_rows", "_law_whole", "_law_texts", "_law_piece", "_law_row", "_law_parts", "_law_pair", "_law_asked", "_law_k", "_law_text_here", "_law_due"]) (sc := defScope (top 59)) (by decide +kernel)) (fun _ _ _ _ _ => (pg_name (i := 10) nd rfl (by first | exact .inl rfl | exact .inr rfl))) (fun _ _ _ _ _ => pts_nil) (fun _ _ _ _ _ => (pe_ix (ix_tupK (K1 := K) (by rfl)) (pv 10) pe_int (fun _ _ => rfl)))) pa_nil)) (pv 5) (nomark _))
      (pss_one (ps_ret pe_bl))
      pss_nil)
    (pss_cons (ps_set (i := 11) nd rfl (by first | exact .inl rfl | exact .inr rfl) (pe_op op_cat (pe_lst (pa_cons pe_str pa_nil)) (pe_lc (own := [("_law_k", 12)]) rfl nd (pi_range1 (by rfl) T.range (pa_cons (pe_op op_add pe_int (c_fn C_law_draw hr (by rfl) (pa_cons (pv 1) (pa_cons pe_int pa_nil)))) pa_nil)) (blkOk_by (N := ["_law_script", "_law_tape_here", "_law_world_here", "_law_model", "_law_rows", "_law_whole", "_law_texts", "_law_piece", "_law_row", "_law_parts", "_law_pair", "_law_asked", "_law_k", "_law_text_here", "_law_due"]) (sc := defScope (top 59)) (by decide +kernel)) (fun _ _ _ _ _ => (pg_name (i := 12) nd rfl (by first | exact .inl rfl | exact .inr rfl))) (fun _ _ _ _ _ => pts_nil) (fun _ _ _ _ _ => (c_fn C_law_text hr (by rfl) (pa_cons (pv 1) (pa_cons (pv 2) (pa_cons pe_int pa_nil))))))))
    (pss_cons (ps_for PassesOwn.never rfl (pi_range1 (by rfl) T.range (pa_cons (pe_op op_add pe_int (c_fn C_law_draw hr (by rfl) (pa_cons (pv 1) (pa_cons pe_int pa_nil)))) pa_nil)) (pg_name (i := 12) nd rfl (by first | exact .inl rfl | exact .inr rfl))
      (pss_cons (ps_set (i := 13) nd rfl (by first | exact .inl rfl | exact .inr rfl) (pe_slice sl_str (pe_ix ix_tup (c_fn C_law_pick hr (by rfl) (pa_cons (pv 1) (pa_cons (pv 6) pa_nil))) pe_int (fun _ _ => rfl)) po_none (po_some pe_int)))
      (pss_one (ps_expr (pe_bm PySem.F.plainAttrs_list PySem.F.slot_list_append PySem.F.type_list_append mt_append (pv 11) (pa_cons (pe_slice sl_str (pv 13) po_none (po_some (c_fn C_law_pick hr (by rfl) (pa_cons (pv 1) (pa_cons (pe_lst (pa_cons (pe_callB call_len (by rfl) T.len (by decide +kernel) (pa_cons (pv 13) pa_nil)) (pa_cons (c_fn C_law_draw hr (by rfl) (pa_cons (pv 1) (pa_cons (pe_op op_add (pe_callB call_len (by rfl) T.len (by decide +kernel) (pa_cons (pv 13) pa_nil)) pe_int) pa_nil))) pa_nil))) pa_nil))))) pa_nil))))))
    (pss_cons (ps_for PassesOwn.never rfl (pi_list (pv 11)) (pg_name (i := 13) nd rfl (by first | exact .inl rfl | exact .inr rfl))
      (pss_cons (ps_set (i := 9) nd rfl (by first | exact .inl rfl | exact .inr rfl) (pe_callB (cr_sum rfl) (by rfl) T.sum (by decide +kernel) (pa_cons (pe_lc (own := [("_law_pair", 10)]) rfl nd (pi_list (pv 6)) (blkOk_by (N := ["_law_script", "_law_tape_here", "_law_world_here", "_law_model", "_law_rows", "_law_whole", "_law_texts", "_law_piece", "_law_row", "_law_parts", "_law_pair", "_law_asked", "_law_k", "_law_text_here", "_law_due"]) (sc := defScope (top 59)) (by decide +kernel)) (fun _ _ _ _ _ => (pg_name (i := 10) nd rfl (by first | exact .inl rfl | exact .inr rfl))) (fun _ _ _ _ _ => (pts_one (pt_val (pe_m1 PySem.F.slot_str_startswith PySem.F.type_str_startswith mt_startswith (pe_ix (ix_tupK (K1 := K) (by rfl)) (pv 10) pe_int (fun _ _ => rfl)) (pv 13))))) (fun _ _ _ _ _ => (pe_ix (ix_tupK (K1 := K) (by rfl)) (pv 10) pe_int (fun _ _ => rfl)))) pa_nil)))
      (pss_one (ps_if (pt_not (pt_val (c_fn C_law_is_share hr (by rfl) (pa_cons (c_fn C_begins hr (by rfl) (pa_cons (pv 3) (pa_cons (pv 13) pa_nil))) (pa_cons (c_fn C_law_share hr (by rfl) (pa_cons (pv 9) (pa_cons (pv 5) pa_nil))) pa_nil)))))
        (pss_one (ps_ret pe_bl))
        pss_nil))))
    (pss_cons (ps_for PassesOwn.never rfl (pi_range1 (by rfl) T.range (pa_cons (pe_op op_add pe_int (c_fn C_law_draw hr (by rfl) (pa_cons (pv 1) (pa_cons pe_int pa_nil)))) pa_nil)) (pg_name (i := 12) nd rfl (by first | exact .inl rfl | exact .inr rfl))
      (pss_cons (ps_set (i := 10) nd rfl (by first | exact .inl rfl | exact .inr rfl) (c_fn C_law_pick hr (by rfl) (pa_cons (pv 1) (pa_cons (pv 4) pa_nil))))
      (pss_cons (ps_set (i := 13) nd rfl (by first | exact .inl rfl | exact .inr rfl) (pe_join pe_str (pe_lc (own := [("_law_piece", 7)]) rfl nd (pi_tup (pe_ix ix_tup (pv 10) pe_int (fun _ _ => rfl))) (blkOk_by (N := ["_law_script", "_law_tape_here", "_law_world_here", "_law_model", "_law_rows", "_law_whole", "_law_texts", "_law_piece", "_law_row", "_law_parts", "_law_pair", "_law_asked", "_law_k", "_law_text_here", "_law_due"]) (sc := defScope (top 59)) (by decide +kernel)) (fun _ _ _ _ _ => (pg_name (i := 7) nd rfl (by first | exact .inl rfl | exact .inr rfl))) (fun _ _ _ _ _ => pts_nil) (fun _ _ _ _ _ => (pe_ix (ix_listK (K1 := K) (by rfl)) (pe_dget (hu_of hr) (pe_dget (hu_of hr) (pv 2) pe_str (fun _ _ => rfl)) pe_str (fun _ _ => rfl)) (pv 7) (fun _ _ => rfl))))))
      (pss_cons (ps_set (i := 14) nd rfl (by first | exact .inl rfl | exact .inr rfl) (c_fn C_law_share hr (by rfl) (pa_cons (pe_ix ix_tup (pv 10) pe_int (fun _ _ => rfl)) (pa_cons (pv 5) pa_nil))))
      (pss_one (ps_if (PW.pt (pw_or (pt_not (pt_val (c_fn C_law_is_share hr (by rfl) (pa_cons (c_me (pv 3) TM.cl C_chance_of_row hr (pa_cons (pe_ix ix_tup (pv 10) pe_int (fun _ _ => rfl)) pa_nil)) (pa_cons (pv 14) pa_nil))))) (pw_or1 (pt_not (pt_val (c_fn C_law_is_share hr (by rfl) (pa_cons (c_me (pv 3) TM.cl C_chance_of_text hr (pa_cons (pv 13) pa_nil)) (pa_cons (pv 14) pa_nil))))))))
        (pss_one (ps_ret pe_bl))
        pss_nil))))))
    (pss_one (ps_ret pe_bl))))))))))))), ?_⟩

  refine ⟨_, rfl, x, ns, rfl, hx, fun H1 d tc s1 nd tp1 => ?_⟩
  refine ⟨_, rfl, d, rfl, _, tp1, fun H2 wd L ps TT b2 tp2 Wx => ?_⟩
  have m := Wx.mw
  have Jw := m.jl
  have n7 := m.n7
  have hL := Jw.al.ne
  obtain ⟨jd, we, ma, mo, pl, rk, tl, kvs, hwd, J, Mo, hwe, hkv⟩ := Wx.ex
  have hkv2 : Paired (WtV P w (hd we H2)) kvs TT := paired_mono hkv fun _ _ => WtV.mono (hd_but (but_same hd_sub))
  refine ⟨_, rfl, wd, _, rfl, wg_m (hd_sub _ _ hwd), ?_⟩
  refine ⟨_, rfl, wd, _, rfl, wg_w (hd_sub _ _ hwd), _, rfl, wd, _, rfl, wg_j (hd_sub _ _ hwd), jd, _, rfl, lg_t (hd_sub _ _ J.d), _, _, rfl, .inl ⟨_, SqL.of (hd_sub _ _ J.t), rfl⟩, we, L, ps, TT, kvs, by rw [txv_len]; rfl, m, hd_sub _ _ hwe, hkv2, fun H3 fl xs F s3 hfl pF fok fsm fl9 => ?_⟩
  have hwd3 := s3 _ _ (hd_sub _ _ hwd)
  refine ⟨_, rfl, wd, _, rfl, wg_w hwd3, we, L, ps, TT, kvs, rfl, m, s3 _ _ (hd_sub _ _ hwe), paired_mono hkv2 fun _ _ => WtV.mono (hd_but (but_same s3)), fun H4 s4 => ?_⟩
  generalize hM : mkM L ps TT = M at *
  have tp4 := (tp2.same s3).same s4
  have s24 := s3.trans s4
  have hd4 : Same (hd d H2) (hd d H4) := hd_but (but_same s24)
  have W4 := Wx.mono hd4
  have hfl4 : hd d H4 fl = some (.lst xs) := hdk tp4 (s4 _ _ hfl) (by intro _ e; cases e)
  have pF4 : Paired (FndV (hd d H4)) xs F := paired_mono pF fun v e ⟨t, r, e1, h1, h2⟩ => ⟨t, r, e1, hdk tp4 (s4 _ _ h1) (by intro _ e; cases e), hdk tp4 (s4 _ _ h2) (by intro _ e; cases e)⟩
  have J4 := J.mono hd4
  have Mo4 := Mo.mono hd4
  have hwd4 := hd4 _ _ hwd
  have hTp := m.ok.Tpos
  have hTB := m.TB
  obtain ⟨U, hU⟩ : ∃ U : Nat, M.T = (U : Int) := ⟨M.T.toNat, by omega⟩
  have hU0 : 0 < U := by omega
  have hUB : U < 2 ^ 400 := by rw [hU] at hTB; omega
  have hFl := Paired.length pF4
  have h97 : 9 ^ 7 < 16777216 := by decide
  rw [hU]
  clear hkv hkv2 hwd3 hfl pF
  refine ⟨_, rfl, fl, rfl, ⟨_, SqL.of (hd_sub _ _ hfl4)⟩, fun D nD => lc_it (walk_list (xs := xs)) (fun i H' => Same H4 H' ∧ ∃ ts, H' D = some (.lst ts) ∧ Paired (TxV L ps (hd D H')) ts (F.take i)) ⟨snew nD, [], upd_same, .nil⟩ (fun i H' _ q => SqL.of (q.1 _ _ (hd_sub _ _ hfl4))) ?_ ?_⟩
  · rintro i x2 H5 H5' hi ⟨s5, ts, hD, pT⟩ ⟨rfl, hxi⟩
    obtain ⟨⟨R, Pv⟩, he, ⟨t, r, rfl, ht, hr⟩, hsn⟩ := paired_take pF4 hxi
    have hem := List.mem_of_getElem? he
    obtain ⟨hC, n0, hn0, hP0⟩ := fok _ hem
    dsimp only at ht hr hC hn0 hP0
    have hRn : ∀ p ∈ R, p < np L ps := fun p hp => by rw [← m.n]; exact m.ok.can_lt hC p hp
    have hRl := m.ok.can_le hC
    rw [m.n] at hRl
    have hr5 := s5 _ _ (hd_sub _ _ hr)
    have hTl := Paired.length pT
    rw [List.length_take] at hTl
    refine ⟨t, _, rfl, SqT.of (s5 _ _ (hd_sub _ _ ht)), rfl, _, _, rfl, _, _, rfl, rfl, rfl, ⟨_, rfl⟩, ?_⟩
    refine ⟨_, rfl, r, rfl, ⟨_, SqT.of hr5⟩, fun E nE => lc_it (walk_tup (xs := ivs R)) (fun i H' => Same H5' H' ∧ H' E = some (.lst ((R.take i).map fun p => tv (cod L (ltr L.length ps p))))) ⟨snew nE, by rw [upd_same]; rfl⟩ (fun i H' _ q => SqT.of (q.1 _ _ hr5)) ?_ ?_⟩
    · rintro i v HX HX' hi ⟨sX, hE⟩ ⟨rfl, hv⟩
      obtain ⟨p, hp, rfl⟩ : ∃ p, R[i]? = some p ∧ v = iv p := by
        rw [List.getElem?_map] at hv
        cases hp : R[i]? with
        | none => rw [hp] at hv; cases hv
        | some p => rw [hp] at hv; cases hv; exact ⟨p, rfl, rfl⟩
      have hpn := hRn p (List.mem_of_getElem? hp)
      refine ⟨rfl, _, rfl, wd, _, rfl, wg_j (sX _ _ (s5 _ _ (hd_sub _ _ hwd4))), jd, _, rfl, lg_t (sX _ _ (hd_sub _ _ (J4.mono (hd_but (but_same s5))).d)), _, rfl, tl, _, _, _, rfl, rfl, SqL.of (sX _ _ (hd_sub _ _ (J4.mono (hd_but (but_same s5))).t)), at_g rfl (txv_get hpn), _, hE, ?_, sch sX nE, ?_⟩
      · rw [List.length_map, List.length_take]; exact small1000 (by omega)
      · rw [upd_same, take_snoc hp, List.map_append]; rfl
    · rintro HX ⟨sX, hE⟩
      have hzR : (ivs R).length = R.length := List.length_map ..
      rw [hzR, List.take_length] at hE
      refine ⟨_, E, (R.map fun p => cod L (ltr L.length ps p)).map fun u => (⟨u.toArray⟩ : Str), rfl, rfl, .inl (SqL.of ?_), ?_, ?_⟩
      · rw [hE, List.map_map, List.map_map]; rfl
      · have hs : ∀ p ∈ R, (cod L (ltr L.length ps p)).length ≤ 5 := fun p hp => by rw [cod_len]; exact Jw.t5 p (hRn p hp)
        have := sum_le hs
        rw [List.map_map, List.map_map]
        have e : (((fun x : Str => x.length) ∘ (fun u : List Nat => (⟨u.toArray⟩ : Str))) ∘ fun p => cod L (ltr L.length ps p)) = fun p => (cod L (ltr L.length ps p)).length := by
          funext p
          exact tv_len _
        have hb0 : ("" : Str).length = 0 := by decide +kernel
        rw [e, hb0]
        omega
      · rw [join_nil, ← cod_flat]
        refine ⟨_, rfl, small_line (by show 2 ≤ 1000; omega), fun t9 nt9 => ?_⟩
        have s9 := snw sX nt9 (o := .tup [tv (tR L ps R), V.int Pv])
        have hD9 := s9 _ _ hD
        refine ⟨ts, hD9, by rw [sizeLine_eq]; omega, sch (s5.trans s9) nD, _, upd_same, ?_⟩
        have t9D : t9 ≠ D := unq (upd_same : (upd HX t9 (.tup [tv (tR L ps R), V.int Pv])) t9 = _) hD9 (by intro e; cases e)
        rw [hsn]
        refine paired_app (paired_mono pT ?_) (.cons ⟨t9, rfl, hd_of t9D ((upd_ne t9D).trans upd_same)⟩ .nil)
        rintro v e ⟨t', e1, h'⟩
        exact ⟨t', e1, hd_of (hd_ne h') ((upd_ne (hd_ne h')).trans (s9 _ _ (hd_sub _ _ h')))⟩
  · rintro H5 ⟨s5, ts, hD, pT⟩
    rw [hFl, List.take_length] at pT
    have tp5 := tp4.same s5
    have hd5 := hd_but (but_same (d := d) s5)
    have W5 := W4.mono hd5
    have hfl5 := hd5 _ _ hfl4
    have pF5 := paired_mono pF4 fun _ _ ⟨t, r, e, h1, h2⟩ => (⟨t, r, e, hd5 _ _ h1, hd5 _ _ h2⟩ : FndV (hd d H5) _ _)
    have J5 := J4.mono hd5
    have Mo5 := Mo4.mono hd5
    have hwd5 := hd5 _ _ hwd4
    have hD5 : hd d H5 D = some (.lst ts) := hdk tp5 hD (by intro _ e; cases e)
    have pT5 : Paired (TxV L ps (hd d H5)) ts F := paired_mono pT fun v e ⟨t, e1, h⟩ => ⟨t, e1, hdk tp5 (hd_sub _ _ h) (by intro _ e; cases e)⟩
    have hTl := Paired.length pT5
    clear hfl4 pF4 J4 Mo4 hwd4 W4 hD pT
    -- the sum of all
    refine ⟨_, rfl, D, rfl, ⟨_, SqL.of (hd_sub _ _ hD5)⟩, fun D2 nD2 => lc_it (walk_list (xs := ts)) (fun i H' => Same H5 H' ∧ H' D2 = some (.lst ((F.take i).map fun e => V.int e.2))) ⟨snew nD2, by rw [upd_same]; rfl⟩ (fun i H' _ q => SqL.of (q.1 _ _ (hd_sub _ _ hD5))) ?_ ?_⟩
    · rintro i v HX HX' hi ⟨sX, hE⟩ ⟨rfl, hv⟩
      obtain ⟨e, he, ⟨t, rfl, ht⟩, hsn⟩ := paired_take pT5 hv
      refine ⟨rfl, _, rfl, t, _, _, _, rfl, rfl, SqT.of (sX _ _ (hd_sub _ _ ht)), at_g (j := 1) rfl rfl, _, hE, ?_, sch sX nD2, ?_⟩
      · rw [List.length_map, List.length_take, sizeLine_eq]; omega
      · rw [upd_same, hsn, List.map_append]; rfl
    · rintro H6 ⟨s6, hE⟩
      rw [hTl, List.take_length] at hE
      have hVn : M.V 8 M.T none [] = (U : Int) := by rw [M.V_done, hU]
      refine ⟨D2, F.map (·.2), rfl, SqL.of (by rw [hE, List.map_map]; rfl), ?_⟩
      rw [fsum_nil L ps F, fsm [], hVn]
      refine ⟨_, rfl, rfl, false, by simp, iteF ?_⟩
      -- the texts that are asked
      have b6 : But1 d H5 H6 := but_same s6
      have tp6 := tp5.same s6
      refine ⟨small_line (by show 1 ≤ 1000; omega), fun a0 na0 => ?_⟩
      have s7 := snew na0 (o := .lst [V.str ("" : Str)])
      have tp7 := tp6.same s7
      have b7 := b6.trans (but_same s7)
      have ha7 : (upd H6 a0 (.lst [V.str ("" : Str)])) a0 = some (.lst [V.str ("" : Str)]) := upd_same
      have a0d := tp6.ne_none na0
      generalize upd H6 a0 (.lst [V.str ("" : Str)]) = H7 at *
      refine ⟨_, rfl, d, _, rfl, _, tp7, by decide, fun H8 z8 hz8 ex8 tp8 => ⟨_, _, rfl, rfl, _, rfl, by omega, by omega, fun D3 nD3 => ?_⟩⟩
      have b8 := b7.trans ex8.but
      have ha8 := ex8.but _ _ a0d ha7
      have D3d := tp8.ne_none nD3
      have D3c := tp8.nc_none nD3
      have D35 := b8.back D3d nD3
      have D3a : D3 ≠ a0 := (ne_of_none ha8 nD3).symm
      have b8' : But1 d H5 (upd H8 D3 (.lst [])) := b8.new nD3
      refine lc_it (walk_range (lo := 0)) (fun i H' => But1 d H5 H' ∧ Tp tc H' d ∧ H' a0 = some (.lst [V.str ("" : Str)]) ∧ ∃ as, H' D3 = some (.lst as) ∧ (∀ v ∈ as, AskV L v) ∧ as.length ≤ i) ⟨b8', tp8.same (snew nD3), upd_keep ha8 nD3, [], upd_same, fun _ h => (by cases h), Nat.le_refl _⟩ (fun _ _ _ _ => True.intro) ?_ ?_
      · rintro r xr H9 H9' hr ⟨b9, tp9, ha9, as, hA, hask, hal⟩ ⟨rfl, rfl⟩
        refine ⟨rfl, _, rfl, _, rfl, d, wd, L, ps, TT, rfl, _, tp9, W5.mono (hd_but b9), fun HA u bA tpA hu hul => ⟨as, bA _ _ D3d hA, small1000 (by omega), (b9.trans bA).sch D35, tpA.own D3d D3c, (upd_ne D3a.symm).trans (bA _ _ a0d ha9), as ++ [tv (cod L u)], upd_same, fun v hv => ?_, by simp; omega⟩⟩
        rcases List.mem_append.mp hv with h | h
        · exact hask v h
        · cases List.mem_singleton.mp h
          exact ⟨u, rfl, hu, by omega⟩
      · rintro H9 ⟨b9, tp9, ha9, as, hA, hask, hal⟩
        refine ⟨a0, D3, _, as, rfl, rfl, ha9, hA, by rw [sizeLine_eq]; simp; omega, fun ak nak => ?_⟩
        have s10 := snew nak (o := .lst ([V.str ("" : Str)] ++ as))
        have akd := tp9.ne_none nak
        have akc := tp9.nc_none nak
        have ak5 := b9.back akd nak
        have b10 := b9.trans (but_same s10)
        have tp10 := tp9.same s10
        have hk10 : (upd H9 ak (.lst ([V.str ("" : Str)] ++ as))) ak = some (.lst ([V.str ("" : Str)] ++ as)) := upd_same
        have hask2 : ∀ v ∈ [V.str ("" : Str)] ++ as, AskV L v := fun v hv => by
          rcases List.mem_append.mp hv with h | h
          · cases List.mem_singleton.mp h
            exact ⟨[], by rw [blank0]; rfl, fun _ h => (by cases h), by simp⟩
          · exact hask v h
        have hal2 : ([V.str ("" : Str)] ++ as).length ≤ 100 := by simp; omega
        generalize upd H9 ak (.lst ([V.str ("" : Str)] ++ as)) = H10 at *
        generalize [V.str ("" : Str)] ++ as = as2 at *
        refine ⟨_, rfl, d, _, rfl, _, tp10, by decide, fun H11 z11 hz11 ex11 tp11 => ⟨_, _, rfl, rfl, _, rfl, by omega, by omega, ?_⟩⟩
        have hFne : F ≠ [] := fun e => by
          have := fsm []
          rw [e, hVn] at this
          have e0 : fsum L ps [] ([] : List (List Nat × Int)) = 0 := rfl
          omega
        have htne : ts ≠ [] := fun e => by rw [e] at hTl; exact hFne (List.length_eq_zero_iff.mp hTl.symm)
        have hxne : xs ≠ [] := fun e => by rw [e] at hFl; exact hFne (List.length_eq_zero_iff.mp hFl.symm)
        have hz : ∀ u : List Nat, u.length ≤ 100 → (⟨(cod L u).toArray⟩ : Str).length ≤ sizeLine := fun u h => by rw [tv_len, cod_len]; exact small_line (by omega)
        have hzl : ∀ u : List Nat, (⟨(cod L u).toArray⟩ : Str).length = u.length := fun u => by rw [tv_len, cod_len]
        have fok2 : ∀ e ∈ F, (∀ i ∈ e.1.flatMap (ltr L.length ps), i < L.length) ∧ (e.1.flatMap (ltr L.length ps)).length ≤ 35 ∧ M.Can e.1 := fun e he => by
          have hC := (fok e he).1
          have hRn : ∀ p ∈ e.1, p < np L ps := fun p hp => by rw [← m.n]; exact m.ok.can_lt hC p hp
          have hRl := m.ok.can_le hC
          rw [m.n] at hRl
          have := flat_len Jw hRn
          exact ⟨flat_lt Jw hRn, by omega, hC⟩
        refine for_range (lo := 0) (fun i σ H' => But1 d H5 H' ∧ Tp tc H' d ∧ ∃ (as : List V) (v7 v8 v9 v10 v12 v13 v14 : Option V), σ = [some (.ref x), some (.ref d), some (.ref wd), some (.ref mo), some (.ref fl), some (iv U), some (.ref D), v7, v8, v9, v10, some (.ref ak), v12, v13, v14] ∧ H' ak = some (.lst as) ∧ (∀ v ∈ as, AskV L v) ∧ as.length ≤ 100 + i)
          ⟨b10.trans ex11.but, tp11, as2, _, _, _, _, _, _, _, rfl, ex11.but _ _ akd hk10, hask2, by omega⟩ ?_ ?_
        · rintro i σ H12 hi ⟨b12, tp12, as, v7, v8, v9, v10, v12, v13, v14, rfl, hk12, hask3, hal3⟩
          refine ⟨_, rfl, _, rfl, d, _, ts, rfl, _, tp12, .inl ⟨D, rfl, b12.to hD5⟩, htne, fun H13 v hv ex13 tp13 => ?_⟩
          have b13 := b12.trans ex13.but
          obtain ⟨jx, hjx⟩ := List.getElem?_of_mem hv
          obtain ⟨e, he, t, rfl, ht⟩ := paired_get pT5 hjx
          obtain ⟨hu1, hu2, _⟩ := fok2 e (List.mem_of_getElem? he)
          refine ⟨t, _, _, _, rfl, rfl, SqT.of (b13.to ht), at_g (j := 0) rfl rfl, 19, rfl, _, rfl, by rw [show tR L ps e.1 = cod L (e.1.flatMap (ltr L.length ps)) from rfl]; exact hz _ (by omega), ?_⟩
          have e19 : (19 : Int) = ((19 : Nat) : Int) := rfl
          rw [e19, cut_to, show tR L ps e.1 = cod L (e.1.flatMap (ltr L.length ps)) from rfl, cod_take]
          have hu3 : ∀ i ∈ (e.1.flatMap (ltr L.length ps)).take 19, i < L.length := fun i hi => hu1 i (List.mem_of_mem_take hi)
          have hu4 : ((e.1.flatMap (ltr L.length ps)).take 19).length ≤ 19 := by rw [List.length_take]; omega
          generalize (e.1.flatMap (ltr L.length ps)).take 19 = u at *
          have hk13 := ex13.but _ _ akd hk12
          refine ⟨_, rfl, .inl ⟨rfl, _, SqL.of hk13⟩, _, rfl, _, rfl, _, rfl, _, _, rfl, ⟨hz u (by omega), rfl⟩, _, rfl, _, rfl, _, _, rfl, ⟨hz u (by omega), rfl⟩, _, _, rfl, rfl, d, _, rfl, _, tp13, by rw [hzl]; omega, fun H14 z14 hz14 ex14 tp14 => ⟨small_line (by show 2 ≤ 1000; omega), fun l nl => ?_⟩⟩
          have s14 := snew nl (o := .lst [V.int ((⟨(cod L u).toArray⟩ : Str).length : Int), iv z14])
          refine ⟨d, .ref l, _, rfl, _, tp14.same s14, .inl ⟨l, rfl, upd_same⟩, by simp, fun H15 v2 hv2 ex15 tp15 => ?_⟩
          obtain ⟨n, rfl⟩ : ∃ n : Nat, v2 = iv n := by
            simp only [List.mem_cons, List.not_mem_nil, or_false] at hv2
            rcases hv2 with h | h
            · exact ⟨_, h⟩
            · exact ⟨_, h⟩
          have bF : But1 d H13 H15 := ex14.but.trans ((but_same s14).trans ex15.but)
          refine ⟨_, rfl, _, rfl, hz u (by omega), ?_⟩
          rw [cut_to, cod_take]
          refine ⟨_, _, _, rfl, rfl, bF _ _ akd hk13, small1000 (by omega), (b13.trans bF).sch ak5, tp15.own akd akc, as ++ [tv (cod L (u.take n))], _, _, _, _, _, _, _, rfl, upd_same, fun v hv => ?_, by simp; omega⟩
          rcases List.mem_append.mp hv with h | h
          · exact hask3 v h
          · cases List.mem_singleton.mp h
            exact ⟨_, rfl, fun i hi => hu3 i (List.mem_of_mem_take hi), by rw [List.length_take]; omega⟩
        · rintro σ H12 ⟨b12, tp12, as, v7, v8, v9, v10, v12, v13, v14, rfl, hk12, hask3, hal3⟩
          clear hal2 hask2 hk10 b10 tp10 ex11 tp11 hA hask hal
          refine ⟨_, rfl, ak, rfl, ⟨_, SqL.of hk12⟩, for_list (xs := as) (fun i σ H' => But1 d H5 H' ∧ Tp tc H' d ∧ H' ak = some (.lst as) ∧ ∃ (v7 v8 v9 v10 v12 v13 v14 : Option V), σ = [some (.ref x), some (.ref d), some (.ref wd), some (.ref mo), some (.ref fl), some (iv U), some (.ref D), v7, v8, v9, v10, some (.ref ak), v12, v13, v14])
            ⟨b12, tp12, hk12, _, _, _, _, _, _, _, rfl⟩ (fun _ _ _ _ q => SqL.of q.2.2.1) ?_ ?_⟩
          · rintro i v σ H13 hvi ⟨b13, tp13, hk13, v7, v8, v9, v10, v12, v13, v14, rfl⟩
            obtain ⟨u, rfl, hu, hul⟩ := hask3 v (List.mem_of_getElem? hvi)
            refine ⟨_, rfl, D, rfl, ⟨_, SqL.of (b13.to hD5)⟩, fun E nE => lc_it (walk_list (xs := ts)) (fun i H' => Same H13 H' ∧ H' E = some (.lst (((F.take i).filter fun e => (cod L u).isPrefixOf (tR L ps e.1)).map fun e => V.int e.2))) ⟨snew nE, by rw [upd_same]; rfl⟩ (fun i H' _ q => SqL.of (q.1 _ _ (b13.to hD5))) ?_ ?_⟩
            · rintro i2 v2 HX HX' hi2 ⟨sX, hE⟩ ⟨rfl, hv2⟩
              obtain ⟨e, he, ⟨t, rfl, ht⟩, hsn⟩ := paired_take pT5 hv2
              have htX := sX _ _ (b13.to ht)
              have hfl2 : (((F.take i2).filter fun e => (cod L u).isPrefixOf (tR L ps e.1)).map fun e => V.int e.2).length ≤ F.length := by
                rw [List.length_map]
                exact Nat.le_trans (List.length_filter_le _ _) (by rw [List.length_take]; omega)
              refine ⟨rfl, _, rfl, t, _, _, _, rfl, rfl, SqT.of htX, at_g (j := 0) rfl rfl, ⟨_, rfl⟩, _, rfl, _, _, rfl, rfl, ?_⟩
              rw [starts_S]
              refine ⟨_, rfl, ?_⟩
              cases hp : (cod L u).isPrefixOf (tR L ps e.1) with
              | false =>
                refine iteF ⟨sX, ?_⟩
                rw [hE, hsn, List.filter_append, List.filter_cons, if_neg (by rw [hp]; decide), List.filter_nil, List.append_nil]
              | true =>
                refine iteT ⟨_, rfl, t, _, _, _, rfl, rfl, SqT.of htX, at_g (j := 1) rfl rfl, _, hE, by rw [sizeLine_eq]; omega, sch sX nE, ?_⟩
                rw [upd_same, hsn, List.filter_append, List.filter_cons, if_pos hp, List.filter_nil, List.map_append]
                rfl
            · rintro HX ⟨sX, hE⟩
              rw [hTl, List.take_length] at hE
              refine ⟨E, (F.filter fun e => (cod L u).isPrefixOf (tR L ps e.1)).map (·.2), rfl, SqL.of (by rw [hE, List.map_map]; rfl), ?_⟩
              rw [fsum_filter, fsm]
              obtain ⟨v1, v2⟩ := m.ok.V_le 8 M.T none (cod L u) (by omega) m.ok.none_
              obtain ⟨N, hN⟩ : ∃ N : Nat, M.V 8 M.T none (cod L u) = (N : Int) := ⟨(M.V 8 M.T none (cod L u)).toNat, by omega⟩
              rw [hN]
              have bX := b13.trans (but_same sX)
              have MoX : MO P w HX CM CJ mo L ps M := (Mo5.mono (hd_but bX)).mono hd_sub
              refine ⟨_, rfl, _, rfl, mo, L, ps, M, u, N, U, rfl, MoX, m, hu, by omega, hN, hU, fun HY r sY hs => ?_⟩
              refine ⟨_, rfl, _, rfl, N, U, rfl, hU0, by omega, hUB, fun HZ q n d2 sZ hq fr => ?_⟩
              refine ⟨r, q, N, U, n, d2, rfl, hs.mono sZ, hU0, hq, fr, fun HW sW => ⟨true, rfl, iteF ?_⟩⟩
              have sT := sX.trans (sY.trans (sZ.trans sW))
              exact ⟨b13.trans (but_same sT), tp13.same sT, sT _ _ hk13, _, _, _, _, _, _, _, rfl⟩
          · rintro σ H13 ⟨b13, tp13, hk13, v7, v8, v9, v10, v12, v13, v14, rfl⟩
            refine ⟨_, rfl, d, _, rfl, _, tp13, by decide, fun H14 z14 hz14 ex14 tp14 => ⟨_, _, rfl, rfl, _, rfl, by omega, by omega, ?_⟩⟩
            refine for_range (lo := 0) (fun i σ H' => But1 d H5 H' ∧ Tp tc H' d ∧ ∃ (v7 v8 v9 v10 v11 v12 v13 v14 : Option V), σ = [some (.ref x), some (.ref d), some (.ref wd), some (.ref mo), some (.ref fl), some (iv U), some (.ref D), v7, v8, v9, v10, v11, v12, v13, v14])
              ⟨b13.trans ex14.but, tp14, _, _, _, _, _, _, _, _, rfl⟩ ?_ ?_
            · rintro i σ H15 hi ⟨b15, tp15, v7, v8, v9, v10, v11, v12, v13, v14, rfl⟩
              refine ⟨_, rfl, _, rfl, d, _, xs, rfl, _, tp15, .inl ⟨fl, rfl, b15.to hfl5⟩, hxne, fun H16 v hv ex16 tp16 => ?_⟩
              have b16 := b15.trans ex16.but
              obtain ⟨jx, hjx⟩ := List.getElem?_of_mem hv
              obtain ⟨⟨R, Pv⟩, he, t, r, rfl, ht, hr⟩ := paired_get pF5 hjx
              have hem := List.mem_of_getElem? he
              obtain ⟨hC, n0, hn0, hP0⟩ := fok _ hem
              dsimp only at ht hr hC hn0 hP0
              have hRn : ∀ p ∈ R, p < np L ps := fun p hp => by rw [← m.n]; exact m.ok.can_lt hC p hp
              have hRl := m.ok.can_le hC
              rw [m.n] at hRl
              have ht16 := b16.to ht
              have hr16 := b16.to hr
              have J16 := J5.mono (hd_but b16)
              have hwd16 := b16.to hwd5
              have hkk := m.ok.can_key hC
              have hpl := m.ok.pts_le hC
              have hwl := m.ok.w_le hkk hn0
              have hprt := m.ok.part_le hpl.1 hkk hn0
              dsimp only at hwl hprt
              obtain ⟨n1, rfl⟩ : ∃ n1 : Nat, n0 = (n1 : Int) := ⟨n0.toNat, by omega⟩
              obtain ⟨N, hN⟩ : ∃ N : Nat, Pv = (N : Int) := ⟨Pv.toNat, by omega⟩
              subst hN
              have hNU : N ≤ U := by omega
              refine ⟨⟨_, rfl⟩, _, rfl, t, _, _, _, rfl, rfl, SqT.of ht16, at_g (j := 0) rfl rfl, r, rfl, ⟨_, SqT.of hr16⟩, fun E nE => lc_it (walk_tup (xs := ivs R)) (fun i H' => Same H16 H' ∧ H' E = some (.lst ((R.take i).map fun p => tv (cod L (ltr L.length ps p))))) ⟨snew nE, by rw [upd_same]; rfl⟩ (fun i H' _ q => SqT.of (q.1 _ _ hr16)) ?_ ?_⟩
              · rintro i v HX HX' hi ⟨sX, hE⟩ ⟨rfl, hv⟩
                obtain ⟨p, hp, rfl⟩ : ∃ p, R[i]? = some p ∧ v = iv p := by
                  rw [List.getElem?_map] at hv
                  cases hp : R[i]? with
                  | none => rw [hp] at hv; cases hv
                  | some p => rw [hp] at hv; cases hv; exact ⟨p, rfl, rfl⟩
                have hpn := hRn p (List.mem_of_getElem? hp)
                refine ⟨rfl, _, rfl, wd, _, rfl, wg_j (sX _ _ hwd16), jd, _, rfl, lg_t (sX _ _ (hd_sub _ _ J16.d)), _, rfl, tl, _, _, _, rfl, rfl, SqL.of (sX _ _ (hd_sub _ _ J16.t)), at_g rfl (txv_get hpn), _, hE, ?_, sch sX nE, ?_⟩
                · rw [List.length_map, List.length_take]; exact small1000 (by omega)
                · rw [upd_same, take_snoc hp, List.map_append]; rfl
              · rintro HX ⟨sX, hE⟩
                have hzR : (ivs R).length = R.length := List.length_map ..
                rw [hzR, List.take_length] at hE
                refine ⟨_, E, (R.map fun p => cod L (ltr L.length ps p)).map fun u => (⟨u.toArray⟩ : Str), rfl, rfl, .inl (SqL.of ?_), ?_, ?_⟩
                · rw [hE, List.map_map, List.map_map]; rfl
                · have hs : ∀ p ∈ R, (cod L (ltr L.length ps p)).length ≤ 5 := fun p hp => by rw [cod_len]; exact Jw.t5 p (hRn p hp)
                  have := sum_le hs
                  rw [List.map_map, List.map_map]
                  have e : (((fun x : Str => x.length) ∘ (fun u : List Nat => (⟨u.toArray⟩ : Str))) ∘ fun p => cod L (ltr L.length ps p)) = fun p => (cod L (ltr L.length ps p)).length := by
                    funext p
                    exact tv_len _
                  have hb0 : ("" : Str).length = 0 := by decide +kernel
                  rw [e, hb0]
                  omega
                · rw [join_nil, ← cod_flat]
                  have bX := b16.trans (but_same sX)
                  have MoX : MO P w HX CM CJ mo L ps M := (Mo5.mono (hd_but bX)).mono hd_sub
                  obtain ⟨dm, jm, rdm, kvm, hmo, _⟩ := id MoX
                  refine ⟨_, rfl, t, _, _, _, rfl, rfl, SqT.of (sX _ _ ht16), at_g (j := 1) rfl rfl, _, rfl, N, U, rfl, hU0, hNU, hUB, fun HY q n d2 sY hq fr => ?_⟩
                  have sXY := sX.trans sY
                  refine ⟨_, rfl, mo, dm, _, rfl, sY _ _ hmo, mf_cr, _, rfl, t, _, _, _, rfl, rfl, SqT.of (sXY _ _ ht16), at_g (j := 0) rfl rfl, mo, r, L, ps, M, R, n1, N, U, rfl, MoX.mono sY, m, sXY _ _ hr16, hC, hn0, hP0.symm, hU, fun HZ r1 sZ hs => ?_⟩
                  refine ⟨_, rfl, r1, q, N, U, n, d2, rfl, hs, hU0, sZ _ _ hq, fr, fun HW sW => ⟨true, rfl, iteF ?_⟩⟩
                  have sYW := sY.trans (sZ.trans sW)
                  refine ⟨_, rfl, mo, dm, _, rfl, sYW _ _ hmo, mf_ct, _, rfl, mo, L, ps, M, R, n1, N, U, rfl, MoX.mono sYW, m, hC, hn0, hP0.symm, hU, fun HV r2 sV hs2 => ?_⟩
                  refine ⟨_, rfl, r2, q, N, U, n, d2, rfl, hs2, hU0, (sZ.trans (sW.trans sV)) _ _ hq, fr, fun HU sU => ⟨true, rfl, iteF ?_⟩⟩
                  have sT := sX.trans (sYW.trans (sV.trans sU))
                  exact ⟨b16.trans (but_same sT), tp16.same sT, _, _, _, _, _, _, _, _, rfl⟩
            · rintro σ H15 ⟨b15, tp15, v7, v8, v9, v10, v11, v12, v13, v14, rfl⟩
              exact k _
theorem ok_law (T : Bi K mg) (TM : TMx K CM) (C1 : Has P w K mg base "_law_tape" 1 ["_law_script"] (sp_tape K)) (C2 : Has P w K mg base "_law_draw" 2 ["_law_tape_here", "_law_many"] sp_draw) (C3 : Has P w K mg base "_law_pick" 3 ["_law_tape_here", "_law_row"] sp_pick) (C4 : Has P w K mg base "_law_world" 11 ["_law_tape_here", "_law_most", "_law_tries", "_law_rising"] (sp_world P w CM CJ)) (C5 : Has P w K mg base "_law_all_rows" 2 ["_law_weights_here", "_law_many"] (sp_all_rows P w)) (C6 : Has P w K mg base "_law_all" 1 ["_law_weights_here"] (sp_all P w)) (C7 : Has P w K mg base "_law_text" 4 ["_law_tape_here", "_law_world_here", "_law_most"] (sp_text P w CM CJ)) (C8 : Has P w K mg base "_law_share" 1 ["_law_over", "_law_under"] sp_law_share) (C9 : Has P w K mg base "_law_is_share" 1 ["_law_actual", "_law_due"] (sp_is_share CS)) (C10 : Has P w K mg base "begins" 7 ["model", "text"] (sp_begins P w CM CJ CS)) (C11 : HasM P w K mg base CM "chance_of_row" 7 ["self", "row"] (sp_cor P w CM CJ CS)) (C12 : HasM P w K mg base CM "chance_of_text" 8 ["self", "text"] (sp_cot P w CM CJ CS)) (D : Df K mg "law" st_law) : Has P w K mg base "law" 12 ["_law_script"] (sp_law K) :=
  D.ok sc_law bd_law (fun vs H Q E ⟨_, _, e, _⟩ => by rw [e]; rfl) (body_law T TM C1 C2 C3 C4 C5 C6 C7 C8 C9 C10 C11 C12)
end
end Rj
set_option Elab.async false
set_option linter.all false
set_option maxRecDepth 100000
set_option maxHeartbeats 0
namespace Rj
open PySem PySem.Spec PyProof.Rows L2
/-! ### the head -/
def dF (x : Str) (st : Stmt) : He.DefD := ⟨(x, none), x, x, defArgs st, defBody st, defScope st, [], []⟩
def dM (C m q : Str) (st : Stmt) : He.DefD := ⟨(C, some m), m, q, defArgs st, defBody st, defScope st, [], []⟩
def fn0 : List He.DefD := [dF "is_between" st_is_between, dF "is_alphabet" st_is_alphabet, dF "checked_alphabet" st_checked_alphabet, dF "put_together" st_put_together, dF "lowest_pair" st_lowest_pair, dF "cut_row" st_cut_row, dF "letters_of" st_letters_of, dF "cut" st_cut, dF "text_of_row" st_text_of_row, dF "common_divisor" st_common_divisor, dF "fits_text" st_fits_text, dF "covers" st_covers, dF "begins" st_begins, dF "right_spine" st_right_spine, dF "left_spine" st_left_spine, dF "crossing" st_crossing, dF "side_by_side" st_side_by_side, dF "is_good_row" st_is_good_row, dF "_law_mixed" st_law_mixed, dF "_law_tape" st_law_tape, dF "_law_draw" st_law_draw, dF "_law_pick" st_law_pick, dF "_law_signs" st_law_signs, dF "_law_letters" st_law_letters, dF "_law_cut" st_law_cut, dF "_law_joins" st_law_joins, dF "_law_follow" st_law_follow, dF "_law_share" st_law_share, dF "_law_is_share" st_law_is_share, dF "_law_weight" st_law_weight]
def fn1 : List He.DefD := [dF "_law_table" st_law_table, dF "_law_weights" st_law_weights, dF "_law_passed" st_law_passed, dF "_law_world" st_law_world, dF "_law_text" st_law_text, dF "_law_all" st_law_all, dF "_law_all_rows" st_law_all_rows, dF "law" st_law, dM "Joins" "__init__" "Joins.__init__" st_Joins_init__, dM "Joins" "take" "Joins.take" st_Joins_take, dM "Joins" "is_proper" "Joins.is_proper" st_Joins_is_proper, dM "Joins" "is_piece" "Joins.is_piece" st_Joins_is_piece, dM "Joins" "check_piece" "Joins.check_piece" st_Joins_check_piece, dM "Joins" "text_of" "Joins.text_of" st_Joins_text_of, dM "Joins" "parts_of" "Joins.parts_of" st_Joins_parts_of, dM "Joins" "piece_of" "Joins.piece_of" st_Joins_piece_of, dM "Share" "__init__" "Share.__init__" st_Share_init__, dM "Share" "__add__" "Share.__add__" st_Share_add__, dM "Share" "__mul__" "Share.__mul__" st_Share_mul__, dM "Model" "__init__" "Model.__init__" st_Model_init__, dM "Model" "chance" "Model.chance" st_Model_chance, dM "Model" "chance_of_begin" "Model.chance_of_begin" st_Model_chance_of_begin, dM "Model" "chance_of_row" "Model.chance_of_row" st_Model_chance_of_row, dM "Model" "chance_of_text" "Model.chance_of_text" st_Model_chance_of_text]
def fnl : List He.DefD := fn0 ++ fn1
def fa0 : List He.Fa := [.glo "is_between", .glo "is_alphabet", .glo "checked_alphabet", .glo "put_together", .glo "lowest_pair", .glo "cut_row", .glo "letters_of", .glo "cut", .glo "text_of_row", .glo "common_divisor", .glo "fits_text", .glo "covers", .glo "begins", .glo "right_spine", .glo "left_spine", .glo "crossing", .glo "side_by_side", .glo "is_good_row", .glo "_law_mixed", .glo "_law_tape", .glo "_law_draw", .glo "_law_pick", .glo "_law_signs", .glo "_law_letters", .glo "_law_cut", .glo "_law_joins", .glo "_law_follow", .glo "_law_share", .glo "_law_is_share", .glo "_law_weight"]
def fa1 : List He.Fa := [.glo "_law_table", .glo "_law_weights", .glo "_law_passed", .glo "_law_world", .glo "_law_text", .glo "_law_all", .glo "_law_all_rows", .glo "law", .glo "Joins", .glo "Share", .glo "Model", .free "len", .free "range", .free "isinstance", .free "int", .free "bool", .free "tuple", .free "list", .free "enumerate", .free "abs", .free "sum", .free "max", .free "sorted", .int "MOST_LETTERS" 30, .int "LONGEST_PIECE" 40, .cls "Joins", .cls "Share", .cls "Model", .noat "Joins" "alphabet", .noat "Joins" "pairs"]
def fa2 : List He.Fa := [.noat "Joins" "texts", .noat "Joins" "ranks", .noat "Joins" "numbers", .noat "Joins" "longest", .noat "Share" "over", .noat "Share" "under", .noat "Model" "joins", .noat "Model" "rows", .meth "Joins" "take", .meth "Joins" "is_proper", .meth "Joins" "is_piece", .meth "Joins" "check_piece", .meth "Joins" "text_of", .meth "Joins" "parts_of", .meth "Joins" "piece_of", .meth "Share" "__add__", .meth "Share" "__mul__", .meth "Model" "chance", .meth "Model" "chance_of_begin", .meth "Model" "chance_of_row", .meth "Model" "chance_of_text", .mkr "Joins", .mkr "Share", .mkr "Model"]
def fal : List He.Fa := fa0 ++ fa1 ++ fa2
/-- the getter of the property pieces -/
def pAd (K : PySem.W.Frag) : Addr := He.ma K (He.ga K "Joins") "pieces"
def gAd (K : PySem.W.Frag) : Addr := match PySem.W.recIn K (pAd K) "property" with
  | some (.ref g :: _) => g
  | _ => 0
def recOkB (K : PySem.W.Frag) : Bool := match PySem.W.recIn K (pAd K) "property" with
  | some (.ref _ :: _) => true
  | _ => false
def getB (K : PySem.W.Frag) : Bool := PySem.W.keepIn K (.ref (gAd K)) && (match K.lookup (gAd K) with
  | some ⟨_, _, .func fd, _⟩ => PySem.W.codeIn K fd.code "Joins.pieces" && (He.dflB K fd.defaults [] && He.kwdB K fd.kwdefaults [])
  | _ => false)
def getW (K : PySem.W.Frag) : He.FnW := match K.lookup (gAd K) with
  | some ⟨_, _, .func fd, _⟩ => some (fd.name, fd.qualname, fd.params, fd.body, fd.scope, fd.globals, fd.closure, fd.builtins)
  | _ => none
def extra (K : PySem.W.Frag) : Bool := PySem.W.selfFirst K (He.ga K "Share") && (He.eqO (PySem.W.findIn K (.ref (He.ga K "Joins")) "pieces") (some (some (.ref (pAd K)))) && (He.eqO (PySem.W.specialIn K (.ref (pAd K)) "__get__") (some (some (.builtin "property.__get__"))) &&
  (decide (PySem.W.takesIn K (.ref (pAd K)) = some true) && (recOkB K && getB K))))
def getV : He.FnW := some ("pieces", "Joins.pieces", defArgs st_Joins_pieces, .stmts (defBody st_Joins_pieces), defScope st_Joins_pieces, mainGlobals, [], builtinsNs)
abbrev AlX : Type := He.AlD × Bool × He.FnW
def obX (K : PySem.W.Frag) : AlX := (He.obsD fal fnl K, extra K, getW K)
def vaX : AlX := (He.valD fnl, true, getV)
def SaX (K : PySem.W.Frag) : Prop := obX K = vaX
def obG (g : Addr → Option Obj) : AlX := obX (He.frG g (He.asD g 6))
def hkX : PySem.W.Hook where
  α := AlX
  obs := fun s => obG s.heap.get?
  val := fun _ => vaX
  says := fun _ h => ∃ K : PySem.W.Frag, K.In h ∧ SaX K
  of := fun _ _ e => ⟨_, He.frG_in, e⟩
  keeps := fun _ _ _ ⟨K, hK, c⟩ k => ⟨K, PySem.W.Frag.In.keeps hK k, c⟩
theorem obG_eq {g : Addr → Option Obj} {s : Shared} (h : ∀ a, g a = s.heap.get? a) : obG g = hkX.obs s := by
  have e : g = s.heap.get? := funext h
  rw [e] <;> rfl
section
variable {K : PySem.W.Frag}
theorem SaX.d (c : SaX K) : He.SaysD fal fnl K := congrArg (fun z : AlX => z.1) c
theorem SaX.x (c : SaX K) : extra K = true := congrArg (fun z : AlX => z.2.1) c
theorem SaX.w (c : SaX K) : getW K = getV := congrArg (fun z : AlX => z.2.2) c
theorem SaX.get (c : SaX K) : Pd K (He.ga K "Joins") "pieces" "Joins.pieces" st_Joins_pieces := by
  obtain ⟨_, c1⟩ := He.ba c.x
  obtain ⟨e1, c2⟩ := He.ba c1
  obtain ⟨e2, c3⟩ := He.ba c2
  obtain ⟨e3, c4⟩ := He.ba c3
  obtain ⟨e4, e5⟩ := He.ba c4
  obtain ⟨kp, c5⟩ := He.ba e5
  have e := c.w
  have hrec : ∃ rest, PySem.W.recIn K (pAd K) "property" = some (.ref (gAd K) :: rest) := by
    unfold recOkB at e4
    unfold gAd
    split at e4
    · rename_i a r hr
      exact ⟨r, by rw [hr]⟩
    · cases e4
  have fn : ∃ fd, FnQ K "pieces" "Joins.pieces" st_Joins_pieces (gAd K) fd := by
    unfold getW at e
    cases q : K.lookup (gAd K) with
    | none => rw [q] at c5; cases c5
    | some ob =>
      obtain ⟨oc, od, dt, osl⟩ := ob
      rw [q] at c5 e
      cases dt with
      | func fd =>
        obtain ⟨n1, n2, n3, n4, n5, n6, n7, n8, n9, n10, n11, n12, n13, n14, n15⟩ := fd
        have e6 : (some (n1, n2, n3, n4, n5, n6, n7, n15) : He.FnW) = getV := e
        simp only [getV, Option.some.injEq, Prod.mk.injEq] at e6
        obtain ⟨h1, h2, h3, h4, h5, h6, h7, h8⟩ := e6
        subst h1 h2 h3 h4 h5 h6 h7 h8
        have c6 : (PySem.W.codeIn K n13 "Joins.pieces" && (He.dflB K n8 [] && He.kwdB K n9 [])) = true := c5
        obtain ⟨k1, k2⟩ := He.ba c6
        obtain ⟨k3, k4⟩ := He.ba k2
        exact ⟨_, ⟨oc, od, n8, n9, n10, n11, n12, n13, n14, osl, rfl, q, k1, He.dflB_ok k3, He.kwdB_ok k4⟩, kp⟩
      | _ => cases c5
  obtain ⟨fd, F⟩ := fn
  exact ⟨pAd K, gAd K, fd, F, ⟨He.eqO_ok e1, He.eqO_ok e2, of_decide_eq_true e3, hrec⟩⟩
theorem SaX.df {h : Heap} {mg : Str → Option Value} (X : K.In h) (G : h.Ns mainGlobals mg) (c : SaX K) (i j : Nat) {x : Str} {st : Stmt} (hi : fnl[i]? = some (dF x st)) (hj : fal[j]? = some (.glo x)) : Df K mg x st := by
  obtain ⟨fd, F⟩ := c.d.def_ i hi
  exact ⟨_, fd, F, He.glo_ok X G (c.d.fact j hj)⟩
theorem SaX.md (c : SaX K) (i j : Nat) {C m q : Str} {st : Stmt} (hi : fnl[i]? = some (dM C m q st)) (hj : fal[j]? = some (.meth C m)) : Md K (He.ga K C) m q st := by
  obtain ⟨fd, F⟩ := c.d.def_ i hi
  exact ⟨_, fd, F, He.meth_ok (c.d.fact j hj)⟩
theorem SaX.ci {h : Heap} {mg : Str → Option Value} (X : K.In h) (G : h.Ns mainGlobals mg) (c : SaX K) (i j k : Nat) {C q : Str} {st : Stmt} (hi : fnl[i]? = some (dM C "__init__" q st)) (hj : fal[j]? = some (.mkr C)) (hk : fal[k]? = some (.glo C)) : Ci K mg (He.ga K C) C q st := by
  obtain ⟨fd, F⟩ := c.d.def_ i hi
  exact ⟨_, fd, F, He.mkr_ok (c.d.fact j hj), He.glo_ok X G (c.d.fact k hk)⟩
theorem SaX.ow (c : SaX K) (i j : Nat) {m q : Str} {st : Stmt} {o : Operator} (ho : PySem.dunder o.info.2 = m) (hi : fnl[i]? = some (dM "Share" m q st)) (hj : fal[j]? = some (.meth "Share" m)) : OwnD K (He.ga K "Share") o m q st := by
  obtain ⟨fd, F⟩ := c.d.def_ i hi
  have M := He.meth_ok (c.d.fact j hj)
  exact ⟨_, fd, F, (He.ba c.x).1, by rw [ho]; exact M.1, M.2⟩
end
theorem facts {P : Program} {w : World} {K : PySem.W.Frag} {h : Heap} {mg : Str → Option Value} {f : Addr} (X : K.In h) (G : h.Ns mainGlobals mg) (hfa : mg ("law" : Str) = some (.ref f)) (c : SaX K) :
    ∃ fd : FuncData, (∀ (s : Shared) (v : Value), BindsTo s fd ⟨[v], []⟩ [("_law_script", v)]) ∧ ∀ base : Heap, K.In base → base.Ns mainGlobals mg → FnOk P w K mg base CX0 12 f fd ["_law_script"] (sp_law K) := by
  have D_is_between := c.df X G 0 0 (x := "is_between") (st := st_is_between) rfl rfl
  have D_is_alphabet := c.df X G 1 1 (x := "is_alphabet") (st := st_is_alphabet) rfl rfl
  have D_checked_alphabet := c.df X G 2 2 (x := "checked_alphabet") (st := st_checked_alphabet) rfl rfl
  have D_put_together := c.df X G 3 3 (x := "put_together") (st := st_put_together) rfl rfl
  have D_lowest_pair := c.df X G 4 4 (x := "lowest_pair") (st := st_lowest_pair) rfl rfl
  have D_cut_row := c.df X G 5 5 (x := "cut_row") (st := st_cut_row) rfl rfl
  have D_letters_of := c.df X G 6 6 (x := "letters_of") (st := st_letters_of) rfl rfl
  have D_cut := c.df X G 7 7 (x := "cut") (st := st_cut) rfl rfl
  have D_text_of_row := c.df X G 8 8 (x := "text_of_row") (st := st_text_of_row) rfl rfl
  have D_common_divisor := c.df X G 9 9 (x := "common_divisor") (st := st_common_divisor) rfl rfl
  have D_fits_text := c.df X G 10 10 (x := "fits_text") (st := st_fits_text) rfl rfl
  have D_covers := c.df X G 11 11 (x := "covers") (st := st_covers) rfl rfl
  have D_begins := c.df X G 12 12 (x := "begins") (st := st_begins) rfl rfl
  have D_right_spine := c.df X G 13 13 (x := "right_spine") (st := st_right_spine) rfl rfl
  have D_left_spine := c.df X G 14 14 (x := "left_spine") (st := st_left_spine) rfl rfl
  have D_crossing := c.df X G 15 15 (x := "crossing") (st := st_crossing) rfl rfl
  have D_side_by_side := c.df X G 16 16 (x := "side_by_side") (st := st_side_by_side) rfl rfl
  have D_is_good_row := c.df X G 17 17 (x := "is_good_row") (st := st_is_good_row) rfl rfl
  have D_law_mixed := c.df X G 18 18 (x := "_law_mixed") (st := st_law_mixed) rfl rfl
  have D_law_tape := c.df X G 19 19 (x := "_law_tape") (st := st_law_tape) rfl rfl
  have D_law_draw := c.df X G 20 20 (x := "_law_draw") (st := st_law_draw) rfl rfl
  have D_law_pick := c.df X G 21 21 (x := "_law_pick") (st := st_law_pick) rfl rfl
  have D_law_signs := c.df X G 22 22 (x := "_law_signs") (st := st_law_signs) rfl rfl
  have D_law_letters := c.df X G 23 23 (x := "_law_letters") (st := st_law_letters) rfl rfl
  have D_law_cut := c.df X G 24 24 (x := "_law_cut") (st := st_law_cut) rfl rfl
  have D_law_joins := c.df X G 25 25 (x := "_law_joins") (st := st_law_joins) rfl rfl
  have D_law_follow := c.df X G 26 26 (x := "_law_follow") (st := st_law_follow) rfl rfl
  have D_law_share := c.df X G 27 27 (x := "_law_share") (st := st_law_share) rfl rfl
  have D_law_is_share := c.df X G 28 28 (x := "_law_is_share") (st := st_law_is_share) rfl rfl
  have D_law_weight := c.df X G 29 29 (x := "_law_weight") (st := st_law_weight) rfl rfl
  have D_law_table := c.df X G 30 30 (x := "_law_table") (st := st_law_table) rfl rfl
  have D_law_weights := c.df X G 31 31 (x := "_law_weights") (st := st_law_weights) rfl rfl
  have D_law_passed := c.df X G 32 32 (x := "_law_passed") (st := st_law_passed) rfl rfl
  have D_law_world := c.df X G 33 33 (x := "_law_world") (st := st_law_world) rfl rfl
  have D_law_text := c.df X G 34 34 (x := "_law_text") (st := st_law_text) rfl rfl
  have D_law_all := c.df X G 35 35 (x := "_law_all") (st := st_law_all) rfl rfl
  have D_law_all_rows := c.df X G 36 36 (x := "_law_all_rows") (st := st_law_all_rows) rfl rfl
  have D_law := c.df X G 37 37 (x := "law") (st := st_law) rfl rfl
  have M_take := c.md 39 68 (C := "Joins") (m := "take") (q := "Joins.take") (st := st_Joins_take) rfl rfl
  have M_is_proper := c.md 40 69 (C := "Joins") (m := "is_proper") (q := "Joins.is_proper") (st := st_Joins_is_proper) rfl rfl
  have M_is_piece := c.md 41 70 (C := "Joins") (m := "is_piece") (q := "Joins.is_piece") (st := st_Joins_is_piece) rfl rfl
  have M_check_piece := c.md 42 71 (C := "Joins") (m := "check_piece") (q := "Joins.check_piece") (st := st_Joins_check_piece) rfl rfl
  have M_text_of := c.md 43 72 (C := "Joins") (m := "text_of") (q := "Joins.text_of") (st := st_Joins_text_of) rfl rfl
  have M_parts_of := c.md 44 73 (C := "Joins") (m := "parts_of") (q := "Joins.parts_of") (st := st_Joins_parts_of) rfl rfl
  have M_piece_of := c.md 45 74 (C := "Joins") (m := "piece_of") (q := "Joins.piece_of") (st := st_Joins_piece_of) rfl rfl
  have M_chance := c.md 50 77 (C := "Model") (m := "chance") (q := "Model.chance") (st := st_Model_chance) rfl rfl
  have M_chance_of_begin := c.md 51 78 (C := "Model") (m := "chance_of_begin") (q := "Model.chance_of_begin") (st := st_Model_chance_of_begin) rfl rfl
  have M_chance_of_row := c.md 52 79 (C := "Model") (m := "chance_of_row") (q := "Model.chance_of_row") (st := st_Model_chance_of_row) rfl rfl
  have M_chance_of_text := c.md 53 80 (C := "Model") (m := "chance_of_text") (q := "Model.chance_of_text") (st := st_Model_chance_of_text) rfl rfl
  have I_Joins := c.ci X G 38 81 38 (C := "Joins") (q := "Joins.__init__") (st := st_Joins_init__) rfl rfl rfl
  have I_Share := c.ci X G 46 82 39 (C := "Share") (q := "Share.__init__") (st := st_Share_init__) rfl rfl rfl
  have I_Model := c.ci X G 49 83 40 (C := "Model") (q := "Model.__init__") (st := st_Model_init__) rfl rfl rfl
  have O_add := c.ow 47 75 (m := "__add__") (q := "Share.__add__") (st := st_Share_add__) (o := .Add) (by kernel_rfl) rfl rfl
  have O_mul := c.ow 48 76 (m := "__mul__") (q := "Share.__mul__") (st := st_Share_mul__) (o := .Mult) (by kernel_rfl) rfl rfl
  have fr : ∀ (j : Nat) {x : Str}, fal[j]? = some (.free x) → mg x = none := fun j {x} hj => He.free_ok X G (c.d.fact j hj)
  have T : Bi K mg := ⟨fr 41 rfl, fr 42 rfl, fr 43 rfl, fr 44 rfl, fr 45 rfl, fr 46 rfl, fr 47 rfl, fr 48 rfl, fr 49 rfl, fr 50 rfl, fr 51 rfl, fr 52 rfl, He.int_ok X G (c.d.fact 53 rfl), He.int_ok X G (c.d.fact 54 rfl)⟩
  have TJ : TJx K (He.ga K "Joins") := ⟨He.cls_ok (c.d.fact 55 rfl), He.noat_ok (c.d.fact 58 rfl), He.noat_ok (c.d.fact 59 rfl), He.noat_ok (c.d.fact 60 rfl), He.noat_ok (c.d.fact 61 rfl), He.noat_ok (c.d.fact 62 rfl), He.noat_ok (c.d.fact 63 rfl)⟩
  have TS : TSx K (He.ga K "Share") := ⟨He.cls_ok (c.d.fact 56 rfl), He.noat_ok (c.d.fact 64 rfl), He.noat_ok (c.d.fact 65 rfl)⟩
  have TM : TMx K (He.ga K "Model") := ⟨He.cls_ok (c.d.fact 57 rfl), He.noat_ok (c.d.fact 66 rfl), He.noat_ok (c.d.fact 67 rfl)⟩
  obtain ⟨fd0, F0⟩ := c.d.def_ 37 (d := dF "law" st_law) rfl
  have e0 := hfa.symm.trans (He.glo_ok X G (c.d.fact 37 (f := .glo "law") rfl))
  cases e0
  refine ⟨fd0, fun s v => F0.bindsA (ps := ["_law_script"]) bd_law s [v] rfl, fun base _ _ => ?_⟩
  have h1 := ok_is_between (P := P) (w := w) (base := base) T D_is_between
  have h2 := ok_is_alphabet (P := P) (w := w) (base := base) T D_is_alphabet
  have h3 := ok_checked_alphabet h2 D_checked_alphabet
  have h4 := ok_common_divisor (P := P) (w := w) (base := base) D_common_divisor
  have h5 := ok_put_together (P := P) (w := w) (base := base) T D_put_together
  have h6 := ok_lowest_pair (P := P) (w := w) (base := base) T D_lowest_pair
  have h7 := ok_cut_row h6 h5 D_cut_row
  have h8 := ok_is_piece T TJ h1 M_is_piece
  have h9 := ok_check_piece TJ h8 M_check_piece
  have h10 := ok_text_of TJ h9 M_text_of
  have h11 := ok_parts_of T TJ h9 M_parts_of
  have h12 := ok_piece_of (P := P) (w := w) (mg := mg) (base := base) TJ M_piece_of
  have h13 := ok_pieces (P := P) (w := w) (base := base) T TJ c.get
  have h14 := ok_is_proper T TJ h1 h7 M_is_proper
  have h15 := ok_take T TJ h14 M_take
  have h16 := ok_Joins T TJ h3 h15 I_Joins
  have h17 := ok_letters_of T TJ h12 D_letters_of
  have h18 := ok_cut T TJ h7 h17 D_cut
  have h19 := ok_text_of_row T TJ h10 D_text_of_row
  have h20 := ok_Share T TS h4 I_Share
  have h21 := ok_add T TS h20 O_add
  have h22 := ok_mul T TS h20 O_mul
  have h23 := ok_fits_text (P := P) (w := w) (base := base) D_fits_text
  have h24 := ok_right_spine T TJ h11 D_right_spine
  have h25 := ok_left_spine T TJ h11 D_left_spine
  have h26 := ok_crossing T TJ h24 h25 D_crossing
  have h27 := ok_side_by_side h26 D_side_by_side
  have h28 := ok_is_good_row T TJ h13 h27 D_is_good_row
  have h29 := ok_Model (CM := He.ga K "Model") T TM h28 I_Model
  have h30 := ok_chance (CJ := He.ga K "Joins") T TM h20 M_chance
  have h31 := ok_cob T TM TJ h20 h19 h30 h22 M_chance_of_begin
  have h32 := ok_cor T TM h20 h31 h30 h22 M_chance_of_row
  have h33 := ok_cot T TM h18 h32 M_chance_of_text
  have h34 := ok_covers T TM TJ h17 h23 h10 D_covers
  have h35 := ok_begins T TM h20 h34 h31 h21 D_begins
  have l1 := ok_mixed (P := P) (w := w) (base := base) T D_law_mixed
  have l2 := ok_tape (P := P) (w := w) (base := base) T D_law_tape
  have l3 := ok_draw T l1 D_law_draw
  have l4 := ok_pick T l3 D_law_pick
  have l5 := ok_signs (P := P) (w := w) (base := base) D_law_signs
  have l6 := ok_letters T l3 l4 l5 D_law_letters
  have l7 := ok_law_cut (P := P) (w := w) (base := base) T D_law_cut
  have l8 := ok_law_joins T l3 l4 l6 l7 D_law_joins
  have l9 := ok_follow T l7 D_law_follow
  have l10 := ok_law_share (P := P) (w := w) (base := base) T D_law_share
  have l11 := ok_is_share (P := P) (w := w) (base := base) T TS D_law_is_share
  have l12 := ok_weight T l3 l4 D_law_weight
  have l13 := ok_table T l3 l12 D_law_table
  have l14 := ok_weights (P := P) (w := w) (base := base) T D_law_weights
  have l15 := ok_passed T l4 D_law_passed
  have l16 := ok_world T l8 l9 l13 l14 l15 h16 h29 D_law_world
  have l17 := ok_text (P := P) (w := w) (CM := He.ga K "Model") (CJ := He.ga K "Joins") T l3 l4 D_law_text
  have l18 := ok_all (P := P) (w := w) (base := base) T D_law_all
  have l19 := ok_all_rows T l18 D_law_all_rows
  exact fn_body F0 sc_law (fun vs H Q E ⟨_, _, e, _⟩ => by rw [e]; rfl) (body_law T TM l2 l3 l4 l16 l19 l18 l17 l10 l11 h35 h32 h33)
end Rj
set_option Elab.async false
set_option linter.all false
set_option maxRecDepth 100000
set_option maxHeartbeats 0
namespace Rj
open PySem PySem.Spec PyProof.Rows L2
abbrev RR : PySem.W.OpenRow := PySem.W.OpenLaw.row PySem.Challenge.rw_rankedjoins_k48_whole_begins_is_the_sum
def obS (s : PySem.W.SharedT) : AlX := obG (HandSHeadRun.getT s)
theorem obS_eq (s : PySem.W.SharedT) : obS s = hkX.obs s.abs := obG_eq (HandSHeadRun.getT_eq s)
def loose0 : List Str := ["_wall", "__name__", "JoinError", "InvalidAlphabet", "NotProper", "NoPiece", "UnknownSign", "InvalidNumber", "InvalidModel", "MOST_LETTERS", "LONGEST_PIECE", "is_between", "is_alphabet", "checked_alphabet", "put_together", "lowest_pair", "cut_row", "Joins", "letters_of", "cut", "text_of_row", "common_divisor", "Share", "fits_text", "covers", "begins"]
def loose1 : List Str := ["right_spine", "left_spine", "crossing", "side_by_side", "is_good_row", "in_order", "Model", "_law_mixed", "_law_tape", "_law_draw", "_law_pick", "_law_signs", "_law_letters", "_law_cut", "_law_joins", "_law_follow", "_law_share", "_law_is_share", "_law_weight", "_law_table", "_law_weights", "_law_passed", "_law_world", "_law_text", "_law_all", "_law_all_rows"]
def loose : List Str := loose0 ++ loose1
theorem runs (w : World) : HandSHeadRun.RunEq RR (PySem.W.view RR.prog [59]) hkX obS 20000 loose w := by
  intro os
  kernel_rfl
end Rj
open PySem PySem.W PySem.Calls PyProof.Rows
theorem PySem.Challenge.cw_rankedjoins_k48_whole_begins_is_the_sum_holds : PySem.Challenge.rw_rankedjoins_k48_whole_begins_is_the_sum.Holds := by
  w_on; o_law
  refine HandSHeadRun.head_any (r := OpenLaw.row PySem.Challenge.rw_rankedjoins_k48_whole_begins_is_the_sum) (q := view (OpenLaw.row PySem.Challenge.rw_rankedjoins_k48_whole_begins_is_the_sum).prog [59]) (H := Rj.hkX) (ob := Rj.obS) (M := 20000) (loose := Rj.loose) (d := HandSHeadRun.topDef (OpenLaw.row PySem.Challenge.rw_rankedjoins_k48_whole_begins_is_the_sum).prog 59) (kwd := []) Rj.obS_eq
    (by kernel_rfl) (fun s => by kernel_rfl) Rj.runs (by kernel_rfl) (by kernel_rfl) (by kernel_rfl) (by rfl) (by first | assumption | decide +kernel) (by decide +kernel) ⟨rfl, rfl, rfl, rfl, rfl, by decide +kernel⟩ ?hw ?hc
  case hw => w_witness2
  case hc =>
    refine L2.walk_ofE (l := PySem.Challenge.rw_rankedjoins_k48_whole_begins_is_the_sum) (n := 63) (k := 12) (x := "_law_script") (CX := L2.CX0) rfl (by decide) (by kernel_rfl) ⟨rfl, by decide, by decide⟩ ?F (fun _ _ _ _ z => z)
    intro w mg fa h Y G hmg0
    obtain ⟨K, KX, c⟩ := Y
    have hmg : mg ("law" : PySem.Str) = some (.ref fa) := by
      have e : (HandSHeadRun.topDef (OpenLaw.row PySem.Challenge.rw_rankedjoins_k48_whole_begins_is_the_sum).prog 59).name = ("law" : PySem.Str) := by kernel_rfl
      rw [← e]
      exact hmg0
    obtain ⟨fd, hb, hF⟩ := Rj.facts (P := (PySem.Challenge.rw_rankedjoins_k48_whole_begins_is_the_sum).prog) (w := w) KX G hmg c
    exact ⟨K, fd, Rj.sp_law K, KX, hb, fun H a ns hl _ hS => ⟨a, ns, rfl, hS, fun _ => rfl⟩, hF⟩
