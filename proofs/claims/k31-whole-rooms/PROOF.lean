import PyProof.Rows.All
import Wide.All
import OpenK.AllK
import Wide.FinOn
import HandS.ForMost
import HandS.IsInst
import HandS.TupAny
import HandS.TupMul
import HandS.Conv
import KE.KeyNested
import KE.KEqDict
import KE.KDictDisplayH
import HandS.TupLen
import HandS.SetKeys
import KE.GoesMore
import KE.GoesZip
import KE.KDictZip
import HandS.Walk
import KE.KStateDown
import HandS.Head0
import HandS.Head1
import HandS.Head2
import HandS.HeadEnd
import HandS.HeadHook1
import HandS.HeadHook2
import HandS.HeadNt
import PySem.Challenge.RW_wishkeep_k31_whole_rooms_dont_matter
/-! Rows that come of a stem and a round; the lean one is just one. -/
namespace Wk

def rowAt {α : Type} (s r : List α) (n : Nat) : Option α := if n < s.length then s[n]? else r[(n - s.length) % r.length]?

theorem rowAt_lt {α : Type} {s r : List α} {n : Nat} (h : n < s.length) : rowAt s r n = s[n]? := by unfold rowAt; rw [if_pos h]
theorem rowAt_ge {α : Type} {s r : List α} {n : Nat} (h : ¬ n < s.length) : rowAt s r n = r[(n - s.length) % r.length]? := by unfold rowAt; rw [if_neg h]
theorem rowAt_nil {α : Type} {r : List α} {n : Nat} : rowAt [] r n = r[n % r.length]? := by unfold rowAt; simp
theorem rowAt_per {α : Type} {s r : List α} {n : Nat} (h : s.length ≤ n) : rowAt s r (n + r.length) = rowAt s r n := by
  rw [rowAt_ge (by omega), rowAt_ge (by omega)]
  have : n + r.length - s.length = (n - s.length) + r.length := by omega
  rw [this, Nat.add_mod_right]

/-- p is a period of f from N on (0 too) -/
def Per {α : Type} (f : Nat → α) (N p : Nat) : Prop := ∀ n, N ≤ n → f (n + p) = f n
theorem Per.mul {α : Type} {f : Nat → α} {N p : Nat} (h : Per f N p) (k : Nat) : Per f N (p * k) := by
  induction k with
  | zero => intro n _; rfl
  | succ k ih => intro n hn; rw [Nat.mul_succ, ← Nat.add_assoc, h _ (by omega), ih n hn]
theorem Per.mod {α : Type} {f : Nat → α} {N a b : Nat} (ha : Per f N a) (hb : Per f N b) : Per f N (b % a) := by
  intro n hn
  have e : n + b % a + a * (b / a) = n + b := by have := Nat.mod_add_div b a; omega
  rw [← ha.mul (b / a) (n + b % a) (by omega), e, hb n hn]
theorem Per.gcd {α : Type} {f : Nat → α} {N : Nat} : ∀ a b : Nat, Per f N a → Per f N b → Per f N (Nat.gcd a b) := by
  intro a b
  induction a, b using Nat.gcd.induction with
  | H0 b => intro _ hb; simpa using hb
  | H1 a b h ih => intro ha hb; rw [Nat.gcd_rec]; exact ih (ha.mod hb) ha
theorem Per.mono {α : Type} {f : Nat → α} {N N' p : Nat} (h : Per f N p) (hN : N ≤ N') : Per f N' p := fun n hn => h n (by omega)

/-- a round that is no shorter one over and over -/
def Prim {α : Type} (r : List α) : Prop := ∀ d, 0 < d → d < r.length → r.length % d = 0 → ¬ Per (rowAt [] r) 0 d
def StemOk {α : Type} (s r : List α) : Prop := s = [] ∨ s.getLast? ≠ r.getLast?
structure Lean {α : Type} (s r : List α) : Prop where
  ne : r ≠ []
  prim : Prim r
  stem : StemOk s r

theorem lean_len {α : Type} {s1 r1 s2 r2 : List α} (L1 : Lean s1 r1) (h : ∀ n, rowAt s1 r1 n = rowAt s2 r2 n) (hr2 : 0 < r2.length) : Nat.gcd r1.length r2.length = r1.length := by
  have hr1 : 0 < r1.length := List.length_pos_iff.mpr L1.ne
  have hg : 0 < Nat.gcd r1.length r2.length := Nat.gcd_pos_of_pos_left _ hr1
  have p1 : Per (rowAt s1 r1) (s1.length + s2.length) r1.length := fun n hn => rowAt_per (by omega)
  have p2 : Per (rowAt s1 r1) (s1.length + s2.length) r2.length := fun n hn => by rw [h, h, rowAt_per (by omega)]
  have pg := Per.gcd _ _ p1 p2
  by_cases hlt : Nat.gcd r1.length r2.length < r1.length
  · exfalso
    refine L1.prim _ hg hlt (Nat.mod_eq_zero_of_dvd (Nat.gcd_dvd_left _ _)) fun n _ => ?_
    have key : ∀ m, rowAt [] r1 m = rowAt s1 r1 (s1.length + m + r1.length * s2.length) := fun m => by
      rw [rowAt_nil, rowAt_ge (by omega)]
      have : s1.length + m + r1.length * s2.length - s1.length = m + r1.length * s2.length := by omega
      rw [this, Nat.add_mul_mod_self_left]
    rw [key, key]
    have e : s1.length + (n + Nat.gcd r1.length r2.length) + r1.length * s2.length = (s1.length + n + r1.length * s2.length) + Nat.gcd r1.length r2.length := by omega
    rw [e]
    refine pg _ ?_
    have : s2.length ≤ r1.length * s2.length := Nat.le_mul_of_pos_left _ hr1
    omega
  · have := Nat.gcd_le_left r2.length hr1
    omega

theorem lean_stem {α : Type} {s1 r1 s2 r2 : List α} (L2 : Lean s2 r2) (h : ∀ n, rowAt s1 r1 n = rowAt s2 r2 n) (e : r1.length = r2.length) : s2.length ≤ s1.length := by
  have hr2 : 0 < r2.length := List.length_pos_iff.mpr L2.ne
  by_cases hlt : s2.length ≤ s1.length
  · exact hlt
  · exfalso
    rcases L2.stem with z | z
    · simp [z] at hlt
    · apply z
      have h1 := rowAt_per (s := s1) (r := r1) (n := s2.length - 1) (by omega)
      rw [h, h, rowAt_lt (n := s2.length - 1) (by omega), rowAt_ge (by omega)] at h1
      rw [List.getLast?_eq_getElem?, List.getLast?_eq_getElem?, ← h1]
      have : (s2.length - 1 + r1.length - s2.length) % r2.length = r2.length - 1 := by
        rw [e]
        have : s2.length - 1 + r2.length - s2.length = r2.length - 1 := by omega
        rw [this, Nat.mod_eq_of_lt (by omega)]
      rw [this]

theorem lean_unique {α : Type} {s1 r1 s2 r2 : List α} (L1 : Lean s1 r1) (L2 : Lean s2 r2) (h : ∀ n, rowAt s1 r1 n = rowAt s2 r2 n) : s1 = s2 ∧ r1 = r2 := by
  have hr1 : 0 < r1.length := List.length_pos_iff.mpr L1.ne
  have hr2 : 0 < r2.length := List.length_pos_iff.mpr L2.ne
  have g1 := lean_len L1 h hr2
  have g2 := lean_len L2 (fun n => (h n).symm) hr1
  have e : r1.length = r2.length := by rw [← g1, Nat.gcd_comm, g2]
  have es : s1.length = s2.length := Nat.le_antisymm (lean_stem L1 (fun n => (h n).symm) e.symm) (lean_stem L2 h e)
  constructor
  · apply List.ext_getElem? 
    intro i
    by_cases hi : i < s1.length
    · have := h i
      rwa [rowAt_lt hi, rowAt_lt (by omega)] at this
    · rw [List.getElem?_eq_none (by omega), List.getElem?_eq_none (by omega)]
  · apply List.ext_getElem?
    intro i
    by_cases hi : i < r1.length
    · have := h (s1.length + i)
      rw [rowAt_ge (by omega), rowAt_ge (by omega)] at this
      rwa [show s1.length + i - s1.length = i by omega, show s1.length + i - s2.length = i by omega, Nat.mod_eq_of_lt hi, Nat.mod_eq_of_lt (by omega)] at this
    · rw [List.getElem?_eq_none (by omega), List.getElem?_eq_none (by omega)]

/-! ### the least round -/
theorem rep_get {α : Type} (p : List α) : ∀ (k i : Nat), i < k * p.length → (List.replicate k p).flatten[i]? = p[i % p.length]?
  | 0, i, h => by simp at h
  | k + 1, i, h => by
    rw [List.replicate_succ, List.flatten_cons]
    by_cases hi : i < p.length
    · rw [List.getElem?_append_left hi, Nat.mod_eq_of_lt hi]
    · rw [List.getElem?_append_right (by omega), rep_get p k (i - p.length) (by rw [Nat.add_mul] at h; omega)]
      congr 1
      rw [← Nat.mod_eq_sub_mod (by omega)]
theorem rep_len {α : Type} (p : List α) (k : Nat) : (List.replicate k p).flatten.length = k * p.length := by simp

/-- what the code asks of a place -/
def Cuts {α : Type} (l : List α) (d : Nat) : Prop := l.length % d = 0 ∧ (List.replicate (l.length / d) (l.take d)).flatten = l
theorem cuts_row {α : Type} {l : List α} {d : Nat} (hd : 0 < d) (hl : d ≤ l.length) (h : Cuts l d) (n : Nat) : rowAt [] l n = rowAt [] (l.take d) n := by
  obtain ⟨h1, h2⟩ := h
  have ht : (l.take d).length = d := by rw [List.length_take]; omega
  have hdv : l.length / d * d = l.length := Nat.div_mul_cancel (Nat.dvd_of_mod_eq_zero h1)
  rw [rowAt_nil, rowAt_nil]
  conv => lhs; rw [← h2]
  rw [rep_get, ht]
  · congr 1
    rw [h2]
    exact Nat.mod_mod_of_dvd _ (Nat.dvd_of_mod_eq_zero h1)
  · rw [ht, hdv, h2]
    exact Nat.mod_lt _ (by omega)
theorem cuts_per {α : Type} {l : List α} {d : Nat} (hd : 0 < d) (hl : d ≤ l.length) (h : Cuts l d) : Per (rowAt [] l) 0 d := by
  intro n _
  rw [cuts_row hd hl h, cuts_row hd hl h]
  have ht : (l.take d).length = d := by rw [List.length_take]; omega
  rw [rowAt_nil, rowAt_nil, ht, Nat.add_mod_right]
theorem per_cuts {α : Type} {l : List α} {d : Nat} (hd : 0 < d) (hl : d ≤ l.length) (h1 : l.length % d = 0) (h : Per (rowAt [] l) 0 d) : Cuts l d := by
  refine ⟨h1, ?_⟩
  have ht : (l.take d).length = d := by rw [List.length_take]; omega
  have hdv : l.length / d * d = l.length := Nat.div_mul_cancel (Nat.dvd_of_mod_eq_zero h1)
  apply List.ext_getElem?
  intro i
  by_cases hi : i < l.length
  · rw [rep_get _ _ _ (by rw [ht, hdv]; exact hi), ht, List.getElem?_take_of_lt (Nat.mod_lt _ hd)]
    have e : i = i % d + d * (i / d) := (Nat.mod_add_div i d).symm
    have hm : i % d ≤ i := Nat.mod_le _ _
    have q := h.mul (i / d) (i % d) (Nat.zero_le _)
    rw [← e, rowAt_nil, rowAt_nil, Nat.mod_eq_of_lt hi, Nat.mod_eq_of_lt (by omega)] at q
    exact q.symm
  · rw [List.getElem?_eq_none (by rw [rep_len, ht, hdv]; omega), List.getElem?_eq_none (by omega)]
/-- the least round's promise: p is it -/
structure Root {α : Type} (l p : List α) : Prop where
  ne : p ≠ []
  len : p.length ≤ l.length
  row : ∀ n, rowAt [] l n = rowAt [] p n
  prim : Prim p
theorem root_cut {α : Type} {l : List α} {d : Nat} (hd : 0 < d) (hl : d ≤ l.length) (h : Cuts l d) (hm : ∀ e, 0 < e → e < d → ¬ Cuts l e) : Root l (l.take d) := by
  have ht : (l.take d).length = d := by rw [List.length_take]; omega
  refine ⟨fun z => ?_, by omega, cuts_row hd hl h, fun e he hed hde hp => ?_⟩
  · rw [z] at ht; simp at ht; omega
  · rw [ht] at hed hde
    refine hm e he hed (per_cuts he (by omega) ?_ fun n hn => ?_)
    · exact Nat.mod_eq_zero_of_dvd (Nat.dvd_trans (Nat.dvd_of_mod_eq_zero hde) (Nat.dvd_of_mod_eq_zero h.1))
    · rw [cuts_row hd hl h, cuts_row hd hl h]
      exact hp n hn
theorem cuts_all {α : Type} {l : List α} (h : 0 < l.length) : Cuts l l.length := by
  refine ⟨Nat.mod_self _, ?_⟩
  rw [Nat.div_self h, List.take_length]
  simp
theorem root_all {α : Type} {l : List α} (h : l ≠ []) (hm : ∀ e, 0 < e → e < l.length → ¬ Cuts l e) : Root l l := by
  have h0 : 0 < l.length := List.length_pos_iff.mpr h
  have := root_cut h0 (Nat.le_refl _) (cuts_all h0) hm
  rwa [List.take_length] at this

/-! ### the stem taken back -/
theorem row_back {α : Type} {s r : List α} {x : α} (n : Nat) : rowAt (s ++ [x]) (r ++ [x]) n = rowAt s (x :: r) n := by
  by_cases h1 : n < s.length
  · rw [rowAt_lt (by simp; omega), rowAt_lt h1, List.getElem?_append_left h1]
  · by_cases h2 : n = s.length
    · subst h2
      rw [rowAt_lt (by simp), rowAt_ge (by omega)]
      simp
    · rw [rowAt_ge (by simp; omega), rowAt_ge (by omega)]
      simp only [List.length_append, List.length_cons, List.length_nil]
      obtain ⟨m, rfl⟩ : ∃ m, n = s.length + 1 + m := ⟨n - s.length - 1, by omega⟩
      rw [show s.length + 1 + m - (s.length + (0 + 1)) = m by omega, show s.length + 1 + m - s.length = m + 1 by omega]
      rw [show r.length + (0 + 1) = r.length + 1 by omega]
      have hlt : m % (r.length + 1) < r.length + 1 := Nat.mod_lt _ (by omega)
      rw [Nat.add_mod]
      by_cases h3 : m % (r.length + 1) < r.length
      · rw [List.getElem?_append_left h3]
        by_cases h4 : r.length = 0
        · omega
        · rw [Nat.mod_eq_of_lt (a := 1) (by omega), Nat.mod_eq_of_lt (a := m % (r.length + 1) + 1) (by omega)]
          simp
      · have e : m % (r.length + 1) = r.length := by omega
        rw [e]
        have : (r.length + 1 % (r.length + 1)) % (r.length + 1) = 0 := by
          by_cases h4 : r.length = 0
          · rw [h4]
          · rw [Nat.mod_eq_of_lt (a := 1) (by omega), Nat.mod_self]
        rw [this]
        simp
theorem prim_back {α : Type} {r : List α} {x : α} (h : Prim (r ++ [x])) : Prim (x :: r) := by
  intro d hd hl hm hp
  have sh : ∀ n, rowAt [] (r ++ [x]) n = rowAt [] (x :: r) (n + 1) := fun n => by
    have q := row_back (s := []) (r := r) (x := x) (n + 1)
    rw [List.nil_append] at q
    rw [← q, rowAt_nil, rowAt_ge (s := [x]) (by simp)]
    simp
  refine h d hd (by simpa using hl) (by simpa using hm) fun n _ => ?_
  rw [sh, sh, show n + d + 1 = (n + 1) + d by omega]
  exact hp _ (Nat.zero_le _)

end Wk
/-! Machines: turns, rows, alike ones. -/
namespace Wk

abbrev Room := List (Nat × Nat)
abbrev Mach := List Room
def cell (M : Mach) (r c : Nat) : Nat × Nat := (M.getD r []).getD c (0, 0)
def ans (M : Mach) (r c : Nat) : Nat := (cell M r c).1
def nxt (M : Mach) (r c : Nat) : Nat := (cell M r c).2

structure WF (k a : Nat) (M : Mach) : Prop where
  pos : 0 < M.length
  kpos : 0 < k
  row : ∀ (r : Nat) (R : Room), M[r]? = some R → R.length = k
  cells : ∀ (r : Nat) (R : Room) (c : Nat) (p : Nat × Nat), M[r]? = some R → R[c]? = some p → p.1 < a ∧ p.2 < M.length

theorem WF.room {k a : Nat} {M : Mach} (W : WF k a M) {r : Nat} (h : r < M.length) : ∃ R, M[r]? = some R ∧ R.length = k ∧ ∀ c, c < k → R[c]? = some (cell M r c) := by
  refine ⟨M[r], List.getElem?_eq_getElem h, W.row r _ (List.getElem?_eq_getElem h), fun c hc => ?_⟩
  have hl := W.row r _ (List.getElem?_eq_getElem h)
  have e1 : M.getD r [] = M[r] := by rw [List.getD_eq_getElem?_getD, List.getElem?_eq_getElem h]; rfl
  unfold cell
  rw [e1, List.getD_eq_getElem?_getD, List.getElem?_eq_getElem (by omega), Option.getD_some]
theorem WF.lt {k a : Nat} {M : Mach} (W : WF k a M) {r c : Nat} (h : r < M.length) (hc : c < k) : ans M r c < a ∧ nxt M r c < M.length := by
  obtain ⟨R, h1, _, h3⟩ := W.room h
  exact W.cells r R c _ h1 (h3 c hc)

def turns (M : Mach) : Nat → List Nat → List (Nat × Nat)
  | _, [] => []
  | r, c :: w => (c, ans M r c) :: turns M (nxt M r c) w
def go (M : Mach) : Nat → List Nat → Nat
  | r, [] => r
  | r, c :: w => go M (nxt M r c) w
theorem turns_len (M : Mach) : ∀ (w : List Nat) (r : Nat), (turns M r w).length = w.length
  | [], _ => rfl
  | c :: w, r => by simp [turns, turns_len M w]
theorem turns_append (M : Mach) : ∀ (u w : List Nat) (r : Nat), turns M r (u ++ w) = turns M r u ++ turns M (go M r u) w
  | [], _, _ => rfl
  | c :: u, w, r => by simp [turns, go, turns_append M u w]
theorem go_append (M : Mach) : ∀ (u w : List Nat) (r : Nat), go M r (u ++ w) = go M (go M r u) w
  | [], _, _ => rfl
  | c :: u, w, r => by simp [go, go_append M u w]
theorem WF.go_lt {k a : Nat} {M : Mach} (W : WF k a M) : ∀ {w : List Nat} {r : Nat}, r < M.length → (∀ c ∈ w, c < k) → go M r w < M.length
  | [], _, h, _ => h
  | c :: w, r, h, hw => W.go_lt (w := w) (W.lt h (hw c (by simp))).2 fun d hd => hw d (by simp [hd])

/-- along letters without end -/
def roomAt (M : Mach) (r : Nat) (f : Nat → Nat) : Nat → Nat
  | 0 => r
  | n + 1 => nxt M (roomAt M r f n) (f n)
def turnAt (M : Mach) (r : Nat) (f : Nat → Nat) (n : Nat) : Nat × Nat := (f n, ans M (roomAt M r f n) (f n))
/-- a piece of a row -/
def pre {α : Type} (f : Nat → α) (a n : Nat) : List α := (List.range n).map fun i => f (a + i)
theorem pre_len {α : Type} (f : Nat → α) (a n : Nat) : (pre f a n).length = n := by simp [pre]
theorem pre_get {α : Type} (f : Nat → α) (a n i : Nat) (h : i < n) : (pre f a n)[i]? = some (f (a + i)) := by
  unfold pre; rw [List.getElem?_map, List.getElem?_range h]; rfl
theorem pre_zero {α : Type} (f : Nat → α) (a : Nat) : pre f a 0 = [] := rfl
theorem pre_add {α : Type} (f : Nat → α) (a m n : Nat) : pre f a (m + n) = pre f a m ++ pre f (a + m) n := by
  apply List.ext_getElem?
  intro i
  by_cases h : i < m + n
  · rw [pre_get _ _ _ _ h]
    by_cases h2 : i < m
    · rw [List.getElem?_append_left (by rw [pre_len]; exact h2), pre_get _ _ _ _ h2]
    · rw [List.getElem?_append_right (by rw [pre_len]; omega), pre_len, pre_get _ _ _ _ (by omega)]
      congr 2; omega
  · rw [List.getElem?_eq_none (by rw [pre_len]; omega), List.getElem?_eq_none (by rw [List.length_append, pre_len, pre_len]; omega)]
theorem pre_succ {α : Type} (f : Nat → α) (a n : Nat) : pre f a (n + 1) = pre f a n ++ [f (a + n)] := by
  rw [pre_add]; rfl
theorem pre_cons {α : Type} (f : Nat → α) (a n : Nat) : pre f a (n + 1) = f a :: pre f (a + 1) n := by
  rw [Nat.add_comm n 1, pre_add]; rfl
theorem pre_take {α : Type} (f : Nat → α) (a n b : Nat) (h : b ≤ n) : (pre f a n).take b = pre f a b := by
  obtain ⟨m, rfl⟩ : ∃ m, n = b + m := ⟨n - b, by omega⟩
  rw [pre_add, List.take_append_of_le_length (by rw [pre_len]; exact Nat.le_refl _), List.take_of_length_le (by rw [pre_len]; exact Nat.le_refl _)]
theorem pre_drop {α : Type} (f : Nat → α) (a n b : Nat) (h : b ≤ n) : (pre f a n).drop b = pre f (a + b) (n - b) := by
  obtain ⟨m, rfl⟩ : ∃ m, n = b + m := ⟨n - b, by omega⟩
  have e := List.drop_left (l₁ := pre f a b) (l₂ := pre f (a + b) m)
  rw [pre_len] at e
  rw [pre_add, e, Nat.add_sub_cancel_left]
theorem turns_pre (M : Mach) (r : Nat) (f : Nat → Nat) : ∀ (n a : Nat), turns M (roomAt M r f a) (pre f a n) = pre (turnAt M r f) a n ∧ go M (roomAt M r f a) (pre f a n) = roomAt M r f (a + n)
  | 0, a => ⟨rfl, rfl⟩
  | n + 1, a => by
    obtain ⟨h1, h2⟩ := turns_pre M r f n (a + 1)
    rw [pre_cons f, pre_cons (turnAt M r f)]
    refine ⟨?_, ?_⟩
    · show turnAt M r f a :: turns M (roomAt M r f (a + 1)) _ = _
      rw [h1]
    · show go M (roomAt M r f (a + 1)) _ = _
      rw [h2]
      congr 1; omega
theorem WF.roomAt_lt {k a : Nat} {M : Mach} (W : WF k a M) {r : Nat} {f : Nat → Nat} (h : r < M.length) (hf : ∀ n, f n < k) : ∀ n, roomAt M r f n < M.length
  | 0 => h
  | n + 1 => (W.lt (W.roomAt_lt h hf n) (hf n)).2

/-! ### alike -/
def Sim (k : Nat) (M : Mach) (r : Nat) (O : Mach) (s : Nat) : Prop := ∀ w : List Nat, (∀ c ∈ w, c < k) → turns M r w = turns O s w
section
variable {k : Nat} {M O L : Mach} {r s t : Nat}
theorem Sim.rfl' : Sim k M r M r := fun _ _ => rfl
theorem Sim.symm (h : Sim k M r O s) : Sim k O s M r := fun w hw => (h w hw).symm
theorem Sim.trans (h : Sim k M r O s) (g : Sim k O s L t) : Sim k M r L t := fun w hw => (h w hw).trans (g w hw)
theorem Sim.ans (h : Sim k M r O s) {c : Nat} (hc : c < k) : ans M r c = ans O s c := by
  have := h [c] (by simpa using hc)
  simpa [turns] using this
theorem Sim.nxt (h : Sim k M r O s) {c : Nat} (hc : c < k) : Sim k M (nxt M r c) O (nxt O s c) := fun w hw => by
  have := h (c :: w) (by intro d hd; rcases List.mem_cons.mp hd with rfl | hd; exact hc; exact hw d hd)
  simp only [turns, List.cons.injEq] at this
  exact this.2
theorem Sim.go (h : Sim k M r O s) : ∀ {w : List Nat}, (∀ c ∈ w, c < k) → Sim k M (go M r w) O (go O s w) := by
  intro w
  induction w generalizing r s with
  | nil => intro _; exact h
  | cons c w ih => intro hw; exact ih (h.nxt (hw c (by simp))) fun d hd => hw d (by simp [hd])
theorem sim_of (R : Nat → Nat → Prop) (h : ∀ p q c, R p q → c < k → ans M p c = ans O q c ∧ R (Wk.nxt M p c) (Wk.nxt O q c)) : ∀ (w : List Nat) (r s : Nat), R r s → (∀ c ∈ w, c < k) → turns M r w = turns O s w
  | [], _, _, _, _ => rfl
  | c :: w, r, s, hr, hw => by
    obtain ⟨h1, h2⟩ := h r s c hr (hw c (by simp))
    simp only [turns, h1]
    rw [sim_of R h w _ _ h2 fun d hd => hw d (by simp [hd])]
theorem Sim.roomAt (h : Sim k M r O s) {f : Nat → Nat} (hf : ∀ n, f n < k) : ∀ n, Sim k M (roomAt M r f n) O (roomAt O s f n)
  | 0 => h
  | n + 1 => (Sim.roomAt h hf n).nxt (hf n)
theorem Sim.turnAt (h : Sim k M r O s) {f : Nat → Nat} (hf : ∀ n, f n < k) (n : Nat) : turnAt M r f n = turnAt O s f n := by
  unfold Wk.turnAt
  rw [(h.roomAt hf n).ans (hf n)]
end

/-- what tells two machines apart -/
structure Parts (k : Nat) (M O : Mach) (u : List Nat) (c : Nat) : Prop where
  ok : ∀ d ∈ u, d < k
  lt : c < k
  eq : turns M 0 u = turns O 0 u
  ne : ans M (go M 0 u) c ≠ ans O (go O 0 u) c
theorem Parts.not {k : Nat} {M O : Mach} {u : List Nat} {c : Nat} (h : Parts k M O u c) : ¬ Sim k M 0 O 0 := fun s => h.ne ((s.go h.ok).ans h.lt)

/-! ### nodup rows of small numbers are short -/
theorem nodup_filter {p : Nat → Bool} {l : List Nat} (h : l.Nodup) : (l.filter p).Nodup := List.Nodup.sublist List.filter_sublist h
theorem len_le_of_nodup : ∀ (n : Nat) (l : List Nat), l.Nodup → (∀ x ∈ l, x < n) → l.length ≤ n
  | 0, l, _, h => by
    cases l with
    | nil => simp
    | cons a l => exact absurd (h a (by simp)) (by omega)
  | n + 1, l, hn, h => by
    have ih := len_le_of_nodup n (l.filter fun x => decide (x ≠ n)) (nodup_filter hn) fun x hx => by
      obtain ⟨h1, h2⟩ := List.mem_filter.mp hx
      have := h x h1
      have := of_decide_eq_true h2
      omega
    have key : ∀ l : List Nat, l.Nodup → l.length ≤ (l.filter fun x => decide (x ≠ n)).length + 1 := by
      intro l
      induction l with
      | nil => intro _; simp
      | cons a l ih =>
        intro hn
        obtain ⟨h1, h2⟩ := List.nodup_cons.mp hn
        by_cases e : a = n
        · subst e
          have : (l.filter fun x => decide (x ≠ a)) = l := by
            apply List.filter_eq_self.mpr
            intro x hx
            apply decide_eq_true
            rintro rfl
            exact h1 hx
          rw [List.filter_cons, if_neg (by simp), this]
          simp
        · have := ih h2
          rw [List.filter_cons, if_pos (by simpa using e)]
          simp only [List.length_cons]
          omega
    have := key l hn
    omega

/-! ### the search for what tells apart: waiting pairs with the ways to them -/
abbrev Way := (Nat × Nat) × List Nat
structure AInv (k : Nat) (M O : Mach) (L : List Way) (i : Nat) : Prop where
  nd : (L.map (·.1)).Nodup
  first : ∃ R, L = ((0, 0), []) :: R
  ok : ∀ j p q w, L[j]? = some ((p, q), w) → p < M.length ∧ q < O.length ∧ (∀ c ∈ w, c < k) ∧ go M 0 w = p ∧ go O 0 w = q ∧ turns M 0 w = turns O 0 w ∧ w.length ≤ j
  done : ∀ j p q w, j < i → L[j]? = some ((p, q), w) → ∀ c, c < k → ans M p c = ans O q c ∧ (nxt M p c, nxt O q c) ∈ L.map (·.1)
theorem nodup_map_inj {α β : Type} (f : α → β) : ∀ {l : List α}, l.Nodup → (∀ a ∈ l, ∀ b ∈ l, f a = f b → a = b) → (l.map f).Nodup
  | [], _, _ => List.nodup_nil
  | a :: l, h, hi => by
    obtain ⟨h1, h2⟩ := List.nodup_cons.mp h
    refine List.nodup_cons.mpr ⟨fun m => ?_, nodup_map_inj f h2 fun x hx y hy => hi x (by simp [hx]) y (by simp [hy])⟩
    obtain ⟨b, hb, e⟩ := List.mem_map.mp m
    have := hi b (by simp [hb]) a (by simp) e
    subst this
    exact h1 hb
theorem pair_lt {p q m n : Nat} (h1 : p < m) (h2 : q < n) : p * n + q < m * n := by
  have : (p + 1) * n ≤ m * n := Nat.mul_le_mul_right _ h1
  rw [Nat.add_mul] at this
  omega
theorem pair_inj {p q p' q' n : Nat} (h1 : q < n) (h2 : q' < n) (h : p * n + q = p' * n + q') : p = p' ∧ q = q' := by
  have e1 : (p * n + q) / n = p := by rw [Nat.add_comm, Nat.add_mul_div_right _ _ (by omega), Nat.div_eq_of_lt h1, Nat.zero_add]
  have e2 : (p' * n + q') / n = p' := by rw [Nat.add_comm, Nat.add_mul_div_right _ _ (by omega), Nat.div_eq_of_lt h2, Nat.zero_add]
  have : p = p' := by rw [← e1, h, e2]
  subst this
  exact ⟨rfl, by omega⟩
theorem pairs_len {m n : Nat} {l : List (Nat × Nat)} (hn : l.Nodup) (h : ∀ x ∈ l, x.1 < m ∧ x.2 < n) : l.length ≤ m * n := by
  have := len_le_of_nodup (m * n) (l.map fun x => x.1 * n + x.2) (nodup_map_inj _ hn fun a ha b hb e => by
    obtain ⟨h1, h2⟩ := pair_inj (h a ha).2 (h b hb).2 e
    exact Prod.ext h1 h2) fun x hx => by
      obtain ⟨a, ha, rfl⟩ := List.mem_map.mp hx
      exact pair_lt (h a ha).1 (h a ha).2
  simpa using this
section
variable {k a b : Nat} {M O : Mach} {L : List Way} {i : Nat}
theorem AInv.len (I : AInv k M O L i) : L.length ≤ M.length * O.length := by
  have := pairs_len I.nd (m := M.length) (n := O.length) fun x hx => by
    obtain ⟨⟨⟨p, q⟩, w⟩, hy, rfl⟩ := List.mem_map.mp hx
    obtain ⟨j, hj⟩ := List.mem_iff_getElem?.mp hy
    obtain ⟨h1, h2, _⟩ := I.ok j p q w hj
    exact ⟨h1, h2⟩
  simpa using this
theorem AInv.start (hM : 0 < M.length) (hO : 0 < O.length) : AInv k M O [((0, 0), [])] 0 := by
  refine ⟨by simp, ⟨[], rfl⟩, fun j p q w h => ?_, fun j p q w h => by omega⟩
  cases j with
  | zero => 
    simp only [List.getElem?_cons_zero, Option.some.injEq, Prod.mk.injEq] at h
    obtain ⟨⟨rfl, rfl⟩, rfl⟩ := h
    exact ⟨hM, hO, by simp, rfl, rfl, rfl, Nat.le_refl _⟩
  | succ j => simp at h
/-- a new pair -/
theorem AInv.push (I : AInv k M O L i) (WM : WF k a M) (WO : WF k b O) {p q c : Nat} {w : List Nat} (hi : L[i]? = some ((p, q), w)) (hc : c < k) (ha : ans M p c = ans O q c) (hn : (nxt M p c, nxt O q c) ∉ L.map (·.1)) :
    AInv k M O (L ++ [((nxt M p c, nxt O q c), w ++ [c])]) i := by
  obtain ⟨h1, h2, h3, h4, h5, h6, h7⟩ := I.ok i p q w hi
  have hil : i < L.length := (List.getElem?_eq_some_iff.mp hi).1
  refine ⟨?_, ?_, fun j p' q' w' h => ?_, fun j p' q' w' hj h d hd => ?_⟩
  · rw [List.map_append]
    refine List.nodup_append.mpr ⟨I.nd, by simp, fun x hx y hy => ?_⟩
    simp only [List.map_cons, List.map_nil, List.mem_singleton] at hy
    rintro rfl
    rw [hy] at hx
    exact hn hx
  · obtain ⟨R, e⟩ := I.first
    exact ⟨R ++ [((nxt M p c, nxt O q c), w ++ [c])], by rw [e]; rfl⟩
  · by_cases hj : j < L.length
    · rw [List.getElem?_append_left hj] at h
      exact I.ok j p' q' w' h
    · rw [List.getElem?_append_right (by omega)] at h
      have hz : j - L.length = 0 := by
        cases e : j - L.length with
        | zero => rfl
        | succ m => rw [e] at h; simp at h
      rw [hz] at h
      simp only [List.getElem?_cons_zero, Option.some.injEq, Prod.mk.injEq] at h
      obtain ⟨⟨rfl, rfl⟩, rfl⟩ := h
      refine ⟨(WM.lt h1 hc).2, (WO.lt h2 hc).2, ?_, ?_, ?_, ?_, by simp; omega⟩
      · intro d hd
        rcases List.mem_append.mp hd with hd | hd
        · exact h3 d hd
        · rw [List.mem_singleton.mp hd]; exact hc
      · rw [go_append, h4]; rfl
      · rw [go_append, h5]; rfl
      · rw [turns_append, turns_append, h6, h4, h5]
        simp [turns, ha]
  · rw [List.getElem?_append_left (by omega)] at h
    obtain ⟨g1, g2⟩ := I.done j p' q' w' hj h d hd
    exact ⟨g1, by rw [List.map_append]; exact List.mem_append_left _ g2⟩
theorem AInv.next (I : AInv k M O L i) {p q : Nat} {w : List Nat} (hi : L[i]? = some ((p, q), w)) (h : ∀ c, c < k → ans M p c = ans O q c ∧ (nxt M p c, nxt O q c) ∈ L.map (·.1)) : AInv k M O L (i + 1) :=
  ⟨I.nd, I.first, I.ok, fun j p' q' w' hj hg c hc => by
    by_cases e : j = i
    · subst e
      rw [hi] at hg
      simp only [Option.some.injEq, Prod.mk.injEq] at hg
      obtain ⟨⟨rfl, rfl⟩, rfl⟩ := hg
      exact h c hc
    · exact I.done j p' q' w' (by omega) hg c hc⟩
theorem AInv.parts (I : AInv k M O L i) {p q c : Nat} {w : List Nat} (hi : L[i]? = some ((p, q), w)) (hc : c < k) (ha : ans M p c ≠ ans O q c) : Parts k M O w c ∧ w.length + 1 ≤ M.length * O.length := by
  obtain ⟨h1, h2, h3, h4, h5, h6, h7⟩ := I.ok i p q w hi
  refine ⟨⟨h3, hc, h6, by rw [h4, h5]; exact ha⟩, ?_⟩
  have := I.len
  have hil : i < L.length := (List.getElem?_eq_some_iff.mp hi).1
  omega
theorem AInv.sim (I : AInv k M O L i) (h : L.length ≤ i) : Sim k M 0 O 0 := by
  refine fun w hw => sim_of (fun p q => (p, q) ∈ L.map (·.1)) (fun p q c hm hc => ?_) w 0 0 ?_ hw
  · obtain ⟨⟨⟨p', q'⟩, w'⟩, hy, e⟩ := List.mem_map.mp hm
    obtain ⟨j, hj⟩ := List.mem_iff_getElem?.mp hy
    simp only [Prod.mk.injEq] at e
    obtain ⟨rfl, rfl⟩ := e
    have hjl : j < L.length := (List.getElem?_eq_some_iff.mp hj).1
    exact I.done j _ _ w' (by omega) hj c hc
  · obtain ⟨R, e⟩ := I.first
    rw [e]; simp
end
end Wk
/-! The order in which rooms are come to; rising numbers; merged machines. -/
namespace Wk

/-! ### the unlike ones of a row, as they come -/
section
variable {α : Type} [DecidableEq α]
def add (F : List α) (r : α) : List α := if r ∈ F then F else F ++ [r]
theorem mem_add {F : List α} {r a : α} : a ∈ add F r ↔ a ∈ F ∨ a = r := by
  unfold add
  by_cases h : r ∈ F
  · rw [if_pos h]
    exact ⟨.inl, fun z => z.elim id fun e => by rw [e]; exact h⟩
  · rw [if_neg h]; simp
theorem add_nd {F : List α} {r : α} (h : F.Nodup) : (add F r).Nodup := by
  unfold add
  by_cases hr : r ∈ F
  · rw [if_pos hr]; exact h
  · rw [if_neg hr]
    refine List.nodup_append.mpr ⟨h, by simp, fun x hx y hy => ?_⟩
    rintro rfl
    rw [List.mem_singleton.mp hy] at hx
    exact hr hx
def D (x : Nat → α) : Nat → List α
  | 0 => []
  | n + 1 => add (D x n) (x n)
theorem D_nd (x : Nat → α) : ∀ n, (D x n).Nodup
  | 0 => List.nodup_nil
  | n + 1 => add_nd (D_nd x n)
theorem mem_D {x : Nat → α} : ∀ {n : Nat} {a : α}, a ∈ D x n ↔ ∃ j, j < n ∧ x j = a
  | 0, a => by simp [D]
  | n + 1, a => by
    rw [D, mem_add, mem_D]
    constructor
    · rintro (⟨j, h, e⟩ | e)
      · exact ⟨j, by omega, e⟩
      · exact ⟨n, by omega, e.symm⟩
    · rintro ⟨j, h, e⟩
      by_cases hj : j = n
      · right; rw [← e, hj]
      · exact .inl ⟨j, by omega, e⟩
theorem D_pre (x : Nat → α) : ∀ n m, ∃ R, D x (n + m) = D x n ++ R
  | n, 0 => ⟨[], by simp⟩
  | n, m + 1 => by
    obtain ⟨R, e⟩ := D_pre x n m
    show ∃ R, add (D x (n + m)) (x (n + m)) = _
    unfold add
    split
    · exact ⟨R, e⟩
    · exact ⟨R ++ [x (n + m)], by rw [e, List.append_assoc]⟩
theorem D_old {x : Nat → α} {n : Nat} (h : x n ∈ D x n) : D x (n + 1) = D x n := by rw [D, add, if_pos h]
theorem D_new {x : Nat → α} {n : Nat} (h : x n ∉ D x n) : D x (n + 1) = D x n ++ [x n] := by rw [D, add, if_neg h]
/-- what stands ahead of a thing came ahead of it -/
theorem D_ahead {x : Nat → α} : ∀ {N i i' n : Nat} {a : α}, (D x N)[i]? = some (x n) → i' < i → (D x N)[i']? = some a → ∃ j, j < n ∧ x j = a := by
  intro N
  induction N with
  | zero => intro i i' n a h; simp [D] at h
  | succ N ih =>
    intro i i' n a h hi h'
    by_cases hm : x N ∈ D x N
    · rw [D_old hm] at h h'; exact ih h hi h'
    · rw [D_new hm] at h h'
      by_cases hl : i < (D x N).length
      · rw [List.getElem?_append_left hl] at h
        rw [List.getElem?_append_left (by omega)] at h'
        exact ih h hi h'
      · have hi2 : i = (D x N).length := by
          have := (List.getElem?_eq_some_iff.mp h).1
          simp at this; omega
        rw [List.getElem?_append_left (by omega)] at h'
        have e : x N = x n := by
          subst hi2; simpa using h
        obtain ⟨j, hj, ej⟩ := mem_D.mp (List.mem_of_getElem? h')
        refine ⟨j, ?_, ej⟩
        by_cases hn : N ≤ n
        · omega
        · exact absurd (mem_D.mpr ⟨n, by omega, e.symm⟩) hm
end

/-! ### the rooms of a machine in order -/
/-- the room behind the n-th row of letters -/
def xw (M : Mach) (k : Nat) : Nat → Nat
  | 0 => 0
  | m + 1 => nxt M (xw M k (m / k)) (m % k)
  termination_by n => n
  decreasing_by exact Nat.lt_succ_of_le (Nat.div_le_self _ _)
theorem xw_zero (M : Mach) (k : Nat) : xw M k 0 = 0 := by rw [xw]
theorem xw_succ (M : Mach) (k m : Nat) : xw M k (m + 1) = nxt M (xw M k (m / k)) (m % k) := by rw [xw]
theorem xw_child (M : Mach) {k n c : Nat} (hc : c < k) : xw M k (n * k + c + 1) = nxt M (xw M k n) c := by
  rw [xw_succ]
  have e1 : (n * k + c) / k = n := by rw [Nat.add_comm, Nat.add_mul_div_right _ _ (by omega), Nat.div_eq_of_lt hc, Nat.zero_add]
  have e2 : (n * k + c) % k = c := by rw [Nat.add_comm, Nat.add_mul_mod_self_right, Nat.mod_eq_of_lt hc]
  rw [e1, e2]
theorem xw_lt {k a : Nat} {M : Mach} (W : WF k a M) : ∀ n, xw M k n < M.length := by
  intro n
  induction n using Nat.strongRecOn with
  | ind n ih =>
    cases n with
    | zero => rw [xw_zero]; exact W.pos
    | succ m =>
      rw [xw_succ]
      exact (W.lt (ih _ (Nat.lt_succ_of_le (Nat.div_le_self _ _))) (Nat.mod_lt _ W.kpos)).2
theorem xw_sim {k : Nat} {M O : Mach} (hk : 0 < k) (h : Sim k M 0 O 0) : ∀ n, Sim k M (xw M k n) O (xw O k n) := by
  intro n
  induction n using Nat.strongRecOn with
  | ind n ih =>
    cases n with
    | zero => rw [xw_zero, xw_zero]; exact h
    | succ m =>
      rw [xw_succ, xw_succ]
      exact (ih _ (Nat.lt_succ_of_le (Nat.div_le_self _ _))).nxt (Nat.mod_lt _ hk)

/-- while rooms are come to: F is found, i of it are looked at -/
def RInv (M : Mach) (k : Nat) (F : List Nat) (i : Nat) : Prop := ∃ n, F = D (xw M k) (n * k + 1) ∧ F.take i = D (xw M k) n ∧ i ≤ F.length
/-- .. within a turn: c letters are looked at, too, of the room r at i -/
def RIn (M : Mach) (k : Nat) (F : List Nat) (i r c : Nat) : Prop := ∃ n, F = D (xw M k) (n * k + 1 + c) ∧ F.take i = D (xw M k) n ∧ i < F.length ∧ F[i]? = some r ∧ xw M k n = r ∧ r ∉ D (xw M k) n
theorem RInv.start (M : Mach) {k : Nat} : RInv M k [0] 0 := ⟨0, by simp [D, add, xw_zero], rfl, Nat.zero_le _⟩
theorem D_stay {M : Mach} {k n : Nat} (h : xw M k n ∈ D (xw M k) n) : ∀ c, c ≤ k → D (xw M k) (n * k + 1 + c) = D (xw M k) (n * k + 1)
  | 0, _ => rfl
  | c + 1, hc => by
    rw [← D_stay h c (by omega)]
    show D (xw M k) ((n * k + 1 + c) + 1) = _
    apply D_old
    obtain ⟨j, hj, e⟩ := mem_D.mp h
    have e2 : n * k + 1 + c = n * k + c + 1 := by omega
    rw [e2, xw_child M (by omega), ← e, ← xw_child M (by omega)]
    refine mem_D.mpr ⟨_, ?_, rfl⟩
    have : (j + 1) * k ≤ n * k := Nat.mul_le_mul_right _ hj
    rw [Nat.add_mul] at this
    omega
theorem D_move {M : Mach} {k : Nat} : ∀ (t n : Nat), D (xw M k) (n + t) ≠ D (xw M k) n → ∃ m, xw M k m ∉ D (xw M k) m ∧ D (xw M k) m = D (xw M k) n ∧ D (xw M k) (m * k + 1) = D (xw M k) (n * k + 1)
  | 0, n, h => absurd rfl h
  | t + 1, n, h => by
    by_cases hm : xw M k n ∈ D (xw M k) n
    · have e : D (xw M k) ((n + 1) * k + 1) = D (xw M k) (n * k + 1) := by
        rw [Nat.add_mul, Nat.one_mul, show n * k + k + 1 = n * k + 1 + k by omega, D_stay hm k (Nat.le_refl _)]
      obtain ⟨m, h1, h2, h3⟩ := D_move t (n + 1) (by rw [D_old hm, show n + 1 + t = n + (t + 1) by omega]; exact h)
      exact ⟨m, h1, by rw [h2, D_old hm], by rw [h3, e]⟩
    · exact ⟨n, hm, rfl, rfl⟩
theorem RInv.into {M : Mach} {k : Nat} (hk : 0 < k) {F : List Nat} {i r : Nat} (I : RInv M k F i) (hr : F[i]? = some r) : RIn M k F i r 0 := by
  obtain ⟨n, h1, h2, h3⟩ := I
  have hi : i < F.length := (List.getElem?_eq_some_iff.mp hr).1
  have hl : (F.take i).length = i := by rw [List.length_take]; omega
  have hle : ∀ m : Nat, m ≤ m * k := fun m => Nat.le_mul_of_pos_right _ hk
  have hne : D (xw M k) (n + (n * k + 1 - n)) ≠ D (xw M k) n := by
    have := hle n
    rw [show n + (n * k + 1 - n) = n * k + 1 by omega, ← h1, ← h2]
    intro e
    have := congrArg List.length e
    omega
  obtain ⟨m, g1, g2, g3⟩ := D_move _ n hne
  obtain ⟨R, e⟩ := D_pre (xw M k) (m + 1) (m * k + 1 - (m + 1))
  have := hle m
  rw [show m + 1 + (m * k + 1 - (m + 1)) = m * k + 1 by omega, g3, ← h1, D_new g1, g2, ← h2] at e
  have er : xw M k m = r := by
    rw [e, List.append_assoc, List.getElem?_append_right (by omega), hl] at hr
    simpa using hr
  exact ⟨m, by rw [Nat.add_zero, g3, h1], by rw [g2, h2], hi, hr, er, by rw [← er]; exact g1⟩
theorem RIn.old {M : Mach} {k : Nat} {F : List Nat} {i r c : Nat} (I : RIn M k F i r c) (hc : c < k) (h : nxt M r c ∈ F) : RIn M k F i r (c + 1) := by
  obtain ⟨n, h1, h2, h3, h4, h5, h6⟩ := I
  refine ⟨n, ?_, h2, h3, h4, h5, h6⟩
  have e : xw M k (n * k + 1 + c) = nxt M r c := by rw [show n * k + 1 + c = n * k + c + 1 by omega, xw_child M hc, h5]
  rw [← Nat.add_assoc, D_old (by rw [e, ← h1]; exact h), ← h1]
theorem RIn.new {M : Mach} {k : Nat} {F : List Nat} {i r c : Nat} (I : RIn M k F i r c) (hc : c < k) (h : nxt M r c ∉ F) : RIn M k (F ++ [nxt M r c]) i r (c + 1) := by
  obtain ⟨n, h1, h2, h3, h4, h5, h6⟩ := I
  have e : xw M k (n * k + 1 + c) = nxt M r c := by rw [show n * k + 1 + c = n * k + c + 1 by omega, xw_child M hc, h5]
  refine ⟨n, ?_, ?_, by simp; omega, ?_, h5, h6⟩
  · rw [← Nat.add_assoc, D_new (by rw [e, ← h1]; exact h), e, ← h1]
  · rw [List.take_append_of_le_length (by omega), h2]
  · rw [List.getElem?_append_left h3]; exact h4
theorem RIn.next {M : Mach} {k : Nat} {F : List Nat} {i r : Nat} (I : RIn M k F i r k) : RInv M k F (i + 1) := by
  obtain ⟨n, h1, h2, h3, h4, h5, h6⟩ := I
  refine ⟨n + 1, ?_, ?_, h3⟩
  · rw [Nat.add_mul, Nat.one_mul, h1, show n * k + 1 + k = n * k + k + 1 by omega]
  · rw [D_new (by rw [h5]; exact h6), List.take_add_one, h4, h2, h5]
    rfl
theorem RInv.nd {M : Mach} {k : Nat} {F : List Nat} {i : Nat} (I : RInv M k F i) : F.Nodup := by
  obtain ⟨n, h1, _⟩ := I; rw [h1]; exact D_nd _ _
theorem RInv.lt {M : Mach} {k a : Nat} (W : WF k a M) {F : List Nat} {i : Nat} (I : RInv M k F i) : ∀ r ∈ F, r < M.length := by
  obtain ⟨n, h1, _⟩ := I
  intro r hr
  rw [h1] at hr
  obtain ⟨j, _, e⟩ := mem_D.mp hr
  rw [← e]; exact xw_lt W j
theorem RInv.len {M : Mach} {k a : Nat} (W : WF k a M) {F : List Nat} {i : Nat} (I : RInv M k F i) : F.length ≤ M.length := len_le_of_nodup _ _ I.nd (I.lt W)
theorem RIn.inv {M : Mach} {k : Nat} {F : List Nat} {i r c : Nat} (I : RIn M k F i r c) : F.Nodup ∧ ∀ x ∈ F, ∃ j, xw M k j = x := by
  obtain ⟨n, h1, _⟩ := I
  rw [h1]
  exact ⟨D_nd _ _, fun x hx => let ⟨j, _, e⟩ := mem_D.mp hx; ⟨j, e⟩⟩
/-- all are found -/
structure Bfs (M : Mach) (k : Nat) (F : List Nat) : Prop where
  fix : ∃ n, ∀ N, n ≤ N → D (xw M k) N = F
  nd : F.Nodup
theorem RInv.all {M : Mach} {k a : Nat} (W : WF k a M) {F : List Nat} {i : Nat} (I : RInv M k F i) (h : F.length ≤ i) : Bfs M k F := by
  have nd := I.nd
  obtain ⟨n, h1, h2, h3⟩ := I
  rw [List.take_of_length_le h] at h2
  have mem : ∀ N, xw M k N ∈ F := by
    intro N
    induction N using Nat.strongRecOn with
    | ind N ih =>
      cases N with
      | zero => rw [h1]; exact mem_D.mpr ⟨0, by omega, rfl⟩
      | succ m =>
        have := ih _ (Nat.lt_succ_of_le (Nat.div_le_self m k))
        rw [h2] at this
        obtain ⟨j, hj, e⟩ := mem_D.mp this
        have hk := Nat.mod_lt m W.kpos
        rw [xw_succ, ← e, ← xw_child M hk, h1]
        refine mem_D.mpr ⟨_, ?_, rfl⟩
        have : (j + 1) * k ≤ n * k := Nat.mul_le_mul_right _ hj
        rw [Nat.add_mul] at this
        omega
  refine ⟨⟨n, fun N hN => ?_⟩, nd⟩
  obtain ⟨t, rfl⟩ : ∃ t, N = n + t := ⟨N - n, by omega⟩
  clear hN
  induction t with
  | zero => exact h2.symm
  | succ t ih => rw [← Nat.add_assoc, D_old (by rw [ih]; exact mem _), ih]
section
variable {M : Mach} {k a : Nat} {F : List Nat}
theorem Bfs.mem (B : Bfs M k F) (n : Nat) : xw M k n ∈ F := by
  obtain ⟨m, h⟩ := B.fix
  rw [← h (m + n + 1) (by omega)]
  exact mem_D.mpr ⟨n, by omega, rfl⟩
theorem Bfs.of (B : Bfs M k F) {r : Nat} (h : r ∈ F) : ∃ n, xw M k n = r := by
  obtain ⟨m, e⟩ := B.fix
  rw [← e m (Nat.le_refl _)] at h
  obtain ⟨j, _, e⟩ := mem_D.mp h
  exact ⟨j, e⟩
theorem Bfs.lt (W : WF k a M) (B : Bfs M k F) {r : Nat} (h : r ∈ F) : r < M.length := by
  obtain ⟨n, rfl⟩ := B.of h; exact xw_lt W n
theorem Bfs.child (B : Bfs M k F) {r c : Nat} (h : r ∈ F) (hc : c < k) : nxt M r c ∈ F := by
  obtain ⟨n, rfl⟩ := B.of h
  rw [← xw_child M hc]
  exact B.mem _
theorem Bfs.zero (B : Bfs M k F) : ∃ R, F = 0 :: R := by
  obtain ⟨m, h⟩ := B.fix
  obtain ⟨R, e⟩ := D_pre (xw M k) 1 m
  rw [h _ (by omega)] at e
  exact ⟨R, by rw [e]; simp [D, add, xw_zero]⟩
theorem Bfs.ahead (B : Bfs M k F) {i i' n b : Nat} (h : F[i]? = some (xw M k n)) (hi : i' < i) (h' : F[i']? = some b) : ∃ j, j < n ∧ xw M k j = b := by
  obtain ⟨m, e⟩ := B.fix
  have e := e m (Nat.le_refl _)
  rw [← e] at h h'
  exact D_ahead h hi h'
theorem Bfs.uniq {G : List Nat} (B : Bfs M k F) (C : Bfs M k G) : F = G := by
  obtain ⟨m, e⟩ := B.fix
  obtain ⟨n, g⟩ := C.fix
  rw [← e (m + n) (by omega), g (m + n) (by omega)]
end

/-! ### rising numbers: each lesser one came ahead -/
def Rgs (f : Nat → Nat) : Prop := ∀ n u, u < f n → ∃ j, j < n ∧ f j = u
theorem rgs_uniq {f g : Nat → Nat} (hf : Rgs f) (hg : Rgs g) (h : ∀ i j, f i = f j ↔ g i = g j) : ∀ n, f n = g n := by
  intro n
  induction n using Nat.strongRecOn with
  | ind n ih =>
    rcases Nat.lt_trichotomy (f n) (g n) with hl | he | hl
    · obtain ⟨j, hj, e⟩ := hg n _ hl
      have := (h j n).mp (by rw [ih j hj, e])
      omega
    · exact he
    · obtain ⟨j, hj, e⟩ := hf n _ hl
      have := (h j n).mpr (by rw [← ih j hj, e])
      omega
/-- .. of a list -/
def RgsL (l : List Nat) : Prop := ∀ (i v u : Nat), l[i]? = some v → u < v → ∃ j, j < i ∧ l[j]? = some u
theorem RgsL.snoc_old {l : List Nat} {v : Nat} (h : RgsL l) (hv : ∀ u, u < v → ∃ j, j < l.length ∧ l[j]? = some u) : RgsL (l ++ [v]) := by
  intro i x u hx hu
  by_cases hi : i < l.length
  · rw [List.getElem?_append_left hi] at hx
    obtain ⟨j, hj, e⟩ := h i x u hx hu
    exact ⟨j, hj, by rw [List.getElem?_append_left (by omega)]; exact e⟩
  · have hi2 : i = l.length := by
      have := (List.getElem?_eq_some_iff.mp hx).1
      simp at this; omega
    subst hi2
    have e : v = x := by simpa using hx
    subst e
    obtain ⟨j, hj, e⟩ := hv u hu
    exact ⟨j, hj, by rw [List.getElem?_append_left hj]; exact e⟩
theorem RgsL.le {l : List Nat} (h : RgsL l) : ∀ (i v : Nat), l[i]? = some v → v ≤ i := by
  intro i
  induction i using Nat.strongRecOn with
  | ind i ih =>
    intro v hv
    cases v with
    | zero => omega
    | succ u =>
      obtain ⟨j, hj, e⟩ := h i _ u hv (by omega)
      have := ih j hj u e
      omega
/-- a finer one is nowhere less -/
theorem rgs_mono {l l' : List Nat} (h : RgsL l) (h' : RgsL l') (r : ∀ i j v : Nat, l'[i]? = some v → l'[j]? = some v → l[i]? = l[j]?) : ∀ (i x y : Nat), l[i]? = some x → l'[i]? = some y → x ≤ y := by
  intro i
  induction i using Nat.strongRecOn with
  | ind i ih =>
    intro x y hx hy
    cases x with
    | zero => omega
    | succ u =>
      obtain ⟨j, hj, e⟩ := h i _ u hx (by omega)
      have hlen : j < l'.length := by have := (List.getElem?_eq_some_iff.mp hy).1; omega
      have ej : l'[j]? = some l'[j] := List.getElem?_eq_getElem hlen
      have h1 := ih j hj u _ e ej
      rcases Nat.lt_trichotomy (l'[j]) y with hl | he | hl
      · omega
      · rw [he] at ej
        have := r i j y hy ej
        rw [hx, e] at this
        simp at this
      · obtain ⟨m, hm, em⟩ := h' j _ y ej hl
        have h2 := r i m y hy em
        have := ih m (by omega) (u + 1) y (by rw [← h2]; exact hx) em
        omega
theorem sum_le : ∀ {l l' : List Nat}, l.length = l'.length → (∀ (i x y : Nat), l[i]? = some x → l'[i]? = some y → x ≤ y) → l.sum ≤ l'.sum ∧ (l ≠ l' → l.sum < l'.sum)
  | [], [], _, _ => ⟨Nat.le_refl _, fun z => absurd rfl z⟩
  | [], _ :: _, h, _ => by simp at h
  | _ :: _, [], h, _ => by simp at h
  | a :: l, b :: l', h, hp => by
    obtain ⟨h1, h2⟩ := sum_le (l := l) (l' := l') (by simpa using h) fun i x y hx hy => hp (i + 1) x y (by simpa using hx) (by simpa using hy)
    have h0 := hp 0 a b rfl rfl
    simp only [List.sum_cons]
    refine ⟨by omega, fun ne => ?_⟩
    by_cases e : a = b
    · have := h2 fun z => ne (by rw [e, z])
      omega
    · omega
theorem sum_bound : ∀ {l : List Nat} {B : Nat}, (∀ x ∈ l, x ≤ B) → l.sum ≤ l.length * B
  | [], _, _ => by simp
  | a :: l, B, h => by
    have := sum_bound (l := l) (B := B) fun x hx => h x (by simp [hx])
    have h0 := h a (by simp)
    simp only [List.sum_cons, List.length_cons, Nat.add_mul, Nat.one_mul]
    omega

/-! ### numbers of things by the first ones like them -/
section
variable {α : Type} [DecidableEq α]
/-- out tells of each thing the place of its like among the unlike ones -/
structure Num (ks : List α) (out : List Nat) : Prop where
  len : out.length = ks.length
  same : ∀ i j : Nat, i < ks.length → j < ks.length → (out[i]? = out[j]? ↔ ks[i]? = ks[j]?)
  rgs : RgsL out
/-- the unlike ones of a list, in order -/
def dis (ks : List α) : List α := ks.foldl add []
theorem dis_snoc (ks : List α) (a : α) : dis (ks ++ [a]) = add (dis ks) a := by unfold dis; rw [List.foldl_append]; rfl
theorem mem_dis (ks : List α) : ∀ {a : α}, a ∈ dis ks ↔ a ∈ ks := by
  intro a
  have : ∀ (ks F : List α), a ∈ ks.foldl add F ↔ a ∈ F ∨ a ∈ ks := by
    intro ks
    induction ks with
    | nil => intro F; simp
    | cons b ks ih => intro F; rw [List.foldl_cons, ih, mem_add]; simp [or_assoc]
  unfold dis
  rw [this]; simp
theorem dis_nd (ks : List α) : (dis ks).Nodup := by
  have : ∀ (ks F : List α), F.Nodup → (ks.foldl add F).Nodup := by
    intro ks
    induction ks with
    | nil => intro F h; exact h
    | cons b ks ih => intro F h; exact ih _ (add_nd h)
  exact this ks [] List.nodup_nil
theorem dis_pre (ks : List α) (m : List α) : ∃ R, dis (ks ++ m) = dis ks ++ R := by
  have : ∀ (m F : List α), ∃ R, m.foldl add F = F ++ R := by
    intro m
    induction m with
    | nil => intro F; exact ⟨[], by simp⟩
    | cons b m ih =>
      intro F
      obtain ⟨R, e⟩ := ih (add F b)
      rw [List.foldl_cons, e]
      unfold add
      split
      · exact ⟨R, rfl⟩
      · exact ⟨[b] ++ R, by rw [List.append_assoc]⟩
  unfold dis
  rw [List.foldl_append]
  exact this m _
theorem dis_len (ks : List α) : (dis ks).length ≤ ks.length := by
  have : ∀ (ks F : List α), (ks.foldl add F).length ≤ F.length + ks.length := by
    intro ks
    induction ks with
    | nil => intro F; simp
    | cons b ks ih =>
      intro F
      have := ih (add F b)
      have h2 : (add F b).length ≤ F.length + 1 := by unfold add; split <;> simp
      rw [List.foldl_cons, List.length_cons]; omega
  have := this ks []
  simpa [dis] using this
/-- out is right if each number is the place of its thing -/
theorem num_of {ks : List α} {out : List Nat} (hl : out.length = ks.length) (h : ∀ (i : Nat) (a : α) (v : Nat), ks[i]? = some a → out[i]? = some v → (dis ks)[v]? = some a) : Num ks out := by
  have get : ∀ i, i < ks.length → ∃ a v, ks[i]? = some a ∧ out[i]? = some v ∧ (dis ks)[v]? = some a := fun i hi =>
    ⟨ks[i], out[i], List.getElem?_eq_getElem hi, List.getElem?_eq_getElem (by omega), h i _ _ (List.getElem?_eq_getElem hi) (List.getElem?_eq_getElem (by omega))⟩
  refine ⟨hl, fun i j hi hj => ?_, fun i v u hv hu => ?_⟩
  · obtain ⟨a, v, h1, h2, h3⟩ := get i hi
    obtain ⟨b, x, g1, g2, g3⟩ := get j hj
    rw [h1, h2, g1, g2]
    constructor
    · intro e; cases e; rw [h3] at g3; exact g3
    · intro e; cases e
      have := (List.getElem?_inj (List.getElem?_eq_some_iff.mp h3).1 (dis_nd ks)).mp (h3.trans g3.symm)
      rw [this]
  · have hi : i < ks.length := by rw [← hl]; exact (List.getElem?_eq_some_iff.mp hv).1
    obtain ⟨a, v', h1, h2, h3⟩ := get i hi
    rw [hv] at h2; cases h2
    -- the unlike ones up to i hold all lesser places
    have e0 : ks = (ks.take i ++ [a]) ++ ks.drop (i + 1) := by
      have : ks.take (i + 1) = ks.take i ++ [a] := by rw [List.take_add_one, h1]; rfl
      rw [← this, List.take_append_drop]
    obtain ⟨R, e⟩ := dis_pre (ks.take i ++ [a]) (ks.drop (i + 1))
    rw [← e0, dis_snoc] at e
    have hvl : v < (dis (ks.take i)).length + 1 := by
      by_cases hm : a ∈ dis (ks.take i)
      · obtain ⟨m, hm⟩ := List.mem_iff_getElem?.mp hm
        have hml := (List.getElem?_eq_some_iff.mp hm).1
        have : (dis ks)[m]? = some a := by rw [e, add, if_pos (List.mem_of_getElem? hm), List.getElem?_append_left hml]; exact hm
        have := (List.getElem?_inj (List.getElem?_eq_some_iff.mp h3).1 (dis_nd ks)).mp (h3.trans this.symm)
        omega
      · have : (dis ks)[(dis (ks.take i)).length]? = some a := by rw [e, add, if_neg hm, List.append_assoc, List.getElem?_append_right (Nat.le_refl _)]; simp
        have := (List.getElem?_inj (List.getElem?_eq_some_iff.mp h3).1 (dis_nd ks)).mp (h3.trans this.symm)
        omega
    have hul : u < (dis (ks.take i)).length := by omega
    have hb : (dis (ks.take i))[u]? = some (dis (ks.take i))[u] := List.getElem?_eq_getElem hul
    obtain ⟨j, hj⟩ := List.mem_iff_getElem?.mp ((mem_dis _).mp (List.mem_of_getElem? hb))
    have hji : j < i := by have := (List.getElem?_eq_some_iff.mp hj).1; rw [List.length_take] at this; omega
    rw [List.getElem?_take_of_lt hji] at hj
    obtain ⟨b, x, g1, g2, g3⟩ := get j (by omega)
    rw [g1] at hj
    have hbe : b = (dis (ks.take i))[u] := by simpa using hj
    have : (dis ks)[u]? = some b := by
      rw [e, hbe]
      unfold add
      split
      · rw [List.getElem?_append_left hul]; exact hb
      · rw [List.append_assoc, List.getElem?_append_left hul]; exact hb
    have := (List.getElem?_inj (List.getElem?_eq_some_iff.mp g3).1 (dis_nd ks)).mp (g3.trans this.symm)
    exact ⟨j, hji, by rw [g2, this]⟩
end
end Wk
/-! Classes of rooms, merged machines. -/
namespace Wk

/-- numbers of the rooms of F, stage by stage -/
structure KInv (M : Mach) (k : Nat) (F κ : List Nat) : Prop where
  len : κ.length = F.length
  rgs : RgsL κ
  sim : ∀ i j r s : Nat, F[i]? = some r → F[j]? = some s → Sim k M r M s → κ[i]? = κ[j]?
  ans : ∀ i j r s : Nat, F[i]? = some r → F[j]? = some s → κ[i]? = κ[j]? → ∀ c, c < k → ans M r c = ans M s c
/-- the number of a room -/
def kd (F κ : List Nat) (r : Nat) : Nat := κ.getD (F.idxOf r) 0
theorem kd_at {F κ : List Nat} (hF : F.Nodup) (hl : κ.length = F.length) {i r : Nat} (h : F[i]? = some r) : κ[i]? = some (kd F κ r) := by
  have hi := (List.getElem?_eq_some_iff.mp h).1
  have hm : r ∈ F := List.mem_of_getElem? h
  have h1 : F.idxOf r < F.length := List.idxOf_lt_length_iff.mpr hm
  have h2 : F[F.idxOf r]? = some r := by rw [List.getElem?_eq_getElem h1]; simp
  have e : i = F.idxOf r := (List.getElem?_inj hi hF).mp (h.trans h2.symm)
  unfold kd
  rw [← e, List.getD_eq_getElem?_getD, List.getElem?_eq_getElem (by omega)]
  rfl
/-- the answers of a room -/
def answers (M : Mach) (k r : Nat) : List Nat := (List.range k).map fun c => ans M r c
theorem answers_eq {M : Mach} {k r s : Nat} (h : answers M k r = answers M k s) {c : Nat} (hc : c < k) : ans M r c = ans M s c := by
  have := congrArg (fun l => l[c]?) h
  simpa [answers, List.getElem?_range hc] using this
/-- the row of a room at a stage -/
def krow (M : Mach) (k : Nat) (F κ : List Nat) (r : Nat) : Nat × List Nat := (kd F κ r, (List.range k).map fun c => kd F κ (nxt M r c))
theorem KInv.start {M : Mach} {k : Nat} {F κ : List Nat} (h : Num (F.map (answers M k)) κ) : KInv M k F κ := by
  have hl := h.len
  rw [List.length_map] at hl
  have key : ∀ i j r s : Nat, F[i]? = some r → F[j]? = some s → (κ[i]? = κ[j]? ↔ answers M k r = answers M k s) := by
    intro i j r s hr hs
    have := h.same i j (by rw [List.length_map]; exact (List.getElem?_eq_some_iff.mp hr).1) (by rw [List.length_map]; exact (List.getElem?_eq_some_iff.mp hs).1)
    rw [this, List.getElem?_map, List.getElem?_map, hr, hs]
    simp
  refine ⟨hl, h.rgs, fun i j r s hr hs e => (key i j r s hr hs).mpr ?_, fun i j r s hr hs e c hc => answers_eq ((key i j r s hr hs).mp e) hc⟩
  unfold answers
  apply List.map_congr_left
  intro c hc
  exact e.ans (List.mem_range.mp hc)
section
variable {M : Mach} {k : Nat} {F κ κ' : List Nat}
theorem KInv.fine (B : Bfs M k F) (I : KInv M k F κ) (h : Num (F.map (krow M k F κ)) κ') : ∀ i j r s : Nat, F[i]? = some r → F[j]? = some s →
    (κ'[i]? = κ'[j]? ↔ kd F κ r = kd F κ s ∧ ∀ c, c < k → kd F κ (nxt M r c) = kd F κ (nxt M s c)) := by
  intro i j r s hr hs
  have := h.same i j (by rw [List.length_map]; exact (List.getElem?_eq_some_iff.mp hr).1) (by rw [List.length_map]; exact (List.getElem?_eq_some_iff.mp hs).1)
  rw [this, List.getElem?_map, List.getElem?_map, hr, hs]
  simp only [Option.map_some, Option.some.injEq, krow, Prod.mk.injEq]
  refine and_congr_right fun _ => ⟨fun e c hc => ?_, fun e => ?_⟩
  · have := congrArg (fun l => l[c]?) e
    simpa [List.getElem?_range hc] using this
  · apply List.map_congr_left
    intro c hc
    exact e c (List.mem_range.mp hc)
theorem KInv.eq (B : Bfs M k F) (I : KInv M k F κ) {i j r s : Nat} (hr : F[i]? = some r) (hs : F[j]? = some s) : κ[i]? = κ[j]? ↔ kd F κ r = kd F κ s := by
  rw [kd_at B.nd I.len hr, kd_at B.nd I.len hs]; simp
theorem KInv.next (B : Bfs M k F) (I : KInv M k F κ) (h : Num (F.map (krow M k F κ)) κ') : KInv M k F κ' := by
  have hl := h.len
  rw [List.length_map] at hl
  have fine := I.fine B h
  refine ⟨hl, h.rgs, fun i j r s hr hs e => (fine i j r s hr hs).mpr ⟨(I.eq B hr hs).mp (I.sim i j r s hr hs e), fun c hc => ?_⟩, fun i j r s hr hs e c hc => ?_⟩
  · obtain ⟨i', h1⟩ := List.mem_iff_getElem?.mp (B.child (List.mem_of_getElem? hr) hc)
    obtain ⟨j', h2⟩ := List.mem_iff_getElem?.mp (B.child (List.mem_of_getElem? hs) hc)
    exact (I.eq B h1 h2).mp (I.sim _ _ _ _ h1 h2 (e.nxt hc))
  · exact I.ans i j r s hr hs ((I.eq B hr hs).mpr ((fine i j r s hr hs).mp e).1) c hc
theorem KInv.grow (B : Bfs M k F) (I : KInv M k F κ) (h : Num (F.map (krow M k F κ)) κ') (ne : κ ≠ κ') : κ.sum < κ'.sum := by
  have I' := I.next B h
  have fine := I.fine B h
  refine (sum_le (I.len.trans I'.len.symm) (rgs_mono I.rgs I'.rgs fun i j v hi hj => ?_)).2 ne
  have h1 : i < F.length := by rw [← I'.len]; exact (List.getElem?_eq_some_iff.mp hi).1
  have h2 : j < F.length := by rw [← I'.len]; exact (List.getElem?_eq_some_iff.mp hj).1
  have e1 := List.getElem?_eq_getElem h1
  have e2 := List.getElem?_eq_getElem h2
  exact (I.eq B e1 e2).mpr ((fine i j _ _ e1 e2).mp (hi.trans hj.symm)).1
theorem KInv.small (I : KInv M k F κ) : κ.sum ≤ F.length * F.length := by
  have := sum_bound (l := κ) (B := F.length) fun x hx => by
    obtain ⟨i, hi⟩ := List.mem_iff_getElem?.mp hx
    have := I.rgs.le i x hi
    have := (List.getElem?_eq_some_iff.mp hi).1
    have := I.len
    omega
  rwa [I.len] at this

/-- at the end: numbers are one just of rooms that answer alike -/
structure Cls (M : Mach) (k : Nat) (F κ : List Nat) : Prop extends KInv M k F κ where
  bfs : Bfs M k F
  real : ∀ r s, r ∈ F → s ∈ F → kd F κ r = kd F κ s → Sim k M r M s
theorem KInv.done (B : Bfs M k F) (I : KInv M k F κ) (h : Num (F.map (krow M k F κ)) κ) : Cls M k F κ := by
  refine ⟨I, B, fun r s hr hs e w hw => ?_⟩
  refine sim_of (fun p q => p ∈ F ∧ q ∈ F ∧ kd F κ p = kd F κ q) (fun p q c ⟨hp, hq, e⟩ hc => ?_) w r s ⟨hr, hs, e⟩ hw
  obtain ⟨i, hi⟩ := List.mem_iff_getElem?.mp hp
  obtain ⟨j, hj⟩ := List.mem_iff_getElem?.mp hq
  have e1 := (I.eq B hi hj).mpr e
  exact ⟨I.ans i j p q hi hj e1 c hc, B.child hp hc, B.child hq hc, ((I.fine B h i j p q hi hj).mp e1).2 c hc⟩
end

/-- the merged machine -/
structure Merged (k : Nat) (M N : Mach) : Prop where
  ex : ∃ F κ, Cls M k F κ ∧ (∀ r ∈ F, N[kd F κ r]? = some ((List.range k).map fun c => (ans M r c, kd F κ (nxt M r c)))) ∧ ∀ v, v < N.length → ∃ r ∈ F, kd F κ r = v
section
variable {M O N N' : Mach} {k a : Nat} {F κ : List Nat}
theorem Cls.zero (C : Cls M k F κ) : kd F κ 0 = 0 := by
  obtain ⟨R, e⟩ := C.bfs.zero
  have h0 : F[0]? = some 0 := by rw [e]; rfl
  have := C.rgs.le 0 _ (kd_at C.bfs.nd C.len h0)
  omega
theorem Cls.iff (C : Cls M k F κ) {r s : Nat} (hr : r ∈ F) (hs : s ∈ F) : kd F κ r = kd F κ s ↔ Sim k M r M s := by
  refine ⟨C.real r s hr hs, fun e => ?_⟩
  obtain ⟨i, hi⟩ := List.mem_iff_getElem?.mp hr
  obtain ⟨j, hj⟩ := List.mem_iff_getElem?.mp hs
  exact (C.toKInv.eq C.bfs hi hj).mp (C.sim i j r s hi hj e)
/-- the numbers along the rooms of the rows of letters -/
theorem Cls.rgsx (C : Cls M k F κ) : Rgs fun n => kd F κ (xw M k n) := by
  intro n u hu
  obtain ⟨i, hi⟩ := List.mem_iff_getElem?.mp (C.bfs.mem n)
  obtain ⟨i', h1, h2⟩ := C.rgs i _ u (kd_at C.bfs.nd C.len hi) hu
  have hl : i' < F.length := by rw [← C.len]; exact (List.getElem?_eq_some_iff.mp h2).1
  have e := List.getElem?_eq_getElem hl
  obtain ⟨j, hj, ej⟩ := C.bfs.ahead hi h1 e
  refine ⟨j, hj, ?_⟩
  show kd F κ (xw M k j) = u
  rw [ej]
  have := kd_at C.bfs.nd C.len e
  rw [h2] at this
  exact (Option.some.inj this).symm
theorem Merged.wf (W : WF k a M) (m : Merged k M N) : WF k a N := by
  obtain ⟨F, κ, C, h1, h2⟩ := m.ex
  have cellsAt : ∀ (v : Nat) (R : Room), N[v]? = some R → ∃ r ∈ F, R = (List.range k).map fun c => (ans M r c, kd F κ (nxt M r c)) := by
    intro v R hv
    obtain ⟨r, hr, e⟩ := h2 v (List.getElem?_eq_some_iff.mp hv).1
    rw [← e, h1 r hr] at hv
    exact ⟨r, hr, (Option.some.inj hv).symm⟩
  refine ⟨?_, W.kpos, fun v R hv => ?_, fun v R c p hv hc => ?_⟩
  · obtain ⟨R, e⟩ := C.bfs.zero
    have := h1 0 (by rw [e]; simp)
    have := (List.getElem?_eq_some_iff.mp this).1
    omega
  · obtain ⟨r, hr, rfl⟩ := cellsAt v R hv
    simp
  · obtain ⟨r, hr, rfl⟩ := cellsAt v R hv
    have hck : c < k := by have := (List.getElem?_eq_some_iff.mp hc).1; simpa using this
    rw [List.getElem?_map, List.getElem?_range hck] at hc
    simp only [Option.map_some, Option.some.injEq] at hc
    rw [← hc]
    exact ⟨(W.lt (C.bfs.lt W hr) hck).1, (List.getElem?_eq_some_iff.mp (h1 _ (C.bfs.child hr hck))).1⟩
theorem Merged.cell (h1 : ∀ r ∈ F, N[kd F κ r]? = some ((List.range k).map fun c => (ans M r c, kd F κ (nxt M r c)))) {r c : Nat} (hr : r ∈ F) (hc : c < k) : Wk.ans N (kd F κ r) c = ans M r c ∧ Wk.nxt N (kd F κ r) c = kd F κ (nxt M r c) := by
  have e : Wk.cell N (kd F κ r) c = (ans M r c, kd F κ (nxt M r c)) := by
    unfold Wk.cell
    rw [List.getD_eq_getElem?_getD (l := N), h1 r hr, Option.getD_some, List.getD_eq_getElem?_getD, List.getElem?_map, List.getElem?_range hc]
    rfl
  unfold Wk.ans Wk.nxt
  rw [e]
  exact ⟨rfl, rfl⟩
theorem Merged.sim (m : Merged k M N) : Sim k M 0 N 0 := by
  obtain ⟨F, κ, C, h1, h2⟩ := m.ex
  intro w hw
  refine sim_of (fun p q => p ∈ F ∧ q = kd F κ p) (fun p q c ⟨hp, hq⟩ hc => ?_) w 0 0 ⟨?_, C.zero.symm⟩ hw
  · subst hq
    obtain ⟨e1, e2⟩ := Merged.cell h1 hp hc
    exact ⟨e1.symm, C.bfs.child hp hc, e2⟩
  · obtain ⟨R, e⟩ := C.bfs.zero
    rw [e]; simp
theorem Merged.len (W : WF k a M) (m : Merged k M N) : N.length ≤ M.length := by
  obtain ⟨F, κ, C, h1, h2⟩ := m.ex
  have hF : F.length ≤ M.length := len_le_of_nodup _ _ C.bfs.nd fun r hr => C.bfs.lt W hr
  by_cases h : N.length ≤ F.length
  · omega
  · obtain ⟨r, hr, e⟩ := h2 F.length (by omega)
    obtain ⟨i, hi⟩ := List.mem_iff_getElem?.mp hr
    have := C.rgs.le i _ (kd_at C.bfs.nd C.len hi)
    have := (List.getElem?_eq_some_iff.mp hi).1
    omega
theorem Merged.uniq (hk : 0 < k) (m : Merged k M N) (m' : Merged k O N') (h : Sim k M 0 O 0) : N = N' := by
  obtain ⟨F, κ, C, h1, h2⟩ := m.ex
  obtain ⟨G, μ, C', g1, g2⟩ := m'.ex
  have xs := xw_sim hk h
  have fg : ∀ n, kd F κ (xw M k n) = kd G μ (xw O k n) := rgs_uniq C.rgsx C'.rgsx fun i j => by
    show kd F κ (xw M k i) = kd F κ (xw M k j) ↔ kd G μ (xw O k i) = kd G μ (xw O k j)
    rw [C.iff (C.bfs.mem i) (C.bfs.mem j), C'.iff (C'.bfs.mem i) (C'.bfs.mem j)]
    exact ⟨fun e => ((xs i).symm.trans e).trans (xs j), fun e => ((xs i).trans e).trans (xs j).symm⟩
  have at1 : ∀ v, v < N.length → ∃ n, kd F κ (xw M k n) = v := fun v hv => by
    obtain ⟨r, hr, e⟩ := h2 v hv
    obtain ⟨n, rfl⟩ := C.bfs.of hr
    exact ⟨n, e⟩
  have lt1 : ∀ n, kd F κ (xw M k n) < N.length := fun n => (List.getElem?_eq_some_iff.mp (h1 _ (C.bfs.mem n))).1
  have lt2 : ∀ n, kd G μ (xw O k n) < N'.length := fun n => (List.getElem?_eq_some_iff.mp (g1 _ (C'.bfs.mem n))).1
  have at2 : ∀ v, v < N'.length → ∃ n, kd G μ (xw O k n) = v := fun v hv => by
    obtain ⟨r, hr, e⟩ := g2 v hv
    obtain ⟨n, rfl⟩ := C'.bfs.of hr
    exact ⟨n, e⟩
  have hlen : N.length = N'.length := by
    rcases Nat.lt_trichotomy N.length N'.length with z | z | z
    · obtain ⟨n, e⟩ := at2 _ z
      have := lt1 n
      rw [fg, e] at this; omega
    · exact z
    · obtain ⟨n, e⟩ := at1 _ z
      have := lt2 n
      rw [← fg, e] at this; omega
  apply List.ext_getElem?
  intro v
  by_cases hv : v < N.length
  · obtain ⟨n, e⟩ := at1 v hv
    have r1 := h1 _ (C.bfs.mem n)
    have r2 := g1 _ (C'.bfs.mem n)
    rw [e] at r1
    rw [← fg, e] at r2
    rw [r1, r2]
    congr 1
    apply List.map_congr_left
    intro c hc
    have hc := List.mem_range.mp hc
    rw [(xs n).ans hc, ← xw_child M hc, fg, xw_child O hc]
  · rw [List.getElem?_eq_none (by omega), List.getElem?_eq_none (by omega)]
/-- the merged machine's rooms are come to one by one -/
theorem Merged.rooms (hk : 0 < k) (m : Merged k M N) {G : List Nat} (B : Bfs N k G) : G = List.range N.length := by
  obtain ⟨F, κ, C, h1, h2⟩ := m.ex
  have xe : ∀ n, xw N k n = kd F κ (xw M k n) := by
    intro n
    induction n using Nat.strongRecOn with
    | ind n ih =>
      cases n with
      | zero => rw [xw_zero, xw_zero, C.zero]
      | succ m =>
        rw [xw_succ, xw_succ, ih _ (Nat.lt_succ_of_le (Nat.div_le_self _ _))]
        exact (Merged.cell h1 (C.bfs.mem _) (Nat.mod_lt _ hk)).2
  have dr : ∀ n, ∃ t, D (xw N k) n = List.range t := by
    intro n
    induction n with
    | zero => exact ⟨0, rfl⟩
    | succ n ih =>
      obtain ⟨t, e⟩ := ih
      by_cases hm : xw N k n ∈ D (xw N k) n
      · exact ⟨t, by rw [D_old hm, e]⟩
      · refine ⟨t + 1, ?_⟩
        have hge : ¬ xw N k n < t := fun z => hm (by rw [e]; exact List.mem_range.mpr z)
        have hle : ¬ t < xw N k n := fun z => by
          rw [xe] at z
          obtain ⟨j, hj, ej⟩ := C.rgsx n t z
          have : t ∈ D (xw N k) n := mem_D.mpr ⟨j, hj, by rw [xe]; exact ej⟩
          rw [e] at this
          have := List.mem_range.mp this
          omega
        have he : xw N k n = t := by omega
        rw [D_new hm, e, List.range_succ, he]
  obtain ⟨n, hn⟩ := B.fix
  obtain ⟨t, e⟩ := dr n
  have eG : G = List.range t := by rw [← hn n (Nat.le_refl _), e]
  have : t = N.length := by
    rcases Nat.lt_trichotomy t N.length with z | z | z
    · obtain ⟨r, hr, er⟩ := h2 t z
      obtain ⟨j, rfl⟩ := C.bfs.of hr
      have := B.mem j
      rw [eG, xe, er] at this
      have := List.mem_range.mp this
      omega
    · exact z
    · have hm : N.length ∈ G := by rw [eG]; exact List.mem_range.mpr z
      obtain ⟨j, ej⟩ := B.of hm
      rw [xe] at ej
      have := (List.getElem?_eq_some_iff.mp (h1 _ (C.bfs.mem j))).1
      omega
  rw [eG, this]
end
end Wk
/-! Loops of machines and plans. -/
namespace Wk

/-- the loop (s, r) is the lean one of the row f -/
structure LoopOf (f : Nat → Nat × Nat) (s r : List (Nat × Nat)) : Prop where
  lean : Lean s r
  row : ∀ n, rowAt s r n = some (f n)
theorem LoopOf.uniq {f : Nat → Nat × Nat} {s r s' r' : List (Nat × Nat)} (h : LoopOf f s r) (h' : LoopOf f s' r') : s = s' ∧ r = r' :=
  lean_unique h.lean h'.lean fun n => (h.row n).trans (h'.row n).symm
theorem LoopOf.congr {f g : Nat → Nat × Nat} {s r : List (Nat × Nat)} (h : LoopOf f s r) (e : ∀ n, f n = g n) : LoopOf g s r := ⟨h.lean, fun n => by rw [h.row, e]⟩

/-- a row that comes again from b on, after p -/
theorem row_of {α : Type} {f : Nat → α} {b p : Nat} (hp : 0 < p) (h : Per f b p) (n : Nat) : rowAt (pre f 0 b) (pre f b p) n = some (f n) := by
  by_cases hn : n < b
  · rw [rowAt_lt (by rw [pre_len]; exact hn), pre_get _ _ _ _ hn, Nat.zero_add]
  · rw [rowAt_ge (by rw [pre_len]; exact hn), pre_len, pre_len, pre_get _ _ _ _ (Nat.mod_lt _ hp)]
    have e : b + (n - b) % p + p * ((n - b) / p) = n := by have := Nat.mod_add_div (n - b) p; omega
    rw [← h.mul ((n - b) / p) (b + (n - b) % p) (by omega), e]

/-- letters of a cycle -/
def cyc (u w : List Nat) (n : Nat) : Nat := (rowAt u w n).getD 0
theorem cyc_lt {u w : List Nat} {k : Nat} (hk : 0 < k) (hu : ∀ c ∈ u, c < k) (hw : ∀ c ∈ w, c < k) (n : Nat) : cyc u w n < k := by
  unfold cyc
  cases e : rowAt u w n with
  | none => exact hk
  | some c =>
    show c < k
    by_cases hn : n < u.length
    · rw [rowAt_lt hn] at e; exact hu c (List.mem_of_getElem? e)
    · rw [rowAt_ge hn] at e; exact hw c (List.mem_of_getElem? e)
theorem cyc_stem (u w : List Nat) : pre (cyc u w) 0 u.length = u := by
  apply List.ext_getElem?
  intro i
  by_cases h : i < u.length
  · rw [pre_get _ _ _ _ h, Nat.zero_add]
    unfold cyc
    rw [rowAt_lt h, List.getElem?_eq_getElem h]; rfl
  · rw [List.getElem?_eq_none (by rw [pre_len]; omega), List.getElem?_eq_none (by omega)]
theorem cyc_round (u w : List Nat) (j : Nat) : pre (cyc u w) (u.length + j * w.length) w.length = w := by
  apply List.ext_getElem?
  intro i
  by_cases h : i < w.length
  · rw [pre_get _ _ _ _ h]
    unfold cyc
    rw [rowAt_ge (by omega), show u.length + j * w.length + i - u.length = i + w.length * j by rw [Nat.mul_comm]; omega, Nat.add_mul_mod_self_left, Nat.mod_eq_of_lt h, List.getElem?_eq_getElem h]; rfl
  · rw [List.getElem?_eq_none (by rw [pre_len]; omega), List.getElem?_eq_none (by omega)]
theorem cyc_per (u w : List Nat) : Per (cyc u w) u.length w.length := fun n hn => by unfold cyc; rw [rowAt_per hn]

/-- rooms that come again -/
theorem roomAt_add (M : Mach) (r : Nat) (f : Nat → Nat) (a : Nat) : ∀ n, roomAt M r f (a + n) = roomAt M (roomAt M r f a) (fun i => f (a + i)) n
  | 0 => rfl
  | n + 1 => by
    show nxt M (roomAt M r f (a + n)) (f (a + n)) = nxt M (roomAt M (roomAt M r f a) (fun i => f (a + i)) n) (f (a + n))
    rw [roomAt_add M r f a n]
theorem turn_per {M : Mach} {r b p : Nat} {f : Nat → Nat} (hf : Per f b p) (hr : roomAt M r f (b + p) = roomAt M r f b) : Per (turnAt M r f) b p := by
  have key : ∀ m, roomAt M r f (b + m + p) = roomAt M r f (b + m) := by
    intro m
    induction m with
    | zero => exact hr
    | succ m ih =>
      have e : b + (m + 1) + p = (b + m + p) + 1 := by omega
      rw [e]
      show nxt M (roomAt M r f (b + m + p)) (f (b + m + p)) = nxt M (roomAt M r f (b + m)) (f (b + m))
      rw [ih, hf (b + m) (by omega)]
  intro n hn
  obtain ⟨m, rfl⟩ : ∃ m, n = b + m := ⟨n - b, by omega⟩
  unfold turnAt
  rw [key m, hf (b + m) (by omega)]

/-- the rounds of a cycle: j of them are gone; B tells where each room began one -/
structure LInv (M : Mach) (u w : List Nat) (T : List (Nat × Nat)) (r : Nat) (B : List (Nat × Nat)) (j : Nat) : Prop where
  room : r = roomAt M 0 (cyc u w) (u.length + j * w.length)
  turns : T = pre (turnAt M 0 (cyc u w)) u.length (j * w.length)
  nd : (B.map (·.1)).Nodup
  len : B.length = j
  beg : ∀ q b, (q, b) ∈ B → ∃ i, i < j ∧ b = i * w.length ∧ q = roomAt M 0 (cyc u w) (u.length + b)
theorem LInv.start {M : Mach} {u w : List Nat} : LInv M u w [] (go M 0 u) [] 0 := by
  refine ⟨?_, by simp [pre], by simp, rfl, by simp⟩
  have := (turns_pre M 0 (cyc u w) u.length 0).2
  rw [cyc_stem, Nat.zero_add] at this
  rw [Nat.zero_mul, Nat.add_zero]
  exact this
theorem linv_stem (M : Mach) (u w : List Nat) : Wk.turns M 0 u = pre (turnAt M 0 (cyc u w)) 0 u.length := by
  have := (turns_pre M 0 (cyc u w) u.length 0).1
  rw [cyc_stem] at this
  exact this
theorem LInv.next {M : Mach} {u w : List Nat} {T : List (Nat × Nat)} {r j : Nat} {B : List (Nat × Nat)} (I : LInv M u w T r B j) (h : r ∉ B.map (·.1)) :
    LInv M u w (T ++ Wk.turns M r w) (go M r w) (B ++ [(r, T.length)]) (j + 1) := by
  obtain ⟨h1, h2, h3, h4, h5⟩ := I
  have ht := turns_pre M 0 (cyc u w) w.length (u.length + j * w.length)
  rw [cyc_round, ← h1] at ht
  refine ⟨?_, ?_, ?_, by simp [h4], ?_⟩
  · rw [ht.2, Nat.add_mul, Nat.one_mul, Nat.add_assoc]
  · rw [h2, ht.1, Nat.add_mul, Nat.one_mul, pre_add]
  · rw [List.map_append]
    refine List.nodup_append.mpr ⟨h3, by simp, fun x hx y hy => ?_⟩
    simp only [List.map_cons, List.map_nil, List.mem_singleton] at hy
    rintro rfl
    rw [hy] at hx
    exact h hx
  · intro q b hb
    rcases List.mem_append.mp hb with hb | hb
    · obtain ⟨i, g1, g2, g3⟩ := h5 q b hb
      exact ⟨i, by omega, g2, g3⟩
    · simp only [List.mem_singleton, Prod.mk.injEq] at hb
      obtain ⟨rfl, rfl⟩ := hb
      refine ⟨j, by omega, by rw [h2, pre_len], ?_⟩
      rw [h1, h2, pre_len]
theorem LInv.done {M : Mach} {u w : List Nat} {T : List (Nat × Nat)} {r j b : Nat} {B : List (Nat × Nat)} (I : LInv M u w T r B j) (hw : 0 < w.length) (hb : (r, b) ∈ B) :
    b ≤ T.length ∧ T.drop b ≠ [] ∧ (Wk.turns M 0 u ++ T.take b).length = u.length + b ∧ ∀ n, rowAt (Wk.turns M 0 u ++ T.take b) (T.drop b) n = some (turnAt M 0 (cyc u w) n) := by
  obtain ⟨h1, h2, h3, h4, h5⟩ := I
  obtain ⟨i, g1, g2, g3⟩ := h5 r b hb
  have hij : (i + 1) * w.length ≤ j * w.length := Nat.mul_le_mul_right _ g1
  rw [Nat.add_mul, Nat.one_mul] at hij
  have hT : T.length = j * w.length := by rw [h2, pre_len]
  have hbl : b + w.length ≤ j * w.length := by rw [g2]; omega
  have e1 : Wk.turns M 0 u ++ T.take b = pre (turnAt M 0 (cyc u w)) 0 (u.length + b) := by
    rw [linv_stem M u w, h2, pre_take _ _ _ _ (by omega), pre_add, Nat.zero_add]
  have e2 : T.drop b = pre (turnAt M 0 (cyc u w)) (u.length + b) (j * w.length - b) := by rw [h2, pre_drop _ _ _ _ (by omega)]
  refine ⟨by omega, fun z => ?_, by rw [e1, pre_len], fun n => ?_⟩
  · have := congrArg List.length z
    rw [List.length_drop, List.length_nil] at this
    omega
  · rw [e1, e2]
    refine row_of (by omega) (turn_per ?_ ?_) n
    · have e3 : j * w.length - b = w.length * (j - i) := by rw [g2, ← Nat.sub_mul, Nat.mul_comm]
      rw [e3]
      exact ((cyc_per u w).mul (j - i)).mono (by omega)
    · rw [← g3, h1]
      congr 1
      omega

/-! ### which loops go -/
/-- the letters that come in a row -/
def lets (s r : List (Nat × Nat)) (n : Nat) : Nat := ((rowAt s r n).getD (0, 0)).1
/-- the machine makes the loop -/
def Goes (M : Mach) (s r : List (Nat × Nat)) : Prop := ∀ n, rowAt s r n = some (turnAt M 0 (lets s r) n)
theorem goes_own {M : Mach} {f : Nat → Nat} {s r : List (Nat × Nat)} (h : LoopOf (turnAt M 0 f) s r) : Goes M s r := by
  have e : lets s r = f := by funext n; unfold lets; rw [h.row]; rfl
  intro n
  rw [e]; exact h.row n
theorem goes_like {k : Nat} {M O : Mach} {f : Nat → Nat} {s r : List (Nat × Nat)} (hf : ∀ n, f n < k) (S : Sim k M 0 O 0) (h : LoopOf (turnAt M 0 f) s r) : Goes O s r :=
  goes_own (h.congr fun n => S.turnAt hf n)
theorem goes_not {k : Nat} {M O : Mach} {u w : List Nat} {c : Nat} {s r : List (Nat × Nat)} (P : Parts k M O u c) (h : LoopOf (turnAt M 0 (cyc (u ++ [c]) w)) s r) : ¬ Goes O s r := by
  intro g
  have e : lets s r = cyc (u ++ [c]) w := by funext n; unfold lets; rw [h.row]; rfl
  have := g u.length
  rw [h.row, e] at this
  have hl : pre (cyc (u ++ [c]) w) 0 u.length = u := by
    have := cyc_stem (u ++ [c]) w
    rw [List.length_append, List.length_singleton, pre_succ] at this
    exact (List.append_inj' this rfl).1
  have hc : cyc (u ++ [c]) w u.length = c := by
    unfold cyc; rw [rowAt_lt (by simp)]; simp
  have r1 := (turns_pre M 0 (cyc (u ++ [c]) w) u.length 0).2
  have r2 := (turns_pre O 0 (cyc (u ++ [c]) w) u.length 0).2
  rw [hl, Nat.zero_add] at r1 r2
  unfold turnAt at this
  rw [← r1, ← r2, hc] at this
  simp only [Option.some.injEq, Prod.mk.injEq, true_and] at this
  exact P.ne this

/-- the room behind turns, if the machine makes them -/
def kept (M : Mach) : Nat → List (Nat × Nat) → Option Nat
  | r, [] => some r
  | r, (c, a) :: t => if ans M r c = a then kept M (nxt M r c) t else none
theorem kept_append (M : Mach) : ∀ (t t' : List (Nat × Nat)) (r : Nat), kept M r (t ++ t') = (kept M r t).bind fun q => kept M q t'
  | [], _, _ => rfl
  | (c, a) :: t, t', r => by
    simp only [List.cons_append, kept]
    split
    · exact kept_append M t t' _
    · rfl
open Classical in
theorem kept_row {M : Mach} {f : Nat → Nat × Nat} (r : Nat) : ∀ (n a q : Nat), q = roomAt M r (fun i => (f i).1) a →
    kept M q (pre f a n) = if (∀ i, a ≤ i → i < a + n → (f i).2 = ans M (roomAt M r (fun i => (f i).1) i) (f i).1) then some (roomAt M r (fun i => (f i).1) (a + n)) else none
  | 0, a, q, h => by rw [if_pos (fun i h1 h2 => by omega)]; simp [pre, kept, h]
  | n + 1, a, q, h => by
    rw [pre_cons]
    show (if ans M q (f a).1 = (f a).2 then kept M (nxt M q (f a).1) (pre f (a + 1) n) else none) = _
    by_cases e : ans M q (f a).1 = (f a).2
    · rw [if_pos e, kept_row r n (a + 1) _ (by rw [h]; rfl)]
      by_cases g : ∀ i, a ≤ i → i < a + (n + 1) → (f i).2 = ans M (roomAt M r (fun i => (f i).1) i) (f i).1
      · rw [if_pos g, if_pos (fun i h1 h2 => g i (by omega) (by omega))]
        congr 2; omega
      · rw [if_neg g, if_neg]
        intro z
        apply g
        intro i h1 h2
        by_cases hi : i = a
        · subst hi; rw [← h, e]
        · exact z i (by omega) (by omega)
    · rw [if_neg e, if_neg]
      intro z
      have := z a (Nat.le_refl _) (by omega)
      rw [← h] at this
      exact e this.symm
/-- the rounds of goes: j are gone, at q now -/
structure GInv (M : Mach) (s r : List (Nat × Nat)) (q : Option Nat) (met : List Nat) (j : Nat) : Prop where
  nd : met.Nodup
  len : met.length = j
  rooms : ∀ i x, met[i]? = some x → kept M 0 (s ++ (List.replicate i r).flatten) = some x
  now : kept M 0 (s ++ (List.replicate j r).flatten) = q
theorem GInv.start {M : Mach} {s r : List (Nat × Nat)} : GInv M s r (kept M 0 s) [] 0 := ⟨List.nodup_nil, rfl, by simp, by simp⟩
theorem rep_snoc {α : Type} (r : List α) (j : Nat) : (List.replicate (j + 1) r).flatten = (List.replicate j r).flatten ++ r := by
  rw [List.replicate_succ', List.flatten_append]; simp
theorem GInv.next {M : Mach} {s r : List (Nat × Nat)} {q : Nat} {met : List Nat} {j : Nat} (I : GInv M s r (some q) met j) (h : q ∉ met) : GInv M s r (kept M q r) (met ++ [q]) (j + 1) := by
  obtain ⟨h1, h2, h3, h4⟩ := I
  refine ⟨List.nodup_append.mpr ⟨h1, by simp, fun x hx y hy => ?_⟩, by simp [h2], fun i x hx => ?_, ?_⟩
  · rintro rfl
    rw [List.mem_singleton.mp hy] at hx
    exact h hx
  · by_cases hi : i < met.length
    · rw [List.getElem?_append_left hi] at hx; exact h3 i x hx
    · have hi2 : i = met.length := by
        have := (List.getElem?_eq_some_iff.mp hx).1
        simp at this; omega
      subst hi2
      have : q = x := by simpa using hx
      rw [← this, h2]; exact h4
  · rw [rep_snoc, ← List.append_assoc, kept_append, h4]; rfl
theorem row_get {α : Type} {s r : List α} (hr : r ≠ []) (n : Nat) : ∃ x, rowAt s r n = some x := by
  by_cases h : n < s.length
  · exact ⟨_, by rw [rowAt_lt h]; exact List.getElem?_eq_getElem h⟩
  · have : (n - s.length) % r.length < r.length := Nat.mod_lt _ (List.length_pos_iff.mpr hr)
    exact ⟨_, by rw [rowAt_ge h]; exact List.getElem?_eq_getElem this⟩
def rowF (s r : List (Nat × Nat)) (n : Nat) : Nat × Nat := (rowAt s r n).getD (0, 0)
theorem rowF_eq {s r : List (Nat × Nat)} (hr : r ≠ []) (n : Nat) : rowAt s r n = some (rowF s r n) := by
  obtain ⟨x, e⟩ := row_get (s := s) hr n
  unfold rowF; rw [e]; rfl
theorem rowF_rep {s r : List (Nat × Nat)} (hr : r ≠ []) (j : Nat) : s ++ (List.replicate j r).flatten = pre (rowF s r) 0 (s.length + j * r.length) := by
  apply List.ext_getElem?
  intro i
  by_cases h : i < s.length + j * r.length
  · rw [pre_get _ _ _ _ h, ← rowF_eq hr, Nat.zero_add]
    by_cases h2 : i < s.length
    · rw [List.getElem?_append_left h2, rowAt_lt h2]
    · rw [List.getElem?_append_right (by omega), rep_get _ _ _ (by omega), rowAt_ge h2]
  · rw [List.getElem?_eq_none (by rw [List.length_append, rep_len]; omega), List.getElem?_eq_none (by rw [pre_len]; omega)]
theorem goes_iff {M : Mach} {s r : List (Nat × Nat)} (hr : r ≠ []) : Goes M s r ↔ ∀ n, (rowF s r n).2 = ans M (roomAt M 0 (fun i => (rowF s r i).1) n) (rowF s r n).1 := by
  have e : lets s r = fun i => (rowF s r i).1 := rfl
  unfold Goes
  rw [e]
  refine forall_congr' fun n => ?_
  rw [rowF_eq hr]
  unfold turnAt
  rw [Option.some.injEq]
  constructor
  · intro h; exact congrArg Prod.snd h
  · intro h; exact Prod.ext rfl h
theorem GInv.no {M : Mach} {s r : List (Nat × Nat)} {met : List Nat} {j : Nat} (hr : r ≠ []) (I : GInv M s r none met j) : ¬ Goes M s r := by
  intro g
  have h := I.now
  rw [rowF_rep hr, kept_row (f := rowF s r) 0 _ 0 0 rfl, if_pos (fun i _ _ => (goes_iff hr).mp g i)] at h
  cases h
theorem GInv.yes {M : Mach} {s r : List (Nat × Nat)} {q : Nat} {met : List Nat} {j : Nat} (hr : r ≠ []) (I : GInv M s r (some q) met j) (hq : q ∈ met) : Goes M s r := by
  obtain ⟨h1, h2, h3, h4⟩ := I
  obtain ⟨i, hi⟩ := List.mem_iff_getElem?.mp hq
  have hij : i < j := by rw [← h2]; exact (List.getElem?_eq_some_iff.mp hi).1
  have e0 := h3 i q hi
  -- from q on, over and over
  have split : ∀ m, s ++ (List.replicate (i + m) r).flatten = (s ++ (List.replicate i r).flatten) ++ (List.replicate m r).flatten := fun m => by
    rw [List.append_assoc, ← List.flatten_append, List.replicate_append_replicate]
  have e1 : kept M q (List.replicate (j - i) r).flatten = some q := by
    have := h4
    rw [show j = i + (j - i) by omega, split, kept_append, e0] at this
    exact this
  have e2 : ∀ m, kept M q (List.replicate ((j - i) * m) r).flatten = some q := by
    intro m
    induction m with
    | zero => simp [kept]
    | succ m ih =>
      rw [Nat.mul_succ, ← List.replicate_append_replicate, List.flatten_append, kept_append, ih]
      exact e1
  refine (goes_iff hr).mpr fun n => ?_
  have h := e2 (n + 1)
  have e3 : kept M 0 (s ++ (List.replicate (i + (j - i) * (n + 1)) r).flatten) = some q := by rw [split, kept_append, e0]; exact h
  rw [rowF_rep hr, kept_row (f := rowF s r) 0 _ 0 0 rfl] at e3
  split at e3
  · rename_i z
    refine z n (Nat.zero_le _) ?_
    have hl : 0 < r.length := List.length_pos_iff.mpr hr
    have : n + 1 ≤ (j - i) * (n + 1) := Nat.le_mul_of_pos_left _ (by omega)
    have : (i + (j - i) * (n + 1)) ≤ (i + (j - i) * (n + 1)) * r.length := Nat.le_mul_of_pos_right _ hl
    omega
  · cases e3

/-! ### plans -/
abbrev Plan := List (Nat × List Nat)
structure WP (k a : Nat) (P : Plan) : Prop where
  pos : 0 < P.length
  room : ∀ (q c : Nat) (l : List Nat), P[q]? = some (c, l) → c < k ∧ l.length = a ∧ ∀ x ∈ l, x < P.length
def pcame (P : Plan) (q : Nat) : Nat := (P.getD q (0, [])).1
def plater (P : Plan) (q b : Nat) : Nat := (P.getD q (0, [])).2.getD b 0
theorem WP.get {k a : Nat} {P : Plan} (W : WP k a P) {q : Nat} (h : q < P.length) : ∃ l, P[q]? = some (pcame P q, l) ∧ pcame P q < k ∧ l.length = a ∧ ∀ b, b < a → l[b]? = some (plater P q b) ∧ plater P q b < P.length := by
  have e := List.getElem?_eq_getElem h
  have e1 : P.getD q (0, []) = P[q] := by rw [List.getD_eq_getElem?_getD, e]; rfl
  obtain ⟨h1, h2, h3⟩ := W.room q P[q].1 P[q].2 e
  unfold pcame plater
  rw [e1]
  refine ⟨P[q].2, e, h1, h2, fun b hb => ?_⟩
  have g : P[q].2[b]? = some (P[q].2[b]'(by omega)) := List.getElem?_eq_getElem (by omega)
  rw [List.getD_eq_getElem?_getD, g]
  exact ⟨rfl, h3 _ (List.mem_of_getElem? g)⟩
/-- the machine's room and the plan's as they go on -/
def both (M : Mach) (P : Plan) : Nat → Nat × Nat
  | 0 => (0, 0)
  | n + 1 => (nxt M (both M P n).1 (pcame P (both M P n).2), plater P (both M P n).2 (ans M (both M P n).1 (pcame P (both M P n).2)))
def bothTurn (M : Mach) (P : Plan) (n : Nat) : Nat × Nat := (pcame P (both M P n).2, ans M (both M P n).1 (pcame P (both M P n).2))
section
variable {k a b : Nat} {M O : Mach} {P : Plan}
theorem both_lt (W : WF k a M) (V : WP k a P) : ∀ n, (both M P n).1 < M.length ∧ (both M P n).2 < P.length ∧ (bothTurn M P n).1 < k ∧ (bothTurn M P n).2 < a
  | 0 => by
    obtain ⟨l, _, h, _⟩ := V.get V.pos
    exact ⟨W.pos, V.pos, h, (W.lt W.pos h).1⟩
  | n + 1 => by
    obtain ⟨h1, h2, h3, h4⟩ := both_lt W V n
    have g1 : (both M P (n + 1)).1 < M.length := (W.lt h1 h3).2
    have g2 : (both M P (n + 1)).2 < P.length := by
      obtain ⟨l, _, _, _, h⟩ := V.get h2
      exact (h _ h4).2
    obtain ⟨l, _, h, _⟩ := V.get g2
    exact ⟨g1, g2, h, (W.lt g1 h).1⟩
theorem both_per {i p : Nat} (h : both M P (i + p) = both M P i) : Per (bothTurn M P) i p := by
  have key : ∀ m, both M P (i + m + p) = both M P (i + m) := by
    intro m
    induction m with
    | zero => exact h
    | succ m ih =>
      rw [show i + (m + 1) + p = (i + m + p) + 1 by omega, show i + (m + 1) = (i + m) + 1 by omega]
      simp only [both, ih]
  intro n hn
  obtain ⟨m, rfl⟩ : ∃ m, n = i + m := ⟨n - i, by omega⟩
  unfold bothTurn
  rw [key m]
theorem both_room : ∀ n, (both M P n).1 = roomAt M 0 (fun i => (bothTurn M P i).1) n
  | 0 => rfl
  | n + 1 => by
    show nxt M (both M P n).1 _ = nxt M (roomAt M 0 _ n) _
    rw [both_room n]; rfl
theorem both_turn (n : Nat) : bothTurn M P n = turnAt M 0 (fun i => (bothTurn M P i).1) n := by
  unfold turnAt
  rw [← both_room]
  rfl
theorem both_sim (W : WF k a M) (V : WP k a P) (S : Sim k M 0 O 0) : ∀ n, Sim k M (both M P n).1 O (both O P n).1 ∧ (both M P n).2 = (both O P n).2
  | 0 => ⟨S, rfl⟩
  | n + 1 => by
    obtain ⟨h1, h2⟩ := both_sim W V S n
    obtain ⟨_, _, h3, _⟩ := both_lt W V n
    have h3 : pcame P (both M P n).2 < k := h3
    refine ⟨?_, ?_⟩
    · show Sim k M (nxt M _ _) O (nxt O _ _)
      rw [← h2]; exact h1.nxt h3
    · show plater P _ _ = plater P _ _
      rw [← h2, h1.ans h3]
theorem both_alike (W : WF k a M) (V : WP k a P) (S : Sim k M 0 O 0) (n : Nat) : bothTurn M P n = bothTurn O P n := by
  obtain ⟨h1, h2⟩ := both_sim W V S n
  obtain ⟨_, _, h3, _⟩ := both_lt W V n
  have h3 : pcame P (both M P n).2 < k := h3
  unfold bothTurn
  rw [← h2, h1.ans h3]
/-- while they go on -/
structure BInv (M : Mach) (P : Plan) (T : List (Nat × Nat)) (B : List ((Nat × Nat) × Nat)) (j : Nat) : Prop where
  turns : T = pre (bothTurn M P) 0 j
  nd : (B.map (·.1)).Nodup
  len : B.length = j
  beg : ∀ q b, (q, b) ∈ B → b < j ∧ q = both M P b
theorem BInv.start : BInv M P [] [] 0 := ⟨rfl, by simp, rfl, by simp⟩
theorem BInv.next {T : List (Nat × Nat)} {B : List ((Nat × Nat) × Nat)} {j : Nat} (I : BInv M P T B j) (h : both M P j ∉ B.map (·.1)) : BInv M P (T ++ [bothTurn M P j]) (B ++ [(both M P j, T.length)]) (j + 1) := by
  obtain ⟨h1, h3, h4, h5⟩ := I
  refine ⟨by rw [h1, pre_succ, Nat.zero_add], ?_, by simp [h4], ?_⟩
  · rw [List.map_append]
    refine List.nodup_append.mpr ⟨h3, by simp, fun x hx y hy => ?_⟩
    simp only [List.map_cons, List.map_nil, List.mem_singleton] at hy
    rintro rfl
    rw [hy] at hx
    exact h hx
  · intro q b hb
    rcases List.mem_append.mp hb with hb | hb
    · obtain ⟨g1, g2⟩ := h5 q b hb
      exact ⟨by omega, g2⟩
    · simp only [List.mem_singleton, Prod.mk.injEq] at hb
      obtain ⟨rfl, rfl⟩ := hb
      have : T.length = j := by rw [h1, pre_len]
      rw [this]
      exact ⟨by omega, rfl⟩
theorem BInv.len_le (W : WF k a M) (V : WP k a P) {T : List (Nat × Nat)} {B : List ((Nat × Nat) × Nat)} {j : Nat} (I : BInv M P T B j) : j ≤ M.length * P.length := by
  have := pairs_len I.nd (m := M.length) (n := P.length) fun x hx => by
    obtain ⟨⟨q, b⟩, hy, rfl⟩ := List.mem_map.mp hx
    obtain ⟨_, e⟩ := I.beg q b hy
    obtain ⟨g1, g2, _⟩ := both_lt W V b
    show q.1 < _ ∧ q.2 < _
    rw [e]
    exact ⟨g1, g2⟩
  rw [List.length_map, I.len] at this
  exact this
theorem BInv.done {T : List (Nat × Nat)} {B : List ((Nat × Nat) × Nat)} {j i : Nat} (I : BInv M P T B j) (hb : (both M P j, i) ∈ B) :
    i < T.length ∧ ∀ n, rowAt (T.take i) (T.drop i) n = some (bothTurn M P n) := by
  obtain ⟨h1, h3, h4, h5⟩ := I
  obtain ⟨g1, g2⟩ := h5 _ _ hb
  have hT : T.length = j := by rw [h1, pre_len]
  refine ⟨by omega, fun n => ?_⟩
  rw [h1, pre_take _ _ _ _ (by omega), pre_drop _ _ _ _ (by omega), Nat.zero_add]
  refine row_of (by omega) (both_per ?_) n
  rw [← g2]; congr 1; omega
/-- the plan's way through turns -/
def pkept (P : Plan) : Nat → List (Nat × Nat) → Option Nat
  | q, [] => some q
  | q, (c, a) :: t => if pcame P q = c then pkept P (plater P q a) t else none
theorem pkept_append (P : Plan) : ∀ (t t' : List (Nat × Nat)) (r : Nat), pkept P r (t ++ t') = (pkept P r t).bind fun q => pkept P q t'
  | [], _, _ => rfl
  | (c, a) :: t, t', r => by
    simp only [List.cons_append, pkept]
    split
    · exact pkept_append P t t' _
    · rfl
theorem pkept_both : ∀ (n a : Nat), pkept P (both M P a).2 (pre (bothTurn M P) a n) = some (both M P (a + n)).2
  | 0, a => rfl
  | n + 1, a => by
    rw [pre_cons]
    show (if pcame P (both M P a).2 = (bothTurn M P a).1 then pkept P (plater P (both M P a).2 (bothTurn M P a).2) (pre (bothTurn M P) (a + 1) n) else none) = _
    rw [if_pos (show pcame P (both M P a).2 = (bothTurn M P a).1 from rfl)]
    have := pkept_both n (a + 1)
    rw [show a + (n + 1) = a + 1 + n by omega]
    exact this
/-- stem and rounds of the loop of both: the plan goes along -/
theorem pkept_loop {s r : List (Nat × Nat)} (h : LoopOf (bothTurn M P) s r) (j : Nat) : pkept P 0 (s ++ (List.replicate j r).flatten) = some (both M P (s.length + j * r.length)).2 := by
  have e : rowF s r = bothTurn M P := by funext n; unfold rowF; rw [h.row]; rfl
  rw [rowF_rep h.lean.ne, e]
  have := pkept_both (M := M) (P := P) (s.length + j * r.length) 0
  rw [Nat.zero_add] at this
  exact this
end
end Wk
set_option Elab.async false
set_option linter.all false
set_option maxRecDepth 100000
set_option maxHeartbeats 4000000
/-! What stands in the heap: numbers, turns, machines, loops, plans, as tuples. -/
namespace Wk
open PySem PySem.Spec PyProof.Rows L2

/-! ### the text by places -/
def top (i : Nat) : Stmt := PySem.Challenge.pw_wishkeep_k31_whole_rooms_dont_matter.main.body.getD i (.Pass ⟨0, 0, 0, 0⟩)

/-! ### tuples stay -/
def TupS (H H' : Hp) : Prop := ∀ (a : Addr) (xs : List V), H a = some (.tup xs) → H' a = some (.tup xs)
theorem TupS.rfl' (H : Hp) : TupS H H := fun _ _ h => h
theorem TupS.trans {H H1 H2 : Hp} (a : TupS H H1) (b : TupS H1 H2) : TupS H H2 := fun c xs h => b c xs (a c xs h)
theorem _root_.L2.Same.tups {H H' : Hp} (s : Same H H') : TupS H H' := fun a xs h => s a _ h
theorem tups_upd {H : Hp} {l : Addr} {o : HO} (h : ∀ xs, H l ≠ some (.tup xs)) : TupS H (upd H l o) := fun a xs e => by
  rw [upd_ne fun z => h xs (by rw [← z]; exact e)]; exact e
theorem tups_new {H : Hp} {l : Addr} {o : HO} (h : H l = none) : TupS H (upd H l o) := tups_upd fun xs e => by rw [h] at e; cases e
theorem tups_lst {H : Hp} {l : Addr} {o : HO} {ys : List V} (h : H l = some (.lst ys)) : TupS H (upd H l o) := tups_upd fun xs e => by rw [h] at e; cases e
theorem tups_dK {H : Hp} {l : Addr} {o : HO} {ys : List (Key × V)} (h : H l = some (.dK ys)) : TupS H (upd H l o) := tups_upd fun xs e => by rw [h] at e; cases e
theorem tups_dT {H : Hp} {l : Addr} {o : HO} {ys : List (List Key × V)} (h : H l = some (.dT ys)) : TupS H (upd H l o) := tups_upd fun xs e => by rw [h] at e; cases e
theorem same_new {H : Hp} {p : Addr} {o : HO} (h : H p = none) : Same H (upd H p o) := fun b x e => by
  rw [upd_ne (ne_of_none e h)]
  exact e
/-- a thing of one's own is written -/
theorem _root_.L2.Same.own {H H1 : Hp} {l : Addr} {o : HO} (s : Same H H1) (h : H l = none) : Same H (upd H1 l o) := fun b x e => by
  rw [upd_ne (ne_of_none e h)]
  exact s b x e
/-- all but one thing stays -/
def SameX (d : Addr) (H H' : Hp) : Prop := ∀ (b : Addr) (o : HO), H b = some o → b ≠ d → H' b = some o
theorem SameX.rfl' (d : Addr) (H : Hp) : SameX d H H := fun _ _ h _ => h
theorem SameX.trans {d : Addr} {H H1 H2 : Hp} (a : SameX d H H1) (b : SameX d H1 H2) : SameX d H H2 := fun c o h n => b c o (a c o h n) n
theorem _root_.L2.Same.x {d : Addr} {H H' : Hp} (s : Same H H') : SameX d H H' := fun b o h _ => s b o h
theorem SameX.own {d : Addr} {H H1 : Hp} {l : Addr} {o : HO} (s : SameX d H H1) (h : H l = none) : SameX d H (upd H1 l o) := fun b x e n => by
  rw [upd_ne (ne_of_none e h)]
  exact s b x e n
theorem SameX.tups {d : Addr} {H H' : Hp} (s : SameX d H H') (h : ∀ xs, H d ≠ some (.tup xs)) : TupS H H' := fun a xs e => s a _ e fun z => h xs (by rw [← z]; exact e)

/-- a clause without tests -/
theorem yes {σ : L2.St} {H : Hp} {A B : Hp → Prop} (h : A H) : tYes σ H (fun b H3 => if b = true then A H3 else B H3) := h
/-! ### rows of values -/
abbrev nv (n : Nat) : V := .int (n : Int)
structure IsSeq {α : Type} (R : V → α → Prop) (vs : List V) (xs : List α) : Prop where
  len : vs.length = xs.length
  at_ : ∀ (i : Nat) (v : V) (x : α), vs[i]? = some v → xs[i]? = some x → R v x
section
variable {α : Type} {R R' : V → α → Prop} {vs us : List V} {xs ys : List α}
theorem IsSeq.get (h : IsSeq R vs xs) {i : Nat} {x : α} (e : xs[i]? = some x) : ∃ v, vs[i]? = some v ∧ R v x := by
  have hi : i < vs.length := by rw [h.len]; exact (List.getElem?_eq_some_iff.mp e).1
  exact ⟨vs[i], List.getElem?_eq_getElem hi, h.at_ i _ _ (List.getElem?_eq_getElem hi) e⟩
theorem IsSeq.getV (h : IsSeq R vs xs) {i : Nat} {v : V} (e : vs[i]? = some v) : ∃ x, xs[i]? = some x ∧ R v x := by
  have hi : i < xs.length := by rw [← h.len]; exact (List.getElem?_eq_some_iff.mp e).1
  exact ⟨xs[i], List.getElem?_eq_getElem hi, h.at_ i _ _ e (List.getElem?_eq_getElem hi)⟩
theorem IsSeq.mono (h : IsSeq R vs xs) (m : ∀ v x, R v x → R' v x) : IsSeq R' vs xs := ⟨h.len, fun i v x a b => m v x (h.at_ i v x a b)⟩
theorem IsSeq.nil : IsSeq R [] [] := ⟨rfl, fun i v x a => by simp at a⟩
theorem IsSeq.append (h : IsSeq R vs xs) (g : IsSeq R us ys) : IsSeq R (vs ++ us) (xs ++ ys) := by
  refine ⟨by rw [List.length_append, List.length_append, h.len, g.len], fun i v x a b => ?_⟩
  by_cases hi : i < vs.length
  · rw [List.getElem?_append_left hi] at a
    rw [List.getElem?_append_left (by rw [← h.len]; exact hi)] at b
    exact h.at_ i v x a b
  · rw [List.getElem?_append_right (by omega)] at a
    rw [List.getElem?_append_right (by rw [← h.len]; omega), ← h.len] at b
    exact g.at_ _ v x a b
theorem IsSeq.one {v : V} {x : α} (h : R v x) : IsSeq R [v] [x] := by
  refine ⟨rfl, fun i u y a b => ?_⟩
  cases i with
  | zero =>
    cases (Option.some.inj a)
    cases (Option.some.inj b)
    exact h
  | succ i => simp at a
theorem IsSeq.snoc {v : V} {x : α} (h : IsSeq R vs xs) (g : R v x) : IsSeq R (vs ++ [v]) (xs ++ [x]) := h.append (IsSeq.one g)
theorem IsSeq.take (h : IsSeq R vs xs) (n : Nat) : IsSeq R (vs.take n) (xs.take n) := by
  refine ⟨by rw [List.length_take, List.length_take, h.len], fun i v x a b => ?_⟩
  have hi : i < n := by have := (List.getElem?_eq_some_iff.mp a).1; rw [List.length_take] at this; omega
  rw [List.getElem?_take_of_lt hi] at a b
  exact h.at_ i v x a b
theorem IsSeq.drop (h : IsSeq R vs xs) (n : Nat) : IsSeq R (vs.drop n) (xs.drop n) := by
  refine ⟨by rw [List.length_drop, List.length_drop, h.len], fun i v x a b => ?_⟩
  rw [List.getElem?_drop] at a b
  exact h.at_ _ v x a b
theorem IsSeq.rep (h : IsSeq R vs xs) : ∀ k : Nat, IsSeq R (List.replicate k vs).flatten (List.replicate k xs).flatten
  | 0 => IsSeq.nil
  | k + 1 => by
    rw [List.replicate_succ, List.replicate_succ, List.flatten_cons, List.flatten_cons]
    exact h.append (IsSeq.rep h k)
theorem IsSeq.emp (h : IsSeq R vs xs) : vs = [] ↔ xs = [] := by
  rw [← List.length_eq_zero_iff, ← List.length_eq_zero_iff, h.len]
end

/-! ### things -/
def Tp (H : Hp) (v : V) (xs : List V) : Prop := ∃ a, v = .ref a ∧ H a = some (.tup xs)
def IsPair (H : Hp) (v : V) (p : Nat × Nat) : Prop := Tp H v [nv p.1, nv p.2]
def IsInts (H : Hp) (v : V) (w : List Nat) : Prop := Tp H v (w.map nv)
def IsPairs (H : Hp) (v : V) (ps : List (Nat × Nat)) : Prop := ∃ vs, Tp H v vs ∧ IsSeq (IsPair H) vs ps
def IsMach (H : Hp) (v : V) (M : Mach) : Prop := ∃ vs, Tp H v vs ∧ IsSeq (IsPairs H) vs M
def IsLoop (H : Hp) (v : V) (s r : List (Nat × Nat)) : Prop := ∃ x y, Tp H v [x, y] ∧ IsPairs H x s ∧ IsPairs H y r
def IsPRoom (H : Hp) (v : V) (p : Nat × List Nat) : Prop := ∃ y, Tp H v [nv p.1, y] ∧ IsInts H y p.2
def IsPlan (H : Hp) (v : V) (P : Plan) : Prop := ∃ vs, Tp H v vs ∧ IsSeq (IsPRoom H) vs P
section
variable {H H' : Hp} {v : V}
theorem Tp.mono {xs : List V} (h : Tp H v xs) (t : TupS H H') : Tp H' v xs := let ⟨a, e, g⟩ := h; ⟨a, e, t a _ g⟩
theorem IsPair.mono {p : Nat × Nat} (h : IsPair H v p) (t : TupS H H') : IsPair H' v p := Tp.mono h t
theorem IsInts.mono {w : List Nat} (h : IsInts H v w) (t : TupS H H') : IsInts H' v w := Tp.mono h t
theorem IsPairs.mono {ps : List (Nat × Nat)} (h : IsPairs H v ps) (t : TupS H H') : IsPairs H' v ps := let ⟨vs, a, b⟩ := h; ⟨vs, a.mono t, b.mono fun _ _ z => z.mono t⟩
theorem IsMach.mono {M : Mach} (h : IsMach H v M) (t : TupS H H') : IsMach H' v M := let ⟨vs, a, b⟩ := h; ⟨vs, a.mono t, b.mono fun _ _ z => z.mono t⟩
theorem IsLoop.mono {s r : List (Nat × Nat)} (h : IsLoop H v s r) (t : TupS H H') : IsLoop H' v s r := let ⟨x, y, a, b, c⟩ := h; ⟨x, y, a.mono t, b.mono t, c.mono t⟩
theorem IsPRoom.mono {p : Nat × List Nat} (h : IsPRoom H v p) (t : TupS H H') : IsPRoom H' v p := let ⟨y, a, b⟩ := h; ⟨y, a.mono t, b.mono t⟩
theorem IsPlan.mono {P : Plan} (h : IsPlan H v P) (t : TupS H H') : IsPlan H' v P := let ⟨vs, a, b⟩ := h; ⟨vs, a.mono t, b.mono fun _ _ z => z.mono t⟩
theorem ints_get {w : List Nat} {i : Nat} {n : Nat} (h : w[i]? = some n) : (w.map nv)[i]? = some (nv n) := by rw [List.getElem?_map, h]; rfl
theorem nv_inj {m n : Nat} (h : nv m = nv n) : m = n := by
  have := V.int.inj h
  omega
theorem dec_nv {m n : Nat} : decide (nv m = nv n) = decide (m = n) := by
  by_cases e : m = n
  · rw [e, decide_eq_true rfl, decide_eq_true rfl]
  · rw [decide_eq_false e, decide_eq_false fun z => e (nv_inj z)]
end

/-! ### the defs that a caller knows -/
structure Has (P : Program) (w : World) (K : PySem.W.Frag) (mg : Str → Option Value) (base : Heap) (x : Str) (ps : List Str) (k : Nat) (sp : Sp) : Prop where
  ex : ∃ (f : Addr) (fd : FuncData), FnOk P w K mg base CX0 k f fd ps sp ∧ mg x = some (.ref f) ∧ PySem.W.keepIn K (.ref f) = true ∧ Binds K fd ps []
structure Txt (mg : Str → Option Value) : Prop where
  isinst : mg "isinstance" = none
  int_ : mg "int" = none
  bool_ : mg "bool" = none
  range_ : mg "range" = none
  len_ : mg "len" = none
  tuple_ : mg "tuple" = none
  all_ : mg "all" = none
  dict_ : mg "dict" = none
  zip_ : mg "zip" = none
  enum_ : mg "enumerate" = none
  min_ : mg "min" = none
  max_ : mg "max" = none
  abs_ : mg "abs" = none
  turns_ : ∃ t, mg "MOST_TURNS" = some (.int 200 t)
  letters_ : ∃ t, mg "MOST_LETTERS" = some (.int 10000 t)
end Wk
set_option Elab.async false
set_option linter.all false
set_option maxRecDepth 100000
set_option maxHeartbeats 4000000
/-! Equal things; slices and sums of tuples. -/
namespace Wk
open PySem PySem.Spec PyProof.Rows L2

/-! ### data -/
section
variable {K : PySem.W.Frag} {H : Hp} {α : Type}
theorem dpAll_of {R : V → α → Prop} {e : α → PyData} (d : ∀ v x, R v x → Dp K H v (e x)) : ∀ {vs : List V} {xs : List α}, IsSeq R vs xs → DpAll K H vs (xs.map e)
  | [], [], _ => .nil
  | [], _ :: _, h => by have := h.len; simp at this
  | _ :: _, [], h => by have := h.len; simp at this
  | v :: vs, x :: xs, h => .cons (d v x (h.at_ 0 v x rfl rfl)) (dpAll_of d ⟨by simpa using h.len, fun i v x a b => h.at_ (i + 1) v x (by simpa using a) (by simpa using b)⟩)
theorem eqvAll_map [DecidableEq α] {e : α → PyData} (h : ∀ x y, PyData.eqv (e x) (e y) = decide (x = y)) : ∀ xs ys : List α, PyData.eqvAll (xs.map e) (ys.map e) = decide (xs = ys)
  | [], [] => by simp [PyData.eqvAll]
  | [], _ :: _ => by simp [PyData.eqvAll]
  | _ :: _, [] => by simp [PyData.eqvAll]
  | x :: xs, y :: ys => by
    rw [List.map_cons, List.map_cons, PyData.eqvAll, h, eqvAll_map h xs ys]
    by_cases e1 : x = y
    · by_cases e2 : xs = ys
      · simp [e1, e2]
      · simp [e1, e2]
    · simp [e1]
theorem layAll_map {e : α → PyData} (h : ∀ x, (e x).canLay0 = true) : ∀ xs : List α, PyData.canLayAll0 (xs.map e) = true
  | [] => by simp [PyData.canLayAll0]
  | x :: xs => by rw [List.map_cons, PyData.canLayAll0, h, layAll_map h xs]; rfl
theorem depthAll_map {e : α → PyData} {n : Nat} (h : ∀ x, (e x).depth ≤ n) : ∀ xs : List α, PyData.depthAll (xs.map e) ≤ n
  | [] => by simp [PyData.depthAll]
  | x :: xs => by
    rw [List.map_cons, PyData.depthAll]
    exact Nat.max_le.mpr ⟨h x, depthAll_map h xs⟩
/-- a kind of things that == tells apart -/
structure Eqs [DecidableEq α] (K : PySem.W.Frag) (R : Hp → V → α → Prop) (e : α → PyData) (n : Nat) : Prop where
  dp : ∀ {H v x}, R H v x → Dp K H v (e x)
  eq : ∀ x y, PyData.eqv (e x) (e y) = decide (x = y)
  lay : ∀ x, (e x).canLay0 = true
  dep : ∀ x, (e x).depth ≤ n
theorem Eqs.shaped [DecidableEq α] {R : Hp → V → α → Prop} {e : α → PyData} {n : Nat} (E : Eqs K R e n) (hn : n ≤ 64 := by decide) (x : α) : SeqAt.shaped (e x) = true := by
  unfold SeqAt.shaped
  rw [E.lay x, decide_eq_true (Nat.le_trans (E.dep x) hn)]; rfl
theorem Eqs.req [DecidableEq α] {R : Hp → V → α → Prop} {e : α → PyData} {n : Nat} (E : Eqs K R e n) {v u : V} {x y : α} {Q : VK} (hx : R H v x) (hy : R H u y) (q : Q (.bl (decide (x = y))) H) (hn : n ≤ 64 := by decide) : rEqD K v u H Q :=
  ⟨e x, e y, E.dp hx, E.dp hy, E.shaped hn x, E.shaped hn y, by rw [E.eq]; exact q⟩
theorem Eqs.rne [DecidableEq α] {R : Hp → V → α → Prop} {e : α → PyData} {n : Nat} (E : Eqs K R e n) {v u : V} {x y : α} {Q : VK} (hx : R H v x) (hy : R H u y) (q : Q (.bl (!decide (x = y))) H) (hn : n ≤ 64 := by decide) : rNeD K v u H Q :=
  ⟨e x, e y, E.dp hx, E.dp hy, E.shaped hn x, E.shaped hn y, by rw [E.eq]; exact q⟩
/-- a tuple of such -/
theorem Eqs.seq [DecidableEq α] {R : Hp → V → α → Prop} {e : α → PyData} {n : Nat} (E : Eqs K R e n) : Eqs K (fun H v xs => ∃ vs, Tp H v vs ∧ IsSeq (R H) vs xs) (fun xs => .tuple (xs.map e)) (n + 1) where
  dp := fun ⟨vs, ⟨a, ev, ha⟩, hs⟩ => by rw [ev]; exact .tup (SqT.of ha) (dpAll_of (e := e) (fun v x z => E.dp z) hs)
  eq := fun x y => by rw [PyData.eqv]; exact eqvAll_map E.eq x y
  lay := fun x => by rw [PyData.canLay0]; exact layAll_map E.lay x
  dep := fun x => by rw [PyData.depth]; exact Nat.succ_le_succ (depthAll_map E.dep x)
/-- a list of such -/
theorem Eqs.lseq [DecidableEq α] {R : Hp → V → α → Prop} {e : α → PyData} {n : Nat} (E : Eqs K R e n) : Eqs K (fun H v xs => ∃ a vs, v = .ref a ∧ H a = some (.lst vs) ∧ IsSeq (R H) vs xs) (fun xs => .list (xs.map e)) (n + 1) where
  dp := fun ⟨a, vs, ev, ha, hs⟩ => by rw [ev]; exact .lst (SqL.of ha) (dpAll_of (e := e) (fun v x z => E.dp z) hs)
  eq := fun x y => by rw [PyData.eqv]; exact eqvAll_map E.eq x y
  lay := fun x => by rw [PyData.canLay0]; exact layAll_map E.lay x
  dep := fun x => by rw [PyData.depth]; exact Nat.succ_le_succ (depthAll_map E.dep x)
theorem eqs_nat : Eqs K (fun _ v n => v = nv n) (fun n => .int (n : Int)) 0 where
  dp := fun h => by rw [h]; exact .int _
  eq := fun x y => by
    rw [PyData.eqv]
    by_cases e : x = y
    · simp [e]
    · rw [decide_eq_false e]; simp; omega
  lay := fun x => by rw [PyData.canLay0]
  dep := fun x => by rw [PyData.depth]; exact Nat.le_refl _
theorem eqs_int : Eqs K (fun _ v n => v = V.int n) (fun n => .int n) 0 where
  dp := fun h => by rw [h]; exact .int _
  eq := fun x y => by
    rw [PyData.eqv]
    by_cases e : x = y
    · simp [e]
    · rw [decide_eq_false e]; simp [e]
  lay := fun x => by rw [PyData.canLay0]
  dep := fun x => by rw [PyData.depth]; exact Nat.le_refl _
theorem eqs_bl : Eqs K (fun _ v n => v = V.bl n) (fun n => .bool n) 0 where
  dp := fun h => by rw [h]; exact .bl _
  eq := fun x y => by
    rw [PyData.eqv]
    cases x <;> cases y <;> rfl
  lay := fun x => by rw [PyData.canLay0]
  dep := fun x => by rw [PyData.depth]; exact Nat.le_refl _
theorem seq_map {β : Type} {R : V → β → Prop} {f : β → V} (h : ∀ b, R (f b) b) (xs : List β) : IsSeq R (xs.map f) xs := by
  refine ⟨by simp, fun i v x a b => ?_⟩
  rw [List.getElem?_map, b] at a
  cases (Option.some.inj a)
  exact h x
theorem eqs_ints : Eqs K IsInts (fun w => .tuple (w.map fun n : Nat => .int (n : Int))) 1 :=
  { eqs_nat.seq (K := K) with dp := fun {H v w} h => (eqs_nat.seq (K := K)).dp ⟨_, h, seq_map (R := fun v (n : Nat) => v = nv n) (f := nv) (fun _ => rfl) w⟩ }
theorem eqs_pair : Eqs K IsPair (fun p => .tuple [.int (p.1 : Int), .int (p.2 : Int)]) 1 where
  dp := fun ⟨a, ev, ha⟩ => by rw [ev]; exact .tup (SqT.of ha) (.cons (.int _) (.cons (.int _) .nil))
  eq := fun x y => by
    have := (eqs_nat.seq (K := K)).eq [x.1, x.2] [y.1, y.2]
    have e : (decide ([x.1, x.2] = [y.1, y.2])) = decide (x = y) := by
      apply decide_eq_decide.mpr
      constructor
      · intro h; simp at h; exact Prod.ext h.1 h.2
      · intro h; rw [h]
    rw [← e]; exact this
  lay := fun x => (eqs_nat.seq (K := K)).lay [x.1, x.2]
  dep := fun x => (eqs_nat.seq (K := K)).dep [x.1, x.2]
abbrev ePairs (ps : List (Nat × Nat)) : PyData := .tuple (ps.map fun p => .tuple [.int (p.1 : Int), .int (p.2 : Int)])
theorem eqs_pairs : Eqs K IsPairs ePairs 2 := eqs_pair.seq
theorem eqs_mach : Eqs K IsMach (fun M => .tuple (M.map ePairs)) 3 := eqs_pairs.seq
theorem eqs_loop : Eqs K (fun H v (p : List (Nat × Nat) × List (Nat × Nat)) => IsLoop H v p.1 p.2) (fun p => .tuple [ePairs p.1, ePairs p.2]) 3 where
  dp := fun ⟨x, y, ⟨a, ev, ha⟩, h1, h2⟩ => by rw [ev]; exact .tup (SqT.of ha) (.cons (eqs_pairs.dp h1) (.cons (eqs_pairs.dp h2) .nil))
  eq := fun x y => by
    have := (eqs_pairs.seq (K := K)).eq [x.1, x.2] [y.1, y.2]
    have e : (decide ([x.1, x.2] = [y.1, y.2])) = decide (x = y) := by
      apply decide_eq_decide.mpr
      constructor
      · intro h; simp at h; exact Prod.ext h.1 h.2
      · intro h; rw [h]
    rw [← e]; exact this
  lay := fun x => (eqs_pairs.seq (K := K)).lay [x.1, x.2]
  dep := fun x => (eqs_pairs.seq (K := K)).dep [x.1, x.2]
end

/-! ### slices -/
theorem sIx_neg1 (n d : Nat) (h : 0 < n) : HT.sIx n d (some (-1)) = n - 1 := by
  show (if (-1 : Int) < 0 then ((-1 : Int) + (n : Int)).toNat else min (-1 : Int).toNat n) = n - 1
  rw [if_pos (by decide)]
  omega
theorem cut_to {xs : List V} {k : Nat} : cutV xs none (some (k : Int)) = xs.take k := by
  unfold cutV
  rw [HT.sIx_none, HT.sIx_nat, List.drop_zero, Nat.sub_zero]
  by_cases h : k ≤ xs.length
  · rw [Nat.min_eq_left h]
  · rw [Nat.min_eq_right (by omega), List.take_length, List.take_of_length_le (by omega)]
theorem cut_from {xs : List V} {k : Nat} : cutV xs (some (k : Int)) none = xs.drop k := by
  unfold cutV
  rw [HT.sIx_none, HT.sIx_nat]
  by_cases h : k ≤ xs.length
  · rw [Nat.min_eq_left h, List.take_of_length_le (by rw [List.length_drop]; exact Nat.le_refl _)]
  · rw [Nat.min_eq_right (by omega), List.drop_length, List.drop_of_length_le (by omega)]
    simp
theorem cut_init {xs : List V} (h : 0 < xs.length) : cutV xs none (some (-1)) = xs.take (xs.length - 1) := by
  unfold cutV
  rw [HT.sIx_none, sIx_neg1 _ _ h, List.drop_zero, Nat.sub_zero]
theorem cut_last {xs : List V} (h : 0 < xs.length) : cutV xs (some (-1)) none = xs.drop (xs.length - 1) := by
  unfold cutV
  rw [HT.sIx_none, sIx_neg1 _ _ h, List.take_of_length_le (by rw [List.length_drop]; exact Nat.le_refl _)]
section
variable {K : PySem.W.Frag} {H : Hp} {Q : VK}
theorem sl_tp {v : V} {xs : List V} {lo hi : Option Int} (h : Tp H v xs) (q : ∀ (v' : V) (H' : Hp), Same H H' → Tp H' v' (cutV xs lo hi) → Q v' H') : rSlA K v lo hi H Q := by
  obtain ⟨a, rfl, ha⟩ := h
  refine ⟨a, xs, rfl, SqT.of ha, fun ⟨h1, h2⟩ => ?_, fun _ p hp => q _ _ (same_new hp) ⟨p, rfl, upd_same⟩⟩
  refine q _ _ (Same.refl H) ⟨a, rfl, ?_⟩
  have : cutV xs lo hi = xs := by
    unfold cutV
    rw [h1, h2, List.drop_zero, Nat.sub_zero, List.take_length]
  rw [this]; exact ha
theorem sl_fr {σ : L2.St} {v : V} {xs : List V} {lo : Option Int} (h : Tp H v xs) (q : ∀ (v' : V) (H' : Hp), Same H H' → Tp H' v' (cutV xs lo none) → Q v' H') : tNoPart σ H (fun u H3 => rSlA K v lo u H3 Q) := sl_tp h q
theorem cat_tp {v u : V} {xs ys : List V} (h : Tp H v xs) (g : Tp H u ys) (hz : xs.length + ys.length ≤ 100000) (q : ∀ (v' : V) (H' : Hp), Same H H' → Tp H' v' (xs ++ ys) → Q v' H') : rCatA K v u H Q := by
  obtain ⟨a, rfl, ha⟩ := h
  obtain ⟨b, rfl, hb⟩ := g
  refine ⟨a, b, xs, ys, rfl, rfl, SqT.of ha, SqT.of hb, by rw [sizeLine_eq]; omega, fun e => ?_, fun _ e => ?_, fun _ _ p hp => q _ _ (same_new hp) ⟨p, rfl, upd_same⟩⟩
  · exact q _ _ (Same.refl H) ⟨b, rfl, by rw [e]; exact hb⟩
  · exact q _ _ (Same.refl H) ⟨a, rfl, by rw [e, List.append_nil]; exact ha⟩
theorem sz {n : Nat} (h : n ≤ 100000) : n ≤ sizeLine := by rw [sizeLine_eq]; omega
theorem szl {n : Nat} (h : n ≤ 100000) : n < sizeLine := by rw [sizeLine_eq]; omega
end
end Wk
set_option Elab.async false
set_option linter.all false
set_option maxRecDepth 100000
set_option maxHeartbeats 4000000
/-! Reading machines and plans; dicts of numbers; lists of turns. -/
namespace Wk
open PySem PySem.Spec PyProof.Rows L2

theorem boot_tuple3 : bootBuiltins "tuple" = some (.type "tuple") := by decide +kernel
/-- a list of turns -/
def IsLst (H : Hp) (v : V) (ps : List (Nat × Nat)) : Prop := ∃ a vs, v = .ref a ∧ H a = some (.lst vs) ∧ IsSeq (IsPair H) vs ps
theorem IsLst.mono {H H' : Hp} {v : V} {ps : List (Nat × Nat)} (h : IsLst H v ps) (s : Same H H') : IsLst H' v ps :=
  let ⟨a, vs, e, g, i⟩ := h; ⟨a, vs, e, s _ _ g, i.mono fun _ _ z => z.mono s.tups⟩

section
variable {H : Hp} {v : V} {M : Mach} {k a r c : Nat}
theorem mach_room (h : IsMach H v M) (W : WF k a M) (hr : r < M.length) : ∃ (p : Addr) (vs : List V) (q : Addr) (us : List V) (R : Room), v = .ref p ∧ H p = some (.tup vs) ∧ vs.length = M.length ∧ vs[r]? = some (.ref q) ∧ H q = some (.tup us) ∧ us.length = k ∧ M[r]? = some R ∧ R.length = k ∧ IsSeq (IsPair H) us R ∧ ∀ c, c < k → R[c]? = some (cell M r c) := by
  obtain ⟨vs, ⟨p, rfl, hp⟩, hs⟩ := h
  obtain ⟨R, h1, h2, h3⟩ := W.room hr
  obtain ⟨x, hx, us, ⟨q, rfl, hq⟩, hus⟩ := hs.get h1
  exact ⟨p, vs, q, us, R, rfl, hp, hs.len, hx, hq, by rw [hus.len, h2], h1, h2, hus, h3⟩
theorem mach_cell (h : IsMach H v M) (W : WF k a M) (hr : r < M.length) (hc : c < k) : ∃ (p : Addr) (vs : List V) (q : Addr) (us : List V) (d : Addr), v = .ref p ∧ H p = some (.tup vs) ∧ vs[r]? = some (.ref q) ∧ H q = some (.tup us) ∧ us[c]? = some (.ref d) ∧ H d = some (.tup [nv (ans M r c), nv (nxt M r c)]) := by
  obtain ⟨p, vs, q, us, R, e, h1, h2, h3, h4, h5, h6, h7, h8, h9⟩ := mach_room h W hr
  obtain ⟨x, hx, d, rfl, hd⟩ := h8.get (h9 c hc)
  exact ⟨p, vs, q, us, d, e, h1, h3, h4, hx, hd⟩
theorem plan_room {P : Plan} {q : Nat} (h : IsPlan H v P) (W : WP k a P) (hq : q < P.length) : ∃ (p : Addr) (vs : List V) (x us : Addr) (l : List Nat), v = .ref p ∧ H p = some (.tup vs) ∧ vs[q]? = some (.ref x) ∧ H x = some (.tup [nv (pcame P q), .ref us]) ∧ H us = some (.tup (l.map nv)) ∧ l.length = a ∧ pcame P q < k ∧ ∀ b, b < a → l[b]? = some (plater P q b) ∧ plater P q b < P.length := by
  obtain ⟨vs, ⟨p, rfl, hp⟩, hs⟩ := h
  obtain ⟨l, h1, h2, h3, h4⟩ := W.get hq
  obtain ⟨y, hy, z, ⟨x, rfl, hx⟩, ⟨us, rfl, hus⟩⟩ := hs.get h1
  exact ⟨p, vs, x, us, l, rfl, hp, hy, hx, hus, h3, h2, h4⟩
end

/-! ### in a list of numbers -/
theorem inV_nat (n : Nat) : ∀ F : List Nat, inV (nv n) (F.map nv) = decide (n ∈ F)
  | [] => by simp [inV]
  | x :: F => by
    have ih := inV_nat n F
    unfold inV at ih ⊢
    rw [List.map_cons, List.any_cons, ih]
    have e : eqV (nv x) (nv n) = decide (x = n) := by
      show ((x : Int) == (n : Int)) = decide (x = n)
      by_cases z : x = n
      · simp [z]
      · rw [decide_eq_false z]; simp; omega
    rw [e]
    by_cases z : x = n
    · simp [z]
    · by_cases m : n ∈ F
      · simp [m]
      · rw [decide_eq_false z, decide_eq_false m]
        simp only [Bool.or_false]
        symm
        apply decide_eq_false
        simp only [List.mem_cons, not_or]
        exact ⟨fun e => z e.symm, m⟩
theorem flat_nats (F : List Nat) : (F.map nv).all flatV = true := by simp [flatV]

/-! ### dicts from numbers to numbers -/
abbrev dE (p : Nat × Nat) : Key × V := (Sum.inl (p.1 : Int), nv p.2)
theorem dE_val (r : Nat) : ∀ B : List (Nat × Nat), (∃ b, (r, b) ∈ B ∧ valV (B.map dE) (Sum.inl (r : Int)) = some (nv b)) ∨ (r ∉ B.map (·.1) ∧ valV (B.map dE) (Sum.inl (r : Int)) = none)
  | [] => .inr ⟨by simp, rfl⟩
  | (q, b) :: B => by
    rw [List.map_cons]
    by_cases e : q = r
    · subst e
      exact .inl ⟨b, by simp, valV_pos rfl⟩
    · have hne : ¬ (dE (q, b)).1 = (Sum.inl (r : Int) : Key) := fun z => e (by have := Sum.inl.inj z; exact Int.ofNat.inj this)
      rw [valV_neg hne]
      rcases dE_val r B with ⟨b', h1, h2⟩ | ⟨h1, h2⟩
      · exact .inl ⟨b', by simp [h1], h2⟩
      · refine .inr ⟨?_, h2⟩
        simp only [List.map_cons, List.mem_cons, not_or]
        exact ⟨fun z => e z.symm, h1⟩
end Wk
set_option Elab.async false
set_option linter.all false
set_option maxRecDepth 100000
set_option maxHeartbeats 4000000
namespace Wk
open PySem PySem.Spec PyProof.Rows L2
abbrev sAmong : Stmt := top 6
abbrev sIsRun : Stmt := top 11
abbrev sNeedRun : Stmt := top 12
abbrev sNeedCycle : Stmt := top 13
section
variable {P : Program} {w : World} {K : PySem.W.Frag} {mg : Str → Option Value} {base : Heap}
/-! ### is_among -/
def spAmong : Sp := fun vs H Q _ => ∃ t lo hi : Int, vs = [.int t, .int lo, .int hi] ∧ lo ≤ t ∧ t ≤ hi ∧ Q (.bl true) H
theorem scAmong : FnScope ["thing", "least", "most"] ["thing", "least", "most"] (defScope sAmong) := ⟨rfl, rfl, rfl, by decide +kernel, rfl, by decide +kernel, by decide +kernel⟩
theorem boot_isi : bootBuiltins "isinstance" = some (.builtin "isinstance") := by decide +kernel
theorem boot_int_ : bootBuiltins "int" = some (.type "int") := by decide +kernel
theorem boot_bool_ : bootBuiltins "bool" = some (.type "bool") := by decide +kernel
theorem boot_tuple_ : bootBuiltins "tuple" = some (.type "tuple") := by decide +kernel
theorem boot_all_ : bootBuiltins "all" = some (.builtin "all") := by decide +kernel
theorem ok_among {f : Addr} {fd : FuncData} (F : Fun K "is_among" "is_among" sAmong f fd) (T : Txt mg) : FnOk P w K mg base CX0 1 f fd ["thing", "least", "most"] spAmong := by
  refine F.ok scAmong (fun vs H Q E h => ?_) (fun cdv A outer s H vs Q E hr h => ?_)
  · obtain ⟨t, lo, hi, rfl, _⟩ := h
    rfl
  · obtain ⟨t, lo, hi, rfl, h1, h2, k⟩ := h
    refine ⟨_, pss_one (ps_ret (pe_and (pe_callB call_isi (by rfl) T.isinst boot_isi (pa_cons (pv 0) (pa_cons (pe_bltn (v := .ty "int") (by rfl) T.int_ boot_int_ rfl) pa_nil)))
      (pe_and (pe_not (pe_callB call_isi (by rfl) T.isinst boot_isi (pa_cons (pv 0) (pa_cons (pe_bltn (v := .ty "bool") (by rfl) T.bool_ boot_bool_ rfl) pa_nil))))
        (pe_one (pe_chain op_le op_le (pv 1) (pv 0) (pv 2)))))), ?_⟩
    refine ⟨_, rfl, _, _, _, _, true, rfl, .ty "int", .base (.int _), kit_ty (by decide +kernel), true, rfl, iteT ?_⟩
    refine ⟨_, rfl, _, _, _, _, false, rfl, .ty "bool", .base (.int _), kit_ty (by decide +kernel), false, rfl, true, rfl, iteT ?_⟩
    refine ⟨_, rfl, _, rfl, _, _, rfl, rfl, _, rfl, ?_⟩
    rw [decide_eq_true h1]
    refine iteT ⟨_, rfl, _, _, rfl, rfl, ?_⟩
    show Q (V.bl (decide (t ≤ hi))) H
    rw [decide_eq_true h2]
    exact k
/-! ### is_run, need_run -/
def spRun : Sp := fun vs H Q _ => ∃ (k : Nat) (v : V) (u : List Nat), vs = [nv k, v] ∧ IsInts H v u ∧ (∀ c ∈ u, c < k) ∧ u.length ≤ 10000 ∧ ∀ H', Same H H' → Q (.bl true) H'
theorem scIsRun : FnScope ["many", "thing", "letter"] ["many", "thing"] (defScope sIsRun) := ⟨rfl, rfl, rfl, by decide +kernel, rfl, by decide +kernel, by decide +kernel⟩
theorem ok_isrun {f : Addr} {fd : FuncData} (F : Fun K "is_run" "is_run" sIsRun f fd) (T : Txt mg) (A1 : Has P w K mg base "is_among" ["thing", "least", "most"] 1 spAmong) : FnOk P w K mg base CX0 2 f fd ["many", "thing"] spRun := by
  obtain ⟨f1, fd1, G1, g1, k1, b1⟩ := A1.ex
  obtain ⟨tl, el⟩ := T.letters_
  refine F.ok scIsRun (fun vs H Q E h => ?_) (fun cdv A outer s H vs Q E hr h => ?_)
  · obtain ⟨_, _, _, rfl, _⟩ := h
    rfl
  · obtain ⟨k, v, u, rfl, ⟨a, rfl, ha⟩, hu, hl, q⟩ := h
    refine ⟨_, pss_cons (ps_if (PW.pt (pw_or (pt_not (pt_val (pe_callB call_isi (by rfl) T.isinst boot_isi (pa_cons (pv 1) (pa_cons (pe_bltn (v := .ty "tuple") (by rfl) T.tuple_ boot_tuple_ rfl) pa_nil)))))
        (pw_or1 (pt_cmpR op_gt (pe_callB call_len_seq (by rfl) T.len_ PySem.boot_len (pa_cons (pv 1) pa_nil)) (pe_glob (v := .int 10000) rfl el ⟨_, rfl⟩) (nomark _))))) (pss_one (ps_ret pe_bl)) pss_nil)
      (pss_one (ps_ret (pe_callB (cr_all rfl) (by rfl) T.all_ boot_all_ (pa_cons (pe_lc (own := [("letter", 2)]) (g := gName 2) (tt := tYes) rfl scIsRun.nd (pi_tup (pv 1)) (blkOk_by (N := ["many", "thing", "letter"]) (sc := defScope sIsRun) (by decide +kernel)) (fun _ _ _ _ _ => pg_name (i := 2) scIsRun.nd rfl (Or.inl rfl)) (fun _ _ _ _ _ => pts_nil)
        (fun _ _ _ _ _ => pe_call G1 hr (by rfl) g1 k1 b1 .nil pass0 (pa_cons (pv 2) (pa_cons pe_int (pa_cons (pe_op op_sub (pv 0) pe_int) pa_nil))))) pa_nil)))), ?_⟩
    refine ⟨_, rfl, _, _, _, _, true, rfl, .ty "tuple", .base (.tup ha), kit_ty (by decide +kernel), true, rfl, iteF ?_⟩
    refine ⟨_, rfl, a, _, rfl, .inr (SqT.of ha), _, _, rfl, rfl, _, rfl, ?_⟩
    rw [decide_eq_false (by rw [List.length_map]; omega)]
    refine iteF ?_
    refine ⟨_, rfl, a, rfl, ⟨_, SqT.of ha⟩, fun D hD => lc_tup (K := K) (a := a) (xs := u.map nv) (fun i H2 => Same H H2 ∧ H2 D = some (.lst ((List.replicate i true).map V.bl))) ⟨same_new hD, upd_same⟩ (fun i H2 _ h2 => SqT.of (h2.1 _ _ ha)) ?_ ?_⟩
    · rintro i x H2 hx ⟨s2, d2⟩
      rw [List.getElem?_map] at hx
      obtain ⟨c, hc, rfl⟩ := Option.map_eq_some_iff.mp hx
      have hil : i < u.length := (List.getElem?_eq_some_iff.mp hc).1
      have := hu c (List.mem_of_getElem? hc)
      refine ⟨rfl, yes ?_⟩
      refine ⟨_, rfl, _, rfl, _, _, rfl, rfl, c, 0, _, rfl, by omega, by omega, ?_⟩
      refine ⟨_, d2, ?_, s2.own hD, ?_⟩
      · rw [List.length_map, List.length_replicate]; exact Nat.lt_of_le_of_lt (by omega : i ≤ 10000) (by decide)
      · rw [upd_same, List.replicate_succ', List.map_append]; rfl
    · rintro H2 ⟨s2, d2⟩
      refine ⟨_, _, rfl, SqL.of d2, ?_⟩
      have e : (List.replicate ((u.map nv).length) true).all id = true := by simp
      rw [e]
      exact q H2 s2
def spNeedRun : Sp := fun vs H Q _ => ∃ (k : Nat) (v : V) (u : List Nat), vs = [nv k, v] ∧ IsInts H v u ∧ (∀ c ∈ u, c < k) ∧ u.length ≤ 10000 ∧ ∀ H', Same H H' → Q .non H'
theorem scNeedRun : FnScope ["many", "thing"] ["many", "thing"] (defScope sNeedRun) := ⟨rfl, rfl, rfl, by decide +kernel, rfl, by decide +kernel, by decide +kernel⟩
theorem ok_needrun {f : Addr} {fd : FuncData} (F : Fun K "need_run" "need_run" sNeedRun f fd) (A1 : Has P w K mg base "is_run" ["many", "thing"] 2 spRun) : FnOk P w K mg base CX0 3 f fd ["many", "thing"] spNeedRun := by
  obtain ⟨f1, fd1, G1, g1, k1, b1⟩ := A1.ex
  refine F.ok scNeedRun (fun vs H Q E h => ?_) (fun cdv A outer s H vs Q E hr h => ?_)
  · obtain ⟨_, _, _, rfl, _⟩ := h
    rfl
  · obtain ⟨k, v, u, rfl, hv, hu, hl, q⟩ := h
    refine ⟨_, pss_one (ps_if (pt_not (pt_val (pe_call G1 hr (by rfl) g1 k1 b1 .nil pass0 (pa_cons (pv 0) (pa_cons (pv 1) pa_nil))))) (pss_one ps_never) pss_nil), ?_⟩
    refine ⟨_, rfl, _, rfl, k, v, u, rfl, hv, hu, hl, fun H1 s1 => ⟨true, rfl, iteF ?_⟩⟩
    exact q H1 s1
/-! ### need_cycle -/
def spNeedCycle : Sp := fun vs H Q _ => ∃ (k : Nat) (v x y : V) (u r : List Nat), vs = [nv k, v] ∧ Tp H v [x, y] ∧ IsInts H x u ∧ IsInts H y r ∧ (∀ c ∈ u, c < k) ∧ (∀ c ∈ r, c < k) ∧ u.length ≤ 200 ∧ 1 ≤ r.length ∧ r.length ≤ 200 ∧ ∀ H', Same H H' → Q .non H'
theorem scNeedCycle : FnScope ["many", "thing"] ["many", "thing"] (defScope sNeedCycle) := ⟨rfl, rfl, rfl, by decide +kernel, rfl, by decide +kernel, by decide +kernel⟩
theorem ok_needcycle {f : Addr} {fd : FuncData} (F : Fun K "need_cycle" "need_cycle" sNeedCycle f fd) (T : Txt mg) (A1 : Has P w K mg base "need_run" ["many", "thing"] 3 spNeedRun) : FnOk P w K mg base CX0 4 f fd ["many", "thing"] spNeedCycle := by
  obtain ⟨f1, fd1, G1, g1, k1, b1⟩ := A1.ex
  obtain ⟨tl, el⟩ := T.turns_
  refine F.ok scNeedCycle (fun vs H Q E h => ?_) (fun cdv A outer s H vs Q E hr h => ?_)
  · obtain ⟨_, _, _, _, _, _, rfl, _⟩ := h
    rfl
  · obtain ⟨k, v, x, y, u, r, rfl, ⟨a, rfl, ha⟩, hx, hy, hu, hrr, l1, l2, l3, q⟩ := h
    refine ⟨_, pss_cons (ps_if (PW.pt (pw_or (pt_not (pt_val (pe_callB call_isi (by rfl) T.isinst boot_isi (pa_cons (pv 1) (pa_cons (pe_bltn (v := .ty "tuple") (by rfl) T.tuple_ boot_tuple_ rfl) pa_nil)))))
        (pw_or1 (pt_cmpR op_ne (pe_callB call_len_seq (by rfl) T.len_ PySem.boot_len (pa_cons (pv 1) pa_nil)) pe_int (nomark _))))) (pss_one ps_never) pss_nil)
      (pss_cons (ps_expr (pe_call G1 hr (by rfl) g1 k1 b1 .nil pass0 (pa_cons (pv 0) (pa_cons (pe_ix ix_tup (pv 1) pe_int (fun _ _ => rfl)) pa_nil))))
      (pss_cons (ps_expr (pe_call G1 hr (by rfl) g1 k1 b1 .nil pass0 (pa_cons (pv 0) (pa_cons (pe_ix ix_tup (pv 1) pe_int (fun _ _ => rfl)) pa_nil))))
      (pss_one (ps_if (PW.pt (pw_or (pt_cmpR op_gt (pe_callB call_len_seq (by rfl) T.len_ PySem.boot_len (pa_cons (pe_ix ix_tup (pv 1) pe_int (fun _ _ => rfl)) pa_nil)) (pe_glob (v := .int 200) rfl el ⟨_, rfl⟩) (nomark _))
        (pw_or1 (pt_not (pt_chain op_le op_le pe_int (pe_callB call_len_seq (by rfl) T.len_ PySem.boot_len (pa_cons (pe_ix ix_tup (pv 1) pe_int (fun _ _ => rfl)) pa_nil)) (pe_glob (v := .int 200) rfl el ⟨_, rfl⟩)))))) (pss_one ps_never) pss_nil)))), ?_⟩
    refine ⟨_, rfl, _, _, _, _, true, rfl, .ty "tuple", .base (.tup ha), kit_ty (by decide +kernel), true, rfl, iteF ?_⟩
    refine ⟨_, rfl, a, _, rfl, .inr (SqT.of ha), rfl, _, rfl, iteF ?_⟩
    refine ⟨_, rfl, _, rfl, a, _, 0, x, rfl, rfl, SqT.of ha, rfl, k, x, u, rfl, hx, hu, by omega, fun H1 s1 => ?_⟩
    have ha1 := s1 _ _ ha
    refine ⟨_, rfl, _, rfl, a, _, 1, y, rfl, rfl, SqT.of ha1, rfl, k, y, r, rfl, hy.mono s1.tups, hrr, by omega, fun H2 s2 => ?_⟩
    have ha2 := s2 _ _ ha1
    obtain ⟨bx, rfl, hbx⟩ := hx.mono (s1.trans s2).tups
    obtain ⟨by_, rfl, hby⟩ := hy.mono (s1.trans s2).tups
    refine ⟨_, rfl, a, _, 0, _, rfl, rfl, SqT.of ha2, rfl, bx, _, rfl, .inr (SqT.of hbx), _, _, rfl, rfl, _, rfl, ?_⟩
    rw [decide_eq_false (by rw [List.length_map]; omega)]
    refine iteF ?_
    refine ⟨_, rfl, a, _, 1, _, rfl, rfl, SqT.of ha2, rfl, by_, _, rfl, .inr (SqT.of hby), _, _, rfl, rfl, _, rfl, ?_⟩
    rw [decide_eq_true (by rw [List.length_map]; omega)]
    refine iteT ⟨_, _, rfl, rfl, true, congrArg V.bl (decide_eq_true (by rw [List.length_map]; omega)), iteF ?_⟩
    exact q H2 (s1.trans s2)
end
end Wk
set_option Elab.async false
set_option linter.all false
set_option maxRecDepth 100000
set_option maxHeartbeats 4000000
namespace Wk
open PySem PySem.Spec PyProof.Rows L2
abbrev sLeast : Stmt := top 7
abbrev sLean : Stmt := top 8
abbrev sTold : Stmt := top 14
section
variable {P : Program} {w : World} {K : PySem.W.Frag} {mg : Str → Option Value} {base : Heap}
theorem boot_tuple2 : bootBuiltins "tuple" = some (.type "tuple") := by decide +kernel
/-! ### least_round -/
def spLeast : Sp := fun vs H Q _ => ∃ (v : V) (l : List (Nat × Nat)), vs = [v] ∧ IsPairs H v l ∧ l ≠ [] ∧ l.length ≤ 1000 ∧ ∀ (v' : V) (p : List (Nat × Nat)) (H' : Hp), Same H H' → IsPairs H' v' p → Root l p → Q v' H'
theorem scLeast : FnScope ["around", "many"] ["around"] (defScope sLeast) := ⟨rfl, rfl, rfl, by decide +kernel, rfl, by decide +kernel, by decide +kernel⟩
theorem ok_least {f : Addr} {fd : FuncData} (F : Fun K "least_round" "least_round" sLeast f fd) (T : Txt mg) : FnOk P w K mg base CX0 1 f fd ["around"] spLeast := by
  refine F.ok scLeast (fun vs H Q E h => ?_) (fun cdv A outer s H vs Q E hr h => ?_)
  · obtain ⟨_, _, rfl, _⟩ := h
    rfl
  · obtain ⟨v, l, rfl, ⟨us, ⟨a, rfl, ha⟩, hus⟩, hne, hl, q⟩ := h
    have hpos : 0 < l.length := List.length_pos_iff.mpr hne
    have hul := hus.len
    refine ⟨_, pss_cons (ps_for PassesOwn.never rfl (pi_range2 (by rfl) T.range_ (pa_cons pe_int (pa_cons (pe_callB call_len_seq (by rfl) T.len_ PySem.boot_len (pa_cons (pv 0) pa_nil)) pa_nil))) (pg_name (i := 1) scLeast.nd rfl (Or.inl rfl))
        (pss_one (ps_if (PW.pt (pw_and (pt_cmpR op_eq (pe_op op_mod (pe_callB call_len_seq (by rfl) T.len_ PySem.boot_len (pa_cons (pv 0) pa_nil)) (pv 1)) pe_int (nomark _))
            (pw_and1 (pt_cmpR (op_eqD hr.units) (pe_op op_repT (pe_slice sl_tupA (pv 0) po_none (po_some (pv 1))) (pe_op op_fdiv (pe_callB call_len_seq (by rfl) T.len_ PySem.boot_len (pa_cons (pv 0) pa_nil)) (pv 1))) (pv 0) (nomark _)))))
          (pss_one (ps_ret (pe_slice sl_tupA (pv 0) po_none (po_some (pv 1))))) pss_nil)))
      (pss_one (ps_ret (pv 0))), ?_⟩
    refine ⟨_, rfl, a, us, rfl, .inr (SqT.of ha), _, _, rfl, ⟨by decide, by decide, by omega, by omega⟩, ?_⟩
    refine for_range (lo := 1) (n := ((us.length : Int) - 1).toNat) (fun i σ H2 => ∃ x, σ = [some (.ref a), x] ∧ Same H H2 ∧ ∀ e, 0 < e → e < i + 1 → ¬ Cuts l e) ⟨none, rfl, Same.refl H, fun e h1 h2 => by omega⟩ ?_ ?_
    · rintro i σ H2 hi ⟨x, rfl, s2, hm⟩
      have ha2 := s2 _ _ ha
      have hil : i + 1 < l.length := by omega
      have ei : ((1 : Int) + (i : Int)) = ((i + 1 : Nat) : Int) := by omega
      rw [ei]
      refine ⟨_, rfl, a, us, rfl, .inr (SqT.of ha2), _, rfl, _, _, rfl, rfl, (by show (0 : Int) < ((i + 1 : Nat) : Int); omega), rfl, _, rfl, ?_⟩
      have nextI : ¬ Cuts l (i + 1) → ∃ x, (([some (.ref a), x] : L2.St).set 1 (some (.int ((i + 1 : Nat) : Int)))) = [some (.ref a), x] ∧ Same H H2 ∧ ∀ e, 0 < e → e < i + 1 + 1 → ¬ Cuts l e := fun hc => by
        refine ⟨_, rfl, s2, fun e h1 h2 => ?_⟩
        by_cases he : e = i + 1
        · rw [he]; exact hc
        · exact hm e h1 (by omega)
      refine ite2 (fun e => ?_) (fun e => ?_)
      · have e0 : l.length % (i + 1) = 0 := by
          have := V.int.inj (of_decide_eq_true e)
          rw [hul] at this
          omega
        have hpm : IsSeq (IsPair H2) us l := hus.mono fun _ _ z => z.mono s2.tups
        have hdv : l.length / (i + 1) * (i + 1) = l.length := Nat.div_mul_cancel (Nat.dvd_of_mod_eq_zero e0)
        have hq2 : 2 ≤ l.length / (i + 1) := by
          by_cases hq : 2 ≤ l.length / (i + 1)
          · exact hq
          · exfalso
            have : l.length / (i + 1) ≤ 1 := by omega
            have : l.length / (i + 1) * (i + 1) ≤ 1 * (i + 1) := Nat.mul_le_mul_right _ this
            omega
        have hq3 : l.length / (i + 1) ≤ 1000 := Nat.le_trans (Nat.div_le_self _ _) hl
        refine ⟨_, rfl, _, rfl, _, rfl, sl_tp ⟨a, rfl, ha2⟩ fun v3 H3 s3 t3 => ?_⟩
        obtain ⟨b, rfl, hb⟩ := t3
        rw [cut_to] at hb
        have ha3 := s3 _ _ ha2
        have hdi : (us.length : Int) / ((i + 1 : Nat) : Int) = ((l.length / (i + 1) : Nat) : Int) := by rw [hul]; omega
        refine ⟨_, rfl, a, us, rfl, .inr (SqT.of ha3), _, rfl, _, _, rfl, rfl, ⟨by omega, by omega⟩, b, _, us.take (i + 1), rfl, rfl, SqT.of hb, ?_, ?_, ?_, ?_, fun p np => ?_⟩
        · intro z
          have := congrArg List.length z
          rw [List.length_take, List.length_nil] at this
          omega
        · rw [hdi]; omega
        · rw [hdi]; omega
        · rw [List.length_take]; omega
        · rw [hdi, Int.toNat_natCast]
          have s4 : Same H2 _ := s3.trans (same_new (o := .tup (List.replicate (l.length / (i + 1)) (List.take (i + 1) us)).flatten) np)
          have hr1 : IsSeq (IsPair (upd H3 p (.tup (List.replicate (l.length / (i + 1)) (List.take (i + 1) us)).flatten))) us l := hpm.mono fun _ _ z => z.mono s4.tups
          refine ⟨_, rfl, eqs_pairs.req (x := (List.replicate (l.length / (i + 1)) (l.take (i + 1))).flatten) (y := l) ⟨_, ⟨p, rfl, upd_same⟩, (hr1.take _).rep _⟩ ⟨us, ⟨a, rfl, s4 _ _ ha2⟩, hr1⟩ ⟨_, rfl, ?_⟩⟩
          refine ite2 (fun e2 => ?_) (fun e2 => ?_)
          · have ec : Cuts l (i + 1) := ⟨e0, of_decide_eq_true e2⟩
            refine ⟨_, rfl, _, rfl, _, rfl, sl_tp ⟨a, rfl, s4 _ _ ha2⟩ fun v5 H5 s5 t5 => ?_⟩
            rw [cut_to] at t5
            exact q v5 (l.take (i + 1)) H5 ((s2.trans s4).trans s5) ⟨_, t5, (hr1.mono fun _ _ z => z.mono s5.tups).take _⟩ (root_cut (by omega) (by omega) ec fun e he hei => hm e he (by omega))
          · have hc : ¬ Cuts l (i + 1) := fun z => e2 (decide_eq_true z.2)
            refine ⟨_, rfl, s2.trans s4, fun e h1 h2 => ?_⟩
            by_cases he : e = i + 1
            · rw [he]; exact hc
            · exact hm e h1 (by omega)
      · have hc : ¬ Cuts l (i + 1) := fun z => e (decide_eq_true (by rw [hul]; have := z.1; exact congrArg V.int (by omega)))
        refine iteF ?_
        refine ⟨_, rfl, s2, fun e h1 h2 => ?_⟩
        by_cases he : e = i + 1
        · rw [he]; exact hc
        · exact hm e h1 (by omega)
    · rintro σ H2 ⟨x, rfl, s2, hm⟩
      exact ⟨_, rfl, q _ l H2 s2 ⟨us, ⟨a, rfl, s2 _ _ ha⟩, hus.mono fun _ _ z => z.mono s2.tups⟩ (root_all hne fun e h1 h2 => hm e h1 (by omega))⟩
/-! ### lean -/
def spLean : Sp := fun vs H Q _ => ∃ (v : V) (s r : List (Nat × Nat)), vs = [v] ∧ IsLoop H v s r ∧ r ≠ [] ∧ s.length ≤ 1000 ∧ r.length ≤ 1000 ∧
  ∀ (v' : V) (s' r' : List (Nat × Nat)) (H' : Hp), Same H H' → IsLoop H' v' s' r' → Lean s' r' → (∀ n, rowAt s' r' n = rowAt s r n) → s'.length ≤ s.length → r'.length ≤ r.length → Q v' H'
theorem scLean : FnScope ["loop", "stem", "around"] ["loop"] (defScope sLean) := ⟨rfl, rfl, rfl, by decide +kernel, rfl, by decide +kernel, by decide +kernel⟩
theorem pairs_last {H : Hp} {vs : List V} {l : List (Nat × Nat)} (h : IsSeq (IsPair H) vs l) (hne : l ≠ []) : ∃ v, atI vs (-1) = some v ∧ vs.drop (vs.length - 1) = [v] ∧ IsPair H v (l.getLast hne) ∧ 0 < vs.length := by
  have hpos : 0 < l.length := List.length_pos_iff.mpr hne
  have e : l[l.length - 1]? = some (l.getLast hne) := by rw [← List.getLast?_eq_getElem?, List.getLast?_eq_some_getLast]
  obtain ⟨v, hv, hp⟩ := h.get e
  have hvl : vs.length = l.length := h.len
  have hs : vs = vs.take (vs.length - 1) ++ [v] := by
    have h1 : vs.take (vs.length - 1 + 1) = vs.take (vs.length - 1) ++ [v] := by rw [List.take_add_one, hvl, hv]; rfl
    rw [← h1, Nat.sub_add_cancel (by omega), List.take_length]
  refine ⟨v, ?_, ?_, hp, by omega⟩
  · rw [hs]; exact atI_last _ _
  · have h2 : (vs.take (vs.length - 1)).length = vs.length - 1 := by rw [List.length_take]; omega
    have := List.drop_left (l₁ := vs.take (vs.length - 1)) (l₂ := [v])
    rw [h2, ← hs] at this
    exact this
theorem ok_lean {f : Addr} {fd : FuncData} (F : Fun K "lean" "lean" sLean f fd) (A1 : Has P w K mg base "least_round" ["around"] 1 spLeast) : FnOk P w K mg base CX0 2 f fd ["loop"] spLean := by
  obtain ⟨f1, fd1, G1, g1, k1, b1⟩ := A1.ex
  refine F.ok scLean (fun vs H Q E h => ?_) (fun cdv A outer s H vs Q E hr h => ?_)
  · obtain ⟨_, _, _, rfl, _⟩ := h
    rfl
  · obtain ⟨v, s0, r0, rfl, ⟨x, y, ⟨a, rfl, ha⟩, hx, hy⟩, hne, hl1, hl2, q⟩ := h
    refine ⟨_, pss_cons (ps_asg (pv 0) (pg_tup (by rfl) (pgs_cons (pg_name (i := 1) scLean.nd rfl (Or.inl rfl)) (pgs_cons (pg_name (i := 2) scLean.nd rfl (Or.inl rfl)) pgs_nil))))
      (pss_cons (ps_set (i := 2) scLean.nd rfl (Or.inl rfl) (pe_call G1 hr (by rfl) g1 k1 b1 .nil pass0 (pa_cons (pv 2) pa_nil)))
      (pss_cons (ps_while PassesOwn.never (PW.pt (pw_and (pt_cmpR (op_neD hr.units) (pv 1) (pe_tup pa_nil) (nomark _)) (pw_and1 (pt_cmpR (op_eqD hr.units) (pe_ix ix_tup (pv 1) (pe_un un_neg pe_int) (fun _ _ => rfl)) (pe_ix ix_tup (pv 2) (pe_un un_neg pe_int) (fun _ _ => rfl)) (nomark _)))))
        (pss_cons (ps_set (i := 2) scLean.nd rfl (Or.inl rfl) (pe_op op_catA (pe_slice sl_tupA (pv 1) (po_some (pe_un un_neg pe_int)) po_none) (pe_slice sl_tupA (pv 2) po_none (po_some (pe_un un_neg pe_int)))))
        (pss_one (ps_set (i := 1) scLean.nd rfl (Or.inl rfl) (pe_slice sl_tupA (pv 1) po_none (po_some (pe_un un_neg pe_int)))))))
      (pss_one (ps_ret (pe_tup (pa_cons (pv 1) (pa_cons (pv 2) pa_nil))))))), ?_⟩
    refine ⟨_, rfl, a, [x, y], rfl, SqT.of ha, rfl, x, [y], rfl, y, [], rfl, rfl, ?_⟩
    refine ⟨_, rfl, y, r0, rfl, hy, hne, hl2, fun v1 p H1 s1 hp hroot => ?_⟩
    refine ⟨fun m σ H2 => ∃ sv rv s r, σ = [some (.ref a), some sv, some rv] ∧ Same H H2 ∧ IsPairs H2 sv s ∧ IsPairs H2 rv r ∧ m = s.length ∧ s.length ≤ s0.length ∧ r.length ≤ r0.length ∧ r ≠ [] ∧ Prim r ∧ ∀ n, rowAt s r n = rowAt s0 r0 n,
      ⟨_, x, v1, s0, p, rfl, s1, hx.mono s1.tups, hp, rfl, Nat.le_refl _, hroot.len, hroot.ne, hroot.prim, fun n => ?_⟩, ?_⟩
    · by_cases hn : n < s0.length
      · rw [rowAt_lt hn, rowAt_lt hn]
      · rw [rowAt_ge hn, rowAt_ge hn, ← rowAt_nil, ← rowAt_nil, hroot.row]
    · rintro m σ H2 ⟨sv, rv, s, r, rfl, s2, ⟨ss, ⟨sa, rfl, hsa⟩, hss⟩, ⟨rs, ⟨ra, rfl, hra⟩, hrs⟩, rfl, g1, g2, g3, g4, g5⟩
      refine ⟨_, rfl, Nat.zero_le _, fun e he => ?_⟩
      have s3 : Same H2 (upd H2 e (.tup [])) := same_new he
      have hss3 : IsSeq (IsPair (upd H2 e (.tup []))) ss s := hss.mono fun _ _ z => z.mono s3.tups
      have hrs3 : IsSeq (IsPair (upd H2 e (.tup []))) rs r := hrs.mono fun _ _ z => z.mono s3.tups
      refine eqs_pairs.rne (x := s) (y := []) ⟨ss, ⟨sa, rfl, s3 _ _ hsa⟩, hss3⟩ ⟨[], ⟨e, rfl, upd_same⟩, IsSeq.nil⟩ ⟨_, rfl, ?_⟩
      refine ite2 (fun es => ?_) (fun es => ?_)
      · have hsne : s ≠ [] := fun z => by rw [z] at es; simp at es
        obtain ⟨sl, h1, h2, h3, h4⟩ := pairs_last hss3 hsne
        obtain ⟨rl, k1', k2, k3, k4⟩ := pairs_last hrs3 g3
        refine ⟨_, rfl, _, rfl, sa, _, _, sl, rfl, rfl, SqT.of (s3 _ _ hsa), h1, _, rfl, _, rfl, ra, _, _, rl, rfl, rfl, SqT.of (s3 _ _ hra), k1', eqs_pair.req h3 k3 ⟨_, rfl, ?_⟩⟩
        refine ite2 (fun el => ?_) (fun el => ?_)
        · have el : s.getLast hsne = r.getLast g3 := of_decide_eq_true el
          refine ⟨fun σ' H' => ∃ m', m' < s.length ∧ ∃ sv rv s r, σ' = [some (.ref a), some sv, some rv] ∧ Same H H' ∧ IsPairs H' sv s ∧ IsPairs H' rv r ∧ m' = s.length ∧ s.length ≤ s0.length ∧ r.length ≤ r0.length ∧ r ≠ [] ∧ Prim r ∧ ∀ n, rowAt s r n = rowAt s0 r0 n, fun _ _ z => z, ?_⟩
          have es1 : s = s.take (s.length - 1) ++ [r.getLast g3] := by rw [← el]; conv => lhs; rw [← List.dropLast_concat_getLast hsne, List.dropLast_eq_take]
          have er1 : r = r.take (r.length - 1) ++ [r.getLast g3] := by conv => lhs; rw [← List.dropLast_concat_getLast g3, List.dropLast_eq_take]
          have hrl : 0 < r.length := List.length_pos_iff.mpr g3
          have hsl : 0 < s.length := List.length_pos_iff.mpr hsne
          refine ⟨_, rfl, _, rfl, _, rfl, sl_fr ⟨sa, rfl, s3 _ _ hsa⟩ fun v4 H4 s4 t4 => ?_⟩
          refine ⟨_, rfl, _, rfl, _, rfl, sl_tp ⟨ra, rfl, s4 _ _ (s3 _ _ hra)⟩ fun v5 H5 s5 t5 => ?_⟩
          rw [cut_last h4, h2] at t4
          rw [cut_init k4] at t5
          refine cat_tp (t4.mono s5.tups) t5 (by rw [List.length_take, hrs.len]; simp; omega) fun v6 H6 s6 t6 => ?_
          refine ⟨_, rfl, _, rfl, _, rfl, sl_tp ⟨sa, rfl, s6 _ _ (s5 _ _ (s4 _ _ (s3 _ _ hsa)))⟩ fun v7 H7 s7 t7 => ?_⟩
          rw [cut_init h4] at t7
          have sA : Same (upd H2 e (.tup [])) H7 := ((s4.trans s5).trans s6).trans s7
          have rp := g5
          rw [hss.len] at t7
          rw [hrs.len] at t6
          refine ⟨(s.take (s.length - 1)).length, by rw [List.length_take]; omega, v7, v6, s.take (s.length - 1), r.getLast g3 :: r.take (r.length - 1), rfl, s2.trans (s3.trans sA), ⟨_, t7, (hss3.mono fun _ _ z => z.mono sA.tups).take _⟩,
            ⟨_, t6.mono s7.tups, ?_⟩, rfl, by rw [List.length_take]; omega, ?_, by simp, ?_, fun n => ?_⟩
          · have := (IsSeq.one (el ▸ h3)).append (hrs3.take (r.length - 1))
            exact this.mono fun _ _ z => z.mono sA.tups
          · simp only [List.length_cons, List.length_take]; omega
          · exact prim_back (by rw [← er1]; exact g4)
          · rw [← g5 n]
            have e2 := congr (congrArg (fun a b => rowAt a b n) es1) er1
            exact (row_back n).symm.trans e2.symm
        · refine ⟨_, rfl, _, rfl, by show 2 ≤ sizeLine; decide, fun o ho => ?_⟩
          have s4 := same_new (o := .tup [.ref sa, .ref ra]) ho
          refine q _ s r _ ((s2.trans s3).trans s4) ⟨_, _, ⟨o, rfl, upd_same⟩, ⟨ss, ⟨sa, rfl, s4 _ _ (s3 _ _ hsa)⟩, hss3.mono fun _ _ z => z.mono s4.tups⟩, ⟨rs, ⟨ra, rfl, s4 _ _ (s3 _ _ hra)⟩, hrs3.mono fun _ _ z => z.mono s4.tups⟩⟩ ⟨g3, g4, .inr fun z => ?_⟩ g5 g1 g2
          rw [List.getLast?_eq_some_getLast hsne, List.getLast?_eq_some_getLast g3] at z
          exact el (decide_eq_true (Option.some.inj z))
      · have hs0 : s = [] := by
          by_cases z : s = []
          · exact z
          · rw [decide_eq_false z] at es; simp at es
        refine iteF ?_
        refine ⟨_, rfl, _, rfl, by show 2 ≤ sizeLine; decide, fun o ho => ?_⟩
        have s4 := same_new (o := .tup [.ref sa, .ref ra]) ho
        exact q _ s r _ ((s2.trans s3).trans s4) ⟨_, _, ⟨o, rfl, upd_same⟩, ⟨ss, ⟨sa, rfl, s4 _ _ (s3 _ _ hsa)⟩, hss3.mono fun _ _ z => z.mono s4.tups⟩, ⟨rs, ⟨ra, rfl, s4 _ _ (s3 _ _ hra)⟩, hrs3.mono fun _ _ z => z.mono s4.tups⟩⟩ ⟨g3, g4, .inl hs0⟩ g5 g1 g2
/-! ### told_loop -/
def spTold : Sp := fun vs H Q _ => ∃ (x y : V) (s r : List (Nat × Nat)) (g : Nat → Nat × Nat), vs = [x, y] ∧ IsLst H x s ∧ IsLst H y r ∧ r ≠ [] ∧ s.length ≤ 200 ∧ r.length ≤ 200 ∧ (∀ n, rowAt s r n = some (g n)) ∧
  ∀ (v' : V) (s' r' : List (Nat × Nat)) (H' : Hp), Same H H' → IsLoop H' v' s' r' → LoopOf g s' r' → Q v' H'
theorem scTold : FnScope ["stem", "around", "found"] ["stem", "around"] (defScope sTold) := ⟨rfl, rfl, rfl, by decide +kernel, rfl, by decide +kernel, by decide +kernel⟩
theorem ok_told {f : Addr} {fd : FuncData} (F : Fun K "told_loop" "told_loop" sTold f fd) (T : Txt mg) (A1 : Has P w K mg base "lean" ["loop"] 2 spLean) : FnOk P w K mg base CX0 3 f fd ["stem", "around"] spTold := by
  obtain ⟨f1, fd1, G1, g1, k1, b1⟩ := A1.ex
  obtain ⟨tl, el⟩ := T.turns_
  refine F.ok scTold (fun vs H Q E h => ?_) (fun cdv A outer s H vs Q E hr h => ?_)
  · obtain ⟨_, _, _, _, _, rfl, _⟩ := h
    rfl
  · obtain ⟨x, y, s0, r0, g, rfl, ⟨a, us, rfl, ha, hus⟩, ⟨b, ws, rfl, hb, hws⟩, hne, hl1, hl2, hrow, q⟩ := h
    refine ⟨_, pss_cons (ps_set (i := 2) scTold.nd rfl (Or.inl rfl) (pe_call G1 hr (by rfl) g1 k1 b1 .nil pass0 (pa_cons (pe_tup (pa_cons (pe_callTy call_tuple_of (by rfl) T.tuple_ boot_tuple2 (pa_cons (pv 0) pa_nil)) (pa_cons (pe_callTy call_tuple_of (by rfl) T.tuple_ boot_tuple2 (pa_cons (pv 1) pa_nil)) pa_nil))) pa_nil)))
      (pss_cons (ps_if (PW.pt (pw_or (pt_cmpR op_gt (pe_callB call_len_seq (by rfl) T.len_ PySem.boot_len (pa_cons (pe_ix ix_tup (pv 2) pe_int (fun _ _ => rfl)) pa_nil)) (pe_glob (v := .int 200) rfl el ⟨_, rfl⟩) (nomark _))
        (pw_or1 (pt_cmpR op_gt (pe_callB call_len_seq (by rfl) T.len_ PySem.boot_len (pa_cons (pe_ix ix_tup (pv 2) pe_int (fun _ _ => rfl)) pa_nil)) (pe_glob (v := .int 200) rfl el ⟨_, rfl⟩) (nomark _))))) (pss_one ps_never) pss_nil)
      (pss_one (ps_ret (pv 2)))), ?_⟩
    refine ⟨_, rfl, a, us, rfl, .inl ⟨SqL.of ha, fun c hc => ?_⟩⟩
    have s1 := same_new (o := .tup us) hc
    refine ⟨_, rfl, b, ws, rfl, .inl ⟨SqL.of (s1 _ _ hb), fun d hd => ?_⟩⟩
    have s2 := same_new (o := .tup ws) hd
    refine ⟨by show 2 ≤ sizeLine; decide, fun e he => ?_⟩
    have s3 := same_new (o := .tup [.ref c, .ref d]) he
    have sA := (s1.trans s2).trans s3
    refine ⟨_, s0, r0, rfl, ⟨.ref c, .ref d, ⟨e, rfl, upd_same⟩, ⟨us, ⟨c, rfl, s3 _ _ (s2 _ _ upd_same)⟩, hus.mono fun _ _ z => z.mono sA.tups⟩, ⟨ws, ⟨d, rfl, s3 _ _ upd_same⟩, hws.mono fun _ _ z => z.mono sA.tups⟩⟩, hne, by omega, by omega, fun v4 s' r' H4 s4 hL hlean hr4 hle1 hle2 => ?_⟩
    obtain ⟨x4, y4, ⟨o, rfl, ho⟩, ⟨xs, ⟨xa, rfl, hxa⟩, hxs⟩, ⟨ys, ⟨ya, rfl, hya⟩, hys⟩⟩ := id hL
    refine ⟨_, rfl, o, _, 0, _, rfl, rfl, SqT.of ho, rfl, xa, _, rfl, .inr (SqT.of hxa), _, _, rfl, rfl, _, rfl, ?_⟩
    rw [decide_eq_false (by rw [hxs.len]; omega)]
    refine iteF ?_
    refine ⟨_, rfl, o, _, 1, _, rfl, rfl, SqT.of ho, rfl, ya, _, rfl, .inr (SqT.of hya), _, _, rfl, rfl, false, congrArg V.bl (decide_eq_false (by rw [hys.len]; omega)), iteF ?_⟩
    exact ⟨_, rfl, q _ s' r' H4 (sA.trans s4) hL ⟨hlean, fun n => (hr4 n).trans (hrow n)⟩⟩
end
end Wk
set_option Elab.async false
set_option linter.all false
set_option maxRecDepth 100000
set_option maxHeartbeats 4000000
namespace Wk
open PySem PySem.Spec PyProof.Rows L2
abbrev sStep : Stmt := top 15
abbrev sFrom : Stmt := top 16
abbrev sTurns : Stmt := top 17
abbrev sLoopBy : Stmt := top 18
section
variable {P : Program} {w : World} {K : PySem.W.Frag} {mg : Str → Option Value} {base : Heap}
/-! ### step -/
def spStep : Sp := fun vs H Q _ => ∃ (v : V) (M : Mach) (k a r c : Nat), vs = [v, nv r, nv c] ∧ IsMach H v M ∧ WF k a M ∧ r < M.length ∧ c < k ∧ ∀ (v' x : V) (H' : Hp), Same H H' → Tp H' v' [x, nv (nxt M r c)] → IsPair H' x (c, ans M r c) → Q v' H'
theorem scStep : FnScope ["machine", "room", "came", "answered", "later"] ["machine", "room", "came"] (defScope sStep) := ⟨rfl, rfl, rfl, by decide +kernel, rfl, by decide +kernel, by decide +kernel⟩
theorem ok_step {f : Addr} {fd : FuncData} (F : Fun K "step" "step" sStep f fd) : FnOk P w K mg base CX0 1 f fd ["machine", "room", "came"] spStep := by
  refine F.ok scStep (fun vs H Q E h => ?_) (fun cdv A outer s H vs Q E hr h => ?_)
  · obtain ⟨_, _, _, _, _, _, rfl, _⟩ := h
    rfl
  · obtain ⟨v, M, k, a, r, c, rfl, hM, W, h1, h2, q⟩ := h
    obtain ⟨p, xs, p2, us, d, rfl, hp, hx, hp2, hu, hd⟩ := mach_cell hM W h1 h2
    refine ⟨_, pss_cons (ps_asg (pe_ix ix_tup (pe_ix ix_tup (pv 0) (pv 1) (fun _ _ => rfl)) (pv 2) (fun _ _ => rfl)) (pg_tup (by rfl) (pgs_cons (pg_name (i := 3) scStep.nd rfl (Or.inl rfl)) (pgs_cons (pg_name (i := 4) scStep.nd rfl (Or.inl rfl)) pgs_nil))))
      (pss_one (ps_ret (pe_tup (pa_cons (pe_tup (pa_cons (pv 2) (pa_cons (pv 3) pa_nil))) (pa_cons (pv 4) pa_nil))))), ?_⟩
    refine ⟨_, rfl, _, rfl, p, xs, _, _, rfl, rfl, SqT.of hp, atI_nat hx, _, rfl, p2, us, _, _, rfl, rfl, SqT.of hp2, atI_nat hu, d, _, rfl, SqT.of hd, rfl, _, _, rfl, _, _, rfl, rfl, ?_⟩
    refine ⟨_, rfl, _, rfl, by show 2 ≤ sizeLine; decide, fun e he => ⟨_, rfl, by show 2 ≤ sizeLine; decide, fun o ho => ?_⟩⟩
    have s1 := same_new (o := .tup [nv c, nv (ans M r c)]) he
    have s2 := same_new (o := .tup [.ref e, nv (nxt M r c)]) ho
    exact q _ (.ref e) _ (s1.trans s2) ⟨o, rfl, upd_same⟩ ⟨e, rfl, s2 _ _ upd_same⟩
/-! ### turns_from -/
def spFrom : Sp := fun vs H Q _ => ∃ (v y : V) (M : Mach) (k a r : Nat) (u : List Nat), vs = [v, nv r, y] ∧ IsMach H v M ∧ WF k a M ∧ r < M.length ∧ IsInts H y u ∧ (∀ c ∈ u, c < k) ∧ u.length ≤ 1000 ∧
  ∀ (v' x : V) (H' : Hp), Same H H' → Tp H' v' [x, nv (go M r u)] → IsLst H' x (turns M r u) → Q v' H'
theorem scFrom : FnScope ["machine", "room", "run", "found", "came", "turn"] ["machine", "room", "run"] (defScope sFrom) := ⟨rfl, rfl, rfl, by decide +kernel, rfl, by decide +kernel, by decide +kernel⟩
theorem turns_take (M : Mach) (r : Nat) {u : List Nat} {i c : Nat} (h : u[i]? = some c) : turns M r (u.take (i + 1)) = turns M r (u.take i) ++ [(c, ans M (go M r (u.take i)) c)] ∧ go M r (u.take (i + 1)) = nxt M (go M r (u.take i)) c := by
  rw [List.take_add_one, h]
  exact ⟨turns_append M _ _ _, go_append M _ _ _⟩
theorem ok_from {f : Addr} {fd : FuncData} (F : Fun K "turns_from" "turns_from" sFrom f fd) (A1 : Has P w K mg base "step" ["machine", "room", "came"] 1 spStep) : FnOk P w K mg base CX0 2 f fd ["machine", "room", "run"] spFrom := by
  obtain ⟨f1, fd1, G1, g1, k1, b1⟩ := A1.ex
  refine F.ok scFrom (fun vs H Q E h => ?_) (fun cdv A outer s H vs Q E hr h => ?_)
  · obtain ⟨_, _, _, _, _, _, _, rfl, _⟩ := h
    rfl
  · obtain ⟨v, y, M, k, a, r, u, rfl, hM, W, h1, ⟨b, rfl, hb⟩, hu, hl, q⟩ := h
    refine ⟨_, pss_cons (ps_set (i := 3) scFrom.nd rfl (Or.inl rfl) (pe_lst pa_nil))
      (pss_cons (ps_for PassesOwn.never rfl (pi_tup (pv 2)) (pg_name (i := 4) scFrom.nd rfl (Or.inl rfl))
        (pss_cons (ps_asg (pe_call G1 hr (by rfl) g1 k1 b1 .nil pass0 (pa_cons (pv 0) (pa_cons (pv 1) (pa_cons (pv 4) pa_nil)))) (pg_tup (by rfl) (pgs_cons (pg_name (i := 5) scFrom.nd rfl (Or.inl rfl)) (pgs_cons (pg_name (i := 1) scFrom.nd rfl (Or.inl rfl)) pgs_nil))))
        (pss_one (ps_expr (pe_bm PySem.F.plainAttrs_list PySem.F.slot_list_append PySem.F.type_list_append mt_append (pv 3) (pa_cons (pv 5) pa_nil))))))
      (pss_one (ps_ret (pe_tup (pa_cons (pv 3) (pa_cons (pv 1) pa_nil)))))), ?_⟩
    refine ⟨Nat.zero_le _, fun l nl => ?_⟩
    have s1 := same_new (o := .lst []) nl
    refine ⟨_, rfl, b, rfl, ⟨_, SqT.of (s1 _ _ hb)⟩, for_tup (K := K) (a := b) (xs := u.map nv) (fun i σ H2 => ∃ x4 x5 vs, σ = [some v, some (nv (go M r (u.take i))), some (.ref b), some (.ref l), x4, x5] ∧ Same H H2 ∧ H2 l = some (.lst vs) ∧ IsSeq (IsPair H2) vs (turns M r (u.take i)))
      ⟨none, none, [], rfl, s1, upd_same, IsSeq.nil⟩ (fun i σ H2 _ ⟨_, _, _, _, s2, _⟩ => SqT.of (s2 _ _ hb)) ?_ ?_⟩
    · rintro i x σ H2 hx ⟨x4, x5, vs, rfl, s2, hl2, hs2⟩
      rw [List.getElem?_map] at hx
      obtain ⟨c, hc, rfl⟩ := Option.map_eq_some_iff.mp hx
      have hck : c < k := hu c (List.mem_of_getElem? hc)
      obtain ⟨e1, e2⟩ := turns_take M r hc
      have hg : go M r (u.take i) < M.length := W.go_lt h1 fun d hd => hu d (List.mem_of_mem_take hd)
      have hil : i < u.length := (List.getElem?_eq_some_iff.mp hc).1
      refine ⟨_, rfl, _, rfl, _, rfl, v, M, k, a, _, c, rfl, hM.mono s2.tups, W, hg, hck, fun v' t H3 s3 ⟨o, ev, ho⟩ ht => ?_⟩
      subst ev
      refine ⟨o, _, rfl, SqT.of ho, rfl, _, _, rfl, _, _, rfl, rfl, ?_⟩
      have hl3 := s3 _ _ hl2
      refine ⟨_, rfl, .inl ⟨rfl, _, SqL.of hl3⟩, _, rfl, l, _, _, rfl, rfl, hl3, ?_, ?_⟩
      · rw [hs2.len, turns_len, List.length_take]; exact szl (by omega)
      · refine ⟨_, _, _, by rw [e2]; rfl, (s2.trans s3).own nl, upd_same, ?_⟩
        rw [e1]
        have t4 : TupS H3 (upd H3 l (.lst (vs ++ [t]))) := tups_lst hl3
        exact (hs2.mono fun _ _ z => (z.mono s3.tups).mono t4).snoc (ht.mono t4)
    · rintro σ H2 ⟨x4, x5, vs, rfl, s2, hl2, hs2⟩
      rw [List.length_map, List.take_length] at *
      refine ⟨_, rfl, _, rfl, by show 2 ≤ sizeLine; decide, fun o ho => ?_⟩
      have s3 := same_new (o := .tup [.ref l, nv (go M r u)]) ho
      exact q _ (.ref l) _ (s2.trans s3) ⟨o, rfl, upd_same⟩ ⟨l, vs, rfl, s3 _ _ hl2, hs2.mono fun _ _ z => z.mono s3.tups⟩
/-! ### turns_of -/
def spTurns : Sp := fun vs H Q _ => ∃ (v y : V) (M : Mach) (k a : Nat) (u : List Nat), vs = [v, y] ∧ IsMach H v M ∧ WF k a M ∧ IsInts H y u ∧ (∀ c ∈ u, c < k) ∧ u.length ≤ 1000 ∧
  ∀ (v' : V) (H' : Hp), Same H H' → IsPairs H' v' (turns M 0 u) → Q v' H'
theorem scTurns : FnScope ["machine", "run"] ["machine", "run"] (defScope sTurns) := ⟨rfl, rfl, rfl, by decide +kernel, rfl, by decide +kernel, by decide +kernel⟩
theorem ok_turns {f : Addr} {fd : FuncData} (F : Fun K "turns_of" "turns_of" sTurns f fd) (T : Txt mg) (A1 : Has P w K mg base "need_run" ["many", "thing"] 3 spNeedRun) (A2 : Has P w K mg base "turns_from" ["machine", "room", "run"] 2 spFrom) : FnOk P w K mg base CX0 4 f fd ["machine", "run"] spTurns := by
  obtain ⟨f1, fd1, G1, g1, k1, b1⟩ := A1.ex
  obtain ⟨f2, fd2, G2, g2, k2, b2⟩ := A2.ex
  refine F.ok scTurns (fun vs H Q E h => ?_) (fun cdv A outer s H vs Q E hr h => ?_)
  · obtain ⟨_, _, _, _, _, _, rfl, _⟩ := h
    rfl
  · obtain ⟨v, y, M, k, a, u, rfl, hM, W, hy, hu, hl, q⟩ := h
    obtain ⟨p, xs, p2, us, R, rfl, hp, hxl, hx, hp2, hul, _⟩ := mach_room hM W W.pos
    have hr2 : L2.Room 2 _ := hr.mono (by decide)
    refine ⟨_, pss_cons (ps_expr (pe_call G1 hr (by rfl) g1 k1 b1 .nil pass0 (pa_cons (pe_callB call_len_seq (by rfl) T.len_ PySem.boot_len (pa_cons (pe_ix ix_tup (pv 0) pe_int (fun _ _ => rfl)) pa_nil)) (pa_cons (pv 1) pa_nil))))
      (pss_one (ps_ret (pe_callTy call_tuple_of (by rfl) T.tuple_ boot_tuple3 (pa_cons (pe_ix ix_tup (pe_call G2 hr2 (by rfl) g2 k2 b2 .nil pass0 (pa_cons (pv 0) (pa_cons pe_int (pa_cons (pv 1) pa_nil)))) pe_int (fun _ _ => rfl)) pa_nil)))), ?_⟩
    refine ⟨_, rfl, p, xs, 0, _, rfl, rfl, SqT.of hp, atI_nat (j := 0) hx, p2, us, rfl, .inr (SqT.of hp2), _, rfl, k, y, u, by rw [hul]; rfl, hy, hu, by omega, fun H1 s1 => ?_⟩
    refine ⟨_, rfl, _, rfl, .ref p, y, M, k, a, 0, u, rfl, hM.mono s1.tups, W, W.pos, hy.mono s1.tups, hu, hl, fun v' x H2 s2 ⟨o, ev, ho⟩ hL => ?_⟩
    subst ev
    obtain ⟨l, vs, rfl, hl2, hs⟩ := hL
    refine ⟨o, _, 0, _, rfl, rfl, SqT.of ho, rfl, l, vs, rfl, .inl ⟨SqL.of hl2, fun t ht => ?_⟩⟩
    have s3 := same_new (o := .tup vs) ht
    exact q _ _ ((s1.trans s2).trans s3) ⟨vs, ⟨t, rfl, upd_same⟩, hs.mono fun _ _ z => z.mono s3.tups⟩
/-! ### loop_by -/
def spLoopBy : Sp := fun vs H Q _ => ∃ (v y x1 x2 : V) (M : Mach) (k a : Nat) (u r : List Nat), vs = [v, y] ∧ IsMach H v M ∧ WF k a M ∧ Tp H y [x1, x2] ∧ IsInts H x1 u ∧ IsInts H x2 r ∧ (∀ c ∈ u, c < k) ∧ (∀ c ∈ r, c < k) ∧ 1 ≤ r.length ∧ u.length + M.length * r.length ≤ 200 ∧
  ∀ (v' : V) (s' r' : List (Nat × Nat)) (H' : Hp), Same H H' → IsLoop H' v' s' r' → LoopOf (turnAt M 0 (cyc u r)) s' r' → Q v' H'
theorem scLoopBy : FnScope ["machine", "cycle", "stem", "room", "begins", "turns", "more"] ["machine", "cycle"] (defScope sLoopBy) := ⟨rfl, rfl, rfl, by decide +kernel, rfl, by decide +kernel, by decide +kernel⟩
theorem ok_loopby {f : Addr} {fd : FuncData} (F : Fun K "loop_by" "loop_by" sLoopBy f fd) (T : Txt mg) (A1 : Has P w K mg base "need_cycle" ["many", "thing"] 4 spNeedCycle) (A2 : Has P w K mg base "turns_from" ["machine", "room", "run"] 2 spFrom)
    (A3 : Has P w K mg base "told_loop" ["stem", "around"] 3 spTold) : FnOk P w K mg base CX0 5 f fd ["machine", "cycle"] spLoopBy := by
  obtain ⟨f1, fd1, G1, g1, k1, b1⟩ := A1.ex
  obtain ⟨f2, fd2, G2, g2, k2, b2⟩ := A2.ex
  obtain ⟨f3, fd3, G3, g3, k3, b3⟩ := A3.ex
  refine F.ok scLoopBy (fun vs H Q E h => ?_) (fun cdv A outer s H vs Q E hr h => ?_)
  · obtain ⟨_, _, _, _, _, _, _, _, _, rfl, _⟩ := h
    rfl
  · obtain ⟨v, y, x1, x2, M, k, a, u, r, rfl, hM, W, hy, hx1, hx2, hu, hrr, hr1, hlen, q⟩ := h
    obtain ⟨p, xs, p2, us, R, rfl, hp, hxl, hx, hp2, hul, _⟩ := mach_room hM W W.pos
    obtain ⟨yc, rfl, hyc⟩ := id hy
    have hr2 : L2.Room 2 _ := hr.mono (by decide)
    have hr3 : L2.Room 3 _ := hr.mono (by decide)
    have hu1 := hu_of hr
    have hMl : 1 * r.length ≤ M.length * r.length := Nat.mul_le_mul_right _ W.pos
    refine ⟨_, pss_cons (ps_expr (pe_call G1 hr (by rfl) g1 k1 b1 .nil pass0 (pa_cons (pe_callB call_len_seq (by rfl) T.len_ PySem.boot_len (pa_cons (pe_ix ix_tup (pv 0) pe_int (fun _ _ => rfl)) pa_nil)) (pa_cons (pv 1) pa_nil))))
      (pss_cons (ps_asg (pe_call G2 hr2 (by rfl) g2 k2 b2 .nil pass0 (pa_cons (pv 0) (pa_cons pe_int (pa_cons (pe_ix ix_tup (pv 1) pe_int (fun _ _ => rfl)) pa_nil)))) (pg_tup (by rfl) (pgs_cons (pg_name (i := 2) scLoopBy.nd rfl (Or.inl rfl)) (pgs_cons (pg_name (i := 3) scLoopBy.nd rfl (Or.inl rfl)) pgs_nil))))
      (pss_cons (ps_set (i := 4) scLoopBy.nd rfl (Or.inl rfl) pe_dnewK)
      (pss_cons (ps_set (i := 5) scLoopBy.nd rfl (Or.inl rfl) (pe_lst pa_nil))
      (pss_cons (ps_while PassesOwn.never (pt_cmp (pc_dnotin hu1 (pv 3) (pv 4)))
        (pss_cons (ps_dput hu1 (pv 4) (pv 3) (pe_callB call_len_seq (by rfl) T.len_ PySem.boot_len (pa_cons (pv 5) pa_nil)) rfl)
        (pss_cons (ps_asg (pe_call G2 hr2 (by rfl) g2 k2 b2 .nil pass0 (pa_cons (pv 0) (pa_cons (pv 3) (pa_cons (pe_ix ix_tup (pv 1) pe_int (fun _ _ => rfl)) pa_nil)))) (pg_tup (by rfl) (pgs_cons (pg_name (i := 6) scLoopBy.nd rfl (Or.inl rfl)) (pgs_cons (pg_name (i := 3) scLoopBy.nd rfl (Or.inl rfl)) pgs_nil))))
        (pss_one (ps_expr (pe_bm PySem.F.plainAttrs_list PySem.F.slot_list_extend PySem.F.type_list_extend mt_extend (pv 5) (pa_cons (pv 6) pa_nil)))))))
      (pss_one (ps_ret (pe_call G3 hr3 (by rfl) g3 k3 b3 .nil pass0 (pa_cons (pe_op op_cat (pv 2) (pe_slice sl_list (pv 5) po_none (po_some (pe_dget hu1 (pv 4) (pv 3) (fun _ _ => rfl))))) (pa_cons (pe_slice sl_list (pv 5) (po_some (pe_dget hu1 (pv 4) (pv 3) (fun _ _ => rfl))) po_none) pa_nil))))))))), ?_⟩
    refine ⟨_, rfl, p, xs, 0, _, rfl, rfl, SqT.of hp, atI_nat (j := 0) hx, p2, us, rfl, .inr (SqT.of hp2), _, rfl, k, _, x1, x2, u, r, by rw [hul]; rfl, hy, hx1, hx2, hu, hrr, by omega, hr1, by omega, fun H1 s1 => ?_⟩
    refine ⟨_, rfl, _, rfl, yc, _, 0, _, rfl, rfl, SqT.of (s1 _ _ hyc), rfl, .ref p, x1, M, k, a, 0, u, rfl, hM.mono s1.tups, W, W.pos, hx1.mono s1.tups, hu, by omega, fun v' st H2 s2 ⟨o, ev, ho⟩ hst => ?_⟩
    subst ev
    refine ⟨o, _, rfl, SqT.of ho, rfl, _, _, rfl, _, _, rfl, rfl, ?_⟩
    intro d nd
    have s3 := same_new (o := .dK []) nd
    refine ⟨Nat.zero_le _, fun l nl => ?_⟩
    have s4 := same_new (o := .lst []) nl
    have nld : l ≠ d := fun z => by rw [z, upd_same] at nl; cases nl
    have sA := ((s1.trans s2).trans s3).trans s4
    have nd0 : H d = none := (s1.trans s2).free nd
    have nl0 : H l = none := ((s1.trans s2).trans s3).free nl
    obtain ⟨sa, sv, rfl, hsa, hss⟩ := (hst.mono s3).mono s4
    have nsl : sa ≠ l := fun z => by obtain ⟨_, _, e1, g1, _⟩ := hst.mono s3; cases e1; rw [z, nl] at g1; cases g1
    have nsd : sa ≠ d := fun z => by obtain ⟨_, _, e1, g1, _⟩ := hst; cases e1; rw [z, nd] at g1; cases g1
    refine ⟨fun m σ H5 => ∃ x6 q T B j vs, σ = [some (.ref p), some (.ref yc), some (.ref sa), some (nv q), some (.ref d), some (.ref l), x6] ∧ Same H H5 ∧ H5 d = some (.dK (B.map dE)) ∧ H5 l = some (.lst vs) ∧ IsSeq (IsPair H5) vs T ∧ H5 sa = some (.lst sv) ∧ IsSeq (IsPair H5) sv (turns M 0 u) ∧ LInv M u r T q B j ∧ m = M.length - j,
      ⟨_, none, go M 0 u, [], [], 0, [], rfl, sA, by rw [upd_ne nld.symm, upd_same]; rfl, upd_same, IsSeq.nil, hsa, hss, LInv.start, rfl⟩, ?_⟩
    rintro m σ H5 ⟨x6, qr, Tn, B, j, vs, rfl, s5, hd5, hl5, hvs, hsa5, hss5, I, rfl⟩
    have hj : j ≤ M.length := by
      have := len_le_of_nodup M.length (B.map (·.1)) I.nd fun x hx => by
        obtain ⟨⟨q', b'⟩, hb, rfl⟩ := List.mem_map.mp hx
        obtain ⟨i, _, _, e⟩ := I.beg q' b' hb
        show q' < M.length
        rw [e]
        exact W.roomAt_lt W.pos (cyc_lt W.kpos hu hrr) _
      rwa [List.length_map, I.len] at this
    have hTl : Tn.length = j * r.length := by rw [I.turns, pre_len]
    have hjr : j * r.length ≤ M.length * r.length := Nat.mul_le_mul_right _ hj
    have hql : qr < M.length := by rw [I.room]; exact W.roomAt_lt W.pos (cyc_lt W.kpos hu hrr) _
    have hvl := hvs.len
    refine ⟨_, rfl, _, rfl, d, _, rfl, DGet.k (k := Sum.inl (qr : Int)) hd5, _, rfl, ?_⟩
    rcases dE_val qr B with ⟨b, hb, e⟩ | ⟨hb, e⟩
    · rw [e]
      refine iteF ?_
      obtain ⟨d1, d2, d3, d4⟩ := I.done hr1 hb
      refine ⟨_, rfl, _, rfl, _, rfl, _, rfl, d, _, rfl, DGet.k (k := Sum.inl (qr : Int)) hd5 |> (fun z => by rw [e] at z; exact z), _, rfl, l, vs, rfl, SqL.of hl5, fun c nc => ?_⟩
      have s6 := same_new (o := .lst (cutV vs none (some (b : Int)))) nc
      rw [cut_to] at s6 ⊢
      refine ⟨sa, c, sv, vs.take b, rfl, rfl, s6 _ _ hsa5, upd_same, sz (by rw [hss5.len, turns_len, List.length_take]; omega), fun c2 nc2 => ?_⟩
      have s7 := same_new (o := .lst (sv ++ vs.take b)) nc2
      refine ⟨_, rfl, _, rfl, _, rfl, d, _, rfl, DGet.k (k := Sum.inl (qr : Int)) (s7 _ _ (s6 _ _ hd5)) |> (fun z => by rw [e] at z; exact z), _, rfl, l, vs, rfl, SqL.of (s7 _ _ (s6 _ _ hl5)), fun c3 nc3 => ?_⟩
      have s8 := same_new (o := .lst (cutV vs (some (b : Int)) none)) nc3
      rw [cut_from] at s8 ⊢
      have sB := (s6.trans s7).trans s8
      refine ⟨_, _, Wk.turns M 0 u ++ Tn.take b, Tn.drop b, turnAt M 0 (cyc u r), rfl, ⟨c2, _, rfl, s8 _ _ upd_same, (hss5.append (hvs.take b)).mono fun _ _ z => z.mono sB.tups⟩, ⟨c3, _, rfl, upd_same, (hvs.drop b).mono fun _ _ z => z.mono sB.tups⟩, d2, ?_, ?_, d4, fun v' s' r' H' s9 hL hlo => ?_⟩
      · rw [d3]; omega
      · rw [List.length_drop]; omega
      · exact q v' s' r' H' ((s5.trans sB).trans s9) hL hlo
    · rw [e]
      refine iteT ⟨fun σ' H' => ∃ m', m' < M.length - j ∧ ∃ x6 q T B j vs, σ' = [some (.ref p), some (.ref yc), some (.ref sa), some (nv q), some (.ref d), some (.ref l), x6] ∧ Same H H' ∧ H' d = some (.dK (B.map dE)) ∧ H' l = some (.lst vs) ∧ IsSeq (IsPair H') vs T ∧ H' sa = some (.lst sv) ∧ IsSeq (IsPair H') sv (turns M 0 u) ∧ LInv M u r T q B j ∧ m' = M.length - j, fun _ _ z => z, ?_⟩
      have hM2 : M.length ≤ 200 := by
        have : M.length * 1 ≤ M.length * r.length := Nat.mul_le_mul_left _ hr1
        omega
      refine ⟨_, rfl, l, vs, rfl, .inl (SqL.of hl5), _, rfl, _, rfl, d, _, rfl, DPut.k (k := Sum.inl (qr : Int)) hd5 (szl (by rw [List.length_map, I.len]; omega)), ?_⟩
      have eB : putK (B.map dE) (Sum.inl (qr : Int)) (V.int (vs.length : Int)) = (B ++ [(qr, Tn.length)]).map dE := by
        rw [putK_new _ e, List.map_append, hvl]; rfl
      rw [eB]
      have t6 : TupS H5 (upd H5 d (.dK ((B ++ [(qr, Tn.length)]).map dE))) := tups_dK hd5
      have s6 : Same H (upd H5 d (.dK ((B ++ [(qr, Tn.length)]).map dE))) := s5.own nd0
      refine ⟨_, rfl, _, rfl, _, rfl, yc, _, 1, _, rfl, rfl, SqT.of (s6 _ _ hyc), rfl, .ref p, x2, M, k, a, qr, r, rfl, hM.mono s6.tups, W, hql, hx2.mono s6.tups, hrr, by omega, fun v' mo H7 s7 ⟨o, ev, ho⟩ hmo => ?_⟩
      subst ev
      obtain ⟨ma, ms, rfl, hma, hms⟩ := hmo
      refine ⟨o, _, rfl, SqT.of ho, rfl, _, _, rfl, _, _, rfl, rfl, ?_⟩
      have hl7 := s7 _ _ (by rw [upd_ne nld]; exact hl5)
      have hd7 := s7 _ _ (upd_same (H := H5) (a := d) (o := .dK ((B ++ [(qr, Tn.length)]).map dE)))
      have hsa7 := s7 _ _ (by rw [upd_ne nsd]; exact hsa5)
      have hjs : (j + 1) * r.length ≤ M.length * r.length := by
        have I2 := I.next hb
        have := len_le_of_nodup M.length ((B ++ [(qr, Tn.length)]).map (·.1)) I2.nd fun x hx => by
          obtain ⟨⟨q', b'⟩, hb, rfl⟩ := List.mem_map.mp hx
          obtain ⟨i, _, _, e⟩ := I2.beg q' b' hb
          show q' < M.length
          rw [e]
          exact W.roomAt_lt W.pos (cyc_lt W.kpos hu hrr) _
        rw [List.length_map, I2.len] at this
        exact Nat.mul_le_mul_right _ this
      have hjl : j + 1 ≤ M.length := Nat.le_of_mul_le_mul_right hjs hr1
      refine ⟨_, rfl, .inl ⟨rfl, _, SqL.of hl7⟩, _, rfl, l, ma, vs, ms, rfl, rfl, hl7, hma, sz (by rw [hvl, hms.len, turns_len]; omega), ?_⟩
      have t8 : TupS H7 (upd H7 l (.lst (vs ++ ms))) := tups_lst hl7
      have tA := (t6.trans s7.tups).trans t8
      exact ⟨M.length - (j + 1), by omega, _, _, Tn ++ Wk.turns M qr r, B ++ [(qr, Tn.length)], j + 1, vs ++ ms, rfl, (s6.trans s7).own nl0, by rw [upd_ne nld.symm]; exact hd7, upd_same, (hvs.mono fun _ _ z => z.mono tA).append (hms.mono fun _ _ z => z.mono t8), by rw [upd_ne nsl]; exact hsa7, hss5.mono fun _ _ z => z.mono tA, I.next hb, rfl⟩
end
end Wk
set_option Elab.async false
set_option linter.all false
set_option maxRecDepth 100000
set_option maxHeartbeats 4000000
namespace Wk
open PySem PySem.Spec PyProof.Rows L2
abbrev sKeeps : Stmt := top 19
abbrev sGoes : Stmt := top 20
abbrev sRooms : Stmt := top 21
section
variable {P : Program} {w : World} {K : PySem.W.Frag} {mg : Str → Option Value} {base : Heap}
/-! ### keeps_to -/
theorem kept_lt {k a : Nat} {M : Mach} (W : WF k a M) : ∀ {ts : List (Nat × Nat)} {r q : Nat}, r < M.length → (∀ t ∈ ts, t.1 < k) → kept M r ts = some q → q < M.length
  | [], r, q, h, _, e => by cases e; exact h
  | (c, b) :: ts, r, q, h, ht, e => by
    unfold kept at e
    split at e
    · exact kept_lt W (ts := ts) (W.lt h (ht (c, b) (by simp))).2 (fun t m => ht t (by simp [m])) e
    · cases e
theorem kept_take {M : Mach} {r i : Nat} {ts : List (Nat × Nat)} {t : Nat × Nat} {q : Nat} (h : ts[i]? = some t) (hq : kept M r (ts.take i) = some q) : kept M r (ts.take (i + 1)) = if ans M q t.1 = t.2 then some (nxt M q t.1) else none := by
  rw [List.take_add_one, h, kept_append, hq]
  obtain ⟨c, b⟩ := t
  rfl
theorem kept_none {M : Mach} {r i : Nat} {ts : List (Nat × Nat)} (h : kept M r (ts.take i) = none) : kept M r ts = none := by
  have := kept_append M (ts.take i) (ts.drop i) r
  rw [List.take_append_drop, h] at this
  exact this
def spKeeps : Sp := fun vs H Q _ => ∃ (v y : V) (M : Mach) (k a r : Nat) (ts : List (Nat × Nat)), vs = [v, nv r, y] ∧ IsMach H v M ∧ WF k a M ∧ r < M.length ∧ IsPairs H y ts ∧ (∀ t ∈ ts, t.1 < k) ∧
  ∀ (x : V) (H' : Hp), Same H H' → ((x = .non ∧ kept M r ts = none) ∨ ∃ q, x = nv q ∧ kept M r ts = some q) → Q x H'
theorem scKeeps : FnScope ["machine", "room", "turns", "came", "answered", "turn", "later"] ["machine", "room", "turns"] (defScope sKeeps) := ⟨rfl, rfl, rfl, by decide +kernel, rfl, by decide +kernel, by decide +kernel⟩
theorem ok_keeps {f : Addr} {fd : FuncData} (F : Fun K "keeps_to" "keeps_to" sKeeps f fd) (A1 : Has P w K mg base "step" ["machine", "room", "came"] 1 spStep) : FnOk P w K mg base CX0 2 f fd ["machine", "room", "turns"] spKeeps := by
  obtain ⟨f1, fd1, G1, g1, k1, b1⟩ := A1.ex
  refine F.ok scKeeps (fun vs H Q E h => ?_) (fun cdv A outer s H vs Q E hr h => ?_)
  · obtain ⟨_, _, _, _, _, _, _, rfl, _⟩ := h
    rfl
  · obtain ⟨v, y, M, k, a, r, ts, rfl, hM, W, h1, ⟨us, ⟨b, rfl, hb⟩, hus⟩, ht, q⟩ := h
    refine ⟨_, pss_cons (ps_for PassesOwn.never rfl (pi_tup (pv 2)) (pg_tup (by rfl) (pgs_cons (pg_name (i := 3) scKeeps.nd rfl (Or.inl rfl)) (pgs_cons (pg_name (i := 4) scKeeps.nd rfl (Or.inl rfl)) pgs_nil)))
        (pss_cons (ps_asg (pe_call G1 hr (by rfl) g1 k1 b1 .nil pass0 (pa_cons (pv 0) (pa_cons (pv 1) (pa_cons (pv 3) pa_nil)))) (pg_tup (by rfl) (pgs_cons (pg_name (i := 5) scKeeps.nd rfl (Or.inl rfl)) (pgs_cons (pg_name (i := 6) scKeeps.nd rfl (Or.inl rfl)) pgs_nil))))
        (pss_cons (ps_if (pt_cmpR op_ne (pe_ix ix_tup (pv 5) pe_int (fun _ _ => rfl)) (pv 4) (nomark _)) (pss_one (ps_ret pe_non)) pss_nil)
        (pss_one (ps_set (i := 1) scKeeps.nd rfl (Or.inl rfl) (pv 6))))))
      (pss_one (ps_ret (pv 1))), ?_⟩
    refine ⟨_, rfl, b, rfl, ⟨_, SqT.of hb⟩, for_tup (K := K) (a := b) (xs := us) (fun i σ H2 => ∃ x3 x4 x5 x6 qr, σ = [some v, some (nv qr), some (.ref b), x3, x4, x5, x6] ∧ Same H H2 ∧ kept M r (ts.take i) = some qr)
      ⟨none, none, none, none, r, rfl, Same.refl H, rfl⟩ (fun i σ H2 _ ⟨_, _, _, _, _, _, s2, _⟩ => SqT.of (s2 _ _ hb)) ?_ ?_⟩
    · rintro i x σ H2 hx ⟨x3, x4, x5, x6, qr, rfl, s2, hk⟩
      obtain ⟨t, het, o, rfl, ho⟩ := hus.getV hx
      have htm : t ∈ ts := List.mem_of_getElem? het
      have hq : qr < M.length := kept_lt W h1 (fun t m => ht t (List.mem_of_mem_take m)) hk
      have hstep := kept_take het hk
      refine ⟨o, _, rfl, SqT.of (s2 _ _ ho), rfl, _, _, rfl, _, _, rfl, rfl, ?_⟩
      refine ⟨_, rfl, _, rfl, _, rfl, v, M, k, a, qr, t.1, rfl, hM.mono s2.tups, W, hq, ht t htm, fun v' tv H3 s3 ⟨o2, ev, ho2⟩ htv => ?_⟩
      subst ev
      obtain ⟨o3, rfl, ho3⟩ := htv
      refine ⟨o2, _, rfl, SqT.of ho2, rfl, _, _, rfl, _, _, rfl, rfl, ?_⟩
      refine ⟨_, rfl, o3, _, 1, _, rfl, rfl, SqT.of ho3, rfl, _, rfl, rfl, _, rfl, ?_⟩
      refine ite2 (fun e => ?_) (fun e => ?_)
      · refine q _ _ (s2.trans s3) (.inl ⟨rfl, kept_none (i := i + 1) ?_⟩)
        rw [hstep, if_neg]
        intro z
        rw [z] at e
        simp at e
      · refine ⟨_, rfl, _, _, _, _, _, rfl, s2.trans s3, ?_⟩
        rw [hstep, if_pos]
        by_cases z : ans M qr t.1 = t.2
        · exact z
        · exfalso
          apply e
          show (!decide (nv (ans M qr t.1) = nv t.2)) = true
          rw [dec_nv, decide_eq_false z]
          rfl
    · rintro σ H2 ⟨x3, x4, x5, x6, qr, rfl, s2, hk⟩
      rw [hus.len, List.take_length] at hk
      exact ⟨_, rfl, q _ _ s2 (.inr ⟨qr, rfl, hk⟩)⟩
/-! ### goes -/
def spGoes : Sp := fun vs H Q _ => ∃ (v y : V) (M : Mach) (k a : Nat) (s r : List (Nat × Nat)), vs = [v, y] ∧ IsMach H v M ∧ WF k a M ∧ M.length ≤ 1000 ∧ IsLoop H y s r ∧ r ≠ [] ∧ (∀ t ∈ s, t.1 < k) ∧ (∀ t ∈ r, t.1 < k) ∧
  ∀ (b : Bool) (H' : Hp), Same H H' → (b = true ↔ Goes M s r) → Q (.bl b) H'
theorem scGoes : FnScope ["machine", "loop", "room", "met"] ["machine", "loop"] (defScope sGoes) := ⟨rfl, rfl, rfl, by decide +kernel, rfl, by decide +kernel, by decide +kernel⟩
theorem ginv_lt {k a : Nat} {M : Mach} {s r : List (Nat × Nat)} {q : Option Nat} {met : List Nat} {j : Nat} (W : WF k a M) (hs : ∀ t ∈ s, t.1 < k) (hr : ∀ t ∈ r, t.1 < k) (I : GInv M s r q met j) : (∀ x ∈ met, x < M.length) ∧ ∀ x, q = some x → x < M.length := by
  have all : ∀ i, ∀ t ∈ s ++ (List.replicate i r).flatten, t.1 < k := fun i t ht => by
    rcases List.mem_append.mp ht with h | h
    · exact hs t h
    · obtain ⟨l, hl, hm⟩ := List.mem_flatten.mp h
      rw [List.mem_replicate] at hl
      rw [hl.2] at hm
      exact hr t hm
  refine ⟨fun x hx => ?_, fun x hx => ?_⟩
  · obtain ⟨i, hi⟩ := List.mem_iff_getElem?.mp hx
    exact kept_lt W W.pos (all i) (I.rooms i x hi)
  · exact kept_lt W W.pos (all j) (I.now.trans hx)
def ov : Option Nat → V
  | none => .non
  | some q => nv q
theorem ok_goes {f : Addr} {fd : FuncData} (F : Fun K "goes" "goes" sGoes f fd) (A1 : Has P w K mg base "keeps_to" ["machine", "room", "turns"] 2 spKeeps) : FnOk P w K mg base CX0 3 f fd ["machine", "loop"] spGoes := by
  obtain ⟨f1, fd1, G1, g1, k1, b1⟩ := A1.ex
  refine F.ok scGoes (fun vs H Q E h => ?_) (fun cdv A outer s H vs Q E hr h => ?_)
  · obtain ⟨_, _, _, _, _, _, _, rfl, _⟩ := h
    rfl
  · obtain ⟨v, y, M, k, a, st, rd, rfl, hM, W, hM1, ⟨x1, x2, ⟨b, rfl, hb⟩, hx1, hx2⟩, hne, hs, hrd, q⟩ := h
    refine ⟨_, pss_cons (ps_set (i := 2) scGoes.nd rfl (Or.inl rfl) (pe_call G1 hr (by rfl) g1 k1 b1 .nil pass0 (pa_cons (pv 0) (pa_cons pe_int (pa_cons (pe_ix ix_tup (pv 1) pe_int (fun _ _ => rfl)) pa_nil)))))
      (pss_cons (ps_set (i := 3) scGoes.nd rfl (Or.inl rfl) (pe_lst pa_nil))
      (pss_cons (ps_while PassesOwn.never (PW.pt (pw_and (pt_cmpR op_notN (pv 2) pe_non (nomark _)) (pw_and1 (pt_cmpR op_notIn_seq (pv 2) (pv 3) (by rfl)))))
        (pss_cons (ps_expr (pe_bm PySem.F.plainAttrs_list PySem.F.slot_list_append PySem.F.type_list_append mt_append (pv 3) (pa_cons (pv 2) pa_nil)))
        (pss_one (ps_set (i := 2) scGoes.nd rfl (Or.inl rfl) (pe_call G1 hr (by rfl) g1 k1 b1 .nil pass0 (pa_cons (pv 0) (pa_cons (pv 2) (pa_cons (pe_ix ix_tup (pv 1) pe_int (fun _ _ => rfl)) pa_nil))))))))
      (pss_one (ps_ret (pe_cmpR op_notN (pv 2) pe_non (nomark _)))))), ?_⟩
    refine ⟨_, rfl, _, rfl, b, _, 0, _, rfl, rfl, SqT.of hb, rfl, v, x1, M, k, a, 0, st, rfl, hM, W, W.pos, hx1, hs, fun x H1 s1 hx => ?_⟩
    have ex : x = ov (kept M 0 st) := by
      rcases hx with ⟨e, h⟩ | ⟨q', e, h⟩
      · rw [e, h]; rfl
      · rw [e, h]; rfl
    subst ex
    refine ⟨Nat.zero_le _, fun l nl => ?_⟩
    have s2 := same_new (o := .lst []) nl
    refine ⟨fun m σ H2 => ∃ qo met j, σ = [some v, some (.ref b), some (ov qo), some (.ref l)] ∧ Same H H2 ∧ H2 l = some (.lst (met.map nv)) ∧ GInv M st rd qo met j ∧ m = M.length - j,
      ⟨_, _, [], 0, rfl, s1.trans s2, upd_same, GInv.start, rfl⟩, ?_⟩
    rintro m σ H2 ⟨qo, met, j, rfl, s3, hl3, I, rfl⟩
    obtain ⟨l1, l2⟩ := ginv_lt W hs hrd I
    cases qo with
    | none =>
      refine ⟨_, rfl, rfl, false, rfl, iteF ?_⟩
      exact ⟨_, rfl, rfl, q false H2 s3 ⟨fun z => (nomatch z), fun z => (I.no hne z).elim⟩⟩
    | some qr =>
      refine ⟨_, rfl, rfl, true, rfl, iteT ?_⟩
      refine ⟨_, rfl, _, rfl, l, _, rfl, .inl (SqL.of hl3), rfl, flat_nats _, ?_⟩
      have ei : inV (ov (some qr)) (met.map nv) = decide (qr ∈ met) := inV_nat qr met
      rw [ei]
      by_cases hm : qr ∈ met
      · rw [decide_eq_true hm]
        refine ⟨_, rfl, iteF ?_⟩
        exact ⟨_, rfl, rfl, q true H2 s3 ⟨fun _ => I.yes hne hm, fun _ => rfl⟩⟩
      · rw [decide_eq_false hm]
        refine ⟨_, rfl, iteT ⟨fun σ' H' => ∃ m', m' < M.length - j ∧ ∃ qo met j, σ' = [some v, some (.ref b), some (ov qo), some (.ref l)] ∧ Same H H' ∧ H' l = some (.lst (met.map nv)) ∧ GInv M st rd qo met j ∧ m' = M.length - j, fun _ _ z => z, ?_⟩⟩
        have I2 := I.next hm
        have hlen : j + 1 ≤ M.length := by
          rw [← I2.len]
          exact len_le_of_nodup _ _ I2.nd (ginv_lt W hs hrd I2).1
        refine ⟨_, rfl, .inl ⟨rfl, _, SqL.of hl3⟩, _, rfl, l, _, _, rfl, rfl, hl3, szl (by rw [List.length_map, I.len]; omega), ?_⟩
        have s4 : Same H (upd H2 l (.lst (met.map nv ++ [nv qr]))) := s3.own (s1.free nl)
        refine ⟨_, rfl, _, rfl, _, rfl, b, _, 1, _, rfl, rfl, SqT.of (s4 _ _ hb), rfl, v, x2, M, k, a, qr, rd, rfl, hM.mono s4.tups, W, l2 qr rfl, hx2.mono s4.tups, hrd, fun x H5 s5 hx => ?_⟩
        have ex : x = ov (kept M qr rd) := by
          rcases hx with ⟨e, h⟩ | ⟨q', e, h⟩
          · rw [e, h]; rfl
          · rw [e, h]; rfl
        subst ex
        exact ⟨M.length - (j + 1), by omega, _, met ++ [qr], j + 1, rfl, s4.trans s5, by rw [List.map_append]; exact s5 _ _ upd_same, I2, rfl⟩
/-! ### rooms_of -/
def spRooms : Sp := fun vs H Q _ => ∃ (v : V) (M : Mach) (k a : Nat), vs = [v] ∧ IsMach H v M ∧ WF k a M ∧ M.length ≤ 1000 ∧ ∀ (v' : V) (G : List Nat) (H' : Hp), Same H H' → IsInts H' v' G → Bfs M k G → Q v' H'
theorem scRooms : FnScope ["machine", "found", "at", "answered", "later"] ["machine"] (defScope sRooms) := ⟨rfl, rfl, rfl, by decide +kernel, rfl, by decide +kernel, by decide +kernel⟩
theorem ok_rooms {f : Addr} {fd : FuncData} (F : Fun K "rooms_of" "rooms_of" sRooms f fd) (T : Txt mg) : FnOk P w K mg base CX0 1 f fd ["machine"] spRooms := by
  refine F.ok scRooms (fun vs H Q E h => ?_) (fun cdv A outer s H vs Q E hr h => ?_)
  · obtain ⟨_, _, _, _, rfl, _⟩ := h
    rfl
  · obtain ⟨v, M, k, a, rfl, hM, W, hM1, q⟩ := h
    refine ⟨_, pss_cons (ps_set (i := 1) scRooms.nd rfl (Or.inl rfl) (pe_lst (pa_cons pe_int pa_nil)))
      (pss_cons (ps_set (i := 2) scRooms.nd rfl (Or.inl rfl) pe_int)
      (pss_cons (ps_while PassesOwn.never (pt_cmpR op_lt (pv 2) (pe_callB call_len_seq (by rfl) T.len_ PySem.boot_len (pa_cons (pv 1) pa_nil)) (nomark _))
        (pss_cons (ps_for PassesOwn.never rfl (pi_tup (pe_ix ix_tup (pv 0) (pe_ix ix_list (pv 1) (pv 2) (fun _ _ => rfl)) (fun _ _ => rfl))) (pg_tup (by rfl) (pgs_cons (pg_name (i := 3) scRooms.nd rfl (Or.inl rfl)) (pgs_cons (pg_name (i := 4) scRooms.nd rfl (Or.inl rfl)) pgs_nil)))
          (pss_one (ps_if (pt_cmpR op_notIn_seq (pv 4) (pv 1) (by rfl)) (pss_one (ps_expr (pe_bm PySem.F.plainAttrs_list PySem.F.slot_list_append PySem.F.type_list_append mt_append (pv 1) (pa_cons (pv 4) pa_nil)))) pss_nil)))
        (pss_one (ps_aug (i := 2) scRooms.nd rfl (.inl rfl) pe_int ip_add))))
      (pss_one (ps_ret (pe_callTy call_tuple_of (by rfl) T.tuple_ boot_tuple3 (pa_cons (pv 1) pa_nil)))))), ?_⟩
    refine ⟨by show 1 ≤ sizeLine; decide, fun l nl => ?_⟩
    have s1 := same_new (o := .lst [.int 0]) nl
    refine ⟨fun m σ H2 => ∃ x3 x4 G i, σ = [some v, some (.ref l), some (nv i), x3, x4] ∧ Same H H2 ∧ H2 l = some (.lst (G.map nv)) ∧ RInv M k G i ∧ m = M.length - i,
      ⟨_, none, none, [0], 0, rfl, s1, upd_same, RInv.start M, rfl⟩, ?_⟩
    rintro m σ H2 ⟨x3, x4, G, i, rfl, s2, hl2, I, rfl⟩
    have hGl := I.len W
    refine ⟨_, rfl, _, rfl, l, _, rfl, .inl (SqL.of hl2), _, _, rfl, rfl, _, rfl, ?_⟩
    refine ite2 (fun e => ?_) (fun e => ?_)
    · have hi : i < G.length := by
        have := of_decide_eq_true e
        rw [List.length_map] at this
        omega
      have hg : G[i]? = some G[i] := List.getElem?_eq_getElem hi
      have hrl : G[i] < M.length := I.lt W _ (List.mem_of_getElem? hg)
      obtain ⟨p, vs, p2, us, R, rfl, hp, hvl, hx, hp2, hul, hR, hRl, hus, hcell⟩ := mach_room (hM.mono s2.tups) W hrl
      refine ⟨fun σ' H' => ∃ m', m' < M.length - i ∧ ∃ x3 x4 G i, σ' = [some (.ref p), some (.ref l), some (nv i), x3, x4] ∧ Same H H' ∧ H' l = some (.lst (G.map nv)) ∧ RInv M k G i ∧ m' = M.length - i, fun _ _ z => z, ?_⟩
      refine ⟨_, rfl, _, rfl, _, rfl, l, _, _, _, rfl, rfl, SqL.of hl2, atI_nat (ints_get hg), p, vs, _, _, rfl, rfl, SqT.of hp, atI_nat hx, p2, rfl, ⟨_, SqT.of hp2⟩, ?_⟩
      refine for_tup (K := K) (a := p2) (xs := us) (fun c σ H3 => ∃ x3 x4 G', σ = [some (.ref p), some (.ref l), some (nv i), x3, x4] ∧ Same H H3 ∧ TupS H2 H3 ∧ H3 l = some (.lst (G'.map nv)) ∧ RIn M k G' i G[i] c)
        ⟨x3, x4, G, rfl, s2, TupS.rfl' H2, hl2, I.into W.kpos hg⟩ (fun c σ H3 _ ⟨_, _, _, _, _, t3, _⟩ => SqT.of (t3 _ _ hp2)) ?_ ?_
      · rintro c x σ H3 hxu ⟨x3, x4, G', rfl, s3, t3, hl3, J⟩
        have hck : c < k := by rw [← hul]; exact (List.getElem?_eq_some_iff.mp hxu).1
        obtain ⟨d, rfl, hd⟩ := hus.at_ c x _ hxu (hcell c hck)
        obtain ⟨n1, n2⟩ := J.inv
        have hG'l : G'.length ≤ M.length := len_le_of_nodup _ _ n1 fun x hx => by obtain ⟨j, rfl⟩ := n2 x hx; exact xw_lt W j
        refine ⟨d, _, rfl, SqT.of (t3 _ _ hd), rfl, _, _, rfl, _, _, rfl, rfl, ?_⟩
        refine ⟨_, rfl, _, rfl, l, _, rfl, .inl (SqL.of hl3), rfl, flat_nats _, ?_⟩
        have en : (cell M G[i] c).2 = nxt M G[i] c := rfl
        rw [en, inV_nat]
        by_cases hm : nxt M G[i] c ∈ G'
        · rw [decide_eq_true hm]
          exact ⟨_, rfl, iteF ⟨_, _, G', rfl, s3, t3, hl3, J.old hck hm⟩⟩
        · rw [decide_eq_false hm]
          refine ⟨_, rfl, iteT ?_⟩
          refine ⟨_, rfl, .inl ⟨rfl, _, SqL.of hl3⟩, _, rfl, l, _, _, rfl, rfl, hl3, szl (by rw [List.length_map]; omega), ?_⟩
          exact ⟨_, _, G' ++ [nxt M G[i] c], rfl, s3.own nl, t3.trans (tups_lst hl3), by rw [List.map_append]; exact upd_same, J.new hck hm⟩
      · rintro σ H3 ⟨x3, x4, G', rfl, s3, t3, hl3, J⟩
        rw [hul] at J
        exact ⟨_, rfl, _, _, rfl, rfl, M.length - (i + 1), by omega, x3, x4, G', i + 1, rfl, s3, hl3, J.next, rfl⟩
    · have hi : G.length ≤ i := by
        by_cases z : G.length ≤ i
        · exact z
        · exact absurd (decide_eq_true (by rw [List.length_map]; omega)) e
      refine ⟨_, rfl, l, _, rfl, .inl ⟨SqL.of hl2, fun t nt => ?_⟩⟩
      have s3 := same_new (o := .tup (G.map nv)) nt
      exact q _ G _ (s2.trans s3) ⟨t, rfl, upd_same⟩ (I.all W hi)
end
end Wk
set_option Elab.async false
set_option linter.all false
set_option maxRecDepth 100000
set_option maxHeartbeats 4000000
namespace Wk
open PySem PySem.Spec PyProof.Rows L2
abbrev sKeepsBy : Stmt := top 29
abbrev sGoesBy : Stmt := top 30
abbrev sBoth : Stmt := top 31
section
variable {P : Program} {w : World} {K : PySem.W.Frag} {mg : Str → Option Value} {base : Heap}
/-! ### keeps_by -/
theorem pkept_lt {k a : Nat} {P : Plan} (W : WP k a P) : ∀ {ts : List (Nat × Nat)} {r q : Nat}, r < P.length → (∀ t ∈ ts, t.2 < a) → pkept P r ts = some q → q < P.length
  | [], r, q, h, _, e => by cases e; exact h
  | (c, b) :: ts, r, q, h, ht, e => by
    unfold pkept at e
    split at e
    · obtain ⟨l, _, _, _, g⟩ := W.get h
      exact pkept_lt W (ts := ts) (g b (ht (c, b) (by simp))).2 (fun t m => ht t (by simp [m])) e
    · cases e
theorem pkept_take {P : Plan} {r i : Nat} {ts : List (Nat × Nat)} {t : Nat × Nat} {q : Nat} (h : ts[i]? = some t) (hq : pkept P r (ts.take i) = some q) : pkept P r (ts.take (i + 1)) = if pcame P q = t.1 then some (plater P q t.2) else none := by
  rw [List.take_add_one, h, pkept_append, hq]
  obtain ⟨c, b⟩ := t
  rfl
theorem pkept_none {P : Plan} {r i : Nat} {ts : List (Nat × Nat)} (h : pkept P r (ts.take i) = none) : pkept P r ts = none := by
  have := pkept_append P (ts.take i) (ts.drop i) r
  rw [List.take_append_drop, h] at this
  exact this
def spKeepsBy : Sp := fun vs H Q _ => ∃ (v y : V) (Pl : Plan) (k a r q' : Nat) (ts : List (Nat × Nat)), vs = [v, nv r, y] ∧ IsPlan H v Pl ∧ WP k a Pl ∧ r < Pl.length ∧ IsPairs H y ts ∧ (∀ t ∈ ts, t.2 < a) ∧ pkept Pl r ts = some q' ∧
  ∀ (H' : Hp), Same H H' → Q (nv q') H'
theorem scKeepsBy : FnScope ["plan", "room", "turns", "came", "answered"] ["plan", "room", "turns"] (defScope sKeepsBy) := ⟨rfl, rfl, rfl, by decide +kernel, rfl, by decide +kernel, by decide +kernel⟩
theorem ok_keepsby {f : Addr} {fd : FuncData} (F : Fun K "keeps_by" "keeps_by" sKeepsBy f fd) : FnOk P w K mg base CX0 1 f fd ["plan", "room", "turns"] spKeepsBy := by
  refine F.ok scKeepsBy (fun vs H Q E h => ?_) (fun cdv A outer s H vs Q E hr h => ?_)
  · obtain ⟨_, _, _, _, _, _, _, _, rfl, _⟩ := h
    rfl
  · obtain ⟨v, y, Pl, k, a, r, q', ts, rfl, hM, W, h1, ⟨us, ⟨b, rfl, hb⟩, hus⟩, ht, hk', q⟩ := h
    refine ⟨_, pss_cons (ps_for PassesOwn.never rfl (pi_tup (pv 2)) (pg_tup (by rfl) (pgs_cons (pg_name (i := 3) scKeepsBy.nd rfl (Or.inl rfl)) (pgs_cons (pg_name (i := 4) scKeepsBy.nd rfl (Or.inl rfl)) pgs_nil)))
        (pss_cons (ps_if (pt_cmpR op_ne (pe_ix ix_tup (pe_ix ix_tup (pv 0) (pv 1) (fun _ _ => rfl)) pe_int (fun _ _ => rfl)) (pv 3) (nomark _)) (pss_one ps_never) pss_nil)
        (pss_one (ps_set (i := 1) scKeepsBy.nd rfl (Or.inl rfl) (pe_ix ix_tup (pe_ix ix_tup (pe_ix ix_tup (pv 0) (pv 1) (fun _ _ => rfl)) pe_int (fun _ _ => rfl)) (pv 4) (fun _ _ => rfl))))))
      (pss_one (ps_ret (pv 1))), ?_⟩
    refine ⟨_, rfl, b, rfl, ⟨_, SqT.of hb⟩, for_tup (K := K) (a := b) (xs := us) (fun i σ H2 => ∃ x3 x4 qr, σ = [some v, some (nv qr), some (.ref b), x3, x4] ∧ Same H H2 ∧ pkept Pl r (ts.take i) = some qr)
      ⟨none, none, r, rfl, Same.refl H, rfl⟩ (fun i σ H2 _ ⟨_, _, _, _, s2, _⟩ => SqT.of (s2 _ _ hb)) ?_ ?_⟩
    · rintro i x σ H2 hx ⟨x3, x4, qr, rfl, s2, hk⟩
      obtain ⟨t, het, o, rfl, ho⟩ := hus.getV hx
      have htm : t ∈ ts := List.mem_of_getElem? het
      have hq : qr < Pl.length := pkept_lt W h1 (fun t m => ht t (List.mem_of_mem_take m)) hk
      have hstep := pkept_take het hk
      have heq : pcame Pl qr = t.1 := by
        by_cases z : pcame Pl qr = t.1
        · exact z
        · rw [if_neg z] at hstep
          have := pkept_none hstep
          rw [this] at hk'
          cases hk'
      obtain ⟨p, vs, x, lp, l, ev, hp, hvq, hxr, hlp, hll, hc, hlat⟩ := plan_room (hM.mono s2.tups) W hq
      subst ev
      refine ⟨o, _, rfl, SqT.of (s2 _ _ ho), rfl, _, _, rfl, _, _, rfl, rfl, ?_⟩
      refine ⟨_, rfl, _, rfl, p, vs, _, _, rfl, rfl, SqT.of hp, atI_nat hvq, x, _, 0, _, rfl, rfl, SqT.of hxr, rfl, _, rfl, rfl, _, rfl, ?_⟩
      rw [heq, decide_eq_true rfl]
      refine iteF ?_
      refine ⟨_, rfl, _, rfl, p, vs, _, _, rfl, rfl, SqT.of hp, atI_nat hvq, x, _, 1, _, rfl, rfl, SqT.of hxr, rfl, _, rfl, lp, _, _, _, rfl, rfl, SqT.of hlp, atI_nat (ints_get (hlat t.2 (ht t htm)).1), ?_⟩
      exact ⟨_, _, plater Pl qr t.2, rfl, s2, by rw [hstep, if_pos heq]⟩
    · rintro σ H2 ⟨x3, x4, qr, rfl, s2, hk⟩
      rw [hus.len, List.take_length, hk'] at hk
      cases hk
      exact ⟨_, rfl, q _ s2⟩
/-! ### goes_by -/
def spGoesBy : Sp := fun vs H Q _ => ∃ (v y : V) (M : Mach) (Pl : Plan) (k a : Nat) (s r : List (Nat × Nat)), vs = [v, y] ∧ IsPlan H v Pl ∧ WF k a M ∧ WP k a Pl ∧ Pl.length ≤ 1000 ∧ IsLoop H y s r ∧ LoopOf (bothTurn M Pl) s r ∧
  ∀ (H' : Hp), Same H H' → Q (.bl true) H'
theorem scGoesBy : FnScope ["plan", "loop", "room", "met"] ["plan", "loop"] (defScope sGoesBy) := ⟨rfl, rfl, rfl, by decide +kernel, rfl, by decide +kernel, by decide +kernel⟩
theorem loop_mem {f : Nat → Nat × Nat} {s r : List (Nat × Nat)} (h : LoopOf f s r) : (∀ t ∈ s, ∃ n, t = f n) ∧ ∀ t ∈ r, ∃ n, t = f n := by
  refine ⟨fun t ht => ?_, fun t ht => ?_⟩
  · obtain ⟨i, hi⟩ := List.mem_iff_getElem?.mp ht
    have := h.row i
    rw [rowAt_lt (List.getElem?_eq_some_iff.mp hi).1, hi] at this
    exact ⟨i, Option.some.inj this⟩
  · obtain ⟨i, hi⟩ := List.mem_iff_getElem?.mp ht
    have hl := (List.getElem?_eq_some_iff.mp hi).1
    have := h.row (s.length + i)
    rw [rowAt_ge (by omega), Nat.add_sub_cancel_left, Nat.mod_eq_of_lt hl, hi] at this
    exact ⟨_, Option.some.inj this⟩
theorem pround {M : Mach} {Pl : Plan} {s r : List (Nat × Nat)} (h : LoopOf (bothTurn M Pl) s r) (j : Nat) : pkept Pl (both M Pl (s.length + j * r.length)).2 r = some (both M Pl (s.length + (j + 1) * r.length)).2 := by
  have h1 := pkept_loop h (j + 1)
  rw [rep_snoc, ← List.append_assoc, pkept_append, pkept_loop h j] at h1
  exact h1
theorem ok_goesby {f : Addr} {fd : FuncData} (F : Fun K "goes_by" "goes_by" sGoesBy f fd) (A1 : Has P w K mg base "keeps_by" ["plan", "room", "turns"] 1 spKeepsBy) : FnOk P w K mg base CX0 2 f fd ["plan", "loop"] spGoesBy := by
  obtain ⟨f1, fd1, G1, g1, k1, b1⟩ := A1.ex
  refine F.ok scGoesBy (fun vs H Q E h => ?_) (fun cdv A outer s H vs Q E hr h => ?_)
  · obtain ⟨_, _, _, _, _, _, _, _, rfl, _⟩ := h
    rfl
  · obtain ⟨v, y, M, Pl, k, a, st, rd, rfl, hM, W, W2, hM1, ⟨x1, x2, ⟨b, rfl, hb⟩, hx1, hx2⟩, hlo, q⟩ := h
    obtain ⟨m1, m2⟩ := loop_mem hlo
    have hs : ∀ t ∈ st, t.2 < a := fun t ht => by obtain ⟨n, rfl⟩ := m1 t ht; exact (both_lt W W2 n).2.2.2
    have hrd : ∀ t ∈ rd, t.2 < a := fun t ht => by obtain ⟨n, rfl⟩ := m2 t ht; exact (both_lt W W2 n).2.2.2
    have h0 : pkept Pl 0 st = some (both M Pl (st.length + 0 * rd.length)).2 := by
      have := pkept_loop hlo 0
      simpa using this
    refine ⟨_, pss_cons (ps_set (i := 2) scGoesBy.nd rfl (Or.inl rfl) (pe_call G1 hr (by rfl) g1 k1 b1 .nil pass0 (pa_cons (pv 0) (pa_cons pe_int (pa_cons (pe_ix ix_tup (pv 1) pe_int (fun _ _ => rfl)) pa_nil)))))
      (pss_cons (ps_set (i := 3) scGoesBy.nd rfl (Or.inl rfl) (pe_lst pa_nil))
      (pss_cons (ps_while PassesOwn.never (PW.pt (pw_and (pt_cmpR op_notN (pv 2) pe_non (nomark _)) (pw_and1 (pt_cmpR op_notIn_seq (pv 2) (pv 3) (by rfl)))))
        (pss_cons (ps_expr (pe_bm PySem.F.plainAttrs_list PySem.F.slot_list_append PySem.F.type_list_append mt_append (pv 3) (pa_cons (pv 2) pa_nil)))
        (pss_one (ps_set (i := 2) scGoesBy.nd rfl (Or.inl rfl) (pe_call G1 hr (by rfl) g1 k1 b1 .nil pass0 (pa_cons (pv 0) (pa_cons (pv 2) (pa_cons (pe_ix ix_tup (pv 1) pe_int (fun _ _ => rfl)) pa_nil))))))))
      (pss_one (ps_ret (pe_cmpR op_notN (pv 2) pe_non (nomark _)))))), ?_⟩
    refine ⟨_, rfl, _, rfl, b, _, 0, _, rfl, rfl, SqT.of hb, rfl, v, x1, Pl, k, a, 0, _, st, rfl, hM, W2, W2.pos, hx1, hs, h0, fun H1 s1 => ?_⟩
    refine ⟨Nat.zero_le _, fun l nl => ?_⟩
    have s2 := same_new (o := .lst []) nl
    refine ⟨fun m σ H2 => ∃ (met : List Nat) (j : Nat), σ = [some v, some (.ref b), some (nv (both M Pl (st.length + j * rd.length)).2), some (.ref l)] ∧ Same H H2 ∧ H2 l = some (.lst (met.map nv)) ∧ met.Nodup ∧ met.length = j ∧ (∀ x ∈ met, x < Pl.length) ∧ m = Pl.length - j,
      ⟨_, [], 0, rfl, s1.trans s2, upd_same, List.nodup_nil, rfl, by simp, rfl⟩, ?_⟩
    rintro m σ H2 ⟨met, j, rfl, s3, hl3, n1, n2, n3, rfl⟩
    refine ⟨_, rfl, rfl, true, rfl, iteT ?_⟩
    refine ⟨_, rfl, _, rfl, l, _, rfl, .inl (SqL.of hl3), rfl, flat_nats _, ?_⟩
    rw [inV_nat]
    by_cases hm : (both M Pl (st.length + j * rd.length)).2 ∈ met
    · rw [decide_eq_true hm]
      refine ⟨_, rfl, iteF ?_⟩
      exact ⟨_, rfl, rfl, q H2 s3⟩
    · rw [decide_eq_false hm]
      refine ⟨_, rfl, iteT ⟨fun σ' H' => ∃ m', m' < Pl.length - j ∧ ∃ (met : List Nat) (j : Nat), σ' = [some v, some (.ref b), some (nv (both M Pl (st.length + j * rd.length)).2), some (.ref l)] ∧ Same H H' ∧ H' l = some (.lst (met.map nv)) ∧ met.Nodup ∧ met.length = j ∧ (∀ x ∈ met, x < Pl.length) ∧ m' = Pl.length - j, fun _ _ z => z, ?_⟩⟩
      have hbl := (both_lt W W2 (st.length + j * rd.length)).2.1
      have nd2 : (met ++ [(both M Pl (st.length + j * rd.length)).2]).Nodup := List.nodup_append.mpr ⟨n1, by simp, fun x hx y hy => by
        rintro rfl
        rw [List.mem_singleton.mp hy] at hx
        exact hm hx⟩
      have lt2 : ∀ x ∈ met ++ [(both M Pl (st.length + j * rd.length)).2], x < Pl.length := fun x hx => by
        rcases List.mem_append.mp hx with h | h
        · exact n3 x h
        · rw [List.mem_singleton.mp h]; exact hbl
      have hlen : j + 1 ≤ Pl.length := by
        have := len_le_of_nodup _ _ nd2 lt2
        simpa [n2] using this
      refine ⟨_, rfl, .inl ⟨rfl, _, SqL.of hl3⟩, _, rfl, l, _, _, rfl, rfl, hl3, szl (by rw [List.length_map, n2]; omega), ?_⟩
      have s4 : Same H (upd H2 l (.lst (met.map nv ++ [nv (both M Pl (st.length + j * rd.length)).2]))) := s3.own (s1.free nl)
      refine ⟨_, rfl, _, rfl, _, rfl, b, _, 1, _, rfl, rfl, SqT.of (s4 _ _ hb), rfl, v, x2, Pl, k, a, _, _, rd, rfl, hM.mono s4.tups, W2, hbl, hx2.mono s4.tups, hrd, pround hlo j, fun H5 s5 => ?_⟩
      exact ⟨Pl.length - (j + 1), by omega, met ++ [(both M Pl (st.length + j * rd.length)).2], j + 1, rfl, s4.trans s5, by rw [List.map_append]; exact s5 _ _ upd_same, nd2, by simp [n2], lt2, rfl⟩
/-! ### loop_of_both -/
abbrev tE (p : (Nat × Nat) × Nat) : List Key × V := ([Sum.inl (p.1.1 : Int), Sum.inl (p.1.2 : Int)], nv p.2)
theorem tE_val (r : Nat × Nat) : ∀ B : List ((Nat × Nat) × Nat), (∃ b, (r, b) ∈ B ∧ valV (B.map tE) [Sum.inl (r.1 : Int), Sum.inl (r.2 : Int)] = some (nv b)) ∨ (r ∉ B.map (·.1) ∧ valV (B.map tE) [Sum.inl (r.1 : Int), Sum.inl (r.2 : Int)] = none)
  | [] => .inr ⟨by simp, rfl⟩
  | (q, b) :: B => by
    rw [List.map_cons]
    by_cases e : q = r
    · subst e
      exact .inl ⟨b, by simp, valV_pos rfl⟩
    · have hne : ¬ (tE (q, b)).1 = ([Sum.inl (r.1 : Int), Sum.inl (r.2 : Int)] : List Key) := fun z => e (by
        simp only [List.cons.injEq, Sum.inl.injEq, and_true] at z
        exact Prod.ext (Int.ofNat.inj z.1) (Int.ofNat.inj z.2))
      rw [valV_neg hne]
      rcases tE_val r B with ⟨b', h1, h2⟩ | ⟨h1, h2⟩
      · exact .inl ⟨b', by simp [h1], h2⟩
      · refine .inr ⟨?_, h2⟩
        simp only [List.map_cons, List.mem_cons, not_or]
        exact ⟨fun z => e z.symm, h1⟩
def spBoth : Sp := fun vs H Q _ => ∃ (v y : V) (M : Mach) (Pl : Plan) (k a : Nat), vs = [v, y] ∧ IsMach H v M ∧ IsPlan H y Pl ∧ WF k a M ∧ WP k a Pl ∧ M.length * Pl.length ≤ 200 ∧
  ∀ (v' : V) (s' r' : List (Nat × Nat)) (H' : Hp), Same H H' → IsLoop H' v' s' r' → LoopOf (bothTurn M Pl) s' r' → Q v' H'
theorem scBoth : FnScope ["machine", "plan", "room", "spot", "begins", "turns", "came", "laters", "turn", "at"] ["machine", "plan"] (defScope sBoth) := ⟨rfl, rfl, rfl, by decide +kernel, rfl, by decide +kernel, by decide +kernel⟩
theorem ok_both {f : Addr} {fd : FuncData} (F : Fun K "loop_of_both" "loop_of_both" sBoth f fd) (T : Txt mg) (A1 : Has P w K mg base "step" ["machine", "room", "came"] 1 spStep)
    (A3 : Has P w K mg base "told_loop" ["stem", "around"] 3 spTold) : FnOk P w K mg base CX0 4 f fd ["machine", "plan"] spBoth := by
  obtain ⟨f1, fd1, G1, g1, k1, b1⟩ := A1.ex
  obtain ⟨f3, fd3, G3, g3, k3, b3⟩ := A3.ex
  refine F.ok scBoth (fun vs H Q E h => ?_) (fun cdv A outer s H vs Q E hr h => ?_)
  · obtain ⟨_, _, _, _, _, _, rfl, _⟩ := h
    rfl
  · obtain ⟨v, y, M, Pl, k, a, rfl, hM, hP, W, W2, hlen, q⟩ := h
    have hr1 : L2.Room 1 _ := hr.mono (by decide)
    have hu1 := hu_of hr
    refine ⟨_, pss_cons (ps_asg (pe_tup (pa_cons pe_int (pa_cons pe_int pa_nil))) (pg_tup (by rfl) (pgs_cons (pg_name (i := 2) scBoth.nd rfl (Or.inl rfl)) (pgs_cons (pg_name (i := 3) scBoth.nd rfl (Or.inl rfl)) pgs_nil))))
      (pss_cons (ps_set (i := 4) scBoth.nd rfl (Or.inl rfl) pe_dnewT)
      (pss_cons (ps_set (i := 5) scBoth.nd rfl (Or.inl rfl) (pe_lst pa_nil))
      (pss_cons (ps_while PassesOwn.never (pt_cmp (pc_dnotin hu1 (pe_tup (pa_cons (pv 2) (pa_cons (pv 3) pa_nil))) (pv 4)))
        (pss_cons (ps_dput hu1 (pv 4) (pe_tup (pa_cons (pv 2) (pa_cons (pv 3) pa_nil))) (pe_callB call_len_seq (by rfl) T.len_ PySem.boot_len (pa_cons (pv 5) pa_nil)) rfl)
        (pss_cons (ps_asg (pe_ix ix_tup (pv 1) (pv 3) (fun _ _ => rfl)) (pg_tup (by rfl) (pgs_cons (pg_name (i := 6) scBoth.nd rfl (Or.inl rfl)) (pgs_cons (pg_name (i := 7) scBoth.nd rfl (Or.inl rfl)) pgs_nil))))
        (pss_cons (ps_asg (pe_call G1 hr1 (by rfl) g1 k1 b1 .nil pass0 (pa_cons (pv 0) (pa_cons (pv 2) (pa_cons (pv 6) pa_nil)))) (pg_tup (by rfl) (pgs_cons (pg_name (i := 8) scBoth.nd rfl (Or.inl rfl)) (pgs_cons (pg_name (i := 2) scBoth.nd rfl (Or.inl rfl)) pgs_nil))))
        (pss_cons (ps_expr (pe_bm PySem.F.plainAttrs_list PySem.F.slot_list_append PySem.F.type_list_append mt_append (pv 5) (pa_cons (pv 8) pa_nil)))
        (pss_one (ps_set (i := 3) scBoth.nd rfl (Or.inl rfl) (pe_ix ix_tup (pv 7) (pe_ix ix_tup (pv 8) pe_int (fun _ _ => rfl)) (fun _ _ => rfl)))))))))
      (pss_cons (ps_set (i := 9) scBoth.nd rfl (Or.inl rfl) (pe_dget hu1 (pv 4) (pe_tup (pa_cons (pv 2) (pa_cons (pv 3) pa_nil))) (fun _ _ => rfl)))
      (pss_one (ps_ret (pe_call G3 hr (by rfl) g3 k3 b3 .nil pass0 (pa_cons (pe_slice sl_list (pv 5) po_none (po_some (pv 9))) (pa_cons (pe_slice sl_list (pv 5) (po_some (pv 9)) po_none) pa_nil))))))))), ?_⟩
    refine ⟨by show 2 ≤ sizeLine; decide, fun z0 nz0 => ?_⟩
    have s0 := same_new (o := .tup [.int 0, .int 0]) nz0
    refine ⟨z0, _, rfl, SqT.of upd_same, rfl, _, _, rfl, _, _, rfl, rfl, ?_⟩
    intro d nd
    have s1 := same_new (o := .dT []) nd
    refine ⟨Nat.zero_le _, fun l nl => ?_⟩
    have s2 := same_new (o := .lst []) nl
    have nld : l ≠ d := fun z => by rw [z, upd_same] at nl; cases nl
    have nd0 : H d = none := s0.free nd
    have nl0 : H l = none := (s0.trans s1).free nl
    refine ⟨fun m σ H5 => ∃ x6 x7 x8 x9 T B j vs, σ = [some v, some y, some (nv (both M Pl j).1), some (nv (both M Pl j).2), some (.ref d), some (.ref l), x6, x7, x8, x9] ∧ Same H H5 ∧ H5 d = some (.dT (B.map tE)) ∧ H5 l = some (.lst vs) ∧ IsSeq (IsPair H5) vs T ∧ BInv M Pl T B j ∧ m = M.length * Pl.length - j,
      ⟨_, none, none, none, none, [], [], 0, [], rfl, (s0.trans s1).trans s2, by rw [upd_ne nld.symm, upd_same]; rfl, upd_same, IsSeq.nil, BInv.start, rfl⟩, ?_⟩
    rintro m σ H5 ⟨x6, x7, x8, x9, Tn, B, j, vs, rfl, s5, hd5, hl5, hvs, I, rfl⟩
    obtain ⟨b1', b2', b3', b4'⟩ := both_lt W W2 j
    have hjl := I.len_le W W2
    have hTl : Tn.length = j := by rw [I.turns, pre_len]
    have hvl := hvs.len
    refine ⟨_, rfl, _, rfl, by show 2 ≤ sizeLine; decide, fun t nt => ?_⟩
    have st := same_new (o := .tup [nv (both M Pl j).1, nv (both M Pl j).2]) nt
    refine ⟨_, rfl, d, _, rfl, DGet.t (k := [Sum.inl ((both M Pl j).1 : Int), Sum.inl ((both M Pl j).2 : Int)]) (st _ _ hd5) upd_same, _, rfl, ?_⟩
    rcases tE_val (both M Pl j) B with ⟨b, hb, e⟩ | ⟨hb, e⟩
    · rw [e]
      refine iteF ?_
      obtain ⟨d1, d2⟩ := I.done hb
      refine ⟨_, rfl, _, rfl, _, rfl, by show 2 ≤ sizeLine; decide, fun t2 nt2 => ?_⟩
      have st2 := same_new (o := .tup [nv (both M Pl j).1, nv (both M Pl j).2]) nt2
      have g2 := DGet.t (k := [Sum.inl ((both M Pl j).1 : Int), Sum.inl ((both M Pl j).2 : Int)]) (st2 _ _ (st _ _ hd5)) (upd_same (a := t2))
      rw [e] at g2
      refine ⟨d, _, rfl, g2, ?_⟩
      have s6 := st.trans st2
      refine ⟨_, rfl, _, rfl, _, rfl, l, vs, rfl, SqL.of (s6 _ _ hl5), fun c nc => ?_⟩
      have s7 := same_new (o := .lst (cutV vs none (some (b : Int)))) nc
      rw [cut_to] at s7 ⊢
      refine ⟨_, rfl, _, rfl, _, rfl, l, vs, rfl, SqL.of (s7 _ _ (s6 _ _ hl5)), fun c3 nc3 => ?_⟩
      have s8 := same_new (o := .lst (cutV vs (some (b : Int)) none)) nc3
      rw [cut_from] at s8 ⊢
      have sB := (s6.trans s7).trans s8
      refine ⟨_, _, Tn.take b, Tn.drop b, bothTurn M Pl, rfl, ⟨c, _, rfl, s8 _ _ upd_same, (hvs.take b).mono fun _ _ z => z.mono sB.tups⟩, ⟨c3, _, rfl, upd_same, (hvs.drop b).mono fun _ _ z => z.mono sB.tups⟩, ?_, ?_, ?_, d2, fun v' s' r' H' s9 hL hlo => ?_⟩
      · intro z
        have := congrArg List.length z
        rw [List.length_drop, List.length_nil] at this
        omega
      · rw [List.length_take]; omega
      · rw [List.length_drop]; omega
      · exact q v' s' r' H' ((s5.trans sB).trans s9) hL hlo
    · rw [e]
      refine iteT ⟨fun σ' H' => ∃ m', m' < M.length * Pl.length - j ∧ ∃ x6 x7 x8 x9 T B j vs, σ' = [some v, some y, some (nv (both M Pl j).1), some (nv (both M Pl j).2), some (.ref d), some (.ref l), x6, x7, x8, x9] ∧ Same H H' ∧ H' d = some (.dT (B.map tE)) ∧ H' l = some (.lst vs) ∧ IsSeq (IsPair H') vs T ∧ BInv M Pl T B j ∧ m' = M.length * Pl.length - j, fun _ _ z => z, ?_⟩
      have I2 := I.next hb
      have hjl2 := I2.len_le W W2
      have hl6 := st _ _ hl5
      have hd6 := st _ _ hd5
      refine ⟨_, rfl, l, vs, rfl, .inl (SqL.of hl6), _, rfl, _, rfl, _, rfl, by show 2 ≤ sizeLine; decide, fun t2 nt2 => ?_⟩
      have st2 := same_new (o := .tup [nv (both M Pl j).1, nv (both M Pl j).2]) nt2
      have hd7 := st2 _ _ hd6
      refine ⟨d, _, rfl, DPut.t (k := [Sum.inl ((both M Pl j).1 : Int), Sum.inl ((both M Pl j).2 : Int)]) hd7 upd_same (szl (by rw [List.length_map, I.len]; omega)), ?_⟩
      have eB : putK (B.map tE) [Sum.inl ((both M Pl j).1 : Int), Sum.inl ((both M Pl j).2 : Int)] (V.int (vs.length : Int)) = (B ++ [(both M Pl j, Tn.length)]).map tE := by
        rw [putK_new _ e, List.map_append, hvl]; rfl
      rw [eB]
      have sC := st.trans st2
      have s8 : Same H _ := (s5.trans sC).own (o := .dT ((B ++ [(both M Pl j, Tn.length)]).map tE)) nd0
      have t8 : TupS H5 _ := sC.tups.trans (tups_dT (o := .dT ((B ++ [(both M Pl j, Tn.length)]).map tE)) hd7)
      have hl8 : (upd (upd (upd H5 t (.tup [nv (both M Pl j).1, nv (both M Pl j).2])) t2 (.tup [nv (both M Pl j).1, nv (both M Pl j).2])) d (.dT ((B ++ [(both M Pl j, Tn.length)]).map tE))) l = some (.lst vs) := by rw [upd_ne nld]; exact st2 _ _ hl6
      obtain ⟨p, ps, x, lp, ll, ev, hp, hpq, hxr, hlp, hll, hc, hlat⟩ := plan_room (hP.mono s8.tups) W2 b2'
      subst ev
      refine ⟨_, rfl, _, rfl, p, ps, _, _, rfl, rfl, SqT.of hp, atI_nat hpq, x, _, rfl, SqT.of hxr, rfl, _, _, rfl, _, _, rfl, rfl, ?_⟩
      refine ⟨_, rfl, _, rfl, _, rfl, v, M, k, a, (both M Pl j).1, pcame Pl (both M Pl j).2, rfl, hM.mono s8.tups, W, b1', hc, fun v' tv H9 s9 ⟨o, ev, ho⟩ htv => ?_⟩
      subst ev
      refine ⟨o, _, rfl, SqT.of ho, rfl, _, _, rfl, _, _, rfl, rfl, ?_⟩
      have hl9 := s9 _ _ hl8
      refine ⟨_, rfl, .inl ⟨rfl, _, SqL.of hl9⟩, _, rfl, l, _, _, rfl, rfl, hl9, szl (by omega), ?_⟩
      have t10 : TupS H9 (upd H9 l (.lst (vs ++ [tv]))) := tups_lst hl9
      obtain ⟨o3, rfl, ho3⟩ := htv
      refine ⟨_, rfl, _, rfl, o3, _, 1, _, rfl, rfl, SqT.of (t10 _ _ ho3), rfl, lp, _, _, _, rfl, rfl, SqT.of (t10 _ _ (s9 _ _ hlp)), atI_nat (ints_get (hlat _ b4').1), ?_⟩
      have tA := (t8.trans s9.tups).trans t10
      exact ⟨M.length * Pl.length - (j + 1), by omega, _, _, _, x9, Tn ++ [bothTurn M Pl j], B ++ [(both M Pl j, Tn.length)], j + 1, vs ++ [.ref o3], rfl, (s8.trans s9).own nl0, by rw [upd_ne nld.symm]; exact s9 _ _ upd_same, upd_same, (hvs.mono fun _ _ z => z.mono tA).snoc ⟨o3, rfl, t10 _ _ ho3⟩, I2, rfl⟩
end
end Wk
set_option Elab.async false
set_option linter.all false
set_option maxRecDepth 100000
set_option maxHeartbeats 4000000
/-! Rules that the layer lacks: dicts whose keys are nested tuples; dicts compared; a display with a tuple as its key. -/
namespace Wk
open PySem PySem.Spec PyProof.Rows L2

/-! ### nested keys -/
mutual
/-- the value is the key, as far as H tells -/
inductive NIs (H : Hp) : NestedKey → V → Prop
  | num (i : Int) : NIs H (.num i) (.int i)
  | tup {a : Addr} {vs : List V} {ks : List NestedKey} : H a = some (.tup vs) → NAll H ks vs → NIs H (.tup ks) (.ref a)
inductive NAll (H : Hp) : List NestedKey → List V → Prop
  | nil : NAll H [] []
  | cons {k : NestedKey} {v : V} {ks : List NestedKey} {vs : List V} : NIs H k v → NAll H ks vs → NAll H (k :: ks) (v :: vs)
end
section
variable {H H' : Hp}
mutual
theorem NIs.mono (t : TupS H H') : ∀ {k : NestedKey} {v : V}, NIs H k v → NIs H' k v
  | _, _, .num i => .num i
  | _, _, .tup h a => .tup (t _ _ h) (NAll.mono t a)
theorem NAll.mono (t : TupS H H') : ∀ {ks : List NestedKey} {vs : List V}, NAll H ks vs → NAll H' ks vs
  | _, _, .nil => .nil
  | _, _, .cons h a => .cons (NIs.mono t h) (NAll.mono t a)
end
variable {P : Program} {w : World} {h : Heap}
mutual
theorem NIs.real (ok : HOk P w H h) : ∀ (k : NestedKey) (v : V) (u : Value), NIs H k v → RelV v u → NestedIs h k u
  | .none, _, _, x, _ => by cases x
  | .text _, _, _, x, _ => by cases x
  | .num i, _, _, x, r => by
    cases x
    obtain ⟨t, rfl⟩ := r
    exact .int _ t
  | .tup ks, _, _, x, r => by
    cases x with
    | @tup a vs _ ha hk =>
      cases (show _ = Value.ref a from r)
      obtain ⟨_, its, rv, o, h1, h2, n, h3⟩ := (show ObjOk P w H h a (.tup vs) from ok a _ ha)
      exact .tup h1 h2 h3 (by simpa using NAll.real ok ks vs its hk rv)
theorem NAll.real (ok : HOk P w H h) : ∀ (ks : List NestedKey) (vs : List V) (us : List Value), NAll H ks vs → Vals vs us → NestedAll h ks us
  | [], _, _, x, r => by cases x; cases r; exact .nil
  | k :: ks, _, _, x, r => by
    cases x with
    | cons x1 x2 =>
      cases r with
      | cons r1 r2 => exact .cons (NIs.real ok k _ _ x1 r1) (NAll.real ok ks _ _ x2 r2)
end
end
theorem nall_ints {H : Hp} : ∀ w : List Nat, NAll H (w.map fun (n : Nat) => NestedKey.num (n : Int)) (w.map nv)
  | [] => .nil
  | n :: w => .cons (.num _) (nall_ints w)

/-- a dict with such keys, in order: the key, the tuple that it is, the value -/
abbrev NEnt := NestedKey × Addr × V
def NRel (p : NEnt) (q : NestedKey × Addr × Value) : Prop := p.1 = q.1 ∧ p.2.1 = q.2.1 ∧ RelV p.2.2 q.2.2
def NObj (P : Program) (w : World) (d : Addr) (kvs : List NEnt) (h : Heap) : Prop :=
  (d == sysModules) = false ∧ ∃ xs : List (NestedKey × Addr × Value), Paired NRel kvs xs ∧ ∃ o es ep, h.get? d = some o ∧ o.ExactDict ∧ o.data = .dict es ep ∧ es.toList = xs.map (entryOfKey (nestedKind P w)) ∧ (xs.map (·.1)).Nodup
def ND (P : Program) (w : World) (d : Addr) (kvs : List NEnt) : HO := .ext (NObj P w d kvs)
theorem nobj_at {P : Program} {w : World} {d : Addr} {kvs : List NEnt} {h1 h2 : Heap} (x : NObj P w d kvs h1) (k : ∀ o, h1.get? d = some o → h2.get? d = some o) : NObj P w d kvs h2 := by
  obtain ⟨y, xs, r, o, es, ep, e, c⟩ := x
  exact ⟨y, xs, r, o, es, ep, k o e, c⟩
theorem nobj_ok {P : Program} {w : World} {H : Hp} {h : Heap} {d : Addr} {kvs : List NEnt} (x : NObj P w d kvs h) : ObjOk P w H h d (ND P w d kvs) := by
  have ⟨_, _, _, o, _, _, e, _⟩ := x
  exact ⟨x, ⟨o, e⟩, fun h1 h2 p k => nobj_at p k⟩
/-- its keys are there -/
def NKeys (H : Hp) (kvs : List NEnt) : Prop := ∀ p ∈ kvs, NIs H p.1 (.ref p.2.1) ∧ p.1.depth ≤ 8
theorem NKeys.mono {H H' : Hp} {kvs : List NEnt} (x : NKeys H kvs) (t : TupS H H') : NKeys H' kvs := fun p hp => ⟨(x p hp).1.mono t, (x p hp).2⟩
def nval (kvs : List NEnt) (k : NestedKey) : Option V := (kvs.find? fun p => decide (p.1 = k)).map (·.2.2)
section
variable {P : Program} {w : World} {H : Hp} {h : Heap} {d : Addr} {kvs : List NEnt}
theorem nrel_key {p : NEnt} {q : NestedKey × Addr × Value} (r : NRel p q) : p.1 = q.1 := r.1
theorem nval_rel (k : NestedKey) : ∀ {kvs : List NEnt} {xs : List (NestedKey × Addr × Value)}, Paired NRel kvs xs → RelO (nval kvs k) ((atKey xs k).map (·.2))
  | _, _, .nil => True.intro
  | _, _, .cons (a := p) (b := q) r t => by
    have ih := nval_rel k t
    unfold nval atKey at ih ⊢
    rw [List.find?_cons, List.find?_cons, nrel_key r]
    by_cases e : q.1 = k
    · rw [decide_eq_true e]
      exact r.2.2
    · rw [decide_eq_false e]
      exact ih
theorem n_dict (ok : HOk P w H h) (e : H d = some (ND P w d kvs)) (K : NKeys H kvs) : (d == sysModules) = false ∧ ∃ xs, Paired NRel kvs xs ∧ h.DictOfH (nestedKind P w) d xs := by
  obtain ⟨⟨y, xs, r, o, es, ep, h1, h2, h3, h4, h5⟩, _, _⟩ := (show ObjOk P w H h d (ND P w d kvs) from ok d _ e)
  refine ⟨y, xs, r, o, es, ep, h1, h2, h3, h4, fun x hx => ?_, h5⟩
  have all : ∀ {l : List NEnt} {m : List (NestedKey × Addr × Value)}, Paired NRel l m → NKeys H l → ∀ x ∈ m, (nestedKind P w).is h x.1 x.2.1 := by
    intro l m q
    induction q with
    | nil => intro _ x hx; exact nomatch hx
    | @cons p q ps qs hq t ih =>
      intro hk x hx
      rcases List.mem_cons.mp hx with e | hx
      · subst e
        obtain ⟨g1, g2⟩ := hk p (by simp)
        have g3 := NIs.real ok _ _ (Value.ref p.2.1) g1 rfl
        rw [hq.2.1, hq.1] at g3
        rw [hq.1] at g2
        exact ⟨g3, g2⟩
      · exact ih (fun p hp => hk p (by simp [hp])) x hx
  exact all r K x hx
end
/-! {} -/
def tDNewN (P : Program) (w : World) : TE := fun _ H Q => ∀ p, H p = none → Q (.ref p) (upd H p (ND P w p []))
section
variable {X : Cx} {pos : Pos}
theorem pe_dnewN : PE X (.Dict [] [] pos) (tDNewN X.prog X.w) := ⟨fun pins s σ H Q I h =>
  wpAny_Dict_empty ⟨.ref s.heap.objs.size, _, I.laid (a := s.heap.objs.size) (o := ND X.prog X.w s.heap.objs.size []) (t' := s.toks) (fun _ _ q => Heap.get?_push_of_some _ q) (Nat.le_refl _)
    (nobj_ok ⟨(dt_empty (P := X.prog) (w := X.w) (H := H) s.heap I.big).2.1, [], .nil, _, _, _, Heap.get?_push_size _ rfl, ⟨rfl, rfl, rfl⟩, rfl, rfl, List.nodup_nil⟩), rfl, h _ (I.hok.fresh (Nat.le_refl _))⟩⟩
/-- len(d) -/
def rLenN (P : Program) (w : World) : List V → Hp → VK → Prop := fun xs H Q => ∃ (d : Addr) (kvs : List NEnt), xs = [.ref d] ∧ H d = some (ND P w d kvs) ∧ NKeys H kvs ∧ kvs.length ≤ 100000 ∧ Q (.int ((kvs.length : Nat) : Int)) H
theorem call_len_N : CallR X (.builtin "len") (rLenN X.prog X.w) := by
  intro pins s σ H xs us Q I r h
  obtain ⟨d, kvs, rfl, hd, hk, hz, q⟩ := h
  obtain ⟨u, rfl, rx⟩ := vals1 r
  obtain rfl : u = .ref d := rx
  obtain ⟨y, ys, rel, dd⟩ := n_dict I.hok hd hk
  have hl : kvs.length = ys.length := Paired.length rel
  refine call_len_dictH y dd (by omega) ?_
  rw [← hl]
  exact ⟨.int ((kvs.length : Nat) : Int), H, I.tok _, ⟨_, rfl⟩, q⟩
/-- d[k], k there -/
def rIxN (P : Program) (w : World) : V → V → Hp → VK → Prop := fun x y H Q => ∃ (d a : Addr) (kvs : List NEnt) (k : NestedKey) (v : V), x = .ref d ∧ y = .ref a ∧ H d = some (ND P w d kvs) ∧ NKeys H kvs ∧ NIs H k (.ref a) ∧ k.depth ≤ 8 ∧ nval kvs k = some v ∧ Q v H
theorem n_room {A : Around} (hu : A.units + 64 < cLine) : A.in1.units + 8 < cLine := by
  rw [Around.in1_units]
  omega
theorem pe_ixN {o i : Expr} {td ty : TE} (hu : X.A.units + 64 < cLine) (ho : PE X o td) (hi : PE X i ty) (hs : NoSl i) : PE X (.Subscript o i pos) (tOp (rIxN X.prog X.w) td ty) := by
  refine ⟨fun pins s σ H Q I h => ?_⟩
  refine subD_of PySem.F.slot_dict_getitem.lookup hs (thn (ho.run pins s σ H _ I h) fun u s1 ⟨x, H1, I1, rx, q1⟩ => thn (hi.run pins s1 σ H1 _ I1 q1) fun iv s2 ⟨y, H2, I2, ry, d, a, kvs, k, v, ex, ey, hd, hk, hn, hdp, hv, q2⟩ => ?_)
  subst ex ey
  obtain rfl : u = Value.ref d := rx
  obtain rfl : iv = Value.ref a := ry
  obtain ⟨y, ys, rel, dd⟩ := n_dict I2.hok hd hk
  have hr := nval_rel k rel
  rw [hv] at hr
  obtain ⟨w', hw, rw'⟩ := RelO.some_of hr
  obtain ⟨p, hp, hp2⟩ := Option.map_eq_some_iff.mp hw
  refine ⟨dd.typeIs, wpAny_getItem_heap (knd := nestedKind X.prog X.w) (n_room hu) ⟨NIs.real I2.hok _ _ (Value.ref a) hn rfl, hdp⟩ dd hp ?_⟩
  rw [hp2]
  exact ⟨v, H2, I2.tok _, rw', q2⟩
/-- d.setdefault(k, v) -/
def tSetdN (P : Program) (w : World) (td ty tx : TE) : TE := fun σ H Q => td σ H fun x H1 => ∃ (d : Addr) (kvs0 : List NEnt), x = .ref d ∧ H1 d = some (ND P w d kvs0) ∧ NKeys H1 kvs0 ∧ ty σ H1 fun y H2 => tx σ H2 fun z H3 =>
  ∃ (a : Addr) (kvs : List NEnt) (k : NestedKey), y = .ref a ∧ H3 d = some (ND P w d kvs) ∧ NKeys H3 kvs ∧ NIs H3 k (.ref a) ∧ k.depth ≤ 8 ∧ kvs.length ≤ 100000 ∧
  (∀ v, nval kvs k = some v → Q v H3) ∧ (nval kvs k = none → Q z (upd H3 d (ND P w d (kvs ++ [(k, a, z)]))))
theorem n_snoc {kvs : List NEnt} {xs : List (NestedKey × Addr × Value)} {p : NEnt} {q : NestedKey × Addr × Value} (r : Paired NRel kvs xs) (e : NRel p q) : Paired NRel (kvs ++ [p]) (xs ++ [q]) := by
  induction r with
  | nil => exact .cons e .nil
  | cons a _ ih => exact .cons a ih
theorem pe_setdN {o e f : Expr} {td ty tx : TE} {apos cpos : Pos} (hu : X.A.units + 64 < cLine) (ho : PE X o td) (he : PE X e ty) (hf : PE X f tx) (m : M2 X o "setdefault" apos e f cpos) :
    PE X (.Call (.Attribute o "setdefault" apos) [e, f] [] cpos) (tSetdN X.prog X.w td ty tx) := by
  refine ⟨fun pins s σ H Q I h => ?_⟩
  refine wpAny_Call_method m.base m.few m.line PySem.F.plainAttrs_dict PySem.F.slot_dict_setdefault PySem.F.type_dict_setdefault (thn (ho.run pins s σ H _ I h) fun u s1 ⟨x, H1, I1, rx, d, kvs0, ex, hd0, hk0, q1⟩ => ?_)
  subst ex
  obtain rfl : u = Value.ref d := rx
  obtain ⟨_, ys0, _, dd0⟩ := n_dict I1.hok hd0 hk0
  refine ⟨dd0.typeIs, fun b q => ?_, ?_⟩
  · cases q
    obtain ⟨o, _, _, g1, g2, _⟩ := dd0
    exact ⟨o, g1, g2.2.1⟩
  rw [m.trees]
  refine Calls.callWith_builtin rfl (Calls.evalArgs_plain (Calls.spliced_cons (thn (he.run pins s1 σ H1 _ I1 q1) fun iv s2 ⟨y, H2, I2, ry, q2⟩ =>
    Calls.spliced_cons (thn (hf.run pins s2 σ H2 _ I2 q2) fun fv s3 ⟨z, H3, I3, rz, a, kvs, k, ey, hd, hk, hn, hdp, hz, q3, q4⟩ => Calls.spliced_nil ?_))))
  subst ey
  obtain rfl : iv = Value.ref a := ry
  obtain ⟨y, ys, rel, dd⟩ := n_dict I3.hok hd hk
  have hl : kvs.length = ys.length := Paired.length rel
  have hr := nval_rel k rel
  show wpAny _ _ (call (.builtin "dict.setdefault") [.ref d, .ref a, fv]) _ _ _
  refine call_setdefault_heap (knd := nestedKind X.prog X.w) (hsz := by rw [← hl, sizeLine_eq]; omega) (n_room hu) ⟨NIs.real I3.hok _ _ (Value.ref a) hn rfl, hdp⟩ y dd (fun p hp => ?_) (fun hp h' dd' hs => ?_)
  · rw [hp] at hr
    cases e0 : nval kvs k with
    | none =>
      rw [e0] at hr
      exact hr.elim
    | some v =>
      rw [e0] at hr
      exact ⟨v, H3, I3.tok _, hr, q3 v e0⟩
  · rw [hp] at hr
    cases e0 : nval kvs k with
    | some v =>
      rw [e0] at hr
      exact hr.elim
    | none =>
      obtain ⟨o, es, ep, g1, g2, g3, g4, _, g5⟩ := dd'
      rw [storedH_new hp] at g4 g5
      refine ⟨z, _, d_write (t' := s3.toks + _) I3 (by rw [hd]; exact True.intro) hs ⟨o, g1⟩ (nobj_ok ⟨y, _, n_snoc rel (p := (k, a, z)) (q := (k, a, fv)) ⟨rfl, rfl, rz⟩, o, es, ep, g1, g2, g3, g4, g5⟩), rz, q4 e0⟩
end

/-! ### dicts from numbers to numbers compared -/
section
variable {X : Cx}
theorem dE_hits {A : Around} {s : Shared} : ∀ {ks ls ls0 : List (Nat × Nat)} {vs ws ws0 : List (Key × Value)}, KV (ks.map dE) vs → KV (ls.map dE) ws → KV (ls0.map dE) ws0 → ks.map (·.1) = ls.map (·.1) →
    (∀ p ∈ ls, valV (ls0.map dE) (Sum.inl (p.1 : Int)) = some (nv p.2)) → PySem.W.KeqHits A s ws0 vs (decide (ks = ls))
  | [], [], _, _, _, _, r, _, _, _, _ => by cases r; simp only [decide_true]; exact .nil
  | [], _ :: _, _, _, _, _, _, _, _, h, _ => by simp at h
  | _ :: _, [], _, _, _, _, _, _, _, h, _ => by simp at h
  | (q, b) :: ks, (q', b') :: ls, ls0, _, _, ws0, r, r', r0, h, hv => by
    simp only [List.map_cons, List.cons.injEq] at h
    obtain ⟨rfl, h⟩ := h
    cases r with
    | @cons _ v0 _ vs' e t =>
      cases r' with
      | @cons _ w0 _ ws' e' t' =>
        obtain ⟨k, v⟩ := v0
        have ek : (Sum.inl (q : Int) : Key) = k := e.1
        subst ek
        obtain ⟨t1, ev⟩ := (show ∃ t, v = Value.int (b : Int) t from e.2)
        subst ev
        have h0 := r0.val (Sum.inl (q : Int))
        rw [hv (q, b') (by simp)] at h0
        obtain ⟨u, hu, ru⟩ := RelO.some_of h0
        obtain ⟨t2, eu⟩ := (show ∃ t, u = Value.int (b' : Int) t from ru)
        subst eu
        have ih := dE_hits (A := A) (s := s) t t' r0 h fun p hp => hv p (by simp [hp])
        have := PySem.W.KeqHits.hit hu (SeqAt.EqAt.int_int (A := A) (s := s) (b : Int) t1 (b' : Int) t2) ih
        refine (by
          have e2 : ((b : Int) == (b' : Int) && decide (ks = ls)) = decide ((q, b) :: ks = (q, b') :: ls) := by
            by_cases z1 : b = b'
            · by_cases z2 : ks = ls
              · simp [z1, z2]
              · simp [z1, z2]
            · have e3 : ((b : Int) == (b' : Int)) = false := by simp; omega
              rw [e3, Bool.false_and]
              symm
              apply decide_eq_false
              intro z
              simp at z
              exact z1 z.1
          rw [← e2]
          exact this)
def rNeDD : R2 := fun x y H Q => ∃ a b ks ls, x = .ref a ∧ y = .ref b ∧ H a = some (.dK (List.map dE ks)) ∧ H b = some (.dK (List.map dE ls)) ∧ ks.map (·.1) = ls.map (·.1) ∧ (ls.map (·.1)).Nodup ∧ Q (.bl (!decide (ks = ls))) H
theorem dE_own : ∀ {ls : List (Nat × Nat)}, (ls.map (·.1)).Nodup → ∀ p ∈ ls, valV (ls.map dE) (Sum.inl (p.1 : Int)) = some (nv p.2) := by
  intro ls hn p hp
  rcases dE_val p.1 ls with ⟨b, h1, h2⟩ | ⟨h1, _⟩
  · obtain ⟨i, hi⟩ := List.mem_iff_getElem?.mp hp
    obtain ⟨j, hj⟩ := List.mem_iff_getElem?.mp h1
    have e : i = j := by
      have a1 : (ls.map (·.1))[i]? = some p.1 := by rw [List.getElem?_map, hi]; rfl
      have a2 : (ls.map (·.1))[j]? = some p.1 := by rw [List.getElem?_map, hj]; rfl
      exact (List.getElem?_inj (List.getElem?_eq_some_iff.mp a1).1 hn).mp (a1.trans a2.symm)
    rw [e, hj] at hi
    have e2 : b = p.2 := congrArg Prod.snd (Option.some.inj hi)
    rw [← e2]
    exact h2
  · exact absurd (List.mem_map.mpr ⟨p, hp, rfl⟩) h1
theorem op_ne_DD (hu : X.A.units < cLine) : OpR X (compareOp .NotEq) rNeDD := by
  intro pins s σ H x y v u Q I rx ry h
  obtain ⟨a, b, ks, ls, rfl, rfl, ea, eb, hk, hn, q⟩ := h
  obtain rfl : v = Value.ref a := rx
  obtain rfl : u = Value.ref b := ry
  obtain ⟨_, ya, va, ra, da⟩ := dk_of I.hok ea
  obtain ⟨_, yb, vb, rb, db⟩ := dk_of I.hok eb
  have hl : va.length = vb.length := by
    have := congrArg List.length hk
    rw [← ra.length, ← rb.length, List.length_map, List.length_map]
    simpa using this
  exact PySem.W.keq_ne (knd := mixKind X.prog X.w) (r := decide (ks = ls)) ya yb da db hu (fun _ => dE_hits ra rb rb hk (dE_own hn)) (fin_bl I q (by simp [hl]))
theorem sub_None_dict : isSubtype (.type "NoneType") (.type "dict") = pure false := by rw [isSubtype_type]; kernel_rfl
/-- a dict != None -/
def rNeDN : R2 := fun x y H Q => ∃ a kvs, x = .ref a ∧ y = .non ∧ H a = some (.dK kvs) ∧ Q (.bl true) H
theorem op_ne_DN (hu : X.A.units < cLine) : OpR X (compareOp .NotEq) rNeDN := by
  intro pins s σ H x y v u Q I rx ry h
  obtain ⟨a, kvs, rfl, rfl, ea, q⟩ := h
  obtain rfl : v = Value.ref a := rx
  obtain rfl : u = Value.none := ry
  obtain ⟨_, ya, va, ra, da⟩ := dk_of I.hok ea
  show wpAny _ _ (richCompare .NotEq (.ref a) .none) _ _ _
  have fin : EP X pins σ Q (.bool (!false)) s := ⟨.bl true, H, I, rfl, q⟩
  refine SeqAt.rc_ne_decline_or (k := false) da.typeIs (show s.TypeIs Value.none "NoneType" from rfl) (by decide) sub_None_dict PySem.F.slot_dict_ne PySem.F.slot_NoneType_ne_refl (fun Q' hq => ?_)
    (fun _ hq => call_gives PySem.F.slot_NoneType_ne_refl rfl PySem.F.entry_NoneType_ne (PySem.F.args_NoneType_ne_2 _ _) (SeqAt.NoneType___ne___none_ref_0 a) hq)
    (fun _ hq => wpAny_of_eq (rfl : isSame (.ref a) .none = pure false) hq) (.inr hu) fin
  refine wpAny_call_entry PySem.F.slot_dict_ne da.typeIs PySem.F.entry_dict_ne ?_ (PySem.F.args_dict_ne_2 _ _)
  refine wpAny_bind (m := Builtin.Dict.dictSlotArgs "__ne__" ⟨[.ref a, .none], []⟩) ?_
  unfold Builtin.Dict.dictSlotArgs
  refine wpAny_bind (wpAny_notOrdered_dict da.typeIs (wpAny_pure ?_))
  refine wpAny_bind (wpAny_isInstance (show s.TypeIs Value.none "NoneType" from rfl) sub_None_dict ?_)
  rw [if_pos (by decide)]
  exact wpAny_bind (wpAny_rule (wpAny_pure ⟨_, rfl, hq⟩))
theorem OpR.or {f : Value → Value → Sem Value} {r r' : R2} (h : OpR X f r) (h' : OpR X f r') : OpR X f (fun x y H Q => r x y H Q ∨ r' x y H Q) := by
  intro pins s σ H x y v u Q I rx ry q
  rcases q with q | q
  · exact h pins s σ H x y v u Q I rx ry q
  · exact h' pins s σ H x y v u Q I rx ry q
end

/-! ### {t: v}, t a tuple of numbers -/
def tDisp1 (tk tv : TE) : TE := fun σ H Q => ∀ p, H p = none → tk σ (upd H p (.dT [])) fun x H1 => tv σ H1 fun y H2 => H2 p = some (.dT []) ∧ ∃ (b : Addr) (k : List Key), x = .ref b ∧ H2 b = some (.tup (k.map kV)) ∧ Q (.ref p) (upd H2 p (.dT [(k, y)]))
theorem pe_disp1 {X : Cx} {pos : Pos} {e f : Expr} {tk tv : TE} (hu : X.A.units + 1 < cLine) (he : PE X e tk) (hf : PE X f tv) : PE X (.Dict [some e] [f] pos) (tDisp1 tk tv) := by
  refine ⟨fun pins s σ H Q I q => ?_⟩
  have hn := I.hok.fresh (Nat.le_refl s.heap.objs.size)
  have I1 := I.laid (a := s.heap.objs.size) (o := .dT []) (h' := s.heap.push { cls := .type "dict", data := .dict #[] }) (t' := s.toks) (fun _ _ q => Heap.get?_push_of_some _ q) (Nat.le_refl _) (dt_empty s.heap I.big)
  have pr : PPs X pos [some e] [f] [(tk, tv)] := pps_cons he hf pps_nil
  refine wpAny_Dict_any rfl rfl (by simp) (by simp) (thn (pr.run pins _ σ _ (fun ps H2 => match ps with
    | [(x, y)] => H2 s.heap.objs.size = some (.dT []) ∧ ∃ (b : Addr) (k : List Key), x = .ref b ∧ H2 b = some (.tup (k.map kV)) ∧ Q (.ref s.heap.objs.size) (upd H2 s.heap.objs.size (.dT [(k, y)]))
    | _ => False) I1 (q _ hn)) fun ws s2 ⟨ps, H2, I2, rel, q2⟩ => ?_)
  cases rel with
  | nil => exact q2.elim
  | @cons p0 w0 ps' ws' r t =>
    cases t with
    | cons _ _ => exact q2.elim
    | nil =>
      obtain ⟨x, y⟩ := p0
      obtain ⟨e0, b, k, ex, eb, q2⟩ := q2
      subst ex
      obtain ⟨u1, u2⟩ := w0
      obtain rfl : u1 = Value.ref b := r.1
      obtain ⟨z, hd, xs, rel, dd⟩ := dt_of I2.hok e0
      cases rel
      unfold storeAll
      rw [List.forIn_cons]
      refine wpAny_bind (wpAny_bind (wpAny_dictSet_heap (knd := tupleKind (mixKind X.prog X.w)) (hsz := Nat.zero_le _) (show X.A.units < cLine by omega) (key_of I2.hok eb) dd fun h' dd' hs => wpAny_pure ?_))
      dsimp only
      rw [List.forIn_nil]
      obtain ⟨o, es, ep, g1, g2, g3, g4, _, g5⟩ := dd'
      have new : ObjOk X.prog X.w (upd H2 s.heap.objs.size (.dT [(k, y)])) h' s.heap.objs.size (.dT [(k, y)]) := by
        refine ⟨by show 1 ≤ sizeLine; decide, hd, _, .cons ⟨rfl, ?_, r.2⟩ .nil, o, es, ep, g1, g2, g3, g4, g5⟩
        rw [upd_ne (ne_of eb e0 (fun z => nomatch z))]
        exact eb
      exact wpAny_pure ⟨.ref s.heap.objs.size, _, d_write I2 (by rw [e0]; exact True.intro) hs ⟨o, g1⟩ new, rfl, q2⟩
end Wk
set_option Elab.async false
set_option linter.all false
set_option maxRecDepth 100000
set_option maxHeartbeats 4000000
/-! dict(zip(t, l)): the pairs of a tuple and a list of numbers. -/
namespace Wk
open PySem
open PySem.Sem (wp)
section
variable {prog : Program} {w : World} {A : Around} {E : Value → Shared → Prop} {s : Shared} {z TI TO i1 i2 T : Addr} {fp1 fp2 : List Addr} {n1 n2 i : Nat} {P1 P2 : Nat → Value → Prop} {St1 St2 : Nat → Heap → Prop} {f : Bool} {oT : Obj}
/-- a turn of a zip whose tuple is still in use elsewhere -/
theorem held_item {Q : Option Value → Shared → Prop} (S : ZipSep2 z TI TO i1 i2 fp1 fp2) (D1 : Draws prog w A.in1 i1 fp1 n1 P1 St1) (D2 : Draws prog w A.in1 i2 fp2 n2 P2 St2)
    (hz : IsZipHeld s.heap z TI TO T f) (hT : s.heap.get? T = some oT) (hTI : IsTupOf2 s.heap TI (.ref i1) (.ref i2)) (st1 : St1 i s.heap) (st2 : St2 i s.heap) (lt1 : i < n1) (lt2 : i < n2)
    (hQ : ∀ x y h' tk, P1 i x → P2 i y → IsZipHeld h' z TI TO T true → St1 (i + 1) h' → St2 (i + 1) h' → IsTupOf2 h' s.heap.objs.size x y →
      (∀ c o, c ≠ z → c ≠ i1 → c ≠ i2 → s.heap.get? c = some o → h'.get? c = some o) → Q (some (.ref s.heap.objs.size)) { s with heap := h', toks := tk }) :
    wpAny (model prog w) A (pyNext (.ref z)) Q E s := by
  obtain ⟨hp, g, dr, tk0, os⟩ := s
  have ty : Shared.TypeIs ⟨hp, g, dr, tk0, os⟩ (.ref z) "zip" := ⟨_, hz, rfl⟩
  unfold pyNext
  refine wpAny_bind (wpAny_attempt (wpAny_callSpecial?_slot (name := Str.ofString "__next__") ty F.slot_zip_next (wpAny_call_entry F.slot_zip_next ty F.entry_zip_next ?_ (F.args_zip_next_1 _))))
  refine wpAny_bind (m := field (.ref z) 2) (wpAny_field hz rfl (x := .bool false) rfl ?_)
  refine wpAny_bind (m := field (.ref z) 3) (wpAny_field hz rfl (x := .ref TI) rfl ?_)
  refine wpAny_bind (wpAny_seqItems hTI rfl ?_)
  refine wpAny_bind (m := Builtin.SmallTypes.ownedTupleIsFree (.ref z)) (wpAny_tupleHeld_zip hz hT fun ha hza hsa => ?_)
  replace hsa : Heap.SameBut z hp ha := hsa
  rw [if_neg Bool.false_ne_true]
  refine wpAny_bind ?_
  rw [← Array.forIn_toList]
  simp only [List.forIn_cons, List.forIn_nil]
  refine wpAny_bind (wpAny_bind (wpAny_holding ?_))
  refine wpAny_bind (D1.item i ⟨ha, g, dr, tk0, os⟩ _ _ lt1 (D1.over st1 hsa S.zf1) fun x hb tkb px sb hsb => wpAny_pure ?_)
  replace hsb : Heap.SameBut i1 ha hb := hsb
  refine wpAny_pure ?_
  refine wpAny_bind (wpAny_bind (wpAny_holding ?_))
  refine wpAny_bind (D2.item i ⟨hb, g, dr, tkb, os⟩ _ _ lt2 (D2.over (D2.over st2 hsa S.zf2) hsb S.sep1_2) fun y hc tkc py sc hsc => wpAny_pure ?_)
  replace hsc : Heap.SameBut i2 hb hc := hsc
  refine wpAny_pure (wpAny_pure ?_)
  have hzc : IsZipHeld hc z TI TO T true := hsc.extBut _ _ S.zi2 (hsb.extBut _ _ S.zi1 hza)
  refine wpAny_bind (m := newTuple [x, y]) (wpAny_newTuple ?_)
  have hsz : hc.objs.size = hp.objs.size := by rw [hsc.1, hsb.1, hsa.1]
  refine wpAny_pure ⟨_, rfl, wpAny_pure ?_⟩
  have new : IsTupOf2 (hc.push { cls := .type "tuple", data := .seq #[x, y] }) hc.objs.size x y := Heap.get?_push_size _ rfl
  have fin := hQ x y (hc.push { cls := .type "tuple", data := .seq #[x, y] }) tkc px py (Heap.get?_push_of_some _ hzc)
    (D1.frame _ _ _ (D1.over sb hsc S.sep2_1) fun b _ o e => Heap.get?_push_of_some _ e) (D2.frame _ _ _ sc fun b _ o e => Heap.get?_push_of_some _ e)
    (by show IsTupOf2 _ hp.objs.size x y; rw [← hsz]; exact new)
    (fun c o c1 c2 c3 e => Heap.get?_push_of_some _ (hsc.extBut _ _ c3 (hsb.extBut _ _ c2 (hsa.extBut _ _ c1 e))))
  show Q (some (.ref hc.objs.size)) _
  rw [hsz]
  exact fin
/-- .. at its end, the first one's -/
theorem held_end {Q : Option Value → Shared → Prop} (S : ZipSep2 z TI TO i1 i2 fp1 fp2) (D1 : Draws prog w A.in1 i1 fp1 n1 P1 St1)
    (hz : IsZipHeld s.heap z TI TO T f) (hT : s.heap.get? T = some oT) (hTI : IsTupOf2 s.heap TI (.ref i1) (.ref i2)) (st1 : St1 n1 s.heap)
    (hQ : ∀ h' tk, (∀ c o, c ≠ z → c ≠ i1 → c ≠ i2 → s.heap.get? c = some o → h'.get? c = some o) → Q none { s with heap := h', toks := tk }) :
    wpAny (model prog w) A (pyNext (.ref z)) Q E s := by
  obtain ⟨hp, g, dr, tk0, os⟩ := s
  have ty : Shared.TypeIs ⟨hp, g, dr, tk0, os⟩ (.ref z) "zip" := ⟨_, hz, rfl⟩
  unfold pyNext
  refine wpAny_bind (wpAny_attempt (wpAny_callSpecial?_slot (name := Str.ofString "__next__") ty F.slot_zip_next (wpAny_call_entry F.slot_zip_next ty F.entry_zip_next ?_ (F.args_zip_next_1 _))))
  refine wpAny_bind (m := field (.ref z) 2) (wpAny_field hz rfl (x := .bool false) rfl ?_)
  refine wpAny_bind (m := field (.ref z) 3) (wpAny_field hz rfl (x := .ref TI) rfl ?_)
  refine wpAny_bind (wpAny_seqItems hTI rfl ?_)
  refine wpAny_bind (m := Builtin.SmallTypes.ownedTupleIsFree (.ref z)) (wpAny_tupleHeld_zip hz hT fun ha hza hsa => ?_)
  replace hsa : Heap.SameBut z hp ha := hsa
  rw [if_neg Bool.false_ne_true]
  refine wpAny_bind ?_
  rw [← Array.forIn_toList]
  simp only [List.forIn_cons, List.forIn_nil]
  refine wpAny_bind (wpAny_bind (wpAny_holding ?_))
  refine wpAny_bind (D1.done ⟨ha, g, dr, tk0, os⟩ _ _ (D1.over st1 hsa S.zf1) fun hb e hsb he => ?_)
  replace hsb : Heap.ExtBut i1 ha hb := hsb
  obtain ⟨o, ho, hc⟩ := he
  refine wpAny_bind (wpAny_isInstance (T := "StopIteration") (b := true) ⟨o, ho, hc⟩ isSubtype_stop ?_)
  exact wpAny_pure (hQ hb tk0 fun c o c1 c2 _ e => hsb _ _ c2 (hsa.extBut _ _ c1 e))
end

/-- how far a zip of a tuple and a list is; d: the dict that is filled -/
def ZAt (z TI TO i1 i2 l1 l2 d : Addr) (xs ys : Array Value) (i : Nat) (h : Heap) : Prop :=
  IsTupOf2 h TI (.ref i1) (.ref i2) ∧ (h.IsTupleIter i1 l1 i ∧ h.IsTuple l1 xs) ∧ (h.IsListIter i2 l2 i ∧ h.IsList l2 ys) ∧
    ((IsZip h z TI TO .none ∧ ∃ a b, IsTupOf2 h TO a b) ∨ ∃ T f oT, IsZipHeld h z TI TO T f ∧ h.get? T = some oT ∧ T ≠ z ∧ T ≠ i1 ∧ T ≠ i2 ∧ T ≠ d)
theorem sep_of {z TI TO i1 i2 l1 l2 : Addr} (D : ZipApart z TI TO i1 i2 l1 l2) : ZipSep2 z TI TO i1 i2 [i1, l1] [i2, l2] where
  TIz := D.TIz
  TOz := D.TOz
  TITO := D.TITO
  TIi1 := D.TIi1
  mem1 := by simp
  zf1 := by simp only [List.mem_cons, List.not_mem_nil, or_false, not_or]; exact ⟨D.i1z.symm, D.l1z.symm⟩
  Tf1 := by simp only [List.mem_cons, List.not_mem_nil, or_false, not_or]; exact ⟨D.TOi1, D.l1TO.symm⟩
  TIi2 := D.TIi2
  mem2 := by simp
  zf2 := by simp only [List.mem_cons, List.not_mem_nil, or_false, not_or]; exact ⟨D.i2z.symm, D.l2z.symm⟩
  Tf2 := by simp only [List.mem_cons, List.not_mem_nil, or_false, not_or]; exact ⟨D.TOi2, D.l2TO.symm⟩
  sep1_2 := by simp only [List.mem_cons, List.not_mem_nil, or_false, not_or]; exact ⟨D.i12, D.l2i1.symm⟩
  sep2_1 := by simp only [List.mem_cons, List.not_mem_nil, or_false, not_or]; exact ⟨D.i12.symm, D.l1i2.symm⟩
theorem zip_src {prog : Program} {w : World} {A : Around} (hA : A.handled = none) {z TI TO i1 i2 l1 l2 d : Addr} (D : ZipApart z TI TO i1 i2 l1 l2) (hd : d ∉ [z, TI, TO, i1, i2, l1, l2]) {xs ys : Array Value} (hl : xs.size = ys.size) :
    PairSrc prog w A z d [z, TO, i1, i2] xs.size (fun i k v => xs[i]? = some k ∧ ys[i]? = some v) (ZAt z TI TO i1 i2 l1 l2 d xs ys) := by
  have S := sep_of D
  have D1 : Draws prog w A.in1 i1 [i1, l1] xs.size (fun i v => xs[i]? = some v) (fun i h => h.IsTupleIter i1 l1 i ∧ h.IsTuple l1 xs) := Draws.tuple (A := A.in1) hA i1 l1 D.l1i1 xs
  have D2 : Draws prog w A.in1 i2 [i2, l2] ys.size (fun i v => ys[i]? = some v) (fun i h => h.IsListIter i2 l2 i ∧ h.IsList l2 ys) := Draws.list (A := A.in1) hA i2 l2 D.l2i2 ys
  simp only [List.mem_cons, List.not_mem_nil, or_false, not_or] at hd
  obtain ⟨dz, dTI, dTO, d1, d2, dl1, dl2⟩ := hd
  have off : ∀ {b : Addr} {o : Obj} {h h' : Heap}, (∀ (c : Addr) (o : Obj), c ≠ z → c ≠ i1 → c ≠ i2 → h.get? c = some o → h'.get? c = some o) → b ∉ [z, TO, i1, i2] → h.get? b = some o → h'.get? b = some o := fun {b o h h'} hk hb e =>
    hk b o (fun q => hb (by simp [q])) (fun q => hb (by simp [q])) (fun q => hb (by simp [q])) e
  refine ⟨?_, fun i h h' st hk => ?_, fun i s Q E hi st hds hQ => ?_, fun s Q E st hQ => ?_⟩
  · simp only [List.mem_cons, List.not_mem_nil, or_false, not_or]
    exact ⟨dz, dTO, d1, d2⟩
  · obtain ⟨a1, a2, a3, a4⟩ := st
    have keep : ∀ b o, b ≠ d → h.get? b = some o → h'.get? b = some o := hk
    refine ⟨keep _ _ (Ne.symm dTI) a1, D1.frame _ _ _ a2 fun b hb o e => keep b o ?_ e, D2.frame _ _ _ a3 fun b hb o e => keep b o ?_ e, ?_⟩
    · simp only [List.mem_cons, List.not_mem_nil, or_false] at hb
      rcases hb with q | q
      · rw [q]; exact Ne.symm d1
      · rw [q]; exact Ne.symm dl1
    · simp only [List.mem_cons, List.not_mem_nil, or_false] at hb
      rcases hb with q | q
      · rw [q]; exact Ne.symm d2
      · rw [q]; exact Ne.symm dl2
    · rcases a4 with ⟨b1, a, b, b2⟩ | ⟨T, f, oT, b1, b2, b3, b4, b5, b6⟩
      · exact .inl ⟨keep _ _ (Ne.symm dz) b1, a, b, keep _ _ (Ne.symm dTO) b2⟩
      · exact .inr ⟨T, f, oT, keep _ _ (Ne.symm dz) b1, keep _ _ b6 b2, b3, b4, b5, b6⟩
  · obtain ⟨a1, a2, a3, a4⟩ := st
    have n1 : s.heap.objs.size ≠ i1 := by
      obtain ⟨o, e⟩ := D1.live _ _ a2
      exact Nat.ne_of_gt (Heap.lt_size e)
    have n2 : s.heap.objs.size ≠ i2 := by
      obtain ⟨o, e⟩ := D2.live _ _ a3
      exact Nat.ne_of_gt (Heap.lt_size e)
    have hi2 : i < ys.size := by rw [← hl]; exact hi
    rcases a4 with ⟨b1, a, b, b2⟩ | ⟨T, f, oT, b1, b2, b3, b4, b5, b6⟩
    · have n3 : s.heap.objs.size ≠ z := Nat.ne_of_gt (Heap.lt_size b1)
      refine wpAny_pyNext_zipD2_item S D1 D2 b1 a1 b2 a2 a3 hi hi2 fun x y h' tk e1 e2 c1 c2 c3 c4 c5 c6 hk => ?_
      exact hQ s.heap.objs.size x y h' tk ⟨e1, e2⟩ (.inl ⟨_, c5, rfl, _, rfl⟩) ⟨hk _ _ S.TIz S.TITO S.TIi1 S.TIi2 a1, c3, c4, .inr ⟨s.heap.objs.size, false, _, c1, c5, n3, n1, n2, Nat.ne_of_gt hds⟩⟩
        fun b o hb e => hk b o (fun q => hb (by simp [q])) (fun q => hb (by simp [q])) (fun q => hb (by simp [q])) (fun q => hb (by simp [q])) e
    · refine held_item S D1 D2 b1 b2 a1 a2 a3 hi hi2 fun x y h' tk e1 e2 c1 c3 c4 c5 hk => ?_
      exact hQ s.heap.objs.size x y h' tk ⟨e1, e2⟩ (.inl ⟨_, c5, rfl, _, rfl⟩) ⟨hk _ _ S.TIz S.TIi1 S.TIi2 a1, c3, c4, .inr ⟨T, true, oT, c1, hk _ _ b3 b4 b5 b2, b3, b4, b5, b6⟩⟩
        fun b o hb e => hk b o (fun q => hb (by simp [q])) (fun q => hb (by simp [q])) (fun q => hb (by simp [q])) e
  · obtain ⟨a1, a2, a3, a4⟩ := st
    rcases a4 with ⟨b1, a, b, b2⟩ | ⟨T, f, oT, b1, b2, b3, b4, b5, b6⟩
    · exact wpAny_pyNext_zipD2_end S D1 D2 b1 a1 b2 a2 a3 (Nat.le_refl _) (by omega) (.inl rfl) fun h' tk hk => hQ h' tk fun b o hb e =>
        hk b o (fun q => hb (by simp [q])) (fun q => hb (by simp [q])) (fun q => hb (by simp [q])) (fun q => hb (by simp [q])) e
    · exact held_end S D1 b1 b2 a1 a2 fun h' tk hk => hQ h' tk fun b o hb e => hk b o (fun q => hb (by simp [q])) (fun q => hb (by simp [q])) (fun q => hb (by simp [q])) e
theorem zip_arg {prog : Program} {w : World} {z TI TO i1 i2 l1 l2 : Addr} (D : ZipApart z TI TO i1 i2 l1 l2) {xs ys : Array Value} (hl : xs.size = ys.size) :
    PairArg prog w "zip" z [z, TI, TO, i1, i2, l1, l2] [z, TO, i1, i2] xs.size (fun i k v => xs[i]? = some k ∧ ys[i]? = some v)
      (fun h => IsZip h z TI TO .none ∧ IsTupOf2 h TI (.ref i1) (.ref i2) ∧ (∃ a b, IsTupOf2 h TO a b) ∧ (h.IsTupleIter i1 l1 0 ∧ h.IsTuple l1 xs) ∧ (h.IsListIter i2 l2 0 ∧ h.IsList l2 ys)) where
  type := fun s ok => ⟨_, ok.1, rfl⟩
  notDict := by decide
  keep := fun h h' ⟨a1, a2, ⟨a, b, a3⟩, ⟨a4, a5⟩, a6, a7⟩ hk => ⟨hk _ _ a1, hk _ _ a2, ⟨a, b, hk _ _ a3⟩, ⟨a4.at fun o e => hk _ o e, a5.at fun o e => hk _ o e⟩, a6.at fun o e => hk _ o e, a7.at fun o e => hk _ o e⟩
  there := fun h ⟨a1, a2, ⟨a, b, a3⟩, ⟨⟨o1, a4, _⟩, o2, a5, _⟩, ⟨o3, a6, _⟩, o4, a7, _⟩ c hc => by
    simp only [List.mem_cons, List.not_mem_nil, or_false] at hc
    rcases hc with q | q | q | q | q | q | q
    · exact ⟨_, by rw [q]; exact a1⟩
    · exact ⟨_, by rw [q]; exact a2⟩
    · exact ⟨_, by rw [q]; exact a3⟩
    · exact ⟨_, by rw [q]; exact a4⟩
    · exact ⟨_, by rw [q]; exact a6⟩
    · exact ⟨_, by rw [q]; exact a5⟩
    · exact ⟨_, by rw [q]; exact a7⟩
  sub := fun c hc => by
    simp only [List.mem_cons, List.not_mem_nil, or_false] at hc ⊢
    rcases hc with q | q | q | q
    · exact .inl q
    · exact .inr (.inr (.inl q))
    · exact .inr (.inr (.inr (.inl q)))
    · exact .inr (.inr (.inr (.inr (.inl q))))
  noKeys := fun A s Q E hA ok h => getAttrOr_miss_zip ok.1 rfl rfl rfl zip_no_keys (by decide +kernel) hA h
  iter := fun A s d Q E hA ⟨a1, a2, ⟨a, b, a3⟩, a4, a5⟩ hd hdf h =>
    wpAny_pyIter_zip a1 (h z [z, TO, i1, i2] (ZAt z TI TO i1 i2 l1 l2 d xs ys) s.heap s.toks (zip_src hA D hdf hl) ⟨a2, a4, a5, .inl ⟨a1, a, b, a3⟩⟩ (fun _ _ e => e) fun c hc => .inl hc)
end Wk

namespace Wk
open PySem PySem.Spec PyProof.Rows L2
/-- dict(zip(t, l)) -/
def tDZ (te tf : TE) : TE := fun σ H Q => te σ H fun x H1 => tf σ H1 fun y H2 => ∃ (a b : Addr) (ns vs : List Nat), x = .ref a ∧ y = .ref b ∧ H2 a = some (.tup (ns.map nv)) ∧ H2 b = some (.lst (vs.map nv)) ∧ ns.length = vs.length ∧ ns.Nodup ∧ ns.length ≤ 100000 ∧
  ∀ p, H2 p = none → Q (.ref p) (upd H2 p (.dK ((ns.zip vs).map dE)))
theorem merged_new {K : Type} [DecidableEq K] : ∀ (kvs acc : List (K × Value)), ((acc ++ kvs).map (·.1)).Nodup → merged acc kvs = acc ++ kvs
  | [], acc, _ => by simp [merged]
  | p :: r, acc, h => by
    have e : stored acc p.1 p.2 = acc ++ [p] := by
      unfold stored
      rw [if_neg]
      intro z
      obtain ⟨q, hq, eq⟩ := List.any_eq_true.mp z
      have eq := of_decide_eq_true eq
      rw [List.map_append, List.nodup_append] at h
      exact h.2.2 q.1 (List.mem_map.mpr ⟨q, hq, rfl⟩) p.1 (by simp) eq
    show merged (stored acc p.1 p.2) r = _
    rw [e, merged_new r (acc ++ [p]) (by simpa using h)]
    simp
theorem kv_zip : ∀ {ns vs : List Nat} {us ws : List Value}, Vals (ns.map nv) us → Vals (vs.map nv) ws → KV ((ns.zip vs).map dE) ((ns.zip ws).map fun p => ((Sum.inl (p.1 : Int) : Key), p.2))
  | [], _, _, _, _, _ => by simp; exact .nil
  | _ :: _, [], _, _, _, r' => by cases r'; simp; exact .nil
  | n :: ns, v :: vs, _, _, r, r' => by
    cases r with
    | cons a t =>
      cases r' with
      | cons a' t' =>
        simp only [List.zip_cons_cons, List.map_cons]
        exact .cons ⟨rfl, a'⟩ (kv_zip t t')
theorem nodup_keys : ∀ {ns : List Nat} {ws : List Value}, ns.Nodup → (((ns.zip ws).map fun p => ((Sum.inl (p.1 : Int) : Key), p.2)).map (·.1)).Nodup
  | [], _, _ => by simp
  | _ :: _, [], _ => by simp
  | n :: ns, w :: ws, h => by
    obtain ⟨h1, h2⟩ := List.nodup_cons.mp h
    simp only [List.zip_cons_cons, List.map_cons]
    refine List.nodup_cons.mpr ⟨fun m => h1 ?_, nodup_keys h2⟩
    simp only [List.map_map, List.mem_map, Function.comp] at m
    obtain ⟨q, hq, e⟩ := m
    have e2 : q.1 = n := Int.ofNat.inj (Sum.inl.inj e)
    rw [← e2]
    exact (List.of_mem_zip hq).1
theorem pe_dictzip {X : Cx} {e f : Expr} {te tf : TE} {p p2 pos pos2 : Pos} (hcalm : X.calm = true) (hg : Gl X "dict") (hm : X.mg "dict" = none) (hg2 : Gl X "zip") (hm2 : X.mg "zip" = none) (he : PE X e te) (hf : PE X f tf)
    (na : starEach [e, f] X.env = (false, eval e X.env) :: starEach [f] X.env := by rfl) (nb : starEach [f] X.env = (false, eval f X.env) :: starEach [] X.env := by rfl) (hp : (backTo pos2 (starEach [f] X.env)).any (·.1) = false := by rfl)
    (nc : starEach [.Call (.Name "zip" p2) [e, f] [] pos2] X.env = (false, eval (.Call (.Name "zip" p2) [e, f] [] pos2) X.env) :: starEach [] X.env := by rfl) :
    PE X (.Call (.Name "dict" p) [.Call (.Name "zip" p2) [e, f] [] pos2] [] pos) (tDZ te tf) := by
  refine ⟨fun pins s σ H Q I h => ?_⟩
  refine Call_ (ld_blt I hg hm PyProof.Rows.boot_dict (PyProof.Rows.callWith_type1 (args_cons ?_ nc) nc))
  refine Call_ (ld_blt I hg2 hm2 PyProof.Rows.boot_zip (PyProof.Rows.callWith_type1 (args_cons (thn (he.run pins s σ H _ I h) fun u s1 ⟨x, H1, I1, r1, q1⟩ => args_cons (thn (hf.run pins s1 σ H1 _ I1 q1) fun v s2 ⟨y, H2, I2, r2, q2⟩ => args_nil ?_) nb) na) na hp))
  obtain ⟨a, b, ns, vs, ex, ey, ha, hb, hl, hn, hz, q⟩ := q2
  subst ex ey
  obtain rfl : u = Value.ref a := r1
  obtain rfl : v = Value.ref b := r2
  obtain ⟨us, ru, pa, _⟩ := I2.tuple (SqT.of (K := X.K) ha)
  obtain ⟨ws, rw', pb, _⟩ := I2.list (SqL.of (K := X.K) hb)
  have hta : s2.heap.IsTuple a us.toArray := pa
  have htb : s2.heap.IsList b ws.toArray := pb.isList
  obtain ⟨oa, hoa, _⟩ := id hta
  obtain ⟨ob, hob, _⟩ := id htb
  have hsz : us.toArray.size = ws.toArray.size := by
    have := ru.length
    have := rw'.length
    simp only [List.size_toArray, List.length_map] at *
    omega
  refine zip_begins2 (begins_tuple a us.toArray) (begins_list b ws.toArray) hta htb fun h' z1 z2 z3 z4 z5 z6 hk => args_nil ?_
  have D : ZipApart (s2.heap.objs.size + 4) (s2.heap.objs.size + 2) (s2.heap.objs.size + 3) s2.heap.objs.size (s2.heap.objs.size + 1) a b := PySem.W.ktu_apart s2.heap.objs.size a b (Heap.lt_size hoa) (Heap.lt_size hob)
  have P := zip_arg (prog := X.prog) (w := X.w) D hsz
  refine call_dict_pairs (s := { s2 with heap := h' }) (knd := mixKind X.prog X.w) (kvs := (ns.zip ws).map fun p => ((Sum.inl (p.1 : Int) : Key), p.2)) P (I.ok.hd hcalm)
    ⟨z1, z2, ⟨_, _, z3⟩, ⟨⟨_, z4, rfl, rfl⟩, hta.at fun o e => hk _ o e⟩, ⟨_, z5, rfl, rfl⟩, htb.at fun o e => hk _ o e⟩ ⟨?_, fun i k v hi => ?_⟩ ?_ fun h2 tk hd2 hk2 => ?_
  · have := ru.length
    have := rw'.length
    simp only [List.size_toArray, List.length_map, List.length_zip] at *
    omega
  · obtain ⟨g1, g2⟩ := hi
    simp only [List.getElem?_toArray] at g1 g2
    have hi : i < ns.length := by
      have h1 := (List.getElem?_eq_some_iff.mp g1).1
      have := ru.length
      simp only [List.length_map] at this
      omega
    have en : ns[i]? = some ns[i] := List.getElem?_eq_getElem hi
    obtain ⟨u, hu, rr⟩ := ru.get (ints_get en)
    rw [g1] at hu
    cases hu
    obtain ⟨t, rfl⟩ := rr
    refine ⟨Sum.inl (ns[i] : Int), ?_, mixKind_int _ _ _ _⟩
    rw [List.getElem?_map, List.getElem?_zip_eq_some (z := (ns[i], v)) |>.mpr ⟨en, g2⟩]
    rfl
  · have := ru.length
    simp only [List.size_toArray, List.length_map] at *
    rw [sizeLine_eq]
    omega
  · rw [merged_new _ [] (by rw [List.nil_append]; exact nodup_keys hn), List.nil_append] at hd2
    have keep : ∀ c o, s2.heap.get? c = some o → h2.get? c = some o := fun c o e => hk2 c o (by
      have := Heap.lt_size e
      simp only [List.mem_cons, List.not_mem_nil, or_false, not_or]
      exact ⟨Nat.ne_of_lt (Nat.lt_of_lt_of_le this (Nat.le_add_right _ _)), Nat.ne_of_lt (Nat.lt_of_lt_of_le this (Nat.le_add_right _ _)), Nat.ne_of_lt this, Nat.ne_of_lt (Nat.lt_of_lt_of_le this (Nat.le_add_right _ _))⟩) (hk c o e)
    have hle : s2.heap.objs.size ≤ h'.objs.size := by omega
    have new : ObjOk X.prog X.w (upd H2 h'.objs.size (.dK ((ns.zip vs).map dE))) h2 h'.objs.size (.dK ((ns.zip vs).map dE)) := by
      refine dk_new ?_ ?_ (kv_zip ru rw') hd2
      · rw [List.length_map, List.length_zip, sizeLine_eq]; omega
      · exact beq_eq_false_iff_ne.mpr (Nat.ne_of_gt (Nat.lt_of_lt_of_le I2.big hle))
    exact ⟨.ref h'.objs.size, _, I2.laid (t' := tk) keep hle new, rfl, q _ (I2.hok.fresh hle)⟩
end Wk
set_option Elab.async false
set_option linter.all false
set_option maxRecDepth 100000
set_option maxHeartbeats 4000000
namespace Wk
open PySem PySem.Spec PyProof.Rows L2
abbrev sAnswers : Stmt := top 23
abbrev sAlike : Stmt := top 24
abbrev sNumbered : Stmt := top 25
section
variable {P : Program} {w : World} {K : PySem.W.Frag} {mg : Str → Option Value} {base : Heap}
theorem pe_ixN2 {X : Cx} {P : Program} {w : World} {o i : Expr} {td ty : TE} {pos : Pos} (hP : X.prog = P) (hw : X.w = w) (hu : X.A.units + 64 < cLine) (ho : PE X o td) (hi : PE X i ty) (hs : NoSl i) : PE X (.Subscript o i pos) (tOp (rIxN P w) td ty) := by
  subst hP hw
  exact pe_ixN hu ho hi hs
/-- a pair's two names -/
abbrev g2 (K : PySem.W.Frag) (i j : Nat) : TG := gTup K 2 (gCons (gName i) (gCons (gName j) gNil))
/-! ### answers_in -/
def spAnswers : Sp := fun vs H Q _ => ∃ (v : V) (R : List (Nat × Nat)), vs = [v] ∧ IsPairs H v R ∧ R.length ≤ 1000 ∧ ∀ (v' : V) (H' : Hp), Same H H' → IsInts H' v' (R.map (·.1)) → Q v' H'
theorem scAnswers : FnScope ["room", "answered", "later"] ["room"] (defScope sAnswers) := ⟨rfl, rfl, rfl, by decide +kernel, rfl, by decide +kernel, by decide +kernel⟩
theorem ok_answers {f : Addr} {fd : FuncData} (F : Fun K "answers_in" "answers_in" sAnswers f fd) (T : Txt mg) : FnOk P w K mg base CX0 1 f fd ["room"] spAnswers := by
  refine F.ok scAnswers (fun vs H Q E h => ?_) (fun cdv A outer s H vs Q E hr h => ?_)
  · obtain ⟨_, _, rfl, _⟩ := h
    rfl
  · obtain ⟨v, R, rfl, ⟨us, ⟨b, rfl, hb⟩, hus⟩, hR, q⟩ := h
    refine ⟨_, pss_one (ps_ret (pe_callTy call_tuple_of (by rfl) T.tuple_ boot_tuple3 (pa_cons (pe_lc (own := [("answered", 1), ("later", 2)]) (g := g2 K 1 2) (tt := tYes) rfl scAnswers.nd (pi_tup (pv 0)) (blkOk_by (N := ["room", "answered", "later"]) (sc := defScope sAnswers) (by decide +kernel))
      (fun _ _ _ _ _ => pg_tup (by rfl) (pgs_cons (pg_name (i := 1) scAnswers.nd rfl (Or.inl rfl)) (pgs_cons (pg_name (i := 2) scAnswers.nd rfl (Or.inl rfl)) pgs_nil))) (fun _ _ _ _ _ => pts_nil) (fun _ _ _ _ _ => pv 1)) pa_nil))), ?_⟩
    refine ⟨_, rfl, b, rfl, ⟨_, SqT.of hb⟩, fun D hD => lc_tup (K := K) (a := b) (xs := us) (fun i H2 => Same H H2 ∧ H2 D = some (.lst ((R.take i).map fun p => nv p.1))) ⟨same_new hD, upd_same⟩ (fun i H2 _ h2 => SqT.of (h2.1 _ _ hb)) ?_ ?_⟩
    · rintro i x H2 hx ⟨s2, d2⟩
      obtain ⟨p, hp, o, rfl, ho⟩ := hus.getV hx
      have hil : i < R.length := (List.getElem?_eq_some_iff.mp hp).1
      refine ⟨o, _, rfl, SqT.of (s2 _ _ ho), rfl, _, _, rfl, _, _, rfl, rfl, ?_⟩
      refine ⟨rfl, yes ⟨_, rfl, _, d2, ?_, s2.own hD, ?_⟩⟩
      · rw [List.length_map, List.length_take]; exact szl (by omega)
      · rw [upd_same, List.take_add_one, hp, List.map_append]; rfl
    · rintro H2 ⟨s2, d2⟩
      rw [hus.len, List.take_length] at d2
      refine ⟨D, _, rfl, .inl ⟨SqL.of d2, fun t nt => ?_⟩⟩
      have s3 := same_new (o := .tup (R.map fun p => nv p.1)) nt
      exact q _ _ (s2.trans s3) ⟨t, rfl, by rw [List.map_map]; exact upd_same⟩
/-! ### numbered -/
theorem nval_at {k : NestedKey} : ∀ {kvs : List NEnt} {p : NEnt}, kvs.find? (fun p => decide (p.1 = k)) = some p → p ∈ kvs ∧ p.1 = k := by
  intro kvs p h
  refine ⟨List.mem_of_find?_eq_some h, ?_⟩
  have := List.find?_some h
  exact of_decide_eq_true this
theorem nval_idx {kvs : List NEnt} (hv : kvs.map (·.2.2) = (List.range kvs.length).map nv) (k : NestedKey) : (∃ i, (kvs.map (·.1))[i]? = some k ∧ nval kvs k = some (nv i)) ∨ (k ∉ kvs.map (·.1) ∧ nval kvs k = none) := by
  cases e : kvs.find? (fun p => decide (p.1 = k)) with
  | none =>
    refine .inr ⟨fun m => ?_, by unfold nval; rw [e]; rfl⟩
    obtain ⟨p, hp, ek⟩ := List.mem_map.mp m
    have := List.find?_eq_none.mp e p hp
    exact this (decide_eq_true ek)
  | some p =>
    obtain ⟨h1, h2⟩ := nval_at e
    obtain ⟨i, hi⟩ := List.mem_iff_getElem?.mp h1
    refine .inl ⟨i, by rw [List.getElem?_map, hi, ← h2]; rfl, ?_⟩
    unfold nval
    rw [e]
    have hl := (List.getElem?_eq_some_iff.mp hi).1
    have := congrArg (·[i]?) hv
    simp only [List.getElem?_map, hi, List.getElem?_range hl, Option.map_some] at this
    exact this
/-- things that may be keys -/
def IsKey (H : Hp) (v : V) (k : NestedKey) : Prop := ∃ a, v = .ref a ∧ NIs H k (.ref a) ∧ k.depth ≤ 8
theorem IsKey.mono {H H' : Hp} {v : V} {k : NestedKey} (h : IsKey H v k) (t : TupS H H') : IsKey H' v k := let ⟨a, e, n, d⟩ := h; ⟨a, e, n.mono t, d⟩
theorem tups_nd {H : Hp} {P : Program} {w : World} {d : Addr} {kvs : List NEnt} {o : HO} (h : H d = some (ND P w d kvs)) : TupS H (upd H d o) := tups_upd fun xs e => by rw [h] at e; cases e
def spNumbered : Sp := fun vs H Q _ => ∃ (a : Addr) (us : List V) (ks : List NestedKey), vs = [.ref a] ∧ H a = some (.lst us) ∧ IsSeq (IsKey H) us ks ∧ ks.length ≤ 1000 ∧ ∀ (b : Addr) (out : List Nat) (H' : Hp), Same H H' → H' b = some (.lst (out.map nv)) → Num ks out → Q (.ref b) H'
theorem scNumbered : FnScope ["things", "found", "thing"] ["things"] (defScope sNumbered) := ⟨rfl, rfl, rfl, by decide +kernel, rfl, by decide +kernel, by decide +kernel⟩
theorem ok_numbered {f : Addr} {fd : FuncData} (F : Fun K "numbered" "numbered" sNumbered f fd) (T : Txt mg) : FnOk P w K mg base CX0 1 f fd ["things"] spNumbered := by
  refine F.ok scNumbered (fun vs H Q E h => ?_) (fun cdv A outer s H vs Q E hr h => ?_)
  · obtain ⟨_, _, _, rfl, _⟩ := h
    rfl
  · obtain ⟨a, us, ks, rfl, ha, hus, hks, q⟩ := h
    have hu0 := hr.units
    refine ⟨_, pss_cons (ps_set (i := 1) scNumbered.nd rfl (Or.inr rfl) pe_dnewN)
      (pss_cons (ps_for PassesOwn.never rfl (pi_list (pv 0)) (pg_name (i := 2) scNumbered.nd rfl (Or.inl rfl))
        (pss_one (ps_expr (pe_setdN hu0 (pv 1) (pv 2) (pe_callB call_len_N (by rfl) T.len_ PySem.boot_len (pa_cons (pv 1) pa_nil)) ⟨rfl, rfl, rfl, rfl⟩))))
      (pss_one (ps_ret (pe_lc (own := [("thing", 2)]) (g := gName 2) (tt := tYes) rfl scNumbered.nd (pi_list (pv 0)) (blkOk_by (N := ["things", "found", "thing"]) (sc := defScope sNumbered) (by decide +kernel))
        (fun _ _ _ _ _ => pg_name (i := 2) scNumbered.nd rfl (Or.inl rfl)) (fun _ _ _ _ _ => pts_nil) (fun _ _ _ _ _ => pe_ixN2 (P := P) (w := w) rfl rfl hu0 (pv 1) (pv 2) (fun _ _ => rfl)))))), ?_⟩
    intro d nd
    have s1 := same_new (o := ND P w d []) nd
    refine ⟨_, rfl, a, rfl, ⟨_, SqL.of (s1 _ _ ha)⟩, for_list (K := K) (a := a) (xs := us) (fun i σ H2 => ∃ x2 kvs, σ = [some (.ref a), some (.ref d), x2] ∧ Same H H2 ∧ H2 d = some (ND P w d kvs) ∧ NKeys H2 kvs ∧ kvs.map (·.1) = dis (ks.take i) ∧ kvs.map (·.2.2) = (List.range kvs.length).map nv)
      ⟨none, [], rfl, s1, upd_same, (fun p hp => nomatch hp), rfl, rfl⟩ (fun i σ H2 _ ⟨_, _, _, s2, _⟩ => SqL.of (s2 _ _ ha)) ?_ ?_⟩
    · rintro i x σ H2 hx ⟨x2, kvs, rfl, s2, hd2, hk2, e1, e2⟩
      obtain ⟨k, hk, b, rfl, hn, hdp⟩ := hus.getV hx
      have hil : i < ks.length := (List.getElem?_eq_some_iff.mp hk).1
      have hl : kvs.length ≤ i := by
        have := congrArg List.length e1
        rw [List.length_map] at this
        have := dis_len (ks.take i)
        rw [List.length_take] at this
        omega
      have hn2 := hn.mono s2.tups
      have htk : ks.take (i + 1) = ks.take i ++ [k] := by rw [List.take_add_one, hk]; rfl
      refine ⟨_, rfl, d, kvs, rfl, hd2, hk2, _, rfl, _, rfl, d, kvs, rfl, hd2, hk2, by omega, b, kvs, k, rfl, hd2, hk2, hn2, hdp, by omega, fun v hv => ?_, fun hv => ?_⟩
      · refine ⟨_, kvs, rfl, s2, hd2, hk2, ?_, e2⟩
        rw [e1, htk, dis_snoc, add, if_pos]
        rcases nval_idx e2 k with ⟨j, h1, _⟩ | ⟨_, h2⟩
        · rw [← e1]; exact List.mem_of_getElem? h1
        · rw [h2] at hv; cases hv
      · have t := tups_nd (P := P) (w := w) (o := ND P w d (kvs ++ [(k, b, V.int ((kvs.length : Nat) : Int))])) hd2
        refine ⟨_, _, rfl, s2.own nd, upd_same, ?_, ?_, ?_⟩
        · intro p hp
          rcases List.mem_append.mp hp with h | h
          · exact (hk2.mono t) p h
          · rw [List.mem_singleton.mp h]; exact ⟨hn2.mono t, hdp⟩
        · rw [List.map_append, e1, htk, dis_snoc, add, if_neg]
          · rfl
          · rcases nval_idx e2 k with ⟨j, _, h1⟩ | ⟨h1, _⟩
            · rw [h1] at hv; cases hv
            · rw [← e1]; exact h1
        · rw [List.map_append, e2, List.length_append, List.length_singleton, List.range_succ, List.map_append]; rfl
    · rintro σ H2 ⟨x2, kvs, rfl, s2, hd2, hk2, e1, e2⟩
      rw [hus.len, List.take_length] at e1
      refine ⟨_, rfl, a, rfl, ⟨_, SqL.of (s2 _ _ ha)⟩, fun D hD => lc_list (K := K) (a := a) (xs := us) (fun i H3 => ∃ out, Same H2 H3 ∧ H3 D = some (.lst (out.map nv)) ∧ out.length = i ∧ ∀ (j : Nat) (x : NestedKey) (v : Nat), ks[j]? = some x → out[j]? = some v → (dis ks)[v]? = some x)
        ⟨[], same_new hD, upd_same, rfl, fun j x v _ h => by simp at h⟩ (fun i H3 _ ⟨_, s3, _⟩ => SqL.of (s3 _ _ (s2 _ _ ha))) ?_ ?_⟩
      · rintro i x H3 hx ⟨out, s3, hD3, ho, hall⟩
        obtain ⟨k, hk, b, rfl, hn, hdp⟩ := hus.getV hx
        have hil : i < ks.length := (List.getElem?_eq_some_iff.mp hk).1
        have hkd : k ∈ dis ks := (mem_dis ks).mpr (List.mem_of_getElem? hk)
        rcases nval_idx e2 k with ⟨j, h1, h2⟩ | ⟨h1, _⟩
        · refine ⟨rfl, yes ⟨_, rfl, _, rfl, d, b, kvs, k, _, rfl, rfl, s3 _ _ hd2, hk2.mono s3.tups, (hn.mono s2.tups).mono s3.tups, hdp, h2, ?_⟩⟩
          refine ⟨_, hD3, ?_, out ++ [j], s3.own hD, ?_, by simp [ho], ?_⟩
          · rw [List.length_map]; exact szl (by omega)
          · rw [upd_same, List.map_append]; rfl
          · intro j' x' v' g1 g2
            by_cases hj : j' < out.length
            · rw [List.getElem?_append_left hj] at g2
              exact hall j' x' v' g1 g2
            · have hj2 := (List.getElem?_eq_some_iff.mp g2).1
              rw [List.length_append, List.length_singleton] at hj2
              have : j' = out.length := by omega
              subst this
              rw [List.getElem?_append_right (Nat.le_refl _), Nat.sub_self] at g2
              cases (Option.some.inj g2)
              rw [ho, hk] at g1
              cases (Option.some.inj g1)
              rw [← e1]
              exact h1
        · rw [e1] at h1
          exact absurd hkd h1
      · rintro H3 ⟨out, s3, hD3, ho, hall⟩
        exact q D out H3 (s2.trans s3) hD3 (num_of (by rw [ho, hus.len]) hall)
end
end Wk
set_option Elab.async false
set_option linter.all false
set_option maxRecDepth 100000
set_option maxHeartbeats 4000000
namespace Wk
open PySem PySem.Spec PyProof.Rows L2
section
variable {P : Program} {w : World} {K : PySem.W.Frag} {mg : Str → Option Value} {base : Heap}
/-! ### alike -/
abbrev kp (x : Nat × Nat) : List Key := [Sum.inl (x.1 : Int), Sum.inl (x.2 : Int)]
theorem kp_inj {x y : Nat × Nat} (h : kp x = kp y) : x = y := by
  simp only [List.cons.injEq, Sum.inl.injEq, and_true] at h
  exact Prod.ext (Int.ofNat.inj h.1) (Int.ofNat.inj h.2)
inductive Ways (H : Hp) : List (List Key × V) → List Way → Prop
  | nil : Ways H [] []
  | cons {x : Nat × Nat} {v : V} {u : List Nat} {kvs : List (List Key × V)} {L : List Way} : IsInts H v u → Ways H kvs L → Ways H ((kp x, v) :: kvs) ((x, u) :: L)
theorem Ways.mono {H H' : Hp} (t : TupS H H') : ∀ {kvs : List (List Key × V)} {L : List Way}, Ways H kvs L → Ways H' kvs L
  | _, _, .nil => .nil
  | _, _, .cons h r => .cons (h.mono t) (Ways.mono t r)
theorem Ways.snoc {H : Hp} {x : Nat × Nat} {v : V} {u : List Nat} (h : IsInts H v u) : ∀ {kvs : List (List Key × V)} {L : List Way}, Ways H kvs L → Ways H (kvs ++ [(kp x, v)]) (L ++ [(x, u)])
  | _, _, .nil => .cons h .nil
  | _, _, .cons g r => .cons g (Ways.snoc h r)
theorem Ways.len {H : Hp} : ∀ {kvs : List (List Key × V)} {L : List Way}, Ways H kvs L → kvs.length = L.length
  | _, _, .nil => rfl
  | _, _, .cons _ r => by simp [Ways.len r]
theorem Ways.val {H : Hp} (y : Nat × Nat) : ∀ {kvs : List (List Key × V)} {L : List Way}, Ways H kvs L → (∃ u v, (y, u) ∈ L ∧ valV kvs (kp y) = some v ∧ IsInts H v u) ∨ (y ∉ L.map (·.1) ∧ valV kvs (kp y) = none)
  | _, _, .nil => .inr ⟨by simp, rfl⟩
  | _, _, .cons (x := x) (v := v) (u := u) h r => by
    by_cases e : x = y
    · subst e
      exact .inl ⟨u, v, by simp, valV_pos rfl, h⟩
    · rw [valV_neg (p := (kp x, v)) fun z => e (kp_inj z)]
      rcases Ways.val y r with ⟨u', v', h1, h2, h3⟩ | ⟨h1, h2⟩
      · exact .inl ⟨u', v', by simp [h1], h2, h3⟩
      · refine .inr ⟨?_, h2⟩
        simp only [List.map_cons, List.mem_cons, not_or]
        exact ⟨fun z => e z.symm, h1⟩
theorem way_uniq {L : List Way} (hn : (L.map (·.1)).Nodup) {i : Nat} {x : Nat × Nat} {u u' : List Nat} (h : L[i]? = some (x, u)) (h' : (x, u') ∈ L) : u' = u := by
  obtain ⟨j, hj⟩ := List.mem_iff_getElem?.mp h'
  have a1 : (L.map (·.1))[i]? = some x := by rw [List.getElem?_map, h]; rfl
  have a2 : (L.map (·.1))[j]? = some x := by rw [List.getElem?_map, hj]; rfl
  have e : i = j := (List.getElem?_inj (List.getElem?_eq_some_iff.mp a1).1 hn).mp (a1.trans a2.symm)
  rw [← e, h] at hj
  exact (congrArg Prod.snd (Option.some.inj hj)).symm
theorem Ways.at_ {H : Hp} {kvs : List (List Key × V)} {L : List Way} (W : Ways H kvs L) (hn : (L.map (·.1)).Nodup) {i : Nat} {x : Nat × Nat} {u : List Nat} (h : L[i]? = some (x, u)) : ∃ v, valV kvs (kp x) = some v ∧ IsInts H v u := by
  rcases W.val x with ⟨u', v, h1, h2, h3⟩ | ⟨h1, _⟩
  · rw [way_uniq hn h h1] at h3
    exact ⟨v, h2, h3⟩
  · exact absurd (List.mem_map.mpr ⟨_, List.mem_of_getElem? h, rfl⟩) h1
def spAlike : Sp := fun vs H Q _ => ∃ (v y : V) (M O : Mach) (k a b : Nat), vs = [v, y] ∧ IsMach H v M ∧ IsMach H y O ∧ WF k a M ∧ WF k b O ∧ M.length * O.length ≤ 1000 ∧ k ≤ 1000 ∧
  ∀ (x : V) (H' : Hp), Same H H' → ((x = .non ∧ Sim k M 0 O 0) ∨ ∃ u c, IsInts H' x (u ++ [c]) ∧ Parts k M O u c ∧ u.length + 1 ≤ M.length * O.length) → Q x H'
theorem scAlike : FnScope ["machine", "other", "ways", "waiting", "at", "pair", "mine", "its", "came", "fresh"] ["machine", "other"] (defScope sAlike) := ⟨rfl, rfl, rfl, by decide +kernel, rfl, by decide +kernel, by decide +kernel⟩
theorem ok_alike {f : Addr} {fd : FuncData} (F : Fun K "alike" "alike" sAlike f fd) (T : Txt mg) : FnOk P w K mg base CX0 1 f fd ["machine", "other"] spAlike := by
  refine F.ok scAlike (fun vs H Q E h => ?_) (fun cdv A outer s H vs Q E hr h => ?_)
  · obtain ⟨_, _, _, _, _, _, _, rfl, _⟩ := h
    rfl
  · obtain ⟨v, y, M, O, k, a, b, rfl, hM, hO, WM, WO, hlen, hk1, q⟩ := h
    have hu1 := hu_of hr
    refine ⟨_, pss_cons (ps_set (i := 2) scAlike.nd rfl (Or.inl rfl) (pe_disp1 hu1 (pe_tup (pa_cons pe_int (pa_cons pe_int pa_nil))) (pe_tup pa_nil)))
      (pss_cons (ps_set (i := 3) scAlike.nd rfl (Or.inl rfl) (pe_lst (pa_cons (pe_tup (pa_cons pe_int (pa_cons pe_int pa_nil))) pa_nil)))
      (pss_cons (ps_set (i := 4) scAlike.nd rfl (Or.inl rfl) pe_int)
      (pss_cons (ps_while PassesOwn.never (pt_cmpR op_lt (pv 4) (pe_callB call_len_seq (by rfl) T.len_ PySem.boot_len (pa_cons (pv 3) pa_nil)) (nomark _))
        (pss_cons (ps_set (i := 5) scAlike.nd rfl (Or.inl rfl) (pe_ix ix_list (pv 3) (pv 4) (fun _ _ => rfl)))
        (pss_cons (ps_par (i := 6) (j := 7) rfl scAlike.nd rfl rfl (by decide) rfl rfl (pa_cons (pe_ix ix_tup (pv 0) (pe_ix ix_tup (pv 5) pe_int (fun _ _ => rfl)) (fun _ _ => rfl)) (pa_cons (pe_ix ix_tup (pv 1) (pe_ix ix_tup (pv 5) pe_int (fun _ _ => rfl)) (fun _ _ => rfl)) pa_nil)) rfl)
        (pss_cons (ps_for PassesOwn.never rfl (pi_range1 (by rfl) T.range_ (pa_cons (pe_callB call_len_seq (by rfl) T.len_ PySem.boot_len (pa_cons (pv 6) pa_nil)) pa_nil)) (pg_name (i := 8) scAlike.nd rfl (Or.inl rfl))
          (pss_one (ps_if (pt_cmpR op_ne (pe_ix ix_tup (pe_ix ix_tup (pv 6) (pv 8) (fun _ _ => rfl)) pe_int (fun _ _ => rfl)) (pe_ix ix_tup (pe_ix ix_tup (pv 7) (pv 8) (fun _ _ => rfl)) pe_int (fun _ _ => rfl)) (nomark _))
            (pss_one (ps_ret (pe_op op_catA (pe_dget hu1 (pv 2) (pv 5) (fun _ _ => rfl)) (pe_tup (pa_cons (pv 8) pa_nil))))) pss_nil)))
        (pss_cons (ps_for PassesOwn.never rfl (pi_range1 (by rfl) T.range_ (pa_cons (pe_callB call_len_seq (by rfl) T.len_ PySem.boot_len (pa_cons (pv 6) pa_nil)) pa_nil)) (pg_name (i := 8) scAlike.nd rfl (Or.inl rfl))
          (pss_cons (ps_set (i := 9) scAlike.nd rfl (Or.inl rfl) (pe_tup (pa_cons (pe_ix ix_tup (pe_ix ix_tup (pv 6) (pv 8) (fun _ _ => rfl)) pe_int (fun _ _ => rfl)) (pa_cons (pe_ix ix_tup (pe_ix ix_tup (pv 7) (pv 8) (fun _ _ => rfl)) pe_int (fun _ _ => rfl)) pa_nil))))
          (pss_one (ps_if (pt_cmp (pc_dnotin hu1 (pv 9) (pv 2)))
            (pss_cons (ps_dput hu1 (pv 2) (pv 9) (pe_op op_catA (pe_dget hu1 (pv 2) (pv 5) (fun _ _ => rfl)) (pe_tup (pa_cons (pv 8) pa_nil))) rfl)
            (pss_one (ps_expr (pe_bm PySem.F.plainAttrs_list PySem.F.slot_list_append PySem.F.type_list_append mt_append (pv 3) (pa_cons (pv 9) pa_nil))))) pss_nil))))
        (pss_one (ps_aug (i := 4) scAlike.nd rfl (.inl rfl) pe_int ip_add)))))))
      (pss_one (ps_ret pe_non))))), ?_⟩
    intro d nd
    refine ⟨by show 2 ≤ sizeLine; decide, fun t0 nt0 => ⟨Nat.zero_le _, fun e0 ne0 => ?_⟩⟩
    have sd := same_new (o := .dT []) nd
    have s0 := same_new (o := .tup [.int 0, .int 0]) nt0
    have s1 := same_new (o := .tup []) ne0
    refine ⟨s1 _ _ (s0 _ _ upd_same), t0, kp (0, 0), rfl, s1 _ _ upd_same, ?_⟩
    have s2 : Same H _ := ((sd.trans s0).trans s1).own (o := .dT [(kp (0, 0), V.ref e0)]) nd
    have hd0 := s1 _ _ (s0 _ _ (upd_same (H := H) (a := d) (o := .dT [])))
    have t2 := tups_dT (o := .dT [(kp (0, 0), V.ref e0)]) hd0
    refine ⟨by show 2 ≤ sizeLine; decide, fun t1 nt1 => ⟨by show 1 ≤ sizeLine; decide, fun l nl => ?_⟩⟩
    have s3 := same_new (o := .tup [.int 0, .int 0]) nt1
    have s4 := same_new (o := .lst [.ref t1]) nl
    have nl0 : H l = none := (s2.trans s3).free nl
    have hd4 := s4 _ _ (s3 _ _ (upd_same (a := d) (o := .dT [(kp (0, 0), V.ref e0)])))
    have nld : l ≠ d := fun z => by
      rw [z] at nl
      rw [s3 _ _ upd_same] at nl
      cases nl
    have he0 := s4 _ _ (s3 _ _ (t2 _ _ (upd_same (a := e0) (o := .tup []))))
    refine ⟨fun m σ H5 => ∃ x5 x6 x7 x8 x9 i L kvs ws, σ = [some v, some y, some (.ref d), some (.ref l), some (nv i), x5, x6, x7, x8, x9] ∧ Same H H5 ∧ H5 d = some (.dT kvs) ∧ H5 l = some (.lst ws) ∧ Ways H5 kvs L ∧ IsSeq (IsPair H5) ws (L.map (·.1)) ∧ AInv k M O L i ∧ i ≤ L.length ∧ m = M.length * O.length - i,
      ⟨_, none, none, none, none, none, 0, [((0, 0), [])], [(kp (0, 0), .ref e0)], [.ref t1], rfl, (s2.trans s3).trans s4, hd4, upd_same, .cons ⟨e0, rfl, he0⟩ .nil, IsSeq.one ⟨t1, rfl, s4 _ _ upd_same⟩, AInv.start WM.pos WO.pos, Nat.zero_le _, rfl⟩, ?_⟩
    rintro m σ H5 ⟨x5, x6, x7, x8, x9, i, L, kvs, ws, rfl, s5, hd5, hl5, hW, hws, I, hiL, rfl⟩
    have hLl := I.len
    have hwl : ws.length = L.length := by rw [hws.len, List.length_map]
    refine ⟨_, rfl, _, rfl, l, ws, rfl, .inl (SqL.of hl5), _, _, rfl, rfl, _, rfl, ?_⟩
    refine ite2 (fun e => ?_) (fun e => ?_)
    · have hi : i < L.length := by
        have := of_decide_eq_true e
        omega
      obtain ⟨⟨⟨p, r⟩, u⟩, hiu⟩ : ∃ x, L[i]? = some x := ⟨L[i], List.getElem?_eq_getElem hi⟩
      obtain ⟨hp, hr2, hu, _, _, _, hul⟩ := I.ok i p r u hiu
      have hmi : (L.map (·.1))[i]? = some (p, r) := by rw [List.getElem?_map, hiu]; rfl
      obtain ⟨_, hwi, pa, rfl, hpa⟩ := hws.get hmi
      refine ⟨fun σ' H' => ∃ m', m' < M.length * O.length - i ∧ ∃ x5 x6 x7 x8 x9 i L kvs ws, σ' = [some v, some y, some (.ref d), some (.ref l), some (nv i), x5, x6, x7, x8, x9] ∧ Same H H' ∧ H' d = some (.dT kvs) ∧ H' l = some (.lst ws) ∧ Ways H' kvs L ∧ IsSeq (IsPair H') ws (L.map (·.1)) ∧ AInv k M O L i ∧ i ≤ L.length ∧ m' = M.length * O.length - i, fun _ _ z => z, ?_⟩
      obtain ⟨pm, vm, qm, um, Rm, rfl, hpm, hvm, hxm, hqm, huml, hRm, hRml, husm, hcm⟩ := mach_room (hM.mono s5.tups) WM hp
      obtain ⟨po, vo, qo, uo, Ro, rfl, hpo, hvo, hxo, hqo, huol, hRo, hRol, huso, hco⟩ := mach_room (hO.mono s5.tups) WO hr2
      refine ⟨_, rfl, _, rfl, l, ws, _, _, rfl, rfl, SqL.of hl5, atI_nat hwi, ?_⟩
      refine ⟨_, rfl, _, rfl, pa, _, 0, _, rfl, rfl, SqT.of hpa, rfl, pm, vm, _, _, rfl, rfl, SqT.of hpm, atI_nat hxm, ?_⟩
      refine ⟨_, rfl, _, rfl, pa, _, 1, _, rfl, rfl, SqT.of hpa, rfl, po, vo, _, _, rfl, rfl, SqT.of hpo, atI_nat hxo, _, _, rfl, ?_⟩
      obtain ⟨vw, hvw, hiw⟩ := hW.at_ I.nd hiu
      refine ⟨_, rfl, qm, um, rfl, .inr (SqT.of hqm), _, rfl, by omega, by omega, ?_⟩
      refine for_range (lo := 0) (n := ((um.length : Nat) : Int).toNat) (fun c σ H6 => ∃ x8, σ = [some (.ref pm), some (.ref po), some (.ref d), some (.ref l), some (nv i), some (.ref pa), some (.ref qm), some (.ref qo), x8, x9] ∧ H6 = H5 ∧ ∀ c', c' < c → ans M p c' = ans O r c')
        ⟨x8, rfl, rfl, fun c' h => by omega⟩ ?_ ?_
      · rintro c σ H6 hc ⟨x8, rfl, rfl, hall⟩
        have hck : c < k := by omega
        obtain ⟨_, hxc, dm, rfl, hdm⟩ := husm.get (hcm c hck)
        obtain ⟨_, hxo2, dO, rfl, hdo⟩ := huso.get (hco c hck)
        rw [Int.zero_add]
        refine ⟨_, rfl, _, rfl, qm, um, _, _, rfl, rfl, SqT.of hqm, atI_nat hxc, dm, _, 0, _, rfl, rfl, SqT.of hdm, rfl, ?_⟩
        refine ⟨_, rfl, _, rfl, qo, uo, _, _, rfl, rfl, SqT.of hqo, atI_nat hxo2, dO, _, 0, _, rfl, rfl, SqT.of hdo, rfl, rfl, _, rfl, ?_⟩
        refine ite2 (fun e => ?_) (fun e => ?_)
        · have hne : ans M p c ≠ ans O r c := fun z => by
            have z : (cell M p c).1 = (cell O r c).1 := z
            rw [z] at e
            simp at e
          obtain ⟨hP, hPl⟩ := I.parts hiu hck hne
          refine ⟨_, rfl, _, rfl, d, vw, rfl, (by rw [← hvw]; exact DGet.t hd5 hpa), _, rfl, by show 1 ≤ sizeLine; decide, fun t nt => ?_⟩
          have s6 := same_new (o := .tup [nv c]) nt
          refine cat_tp (hiw.mono s6.tups) ⟨t, rfl, upd_same⟩ (by simp; omega) fun v' H7 s7 t7 => ?_
          exact q v' H7 ((s5.trans s6).trans s7) (.inr ⟨u, c, by rw [IsInts, List.map_append]; exact t7, hP, hPl⟩)
        · refine ⟨_, rfl, rfl, fun c' hc' => ?_⟩
          by_cases z : c' < c
          · exact hall c' z
          · have : c' = c := by omega
            subst this
            by_cases z2 : ans M p c' = ans O r c'
            · exact z2
            · exfalso
              apply e
              show (!decide (nv (ans M p c') = nv (ans O r c'))) = true
              rw [dec_nv, decide_eq_false z2]
              rfl
      · rintro σ H6 ⟨x8, rfl, rfl, hall⟩
        refine ⟨_, rfl, qm, um, rfl, .inr (SqT.of hqm), _, rfl, by omega, by omega, ?_⟩
        refine for_range (lo := 0) (n := ((um.length : Nat) : Int).toNat) (fun c σ H7 => ∃ x8 x9 L' kvs' ws', σ = [some (.ref pm), some (.ref po), some (.ref d), some (.ref l), some (nv i), some (.ref pa), some (.ref qm), some (.ref qo), x8, x9] ∧ Same H H7 ∧ TupS H6 H7 ∧ H7 d = some (.dT kvs') ∧ H7 l = some (.lst ws') ∧ Ways H7 kvs' L' ∧ IsSeq (IsPair H7) ws' (L'.map (·.1)) ∧ AInv k M O L' i ∧ L'[i]? = some ((p, r), u) ∧ ∀ c', c' < c → (nxt M p c', nxt O r c') ∈ L'.map (·.1))
          ⟨x8, x9, L, kvs, ws, rfl, s5, TupS.rfl' H6, hd5, hl5, hW, hws, I, hiu, fun c' h => by omega⟩ ?_ ?_
        · rintro c σ H7 hc ⟨x8, x9, L', kvs', ws', rfl, s7, t7, hd7, hl7, hW7, hws7, I7, hiu7, hin⟩
          have hck : c < k := by omega
          obtain ⟨_, hxc, dm, rfl, hdm⟩ := husm.get (hcm c hck)
          obtain ⟨_, hxo2, dO, rfl, hdo⟩ := huso.get (hco c hck)
          obtain ⟨vw7, hvw7, hiw7⟩ := hW7.at_ I7.nd hiu7
          have hL7 := I7.len
          have hwl7 : ws'.length = L'.length := by rw [hws7.len, List.length_map]
          rw [Int.zero_add]
          refine ⟨_, rfl, _, rfl, qm, um, _, _, rfl, rfl, SqT.of (t7 _ _ hqm), atI_nat hxc, dm, _, 1, _, rfl, rfl, SqT.of (t7 _ _ hdm), rfl, ?_⟩
          refine ⟨_, rfl, _, rfl, qo, uo, _, _, rfl, rfl, SqT.of (t7 _ _ hqo), atI_nat hxo2, dO, _, 1, _, rfl, rfl, SqT.of (t7 _ _ hdo), rfl, by show 2 ≤ sizeLine; decide, fun t nt => ?_⟩
          have s8 := same_new (o := .tup [nv (nxt M p c), nv (nxt O r c)]) nt
          refine ⟨_, rfl, _, rfl, d, _, rfl, DGet.t (k := kp (nxt M p c, nxt O r c)) (s8 _ _ hd7) upd_same, _, rfl, ?_⟩
          rcases hW7.val (nxt M p c, nxt O r c) with ⟨u', v', h1, h2, _⟩ | ⟨h1, h2⟩
          · rw [h2]
            refine iteF ⟨_, _, L', kvs', ws', rfl, s7.trans s8, t7.trans s8.tups, s8 _ _ hd7, s8 _ _ hl7, hW7.mono s8.tups, hws7.mono fun _ _ z => z.mono s8.tups, I7, hiu7, fun c' hc' => ?_⟩
            by_cases z : c' < c
            · exact hin c' z
            · have : c' = c := by omega
              subst this
              exact List.mem_map.mpr ⟨_, h1, rfl⟩
          · rw [h2]
            have I8 := I7.push WM WO hiu7 hck (hall c hc) h1
            have hL8 := I8.len
            rw [List.length_append, List.length_singleton] at hL8
            refine iteT ?_
            refine ⟨_, rfl, _, rfl, d, vw7, rfl, (by rw [← hvw7]; exact DGet.t (s8 _ _ hd7) (s8 _ _ (t7 _ _ hpa))), _, rfl, by show 1 ≤ sizeLine; decide, fun t9 nt9 => ?_⟩
            have s9 := same_new (o := .tup [nv c]) nt9
            refine cat_tp ((hiw7.mono s8.tups).mono s9.tups) ⟨t9, rfl, upd_same⟩ (by simp; omega) fun v' H10 s10 t10 => ?_
            have hd10 := s10 _ _ (s9 _ _ (s8 _ _ hd7))
            have hl10 := s10 _ _ (s9 _ _ (s8 _ _ hl7))
            have ht10 := s10 _ _ (s9 _ _ (upd_same (H := H7) (a := t) (o := .tup [nv (nxt M p c), nv (nxt O r c)])))
            refine ⟨_, rfl, _, rfl, d, _, rfl, DPut.t (k := kp (nxt M p c, nxt O r c)) hd10 ht10 (szl (by rw [hW7.len]; omega)), ?_⟩
            rw [putK_new _ h2]
            have tA := tups_dT (o := .dT (kvs' ++ [(kp (nxt M p c, nxt O r c), v')])) hd10
            refine ⟨_, rfl, .inl ⟨rfl, _, SqL.of (by rw [upd_ne nld]; exact hl10)⟩, _, rfl, l, ws', _, rfl, rfl, by rw [upd_ne nld]; exact hl10, szl (by omega), ?_⟩
            have tB := tups_lst (o := .lst (ws' ++ [.ref t])) (show (upd H10 d (.dT (kvs' ++ [(kp (nxt M p c, nxt O r c), v')]))) l = some (.lst ws') by rw [upd_ne nld]; exact hl10)
            have tC := (((s8.trans s9).trans s10).tups.trans tA).trans tB
            refine ⟨_, _, L' ++ [((nxt M p c, nxt O r c), u ++ [c])], kvs' ++ [(kp (nxt M p c, nxt O r c), v')], ws' ++ [.ref t], rfl, ((((s7.trans s8).trans s9).trans s10).own nd).own nl0, t7.trans tC, by rw [upd_ne nld.symm]; exact upd_same, upd_same,
              (hW7.mono tC).snoc (((by rw [IsInts, List.map_append]; exact t10 : IsInts H10 v' (u ++ [c])).mono tA).mono tB), ?_, I8, ?_, fun c' hc' => ?_⟩
            · rw [List.map_append]
              exact (hws7.mono fun _ _ z => z.mono tC).snoc ⟨t, rfl, tB _ _ (tA _ _ ht10)⟩
            · rw [List.getElem?_append_left (List.getElem?_eq_some_iff.mp hiu7).1]
              exact hiu7
            · rw [List.map_append]
              by_cases z : c' < c
              · exact List.mem_append_left _ (hin c' z)
              · have : c' = c := by omega
                subst this
                exact List.mem_append_right _ (by simp)
        · rintro σ H7 ⟨x8, x9, L', kvs', ws', rfl, s7, t7, hd7, hl7, hW7, hws7, I7, hiu7, hin⟩
          have I8 := I7.next hiu7 fun c hc => ⟨hall c (by omega), hin c (by omega)⟩
          have hiL' := (List.getElem?_eq_some_iff.mp hiu7).1
          have := I7.len
          exact ⟨_, rfl, _, _, rfl, rfl, M.length * O.length - (i + 1), by omega, _, _, _, x8, x9, i + 1, L', kvs', ws', rfl, s7, hd7, hl7, hW7, hws7, I8, by omega, rfl⟩
    · have hi : L.length ≤ i := by
        by_cases z : L.length ≤ i
        · exact z
        · exact absurd (decide_eq_true (by omega)) e
      exact q _ _ s5 (.inl ⟨rfl, I.sim hi⟩)
end
end Wk
set_option Elab.async false
set_option linter.all false
set_option maxRecDepth 100000
set_option maxHeartbeats 4000000
namespace Wk
open PySem PySem.Spec PyProof.Rows L2
abbrev sClasses : Stmt := top 26
/-! places in the text -/
def bodyS : Stmt → List Stmt
  | .FunctionDef _ _ b _ _ _ _ _ _ _ => b
  | .While _ b _ _ => b
  | .For _ _ b _ _ => b
  | .If _ b _ _ => b
  | _ => []
def atS (s : Stmt) (path : List Nat) : Stmt := path.foldl (fun s i => (bodyS s).getD i (.Pass ⟨0, 0, 0, 0⟩)) s
def valS : Stmt → Expr
  | .Assign _ v _ => v
  | .Return (some v) _ => v
  | .Expr v _ => v
  | _ => .Constant .none 0 ⟨0, 0, 0, 0⟩
def lcSc : Expr → Scope
  | .ListComp _ _ sc _ => sc
  | _ => { kind := .function, names := [], isGenerator := false, isCoroutine := false }
def runSc (sc scope : Scope) : Scope := { scope with names := scope.names.map fun (n, k) => if (k == .free && sc.kind == .function && sc.names.lookup n == some .cell) then (n, .cell) else (n, k) }

/-! for the inner of two comprehensions -/
theorem ix_tupK {X : Cx} {K : PySem.W.Frag} (h : X.K = K) : IxR X (rIxT K) := by subst h; exact ix_tup
theorem pi_tupK {X : Cx} {K : PySem.W.Frag} {tg l : Expr} {tl : TE} (h : X.K = K) (hl : PE X l tl) : PI X tg l (iTup K tl) := by subst h; exact pi_tup hl
def rTupOf (K : PySem.W.Frag) : List V → Hp → VK → Prop := fun xs H Q => ∃ p ys, xs = [.ref p] ∧ ((SqL K H p ys ∧ ∀ l, H l = none → Q (.ref l) (upd H l (.tup ys))) ∨ (SqT K H p ys ∧ Q (.ref p) H))
theorem call_tupK {X : Cx} {K : PySem.W.Frag} (h : X.K = K) : CallR X (.type "tuple") (rTupOf K) := by subst h; exact call_tuple_of
/-! rows of numbers as keys -/
theorem Num.inj {α β : Type} {g : α → β} (hg : ∀ x y, g x = g y → x = y) {ks : List α} {out : List Nat} (h : Num (ks.map g) out) : Num ks out where
  len := by rw [h.len, List.length_map]
  same := fun i j hi hj => by
    rw [h.same i j (by rwa [List.length_map]) (by rwa [List.length_map]), List.getElem?_map, List.getElem?_map, List.getElem?_eq_getElem hi, List.getElem?_eq_getElem hj]
    simp only [Option.map_some, Option.some.injEq]
    exact ⟨hg _ _, fun e => by rw [e]⟩
  rgs := h.rgs
abbrev nk (n : Nat) : NestedKey := .num (n : Int)
theorem nk_inj {w w' : List Nat} (h : w.map nk = w'.map nk) : w = w' := by
  induction w generalizing w' with
  | nil => cases w' <;> simp_all
  | cons n w ih =>
    cases w' with
    | nil => simp at h
    | cons n' w' =>
      simp only [List.map_cons, List.cons.injEq, NestedKey.num.injEq] at h
      rw [ih h.2, Int.ofNat.inj h.1]
def gA (w : List Nat) : NestedKey := .tup (w.map nk)
theorem gA_inj (x y : List Nat) (h : gA x = gA y) : x = y := nk_inj (NestedKey.tup.inj h)
def gR (p : Nat × List Nat) : NestedKey := .tup [nk p.1, gA p.2]
theorem gR_inj (x y : Nat × List Nat) (h : gR x = gR y) : x = y := by
  have h := NestedKey.tup.inj h
  simp only [List.cons.injEq, NestedKey.num.injEq, and_true] at h
  exact Prod.ext (Int.ofNat.inj h.1) (gA_inj _ _ h.2)
theorem depth_nk : ∀ w : List Nat, NestedKey.depthAll (w.map nk) = 0
  | [] => rfl
  | n :: w => by rw [List.map_cons, NestedKey.depthAll, depth_nk w]; rfl
theorem depth_gA (w : List Nat) : (gA w).depth = 1 := by rw [gA, NestedKey.depth, depth_nk]
theorem depth_gR (p : Nat × List Nat) : (gR p).depth = 2 := by
  rw [gR, NestedKey.depth, NestedKey.depthAll, NestedKey.depthAll, NestedKey.depthAll, depth_gA, NestedKey.depth]
  rfl
theorem IsInts.key {H : Hp} {v : V} {w : List Nat} (h : IsInts H v w) : IsKey H v (gA w) := by
  obtain ⟨a, rfl, ha⟩ := h
  exact ⟨a, rfl, .tup ha (nall_ints w), by rw [depth_gA]; decide⟩
theorem IsPRoom.key {H : Hp} {v : V} {p : Nat × List Nat} (h : IsPRoom H v p) : IsKey H v (gR p) := by
  obtain ⟨y, ⟨a, rfl, ha⟩, b, rfl, hb⟩ := h
  exact ⟨a, rfl, .tup ha (.cons (.num _) (.cons (.tup hb (nall_ints p.2)) .nil)), by rw [depth_gR]; decide⟩
theorem IsSeq.mapR {α β : Type} {R : V → α → Prop} {R' : V → β → Prop} {g : α → β} {vs : List V} {xs : List α} (h : IsSeq R vs xs) (m : ∀ v x, R v x → R' v (g x)) : IsSeq R' vs (xs.map g) := by
  refine ⟨by rw [h.len, List.length_map], fun i v y a b => ?_⟩
  rw [List.getElem?_map] at b
  obtain ⟨x, hx, rfl⟩ := Option.map_eq_some_iff.mp b
  exact m v x (h.at_ i v x a hx)
/-! dicts of classes -/
theorem zip_keys {F κ : List Nat} (hl : κ.length = F.length) : (F.zip κ).map (·.1) = F := by
  rw [List.map_fst_zip]
  omega
theorem zip_inj {F κ κ' : List Nat} (hl : κ.length = F.length) (hl' : κ'.length = F.length) (h : F.zip κ = F.zip κ') : κ = κ' := by
  have := congrArg (List.map Prod.snd) h
  rw [List.map_snd_zip (by omega), List.map_snd_zip (by omega)] at this
  exact this
theorem zip_val {F κ : List Nat} (hF : F.Nodup) (hl : κ.length = F.length) {r : Nat} (hr : r ∈ F) : valV ((F.zip κ).map dE) (Sum.inl (r : Int)) = some (nv (kd F κ r)) := by
  obtain ⟨i, hi⟩ := List.mem_iff_getElem?.mp hr
  have h2 := kd_at hF hl hi
  have hm : (r, kd F κ r) ∈ F.zip κ := List.mem_of_getElem? (List.getElem?_zip_eq_some (z := (r, kd F κ r)) |>.mpr ⟨hi, h2⟩)
  exact dE_own (by rw [zip_keys hl]; exact hF) (r, kd F κ r) hm
theorem answers_room {M : Mach} {k r : Nat} {R : List (Nat × Nat)} (hl : R.length = k) (hc : ∀ c, c < k → R[c]? = some (cell M r c)) : R.map (·.1) = answers M k r := by
  apply List.ext_getElem?
  intro i
  by_cases hi : i < k
  · rw [List.getElem?_map, hc i hi, answers, List.getElem?_map, List.getElem?_range hi]; rfl
  · rw [List.getElem?_eq_none (by rw [List.length_map]; omega), List.getElem?_eq_none (by rw [answers, List.length_map, List.length_range]; omega)]
section
variable {P : Program} {w : World} {K : PySem.W.Frag} {mg : Str → Option Value} {base : Heap}
/-! ### classes_of -/
def spClasses : Sp := fun vs H Q _ => ∃ (v : V) (x : Addr) (M : Mach) (k a : Nat) (F : List Nat), vs = [v, .ref x] ∧ IsMach H v M ∧ WF k a M ∧ M.length ≤ 100 ∧ k ≤ 1000 ∧ H x = some (.tup (F.map nv)) ∧ Bfs M k F ∧
  ∀ (d : Addr) (κ : List Nat) (H' : Hp), Same H H' → H' d = some (.dK ((F.zip κ).map dE)) → Cls M k F κ → Q (.ref d) H'
abbrev nClasses : List Str := ["machine", "rooms", "kinds", "ahead", "rows", "room", "answered", "later"]
theorem scClasses : FnScope nClasses ["machine", "rooms"] (defScope sClasses) := ⟨rfl, rfl, rfl, by decide +kernel, rfl, by decide +kernel, by decide +kernel⟩
abbrev outSc : Scope := lcSc (valS (atS sClasses [2, 1]))
theorem ok_classes {f : Addr} {fd : FuncData} (F : Fun K "classes_of" "classes_of" sClasses f fd) (T : Txt mg) (A1 : Has P w K mg base "answers_in" ["room"] 1 spAnswers) (A2 : Has P w K mg base "numbered" ["things"] 1 spNumbered) : FnOk P w K mg base CX0 2 f fd ["machine", "rooms"] spClasses := by
  obtain ⟨f1, fd1, G1, g1, k1, b1⟩ := A1.ex
  obtain ⟨f2, fd2, G2, g2', k2, b2⟩ := A2.ex
  refine F.ok scClasses (fun vs H Q E h => ?_) (fun cdv A outer s H vs Q E hr h => ?_)
  · obtain ⟨_, _, _, _, _, _, rfl, _⟩ := h
    rfl
  · obtain ⟨v, x, M, k, a, G, rfl, hM, W, hM1, hk1, hx, B, q⟩ := h
    have hu1 := hu_of hr
    have hGl : G.length ≤ M.length := len_le_of_nodup _ _ B.nd fun r hr => B.lt W hr
    refine ⟨_, pss_cons (ps_set (i := 2) scClasses.nd rfl (Or.inl rfl) (pe_dictzip rfl (by rfl) T.dict_ (by rfl) T.zip_ (pv 1) (pe_call G2 hr (by rfl) g2' k2 b2 .nil pass0 (pa_cons
          (pe_lc (own := [("room", 5)]) (g := gName 5) (tt := tYes) rfl scClasses.nd (pi_tup (pv 1)) (blkOk_by (N := nClasses) (sc := defScope sClasses) (by decide +kernel)) (fun _ _ _ _ _ => pg_name (i := 5) scClasses.nd rfl (Or.inl rfl)) (fun _ _ _ _ _ => pts_nil)
            (fun _ _ _ _ _ => pe_call G1 hr (by rfl) g1 k1 b1 .nil pass0 (pa_cons (pe_ix (ix_tupK (K := K) rfl) (pv 0) (pv 5) (fun _ _ => rfl)) pa_nil))) pa_nil))))
      (pss_cons (ps_set (i := 3) scClasses.nd rfl (Or.inr rfl) pe_non)
      (pss_cons (ps_while PassesOwn.never (pt_cmpR (OpR.or (op_ne_DN hr.units0) (op_ne_DD hr.units0)) (pv 2) (pv 3) (nomark _))
        (pss_cons (ps_set (i := 3) scClasses.nd rfl (Or.inr rfl) (pv 2))
        (pss_cons (ps_setLc (i := 4) (own := [("room", 5)]) (g := gName 5) (tt := tYes) rfl scClasses.nd rfl rfl (sw_true rfl rfl rfl rfl) (pi_tup (pv 1)) (blkOk_by (N := nClasses) (sc := defScope sClasses) (by decide +kernel)) (fun _ _ _ _ _ => pg_name (i := 5) scClasses.nd rfl (Or.inl rfl)) (fun _ _ _ _ _ => pts_nil)
          (fun _ _ _ _ _ => pe_tup (pa_cons (pe_dget hu1 (pv 3) (pv 5) (fun _ _ => rfl)) (pa_cons (pe_callTy (call_tupK (K := K) rfl) (by rfl) T.tuple_ boot_tuple3 (pa_cons
            (pe_lc (own := [("answered", 6), ("later", 7)]) (g := g2 K 6 7) (tt := tYes) rfl scClasses.nd (pi_tupK (K := K) rfl (pe_ix (ix_tupK (K := K) rfl) (pv 0) (pv 5) (fun _ _ => rfl))) (blkOk_by (N := nClasses) (sc := runSc (defScope sClasses) outSc) (by decide +kernel))
              (fun _ _ _ _ _ => pg_tup (by rfl) (pgs_cons (pg_name (i := 6) scClasses.nd rfl (Or.inl rfl)) (pgs_cons (pg_name (i := 7) scClasses.nd rfl (Or.inl rfl)) pgs_nil))) (fun _ _ _ _ _ => pts_nil)
              (fun _ _ _ _ _ => pe_dget hu1 (pv 3) (pv 7) (fun _ _ => rfl))) pa_nil)) pa_nil))))
        (pss_one (ps_set (i := 2) scClasses.nd rfl (Or.inl rfl) (pe_dictzip rfl (by rfl) T.dict_ (by rfl) T.zip_ (pv 1) (pe_call G2 hr (by rfl) g2' k2 b2 .nil pass0 (pa_cons (pv 4) pa_nil))))))))
      (pss_one (ps_ret (pv 2))))), ?_⟩
    refine ⟨_, rfl, _, rfl, x, rfl, ⟨_, SqT.of hx⟩, fun D hD => lc_tup (K := K) (a := x) (xs := G.map nv) (fun i H2 => Same H H2 ∧ ∃ us, H2 D = some (.lst us) ∧ IsSeq (IsInts H2) us ((G.take i).map (answers M k))) ⟨same_new hD, [], upd_same, IsSeq.nil⟩ (fun i H2 _ h2 => SqT.of (h2.1 _ _ hx)) ?_ ?_⟩
    · rintro i y H2 hy ⟨s2, us, d2, hs⟩
      rw [List.getElem?_map] at hy
      obtain ⟨r, hrG, rfl⟩ := Option.map_eq_some_iff.mp hy
      have hil : i < G.length := (List.getElem?_eq_some_iff.mp hrG).1
      have hrl := B.lt W (List.mem_of_getElem? hrG)
      obtain ⟨p, vs, p2, us2, R, rfl, hp, hvl, hxr, hp2, hul, hR, hRl, hus, hcell⟩ := mach_room (hM.mono s2.tups) W hrl
      refine ⟨rfl, yes ?_⟩
      refine ⟨_, rfl, _, rfl, p, vs, _, _, rfl, rfl, SqT.of hp, atI_nat hxr, .ref p2, R, rfl, ⟨us2, ⟨p2, rfl, hp2⟩, hus⟩, by omega, fun v' H3 s3 hv' => ?_⟩
      have d3 := s3 _ _ d2
      have t4 := tups_lst (o := .lst (us ++ [v'])) d3
      refine ⟨us, d3, ?_, (s2.trans s3).own hD, us ++ [v'], upd_same, ?_⟩
      · rw [hs.len, List.length_map, List.length_take]; exact szl (by omega)
      · rw [List.take_add_one, hrG, List.map_append]
        rw [answers_room hRl hcell] at hv'
        exact (hs.mono fun _ _ z => (z.mono s3.tups).mono t4).snoc (hv'.mono t4)
    rintro H2 ⟨s2, us, d2, hs⟩
    rw [List.length_map, List.take_length] at hs
    refine ⟨D, us, (G.map (answers M k)).map gA, rfl, d2, hs.mapR fun _ _ z => z.key, by simp; omega, fun b κ H3 s3 hb hnum => ?_⟩
    have I0 : KInv M k G κ := KInv.start (hnum.inj gA_inj)
    have hx3 := s3 _ _ (s2 _ _ hx)
    refine ⟨x, b, G, κ, rfl, rfl, hx3, hb, I0.len.symm, B.nd, by omega, fun d nd => ?_⟩
    have s4 := same_new (o := .dK ((G.zip κ).map dE)) nd
    refine ⟨fun m σ H5 => ∃ x4 κ d av, σ = [some v, some (.ref x), some (.ref d), some av, x4, none, none, none] ∧ Same H H5 ∧ H5 d = some (.dK ((G.zip κ).map dE)) ∧ KInv M k G κ ∧
        ((av = .non ∧ m = G.length * G.length + 1) ∨ ∃ d0 κ0, av = .ref d0 ∧ H5 d0 = some (.dK ((G.zip κ0).map dE)) ∧ KInv M k G κ0 ∧ Num (G.map (krow M k G κ0)) κ ∧ m = G.length * G.length - κ0.sum),
      ⟨_, none, κ, d, .non, rfl, (s2.trans s3).trans s4, upd_same, I0, .inl ⟨rfl, rfl⟩⟩, ?_⟩
    rintro m σ H5 ⟨x4, κ, d, av, rfl, s5, hd5, I, hav⟩
    have tst : ∃ bb : Bool, (bb = true → G.length * G.length - κ.sum < m) ∧ (bb = false → Cls M k G κ) ∧ ∀ Q : VK, Q (.bl bb) H5 → (rNeDN (.ref d) av H5 Q ∨ rNeDD (.ref d) av H5 Q) := by
      rcases hav with ⟨rfl, rfl⟩ | ⟨d0, κ0, rfl, hd0, I00, hn, rfl⟩
      · exact ⟨true, fun _ => by omega, (fun z => nomatch z), fun Q hq => .inl ⟨d, _, rfl, rfl, hd5, hq⟩⟩
      · have hk : (G.zip κ).map (·.1) = (G.zip κ0).map (·.1) := by rw [zip_keys I.len, zip_keys I00.len]
        refine ⟨!decide (G.zip κ = G.zip κ0), fun z => ?_, fun z => ?_, fun Q hq => .inr ⟨d, d0, _, _, rfl, rfl, hd5, hd0, hk, by rw [zip_keys I00.len]; exact B.nd, hq⟩⟩
        · have ne : κ0 ≠ κ := fun e => by rw [e] at z; simp at z
          have g1 := I00.grow B hn ne
          have g2 := I.small
          omega
        · have e : G.zip κ = G.zip κ0 := by simpa using z
          have e := zip_inj I.len I00.len e
          subst e
          exact I.done B hn
    obtain ⟨bb, h1, h2, h3⟩ := tst
    refine ⟨_, rfl, _, rfl, h3 _ ⟨bb, rfl, ?_⟩⟩
    cases bb with
    | false => exact iteF ⟨_, rfl, q d κ H5 s5 hd5 (h2 rfl)⟩
    | true =>
      have hm := h1 rfl
      refine iteT ⟨fun σ' H' => ∃ m', m' < m ∧ ∃ x4 κ d av, σ' = [some v, some (.ref x), some (.ref d), some av, x4, none, none, none] ∧ Same H H' ∧ H' d = some (.dK ((G.zip κ).map dE)) ∧ KInv M k G κ ∧
        ((av = .non ∧ m' = G.length * G.length + 1) ∨ ∃ d0 κ0, av = .ref d0 ∧ H' d0 = some (.dK ((G.zip κ0).map dE)) ∧ KInv M k G κ0 ∧ Num (G.map (krow M k G κ0)) κ ∧ m' = G.length * G.length - κ0.sum), fun _ _ z => z, ?_⟩
      have hx5 := s5 _ _ hx
      refine ⟨_, rfl, _, rfl, x, rfl, ⟨_, SqT.of hx5⟩, fun D hD => lc_tup (K := K) (a := x) (xs := G.map nv) (fun i H6 => Same H5 H6 ∧ ∃ us, H6 D = some (.lst us) ∧ IsSeq (IsPRoom H6) us ((G.take i).map (krow M k G κ))) ⟨same_new hD, [], upd_same, IsSeq.nil⟩ (fun i H6 _ h6 => SqT.of (h6.1 _ _ hx5)) ?_ ?_⟩
      · rintro i y H6 hy ⟨s6, us, d6, hs⟩
        rw [List.getElem?_map] at hy
        obtain ⟨r, hrG, rfl⟩ := Option.map_eq_some_iff.mp hy
        have hil : i < G.length := (List.getElem?_eq_some_iff.mp hrG).1
        have hrm := List.mem_of_getElem? hrG
        have hrl := B.lt W hrm
        have s56 := s5.trans s6
        obtain ⟨p, vs, p2, us2, R, rfl, hp, hvl, hxr, hp2, hul, hR, hRl, hus, hcell⟩ := mach_room (hM.mono s56.tups) W hrl
        refine ⟨rfl, yes ?_⟩
        have gr := DGet.k (k := Sum.inl (r : Int)) (s6 _ _ hd5)
        rw [zip_val B.nd I.len hrm] at gr
        refine ⟨_, rfl, _, rfl, d, _, rfl, gr, _, rfl, _, rfl, p, vs, _, _, rfl, rfl, SqT.of hp, atI_nat hxr, p2, rfl, ⟨_, SqT.of hp2⟩, fun D2 hD2 => lc_tup (K := K) (a := p2) (xs := us2) (fun c H7 => Same H6 H7 ∧ H7 D2 = some (.lst (((List.range c).map fun c => kd G κ (nxt M r c)).map nv))) ⟨same_new hD2, upd_same⟩ (fun i H7 _ h7 => SqT.of (h7.1 _ _ hp2)) ?_ ?_⟩
        · rintro c y H7 hy2 ⟨s7, d7⟩
          have hck : c < k := by rw [← hul]; exact (List.getElem?_eq_some_iff.mp hy2).1
          obtain ⟨o, rfl, ho⟩ := hus.at_ c y _ hy2 (hcell c hck)
          have gc := DGet.k (k := Sum.inl (nxt M r c : Int)) (s7 _ _ (s6 _ _ hd5))
          rw [zip_val B.nd I.len (B.child hrm hck)] at gc
          refine ⟨o, _, rfl, SqT.of (s7 _ _ ho), rfl, _, _, rfl, _, _, rfl, rfl, rfl, yes ?_⟩
          refine ⟨_, rfl, _, rfl, d, _, rfl, gc, _, d7, ?_, s7.own hD2, ?_⟩
          · rw [List.length_map, List.length_map, List.length_range]; exact szl (by omega)
          · rw [upd_same, List.range_succ, List.map_append, List.map_append]; rfl
        · rintro H7 ⟨s7, d7⟩
          rw [hul] at d7
          refine ⟨D2, _, rfl, .inl ⟨SqL.of d7, fun t nt => ?_⟩⟩
          have s8 := same_new (o := .tup (((List.range k).map fun c => kd G κ (nxt M r c)).map nv)) nt
          refine ⟨by show 2 ≤ sizeLine; decide, fun o no => ?_⟩
          have s9 := same_new (o := .tup [nv (kd G κ r), .ref t]) no
          have s69 := (s7.trans s8).trans s9
          have d9 := s69 _ _ d6
          have t10 := tups_lst (o := .lst (us ++ [.ref o])) d9
          refine ⟨us, d9, ?_, (s6.trans s69).own hD, us ++ [.ref o], upd_same, ?_⟩
          · rw [hs.len, List.length_map, List.length_take]; exact szl (by omega)
          · rw [List.take_add_one, hrG, List.map_append]
            exact (hs.mono fun _ _ z => (z.mono s69.tups).mono t10).snoc ⟨_, ⟨o, rfl, t10 _ _ upd_same⟩, t, rfl, t10 _ _ (s9 _ _ upd_same)⟩
      · rintro H6 ⟨s6, us, d6, hs⟩
        rw [List.length_map, List.take_length] at hs
        refine ⟨_, rfl, _, rfl, D, us, (G.map (krow M k G κ)).map gR, rfl, d6, hs.mapR fun _ _ z => z.key, by simp; omega, fun b κ' H7 s7 hb hnum => ?_⟩
        have hn := hnum.inj gR_inj
        have I' := I.next B hn
        have s57 := s6.trans s7
        refine ⟨x, b, G, κ', rfl, rfl, s57 _ _ hx5, hb, I'.len.symm, B.nd, by omega, fun d' nd' => ?_⟩
        have s8 := same_new (o := .dK ((G.zip κ').map dE)) nd'
        exact ⟨_, hm, _, κ', d', .ref d, rfl, (s5.trans s57).trans s8, upd_same, I', .inr ⟨d, κ, rfl, s8 _ _ (s57 _ _ hd5), I, hn, rfl⟩⟩
end
end Wk
set_option Elab.async false
set_option linter.all false
set_option maxRecDepth 100000
set_option maxHeartbeats 4000000
namespace Wk
open PySem PySem.Spec PyProof.Rows L2
abbrev sMerged : Stmt := top 27
/-! ### merged -/
def mrow (M : Mach) (k : Nat) (G κ : List Nat) (r : Nat) : List (Nat × Nat) := (List.range k).map fun c => (ans M r c, kd G κ (nxt M r c))
structure FInv (G κ fs : List Nat) (i : Nat) : Prop where
  at_ : ∀ j r, fs[j]? = some r → r ∈ G ∧ kd G κ r = j
  seen : ∀ j r, j < i → G[j]? = some r → kd G κ r < fs.length
theorem FInv.le {M : Mach} {k : Nat} {G κ fs : List Nat} {i r : Nat} (I : FInv G κ fs i) (C : Cls M k G κ) (h : G[i]? = some r) : kd G κ r ≤ fs.length := by
  have hk := kd_at C.bfs.nd C.len h
  by_cases z : kd G κ r ≤ fs.length
  · exact z
  · obtain ⟨j, hj, e⟩ := C.rgs i _ fs.length hk (by omega)
    have hjl : j < G.length := by have := (List.getElem?_eq_some_iff.mp h).1; omega
    have e1 : G[j]? = some G[j] := List.getElem?_eq_getElem hjl
    have := kd_at C.bfs.nd C.len e1
    rw [e] at this
    have h2 := I.seen j _ hj e1
    rw [← Option.some.inj this] at h2
    omega
theorem FInv.old {G κ fs : List Nat} {i r : Nat} (I : FInv G κ fs i) (h : G[i]? = some r) (hk : kd G κ r < fs.length) : FInv G κ fs (i + 1) :=
  ⟨I.at_, fun j r' hj e => by
    by_cases z : j < i
    · exact I.seen j r' z e
    · have : j = i := by omega
      subst this
      rw [h] at e
      cases (Option.some.inj e)
      exact hk⟩
theorem FInv.new {G κ fs : List Nat} {i r : Nat} (I : FInv G κ fs i) (h : G[i]? = some r) (hk : kd G κ r = fs.length) : FInv G κ (fs ++ [r]) (i + 1) := by
  refine ⟨fun j r' e => ?_, fun j r' hj e => ?_⟩
  · by_cases z : j < fs.length
    · rw [List.getElem?_append_left z] at e
      exact I.at_ j r' e
    · have hj := (List.getElem?_eq_some_iff.mp e).1
      rw [List.length_append, List.length_singleton] at hj
      have : j = fs.length := by omega
      subst this
      rw [List.getElem?_append_right (Nat.le_refl _), Nat.sub_self] at e
      cases (Option.some.inj e)
      exact ⟨List.mem_of_getElem? h, hk⟩
  · rw [List.length_append, List.length_singleton]
    by_cases z : j < i
    · have := I.seen j r' z e
      omega
    · have : j = i := by omega
      subst this
      rw [h] at e
      cases (Option.some.inj e)
      omega
theorem merged_of {M : Mach} {k : Nat} {G κ fs : List Nat} (C : Cls M k G κ) (I : FInv G κ fs G.length) : Merged k M (fs.map (mrow M k G κ)) := by
  refine ⟨G, κ, C, fun r hr => ?_, fun v hv => ?_⟩
  · obtain ⟨j, hj⟩ := List.mem_iff_getElem?.mp hr
    have hl := I.seen j r (List.getElem?_eq_some_iff.mp hj).1 hj
    have e : fs[kd G κ r]? = some fs[kd G κ r] := List.getElem?_eq_getElem hl
    obtain ⟨h1, h2⟩ := I.at_ _ _ e
    rw [List.getElem?_map, e]
    show some (mrow M k G κ fs[kd G κ r]) = _
    have s := (C.iff h1 hr).mp h2
    refine congrArg some (List.map_congr_left fun c hc => ?_)
    have hc := List.mem_range.mp hc
    rw [s.ans hc, (C.iff (C.bfs.child h1 hc) (C.bfs.child hr hc)).mpr (s.nxt hc)]
  · rw [List.length_map] at hv
    obtain ⟨h1, h2⟩ := I.at_ v fs[v] (List.getElem?_eq_getElem hv)
    exact ⟨_, h1, h2⟩
section
variable {P : Program} {w : World} {K : PySem.W.Frag} {mg : Str → Option Value} {base : Heap}
def spMerged : Sp := fun vs H Q _ => ∃ (v : V) (M : Mach) (k a : Nat), vs = [v] ∧ IsMach H v M ∧ WF k a M ∧ M.length ≤ 100 ∧ k ≤ 1000 ∧ ∀ (v' : V) (N : Mach) (H' : Hp), Same H H' → IsMach H' v' N → Merged k M N → Q v' H'
abbrev nMerged : List Str := ["machine", "rooms", "kinds", "firsts", "room", "found", "answered", "later"]
theorem scMerged : FnScope nMerged ["machine"] (defScope sMerged) := ⟨rfl, rfl, rfl, by decide +kernel, rfl, by decide +kernel, by decide +kernel⟩
theorem ok_merged {f : Addr} {fd : FuncData} (F : Fun K "merged" "merged" sMerged f fd) (T : Txt mg) (A1 : Has P w K mg base "rooms_of" ["machine"] 1 spRooms) (A2 : Has P w K mg base "classes_of" ["machine", "rooms"] 2 spClasses) : FnOk P w K mg base CX0 3 f fd ["machine"] spMerged := by
  obtain ⟨f1, fd1, G1, g1, k1, b1⟩ := A1.ex
  obtain ⟨f2, fd2, G2, g2', k2, b2⟩ := A2.ex
  refine F.ok scMerged (fun vs H Q E h => ?_) (fun cdv A outer s H vs Q E hr h => ?_)
  · obtain ⟨_, _, _, _, rfl, _⟩ := h
    rfl
  · obtain ⟨v, M, k, a, rfl, hM, W, hM1, hk1, q⟩ := h
    have hu1 := hu_of hr
    have hr1 : L2.Room 1 _ := hr.mono (by decide)
    refine ⟨_, pss_cons (ps_set (i := 1) scMerged.nd rfl (Or.inl rfl) (pe_call G1 hr1 (by rfl) g1 k1 b1 .nil pass0 (pa_cons (pv 0) pa_nil)))
      (pss_cons (ps_set (i := 2) scMerged.nd rfl (Or.inr rfl) (pe_call G2 hr (by rfl) g2' k2 b2 .nil pass0 (pa_cons (pv 0) (pa_cons (pv 1) pa_nil))))
      (pss_cons (ps_set (i := 3) scMerged.nd rfl (Or.inl rfl) (pe_lst pa_nil))
      (pss_cons (ps_for PassesOwn.never rfl (pi_tup (pv 1)) (pg_name (i := 4) scMerged.nd rfl (Or.inl rfl))
        (pss_one (ps_if (pt_cmpR op_eq (pe_dget hu1 (pv 2) (pv 4) (fun _ _ => rfl)) (pe_callB call_len_seq (by rfl) T.len_ PySem.boot_len (pa_cons (pv 3) pa_nil)) (nomark _))
          (pss_one (ps_expr (pe_bm PySem.F.plainAttrs_list PySem.F.slot_list_append PySem.F.type_list_append mt_append (pv 3) (pa_cons (pv 4) pa_nil)))) pss_nil)))
      (pss_cons (ps_set (i := 5) scMerged.nd rfl (Or.inl rfl) (pe_lst pa_nil))
      (pss_cons (ps_for PassesOwn.never rfl (pi_list (pv 3)) (pg_name (i := 4) scMerged.nd rfl (Or.inl rfl))
        (pss_one (ps_expr (pe_bm PySem.F.plainAttrs_list PySem.F.slot_list_append PySem.F.type_list_append mt_append (pv 5) (pa_cons (pe_callTy call_tuple_of (by rfl) T.tuple_ boot_tuple3 (pa_cons
          (pe_lc (own := [("answered", 6), ("later", 7)]) (g := g2 K 6 7) (tt := tYes) rfl scMerged.nd (pi_tup (pe_ix ix_tup (pv 0) (pv 4) (fun _ _ => rfl))) (blkOk_by (N := nMerged) (sc := defScope sMerged) (by decide +kernel))
              (fun _ _ _ _ _ => pg_tup (by rfl) (pgs_cons (pg_name (i := 6) scMerged.nd rfl (Or.inl rfl)) (pgs_cons (pg_name (i := 7) scMerged.nd rfl (Or.inl rfl)) pgs_nil))) (fun _ _ _ _ _ => pts_nil)
              (fun _ _ _ _ _ => pe_tup (pa_cons (pv 6) (pa_cons (pe_dget hu1 (pv 2) (pv 7) (fun _ _ => rfl)) pa_nil)))) pa_nil)) pa_nil)))))
      (pss_one (ps_ret (pe_callTy call_tuple_of (by rfl) T.tuple_ boot_tuple3 (pa_cons (pv 5) pa_nil))))))))), ?_⟩
    refine ⟨_, rfl, v, M, k, a, rfl, hM, W, by omega, fun x G H1 s1 ⟨x', ex, hx⟩ B => ?_⟩
    subst ex
    have hGl : G.length ≤ M.length := len_le_of_nodup _ _ B.nd fun r hr => B.lt W hr
    refine ⟨_, rfl, _, rfl, v, x', M, k, a, G, rfl, hM.mono s1.tups, W, hM1, hk1, hx, B, fun d κ H2 s2 hd C => ?_⟩
    refine ⟨Nat.zero_le _, fun l nl => ?_⟩
    have s3 := same_new (o := .lst []) nl
    have s12 := s1.trans s2
    have nl0 := s12.free nl
    have hx2 := s2 _ _ hx
    refine ⟨_, rfl, x', rfl, ⟨_, SqT.of (s3 _ _ hx2)⟩, for_tup (K := K) (a := x') (xs := G.map nv) (fun i σ H3 => ∃ x4 fs, σ = [some v, some (.ref x'), some (.ref d), some (.ref l), x4, none, none, none] ∧ Same H2 H3 ∧ H3 l = some (.lst (fs.map nv)) ∧ FInv G κ fs i ∧ fs.length ≤ i)
      ⟨none, [], rfl, s3, upd_same, ⟨fun j r h => by simp at h, fun j r h => by omega⟩, Nat.le_refl _⟩ (fun i σ H3 _ ⟨_, _, _, s, _⟩ => SqT.of (s _ _ hx2)) ?_ ?_⟩
    · rintro i y σ H3 hy ⟨x4, fs, rfl, s4, hl4, I, hfl⟩
      rw [List.getElem?_map] at hy
      obtain ⟨r, hrG, rfl⟩ := Option.map_eq_some_iff.mp hy
      have hil : i < G.length := (List.getElem?_eq_some_iff.mp hrG).1
      have hrm := List.mem_of_getElem? hrG
      have gr := DGet.k (k := Sum.inl (r : Int)) (s4 _ _ hd)
      rw [zip_val B.nd C.len hrm] at gr
      have hle := I.le C hrG
      refine ⟨_, rfl, _, rfl, d, _, rfl, gr, _, rfl, l, _, rfl, .inl (SqL.of hl4), rfl, _, rfl, ?_⟩
      refine ite2 (fun e => ?_) (fun e => ?_)
      · have e : kd G κ r = fs.length := by
          have e : decide (nv (kd G κ r) = nv ((fs.map nv).length)) = true := e
          rw [dec_nv, List.length_map] at e
          exact of_decide_eq_true e
        refine ⟨_, rfl, .inl ⟨rfl, _, SqL.of hl4⟩, _, rfl, l, _, _, rfl, rfl, hl4, szl (by rw [List.length_map]; omega), ?_⟩
        exact ⟨_, fs ++ [r], rfl, s4.own nl, by rw [List.map_append]; exact upd_same, I.new hrG e, by rw [List.length_append, List.length_singleton]; omega⟩
      · refine ⟨_, fs, rfl, s4, hl4, I.old hrG ?_, by omega⟩
        by_cases z : kd G κ r = fs.length
        · exfalso
          apply e
          show decide (nv (kd G κ r) = nv ((fs.map nv).length)) = true
          rw [dec_nv, List.length_map, decide_eq_true z]
        · omega
    · rintro σ H3 ⟨x4, fs, rfl, s4, hl4, I, hfl⟩
      rw [List.length_map] at I hfl
      refine ⟨Nat.zero_le _, fun l2 nl2 => ?_⟩
      have s5 := same_new (o := .lst []) nl2
      have sA := (s12.trans s4).trans s5
      have nl20 := (s12.trans s4).free nl2
      refine ⟨_, rfl, l, rfl, ⟨_, SqL.of (s5 _ _ hl4)⟩, for_list (K := K) (a := l) (xs := fs.map nv) (fun i σ H4 => ∃ x4 vs x6 x7, σ = [some v, some (.ref x'), some (.ref d), some (.ref l), x4, some (.ref l2), x6, x7] ∧ Same H3 H4 ∧ H4 l2 = some (.lst vs) ∧ IsSeq (IsPairs H4) vs ((fs.take i).map (mrow M k G κ)))
        ⟨x4, [], _, _, rfl, s5, upd_same, IsSeq.nil⟩ (fun i σ H4 _ ⟨_, _, _, _, _, s, _⟩ => SqL.of (s _ _ hl4)) ?_ ?_⟩
      · rintro i y σ H4 hy ⟨x4, vs, x6, x7, rfl, s6, hl6, hvs⟩
        rw [List.getElem?_map] at hy
        obtain ⟨r, hrf, rfl⟩ := Option.map_eq_some_iff.mp hy
        have hil : i < fs.length := (List.getElem?_eq_some_iff.mp hrf).1
        obtain ⟨hrm, _⟩ := I.at_ i r hrf
        have hrl := B.lt W hrm
        have s06 := (s12.trans s4).trans s6
        obtain ⟨p, ws, p2, us2, R, rfl, hp, hvl, hxr, hp2, hul, hR, hRl, hus, hcell⟩ := mach_room (hM.mono s06.tups) W hrl
        refine ⟨_, rfl, .inl ⟨rfl, _, SqL.of hl6⟩, _, rfl, _, rfl, p, ws, _, _, rfl, rfl, SqT.of hp, atI_nat hxr, p2, rfl, ⟨_, SqT.of hp2⟩, fun D hD => lc_tup (K := K) (a := p2) (xs := us2) (fun c H7 => Same H4 H7 ∧ ∃ us, H7 D = some (.lst us) ∧ IsSeq (IsPair H7) us ((List.range c).map fun c => (ans M r c, kd G κ (nxt M r c)))) ⟨same_new hD, [], upd_same, IsSeq.nil⟩ (fun i H7 _ h7 => SqT.of (h7.1 _ _ hp2)) ?_ ?_⟩
        · rintro c y H7 hy2 ⟨s7, us, d7, hu7⟩
          have hck : c < k := by rw [← hul]; exact (List.getElem?_eq_some_iff.mp hy2).1
          obtain ⟨o, rfl, ho⟩ := hus.at_ c y _ hy2 (hcell c hck)
          have gc := DGet.k (k := Sum.inl (nxt M r c : Int)) (s7 _ _ (s6 _ _ (s4 _ _ hd)))
          rw [zip_val B.nd C.len (B.child hrm hck)] at gc
          refine ⟨o, _, rfl, SqT.of (s7 _ _ ho), rfl, _, _, rfl, _, _, rfl, rfl, rfl, yes ?_⟩
          refine ⟨_, rfl, _, rfl, _, rfl, d, _, rfl, gc, by show 2 ≤ sizeLine; decide, fun t nt => ?_⟩
          have s8 := same_new (o := .tup [nv (ans M r c), nv (kd G κ (nxt M r c))]) nt
          have d8 := s8 _ _ d7
          have t9 := tups_lst (o := .lst (us ++ [.ref t])) d8
          refine ⟨us, d8, ?_, (s7.trans s8).own hD, us ++ [.ref t], upd_same, ?_⟩
          · rw [hu7.len, List.length_map, List.length_range]; exact szl (by omega)
          · rw [List.range_succ, List.map_append]
            exact (hu7.mono fun _ _ z => (z.mono s8.tups).mono t9).snoc ⟨t, rfl, t9 _ _ upd_same⟩
        · rintro H7 ⟨s7, us, d7, hu7⟩
          rw [hul] at hu7
          refine ⟨D, _, rfl, .inl ⟨SqL.of d7, fun t nt => ?_⟩⟩
          have s8 := same_new (o := .tup us) nt
          have hl8 := s8 _ _ (s7 _ _ hl6)
          refine ⟨l2, _, _, rfl, rfl, hl8, szl (by rw [hvs.len, List.length_map, List.length_take]; omega), ?_⟩
          have t9 := tups_lst (o := .lst (vs ++ [.ref t])) hl8
          have tA := (s7.trans s8).tups.trans t9
          refine ⟨_, vs ++ [.ref t], _, _, rfl, ((s6.trans s7).trans s8).own nl2, upd_same, ?_⟩
          rw [List.take_add_one, hrf, List.map_append]
          exact (hvs.mono fun _ _ z => z.mono tA).snoc ⟨us, ⟨t, rfl, t9 _ _ upd_same⟩, hu7.mono fun _ _ z => (z.mono s8.tups).mono t9⟩
      · rintro σ H4 ⟨x4, vs, x6, x7, rfl, s6, hl6, hvs⟩
        rw [List.length_map, List.take_length] at hvs
        refine ⟨_, rfl, l2, _, rfl, .inl ⟨SqL.of hl6, fun t nt => ?_⟩⟩
        have s7 := same_new (o := .tup vs) nt
        exact q _ _ _ (((s12.trans s4).trans s6).trans s7) ⟨vs, ⟨t, rfl, upd_same⟩, hvs.mono fun _ _ z => z.mono s7.tups⟩ (merged_of C I)
end
end Wk
set_option Elab.async false
set_option linter.all false
set_option maxRecDepth 100000
set_option maxHeartbeats 4000000
namespace Wk
open PySem PySem.Spec PyProof.Rows L2
abbrev sMixed : Stmt := top 33
abbrev sBegun : Stmt := top 34
abbrev sOpen : Stmt := top 35
abbrev sDraw : Stmt := top 36
/-! ### the law's state -/
def stK (c : Addr) (l m a : Int) : List (Key × V) := [(Sum.inr "cells", .ref c), (Sum.inr "left", .int l), (Sum.inr "mixed", .int m), (Sum.inr "at", .int a)]
theorem kne {x y : Str} (h : x ≠ y) : ¬ (Sum.inr x : Key) = Sum.inr y := fun z => h (Sum.inr.inj z)
theorem n1 : ("cells" : Str) ≠ "left" := by decide +kernel
theorem n2 : ("cells" : Str) ≠ "mixed" := by decide +kernel
theorem n3 : ("cells" : Str) ≠ "at" := by decide +kernel
theorem n4 : ("left" : Str) ≠ "mixed" := by decide +kernel
theorem n5 : ("left" : Str) ≠ "at" := by decide +kernel
theorem n6 : ("mixed" : Str) ≠ "at" := by decide +kernel
section
variable {c : Addr} {l m a : Int}
theorem st_cells : valV (stK c l m a) (Sum.inr "cells") = some (.ref c) := valV_pos rfl
theorem st_left : valV (stK c l m a) (Sum.inr "left") = some (.int l) := by
  unfold stK; rw [valV_neg (kne n1), valV_pos rfl]
theorem st_mixed : valV (stK c l m a) (Sum.inr "mixed") = some (.int m) := by
  unfold stK; rw [valV_neg (kne n2), valV_neg (kne n4), valV_pos rfl]
theorem st_at : valV (stK c l m a) (Sum.inr "at") = some (.int a) := by
  unfold stK; rw [valV_neg (kne n3), valV_neg (kne n5), valV_neg (kne n6), valV_pos rfl]
theorem put_left {x : Int} : putK (stK c l m a) (Sum.inr "left") (.int x) = stK c x m a := by
  unfold putK
  rw [valV_any, st_left, if_pos (show (some _).isSome = true from rfl)]
  simp only [stK, List.map_cons, List.map_nil, if_neg (kne n1), if_neg (kne (Ne.symm n4)), if_neg (kne (Ne.symm n5)), if_true]
theorem put_mixed {x : Int} : putK (stK c l m a) (Sum.inr "mixed") (.int x) = stK c l x a := by
  unfold putK
  rw [valV_any, st_mixed, if_pos (show (some _).isSome = true from rfl)]
  simp only [stK, List.map_cons, List.map_nil, if_neg (kne n2), if_neg (kne n4), if_neg (kne (Ne.symm n6)), if_true]
theorem put_at {x : Int} : putK (stK c l m a) (Sum.inr "at") (.int x) = stK c l m x := by
  unfold putK
  rw [valV_any, st_at, if_pos (show (some _).isSome = true from rfl)]
  simp only [stK, List.map_cons, List.map_nil, if_neg (kne n3), if_neg (kne n5), if_neg (kne n6), if_true]
theorem merge_st : mergeK [] (stK c l m a) = stK c l m a := by
  show putK (putK (putK (putK ([] : List (Key × V)) (Sum.inr ("cells" : Str)) (V.ref c)) (Sum.inr ("left" : Str)) (V.int l)) (Sum.inr ("mixed" : Str)) (V.int m)) (Sum.inr ("at" : Str)) (V.int a) = _
  rw [putK_new (kvs := ([] : List (Key × V))) _ rfl, List.nil_append, putK_new (kvs := [((Sum.inr "cells" : Key), V.ref c)]) _ (by rw [valV_neg (kne n1)]; rfl)]
  rw [putK_new (kvs := [((Sum.inr "cells" : Key), V.ref c)] ++ [((Sum.inr "left" : Key), V.int l)]) _ (by
    rw [List.singleton_append, valV_neg (kne n2), valV_neg (kne n4)]; rfl)]
  rw [putK_new (kvs := [((Sum.inr "cells" : Key), V.ref c)] ++ [((Sum.inr "left" : Key), V.int l)] ++ [((Sum.inr "mixed" : Key), V.int m)]) _ (by
    rw [List.singleton_append, List.cons_append, valV_neg (kne n3), List.singleton_append, valV_neg (kne n5), valV_neg (kne n6)]; rfl)]
  rfl
end
/-- the state's dict; at most N letters were drawn since it was opened -/
def IsSt (c : Addr) (N : Nat) (H : Hp) (d : Addr) : Prop := ∃ l m a : Int, H d = some (.dK (stK c l m a)) ∧ 0 ≤ a ∧ a ≤ (N : Int)
theorem IsSt.le {c d : Addr} {N N' : Nat} {H : Hp} (h : IsSt c N H d) (l : N ≤ N') : IsSt c N' H d := let ⟨x, m, a, e, h1, h2⟩ := h; ⟨x, m, a, e, h1, by omega⟩
theorem IsSt.same {c d : Addr} {N : Nat} {H H' : Hp} (h : IsSt c N H d) (s : Same H H') : IsSt c N H' d := let ⟨x, m, a, e, h1, h2⟩ := h; ⟨x, m, a, s _ _ e, h1, h2⟩
theorem IsSt.notup {c d : Addr} {N : Nat} {H : Hp} (h : IsSt c N H d) : ∀ xs, H d ≠ some (.tup xs) := by
  obtain ⟨x, m, a, e, _⟩ := h
  intro xs z
  rw [e] at z
  cases z
theorem IsSt.tups {c d : Addr} {N : Nat} {H H' : Hp} (h : IsSt c N H d) (s : SameX d H H') : TupS H H' := s.tups h.notup
theorem samex_own {d : Addr} {H : Hp} {o : HO} : SameX d H (upd H d o) := fun b x e n => by rw [upd_ne n]; exact e
theorem samex_same {d : Addr} {H H0 H' : Hp} (s : Same H0 H) (h : H0 d = none) (x : SameX d H H') : Same H0 H' := fun b o e => x b o (s b o e) (ne_of_none e h)
section
variable {P : Program} {w : World} {K : PySem.W.Frag} {mg : Str → Option Value} {base : Heap}
/-! ### mixed -/
def spMixed : Sp := fun vs H Q _ => ∃ x k : Int, vs = [.int x, .int k] ∧ -(2 ^ 64) < k ∧ k < 2 ^ 64 ∧ ∀ z : Int, Q (.int z) H
theorem scMixed : FnScope ["_law_cell", "_law_k", "_law_number"] ["_law_cell", "_law_k"] (defScope sMixed) := ⟨rfl, rfl, rfl, by decide +kernel, rfl, by decide +kernel, by decide +kernel⟩
theorem ok_mixed {f : Addr} {fd : FuncData} (F : Fun K "_law_mixed" "_law_mixed" sMixed f fd) : FnOk P w K mg base CX0 1 f fd ["_law_cell", "_law_k"] spMixed := by
  refine F.ok scMixed (fun vs H Q E h => ?_) (fun cdv A outer s H vs Q E hr h => ?_)
  · obtain ⟨_, _, rfl, _⟩ := h
    rfl
  · obtain ⟨x, k, rfl, h1, h2, q⟩ := h
    refine ⟨_, pss_cons (ps_set (i := 2) scMixed.nd rfl (Or.inl rfl) (pe_op op_mod (pe_op op_add (pe_op op_add (pe_op op_add (pe_op op_mul (pe_op op_mod (pv 0) pe_int) pe_int) (pe_op op_mul (pe_op op_mul pe_int (pv 1)) (pv 1))) (pe_op op_mul pe_int (pv 1))) pe_int) pe_int))
      (pss_one (ps_ret (pe_op op_fdiv (pe_op op_mod (pe_op op_mul (pv 2) pe_int) pe_int) pe_int))), ?_⟩
    refine ⟨_, rfl, _, _, rfl, rfl, (show (0 : Int) < 2147483629 by decide), _, _, rfl, rfl, .inr ⟨by decide, by decide⟩, _, rfl, _, _, rfl, rfl, .inl ⟨by decide, by decide⟩, _, rfl, _, _, rfl, rfl, .inr ⟨h1, h2⟩, _, _, rfl, rfl, _, rfl, _, _, rfl, rfl, .inl ⟨by decide, by decide⟩, _, _, rfl, rfl, _, _, rfl, rfl, _, _, rfl, rfl, (show (0 : Int) < 2147483647 by decide), ?_⟩
    exact ⟨_, rfl, _, _, rfl, rfl, .inr ⟨by decide, by decide⟩, _, _, rfl, rfl, (show (0 : Int) < 2147483629 by decide), _, _, rfl, rfl, ⟨by decide, by decide⟩, q _⟩
/-! ### begun -/
def spBegun : Sp := fun vs H Q _ => ∃ c : Addr, vs = [.ref c] ∧ ∀ (d : Addr) (H' : Hp), Same H H' → H d = none → IsSt c 0 H' d → Q (.ref d) H'
theorem scBegun : FnScope ["_law_script"] ["_law_script"] (defScope sBegun) := ⟨rfl, rfl, rfl, by decide +kernel, rfl, by decide +kernel, by decide +kernel⟩
theorem ok_begun {f : Addr} {fd : FuncData} (F : Fun K "_law_begun" "_law_begun" sBegun f fd) : FnOk P w K mg base CX0 1 f fd ["_law_script"] spBegun := by
  refine F.ok scBegun (fun vs H Q E h => ?_) (fun cdv A outer s H vs Q E hr h => ?_)
  · obtain ⟨_, rfl, _⟩ := h
    rfl
  · obtain ⟨c, rfl, q⟩ := h
    refine ⟨_, pss_one (ps_ret (pe_disp (pps_cons pe_str (pv 0) (pps_cons pe_str pe_int (pps_cons pe_str pe_int (pps_cons pe_str pe_int pps_nil)))) rfl rfl (by simp) (by decide))), ?_⟩
    intro p np
    refine ⟨_, rfl, upd_same, stK c 0 0 0, rfl, (show 4 ≤ 15 by decide), ?_⟩
    rw [merge_st]
    exact q p _ ((same_new np).own np) np ⟨0, 0, 0, upd_same, Int.le_refl _, by omega⟩
/-! ### open -/
theorem boot_abs_ : bootBuiltins "abs" = some (.builtin "abs") := by decide +kernel
theorem via {te : TE} {σ : L2.St} {H : Hp} {Q : VK} (R : V → Hp → Prop) (h : ∀ Q' : VK, (∀ x H1, R x H1 → Q' x H1) → te σ H Q') (q : ∀ x H1, R x H1 → Q x H1) : te σ H Q := h Q q
theorem sql_same {H H' : Hp} {a : Addr} {xs : List V} (h : SqL K H a xs) (s : Same H H') : SqL K H' a xs :=
  h.elim (fun h => .inl (h.elim (fun h => .inl (s _ _ h)) fun ⟨o, h⟩ => .inr ⟨o, s _ _ h⟩)) fun h => .inr h
theorem eqs_intl {H : Hp} {c : Addr} {cs : List Int} {e : Addr} {Q : VK} (hc : SqL K H c (cs.map V.int)) (he : H e = some (.lst [])) (q : Q (.bl (!decide (cs = []))) H) : rNeD K (.ref c) (.ref e) H Q := by
  refine ⟨.list (cs.map fun n => .int n), .list [], .lst hc (dpAll_of (e := fun n => .int n) (R := fun v n => v = V.int n) (fun v x z => by rw [z]; exact .int _) (seq_map (f := V.int) (fun _ => rfl) cs)), .lst (SqL.of he) .nil, ?_, rfl, ?_⟩
  · unfold SeqAt.shaped
    rw [PyData.canLay0, layAll_map (e := fun n => .int n) (fun x => by rw [PyData.canLay0]) cs, PyData.depth]
    exact decide_eq_true (Nat.le_trans (Nat.succ_le_succ (depthAll_map (e := fun n => .int n) (n := 0) (fun x => by rw [PyData.depth]; exact Nat.le_refl _) cs)) (by decide))
  · rw [PyData.eqv]
    have e1 : PyData.eqvAll (cs.map fun n => .int n) [] = decide (cs = []) := by cases cs <;> simp [PyData.eqvAll]
    rw [e1]
    exact q
def spOpen (K : PySem.W.Frag) : Sp := fun vs H Q _ => ∃ (c d : Addr) (cs : List Int) (k N : Nat), vs = [.ref d, nv k] ∧ IsSt c N H d ∧ SqL K H c (cs.map V.int) ∧ H d ≠ none ∧ k ≤ 1000 ∧ ∀ H', SameX d H H' → IsSt c 0 H' d → Q .non H'
theorem scOpen : FnScope ["_law_state", "_law_k", "_law_cells", "_law_cell"] ["_law_state", "_law_k"] (defScope sOpen) := ⟨rfl, rfl, rfl, by decide +kernel, rfl, by decide +kernel, by decide +kernel⟩
theorem ok_open {f : Addr} {fd : FuncData} (F : Fun K "_law_open" "_law_open" sOpen f fd) (T : Txt mg) (A1 : Has P w K mg base "_law_mixed" ["_law_cell", "_law_k"] 1 spMixed) : FnOk P w K mg base CX0 2 f fd ["_law_state", "_law_k"] (spOpen K) := by
  obtain ⟨f1, fd1, G1, g1, k1, b1⟩ := A1.ex
  refine F.ok scOpen (fun vs H Q E h => ?_) (fun cdv A outer s H vs Q E hr h => ?_)
  · obtain ⟨_, _, _, _, _, rfl, _⟩ := h
    rfl
  · obtain ⟨c, d, cs, k, N, rfl, ⟨l, m, a, hd, h1, h2⟩, hc, _, hk, q⟩ := h
    have hu1 := hu_of hr
    refine ⟨_, pss_cons (ps_set (i := 2) scOpen.nd rfl (Or.inl rfl) (pe_dget hu1 (pv 0) pe_str (fun _ _ => rfl)))
      (pss_cons (ps_set (i := 3) scOpen.nd rfl (Or.inl rfl) (pe_ifExp (pt_cmpR (op_neD hr.units) (pv 2) (pe_lst pa_nil) (nomark _)) (pe_ix ix_list (pv 2) (pe_op op_mod (pv 1) (pe_callB call_len_seq (by rfl) T.len_ PySem.boot_len (pa_cons (pv 2) pa_nil))) (fun _ _ => rfl)) pe_int))
      (pss_cons (ps_dput hu1 (pv 0) pe_str (pe_ifExp (pt_cmpR op_ge (pe_callB call_abs (by rfl) T.abs_ boot_abs_ (pa_cons (pv 3) pa_nil)) (pe_op op_pow pe_int pe_int) (nomark _)) (pe_callB call_abs (by rfl) T.abs_ boot_abs_ (pa_cons (pv 3) pa_nil)) pe_int) rfl)
      (pss_cons (ps_dput hu1 (pv 0) pe_str (pe_call G1 hr (by rfl) g1 k1 b1 .nil pass0 (pa_cons (pv 3) (pa_cons (pv 1) pa_nil))) rfl)
      (pss_one (ps_dput hu1 (pv 0) pe_str pe_int rfl))))), ?_⟩
    have gd := DGet.k (k := Sum.inr "cells") hd
    rw [st_cells] at gd
    refine ⟨_, rfl, d, _, rfl, gd, ?_⟩
    dsimp only [gName, tSeq, tAsg]
    refine via (te := tIf _ _ _) (fun x H1 => ∃ z : Int, x = .int z ∧ Same H H1) (fun Q' q' => ?_) (fun x H1 ⟨z, ex, s1⟩ => ?_)
    · refine ⟨_, rfl, Nat.zero_le _, fun e ne => ?_⟩
      have s1 := same_new (o := .lst []) ne
      refine eqs_intl (sql_same hc s1) upd_same ⟨_, rfl, ?_⟩
      refine ite2 (fun h => ?_) (fun h => q' _ _ ⟨5, rfl, s1⟩)
      have hcs : cs ≠ [] := fun z => by rw [z] at h; simp at h
      have hl : 0 < cs.length := List.length_pos_iff.mpr hcs
      have hkl : k % cs.length < cs.length := Nat.mod_lt _ hl
      refine ⟨_, rfl, _, rfl, _, rfl, c, _, rfl, .inl (sql_same hc s1), _, _, rfl, rfl, ?_, c, _, _, .int (cs[k % cs.length]), rfl, rfl, sql_same hc s1, ?_, q' _ _ ⟨_, rfl, s1⟩⟩
      · show (0 : Int) < ((cs.map V.int).length : Nat)
        rw [List.length_map]; omega
      · have e : ((k : Int) % (((cs.map V.int).length : Nat) : Int)) = ((k % cs.length : Nat) : Int) := by rw [List.length_map]; exact (Int.natCast_emod k cs.length).symm
        rw [e]
        exact atI_nat (by rw [List.getElem?_map, List.getElem?_eq_getElem hkl]; rfl)
    subst ex
    have hd1 := s1 _ _ hd
    dsimp only [sDPut]
    refine via (te := tIf _ _ _) (fun x H2 => H2 = H1 ∧ ∃ z : Int, x = .int z) (fun Q' q' => ?_) (fun x H2 ⟨eH, z2, ex⟩ => ?_)
    · refine ⟨_, rfl, _, rfl, _, _, rfl, rfl, ⟨by decide, by decide, by decide⟩, _, _, rfl, rfl, _, rfl, ?_⟩
      refine ite2 (fun h => ?_) (fun h => q' _ _ ⟨rfl, 0, rfl⟩)
      exact ⟨_, rfl, _, rfl, q' _ _ ⟨rfl, _, rfl⟩⟩
    subst eH ex
    refine ⟨_, rfl, d, _, rfl, DPut.k (k := Sum.inr "left") hd1 (show 4 < sizeLine by decide), ?_⟩
    rw [put_left]
    have x2 : SameX d H (upd H2 d (.dK (stK c z2 m a))) := s1.x.trans samex_own
    refine ⟨_, rfl, _, rfl, _, _, rfl, by omega, by omega, fun z3 => ?_⟩
    refine ⟨_, rfl, d, _, rfl, DPut.k (k := Sum.inr "mixed") upd_same (show 4 < sizeLine by decide), ?_⟩
    rw [put_mixed]
    refine ⟨_, rfl, d, _, rfl, DPut.k (k := Sum.inr "at") upd_same (show 4 < sizeLine by decide), ?_⟩
    rw [put_at]
    exact q _ ((x2.trans samex_own).trans samex_own) ⟨z2, z3, 0, upd_same, Int.le_refl _, by omega⟩
/-! ### draw -/
def spDraw : Sp := fun vs H Q _ => ∃ (c d : Addr) (N n : Nat), vs = [.ref d, nv n] ∧ IsSt c N H d ∧ N ≤ 1000000 ∧ 1 ≤ n ∧ n ≤ 1000 ∧ ∀ (j : Nat) (H' : Hp), j < n → SameX d H H' → IsSt c (N + 1) H' d → Q (nv j) H'
theorem scDraw : FnScope ["_law_state", "_law_many", "_law_found"] ["_law_state", "_law_many"] (defScope sDraw) := ⟨rfl, rfl, rfl, by decide +kernel, rfl, by decide +kernel, by decide +kernel⟩
theorem nat_mod (x : Int) {n : Nat} (h : 1 ≤ n) : ∃ j : Nat, j < n ∧ x % (n : Int) = (j : Int) := by
  have h1 : 0 ≤ x % (n : Int) := Int.emod_nonneg x (by omega)
  have h2 : x % (n : Int) < (n : Int) := Int.emod_lt_of_pos x (by omega)
  exact ⟨(x % (n : Int)).toNat, by omega, (Int.toNat_of_nonneg h1).symm⟩
theorem ok_draw {f : Addr} {fd : FuncData} (F : Fun K "_law_draw" "_law_draw" sDraw f fd) (A1 : Has P w K mg base "_law_mixed" ["_law_cell", "_law_k"] 1 spMixed) : FnOk P w K mg base CX0 2 f fd ["_law_state", "_law_many"] spDraw := by
  obtain ⟨f1, fd1, G1, g1, k1, b1⟩ := A1.ex
  refine F.ok scDraw (fun vs H Q E h => ?_) (fun cdv A outer s H vs Q E hr h => ?_)
  · obtain ⟨_, _, _, _, rfl, _⟩ := h
    rfl
  · obtain ⟨c, d, N, n, rfl, ⟨l, m, a, hd, h1, h2⟩, hN, hn, hn2, q⟩ := h
    have hu1 := hu_of hr
    refine ⟨_, pss_cons (ps_dput hu1 (pv 0) pe_str (pe_op op_add (pe_dget hu1 (pv 0) pe_str (fun _ _ => rfl)) pe_int) rfl)
      (pss_cons (ps_if (pt_cmpR op_eq (pe_dget hu1 (pv 0) pe_str (fun _ _ => rfl)) pe_int (nomark _))
        (pss_one (ps_ret (pe_op op_mod (pe_call G1 hr (by rfl) g1 k1 b1 .nil pass0 (pa_cons (pe_dget hu1 (pv 0) pe_str (fun _ _ => rfl)) (pa_cons (pe_dget hu1 (pv 0) pe_str (fun _ _ => rfl)) pa_nil))) (pv 1)))) pss_nil)
      (pss_cons (ps_set (i := 2) scDraw.nd rfl (Or.inl rfl) (pe_op op_mod (pe_dget hu1 (pv 0) pe_str (fun _ _ => rfl)) (pv 1)))
      (pss_cons (ps_dput hu1 (pv 0) pe_str (pe_op op_fdiv (pe_dget hu1 (pv 0) pe_str (fun _ _ => rfl)) (pv 1)) rfl)
      (pss_one (ps_ret (pv 2)))))), ?_⟩
    have ga := DGet.k (k := Sum.inr "at") hd
    rw [st_at] at ga
    refine ⟨_, rfl, d, _, rfl, ga, _, _, rfl, rfl, _, rfl, d, _, rfl, DPut.k (k := Sum.inr "at") hd (show 4 < sizeLine by decide), ?_⟩
    rw [put_at]
    have hd2 : (upd H d (.dK (stK c l m (a + 1)))) d = some (.dK (stK c l m (a + 1))) := upd_same
    have gl := DGet.k (k := Sum.inr "left") hd2
    rw [st_left] at gl
    have gm := DGet.k (k := Sum.inr "mixed") hd2
    rw [st_mixed] at gm
    have ga2 := DGet.k (k := Sum.inr "at") hd2
    rw [st_at] at ga2
    refine ⟨_, rfl, d, _, rfl, gl, rfl, _, rfl, ?_⟩
    refine ite2 (fun e => ?_) (fun e => ?_)
    · refine ⟨_, rfl, d, _, rfl, gm, _, rfl, d, _, rfl, ga2, _, _, rfl, by omega, by omega, fun z => ?_⟩
      obtain ⟨j, hj, ej⟩ := nat_mod z hn
      refine ⟨_, rfl, _, _, rfl, rfl, (show (0 : Int) < (n : Int) by omega), ?_⟩
      show Q (V.int (z % (n : Int))) _
      rw [ej]
      exact q j _ hj samex_own ⟨l, m, a + 1, upd_same, by omega, by omega⟩
    · obtain ⟨j, hj, ej⟩ := nat_mod l hn
      refine ⟨_, rfl, d, _, rfl, gl, _, rfl, _, _, rfl, rfl, (show (0 : Int) < (n : Int) by omega), ?_⟩
      refine ⟨_, rfl, d, _, rfl, gl, _, rfl, _, _, rfl, rfl, (show (0 : Int) < (n : Int) ∧ (n : Int) < 1073741824 by omega), _, rfl, d, _, rfl, DPut.k (k := Sum.inr "left") hd2 (show 4 < sizeLine by decide), ?_⟩
      rw [put_left]
      refine ⟨_, rfl, ?_⟩
      show Q (V.int (l % (n : Int))) _
      rw [ej]
      exact q j _ hj (samex_own.trans samex_own) ⟨_, m, a + 1, upd_same, by omega, by omega⟩
end
end Wk
set_option Elab.async false
set_option linter.all false
set_option maxRecDepth 100000
set_option maxHeartbeats 4000000
namespace Wk
open PySem PySem.Spec PyProof.Rows L2
abbrev sMachine : Stmt := top 37
abbrev sPlan : Stmt := top 38
abbrev sLetters : Stmt := top 39
theorem wf_of {k a n : Nat} {M : Mach} (hn : M.length = n) (h0 : 0 < n) (hk : 0 < k) (h : ∀ R ∈ M, R.length = k ∧ ∀ p ∈ R, p.1 < a ∧ p.2 < n) : WF k a M :=
  ⟨by omega, hk, fun r R e => (h R (List.mem_of_getElem? e)).1, fun r R c p e g => by
    have := (h R (List.mem_of_getElem? e)).2 p (List.mem_of_getElem? g)
    exact ⟨this.1, by omega⟩⟩
theorem ne_st {c d l : Addr} {N : Nat} {H : Hp} (st : IsSt c N H d) (h : H l = none) : l ≠ d := fun z => by
  obtain ⟨_, _, _, e, _⟩ := st
  rw [z, e] at h
  cases h
section
variable {P : Program} {w : World} {K : PySem.W.Frag} {mg : Str → Option Value} {base : Heap}
/-! ### machine -/
def spMachine : Sp := fun vs H Q _ => ∃ (c d : Addr) (N k a n : Nat), vs = [.ref d, nv k, nv a, nv n] ∧ IsSt c N H d ∧ N ≤ 500000 ∧ 1 ≤ k ∧ k ≤ 8 ∧ 1 ≤ a ∧ a ≤ 8 ∧ 1 ≤ n ∧ n ≤ 20 ∧
  ∀ (v : V) (M : Mach) (H' : Hp), SameX d H H' → IsSt c (N + 1000) H' d → IsMach H' v M → WF k a M → M.length = n → Q v H'
theorem scMachine : FnScope ["_law_state", "_law_comes", "_law_answers", "_law_many", "_law_found", "_law_room", "_law_row", "_law_came"] ["_law_state", "_law_comes", "_law_answers", "_law_many"] (defScope sMachine) := ⟨rfl, rfl, rfl, by decide +kernel, rfl, by decide +kernel, by decide +kernel⟩
theorem ok_machine {f : Addr} {fd : FuncData} (F : Fun K "_law_machine" "_law_machine" sMachine f fd) (T : Txt mg) (A1 : Has P w K mg base "_law_draw" ["_law_state", "_law_many"] 2 spDraw) : FnOk P w K mg base CX0 3 f fd ["_law_state", "_law_comes", "_law_answers", "_law_many"] spMachine := by
  obtain ⟨f1, fd1, G1, g1, k1, b1⟩ := A1.ex
  refine F.ok scMachine (fun vs H Q E h => ?_) (fun cdv A outer s H vs Q E hr h => ?_)
  · obtain ⟨_, _, _, _, _, _, rfl, _⟩ := h
    rfl
  · obtain ⟨c, d, N, k, a, n, rfl, st, hN, k1', k2', a1', a2', n1', n2', q⟩ := h
    refine ⟨_, pss_cons (ps_set (i := 4) scMachine.nd rfl (Or.inl rfl) (pe_lst pa_nil))
      (pss_cons (ps_for PassesOwn.never rfl (pi_range1 (by rfl) T.range_ (pa_cons (pv 3) pa_nil)) (pg_name (i := 5) scMachine.nd rfl (Or.inl rfl))
        (pss_cons (ps_set (i := 6) scMachine.nd rfl (Or.inl rfl) (pe_lst pa_nil))
        (pss_cons (ps_for PassesOwn.never rfl (pi_range1 (by rfl) T.range_ (pa_cons (pv 1) pa_nil)) (pg_name (i := 7) scMachine.nd rfl (Or.inl rfl))
          (pss_one (ps_expr (pe_bm PySem.F.plainAttrs_list PySem.F.slot_list_append PySem.F.type_list_append mt_append (pv 6) (pa_cons (pe_tup (pa_cons (pe_call G1 hr (by rfl) g1 k1 b1 .nil pass0 (pa_cons (pv 0) (pa_cons (pv 2) pa_nil))) (pa_cons (pe_call G1 hr (by rfl) g1 k1 b1 .nil pass0 (pa_cons (pv 0) (pa_cons (pv 3) pa_nil))) pa_nil))) pa_nil)))))
        (pss_one (ps_expr (pe_bm PySem.F.plainAttrs_list PySem.F.slot_list_append PySem.F.type_list_append mt_append (pv 4) (pa_cons (pe_callTy call_tuple_of (by rfl) T.tuple_ boot_tuple3 (pa_cons (pv 6) pa_nil)) pa_nil)))))))
      (pss_one (ps_ret (pe_callTy call_tuple_of (by rfl) T.tuple_ boot_tuple3 (pa_cons (pv 4) pa_nil))))), ?_⟩
    refine ⟨Nat.zero_le _, fun l nl => ?_⟩
    have s1 := same_new (o := .lst []) nl
    have nld := ne_st st nl
    refine ⟨_, rfl, _, rfl, by omega, by omega, ?_⟩
    refine for_range (lo := 0) (n := ((n : Nat) : Int).toNat) (fun i σ H2 => ∃ x5 x6 x7 vs Ms, σ = [some (.ref d), some (nv k), some (nv a), some (nv n), some (.ref l), x5, x6, x7] ∧ SameX d H H2 ∧ IsSt c (N + 16 * i) H2 d ∧ H2 l = some (.lst vs) ∧ IsSeq (IsPairs H2) vs Ms ∧ Ms.length = i ∧ ∀ R ∈ Ms, R.length = k ∧ ∀ p ∈ R, p.1 < a ∧ p.2 < n)
      ⟨none, none, none, [], [], rfl, s1.x, st.same s1, upd_same, IsSeq.nil, rfl, by simp⟩ ?_ ?_
    · rintro i σ H2 hi ⟨x5, x6, x7, vs, Ms, rfl, x2, st2, hl2, hvs, hMl, hall⟩
      have hi : i < n := by omega
      refine ⟨Nat.zero_le _, fun r nr => ?_⟩
      have s3 := same_new (o := .lst []) nr
      have nrd := ne_st st2 nr
      have nrl : r ≠ l := fun z => by rw [z, hl2] at nr; cases nr
      refine ⟨_, rfl, _, rfl, by omega, by omega, ?_⟩
      refine for_range (lo := 0) (n := ((k : Nat) : Int).toNat) (fun j σ H3 => ∃ x7 us R, σ = [some (.ref d), some (nv k), some (nv a), some (nv n), some (.ref l), some (.int (0 + (i : Int))), some (.ref r), x7] ∧ SameX d H2 H3 ∧ IsSt c (N + 16 * i + 2 * j) H3 d ∧ H3 r = some (.lst us) ∧ IsSeq (IsPair H3) us R ∧ R.length = j ∧ ∀ p ∈ R, p.1 < a ∧ p.2 < n)
        ⟨x7, [], [], rfl, s3.x, st2.same s3, upd_same, IsSeq.nil, rfl, by simp⟩ ?_ ?_
      · rintro j σ H3 hj ⟨x7, us, R, rfl, x3, st3, hr3, hus, hRl, hRall⟩
        have hj : j < k := by omega
        refine ⟨_, rfl, .inl ⟨rfl, _, SqL.of hr3⟩, _, rfl, _, rfl, c, d, _, a, rfl, st3, by omega, a1', by omega, fun j1 H4 hj1 x4 st4 => ?_⟩
        refine ⟨_, rfl, _, rfl, c, d, _, n, rfl, st4, by omega, n1', by omega, fun j2 H5 hj2 x5' st5 => ?_⟩
        refine ⟨by show 2 ≤ sizeLine; decide, fun t nt => ?_⟩
        have s6 := same_new (o := .tup [nv j1, nv j2]) nt
        have x36 : SameX d H3 _ := (x4.trans x5').trans s6.x
        have hr6 := x36 _ _ hr3 nrd
        refine ⟨r, _, _, rfl, rfl, hr6, szl (by rw [hus.len]; omega), ?_⟩
        have t7 := tups_lst (o := .lst (us ++ [.ref t])) hr6
        have st6 := (st5.same s6)
        refine ⟨_, us ++ [.ref t], R ++ [(j1, j2)], rfl, (x3.trans x36).own nr, ?_, upd_same, ?_, by simp [hRl], ?_⟩
        · obtain ⟨l', m', a', e1, e2, e3⟩ := st6
          exact ⟨l', m', a', by rw [upd_ne nrd.symm]; exact e1, e2, by omega⟩
        · exact (hus.mono fun _ _ z => (z.mono (st3.tups x36)).mono t7).snoc ⟨t, rfl, t7 _ _ upd_same⟩
        · intro p hp
          rcases List.mem_append.mp hp with h | h
          · exact hRall p h
          · rw [List.mem_singleton.mp h]; exact ⟨hj1, hj2⟩
      · rintro σ H3 ⟨x7, us, R, rfl, x3, st3, hr3, hus, hRl, hRall⟩
        have hl3 := x3 _ _ hl2 nld
        refine ⟨_, rfl, .inl ⟨rfl, _, SqL.of hl3⟩, _, rfl, r, _, rfl, .inl ⟨SqL.of hr3, fun t nt => ?_⟩⟩
        have s4 := same_new (o := .tup us) nt
        have hl4 := s4 _ _ hl3
        refine ⟨l, _, _, rfl, rfl, hl4, szl (by rw [hvs.len]; omega), ?_⟩
        have t5 := tups_lst (o := .lst (vs ++ [.ref t])) hl4
        have st4 := st3.same s4
        refine ⟨_, _, _, vs ++ [.ref t], Ms ++ [R], rfl, ((x2.trans x3).trans s4.x).own nl, ?_, upd_same, ?_, by simp [hMl], ?_⟩
        · obtain ⟨l', m', a', e1, e2, e3⟩ := st4
          exact ⟨l', m', a', by rw [upd_ne nld.symm]; exact e1, e2, by omega⟩
        · exact (hvs.mono fun _ _ z => ((z.mono (st2.tups x3)).mono s4.tups).mono t5).snoc ⟨us, ⟨t, rfl, t5 _ _ upd_same⟩, hus.mono fun _ _ z => (z.mono s4.tups).mono t5⟩
        · intro R' hR'
          rcases List.mem_append.mp hR' with h | h
          · exact hall R' h
          · rw [List.mem_singleton.mp h]; exact ⟨by omega, hRall⟩
    · rintro σ H2 ⟨x5, x6, x7, vs, Ms, rfl, x2, st2, hl2, hvs, hMl, hall⟩
      refine ⟨_, rfl, l, _, rfl, .inl ⟨SqL.of hl2, fun t nt => ?_⟩⟩
      have s3 := same_new (o := .tup vs) nt
      exact q _ Ms _ (x2.trans s3.x) ((st2.same s3).le (by omega)) ⟨vs, ⟨t, rfl, upd_same⟩, hvs.mono fun _ _ z => z.mono s3.tups⟩ (wf_of (n := n) (by omega) (by omega) (by omega) hall) (by omega)
/-! ### plan -/
def spPlan : Sp := fun vs H Q _ => ∃ (c d : Addr) (N k a n : Nat), vs = [.ref d, nv k, nv a, nv n] ∧ IsSt c N H d ∧ N ≤ 500000 ∧ 1 ≤ k ∧ k ≤ 8 ∧ 1 ≤ a ∧ a ≤ 8 ∧ 1 ≤ n ∧ n ≤ 20 ∧
  ∀ (v : V) (Pl : Plan) (H' : Hp), SameX d H H' → IsSt c (N + 1000) H' d → IsPlan H' v Pl → WP k a Pl → Pl.length = n → Q v H'
abbrev nPlan : List Str := ["_law_state", "_law_comes", "_law_answers", "_law_many", "_law_found", "_law_room", "_law_came", "_law_answered"]
theorem scPlan : FnScope nPlan ["_law_state", "_law_comes", "_law_answers", "_law_many"] (defScope sPlan) := ⟨rfl, rfl, rfl, by decide +kernel, rfl, by decide +kernel, by decide +kernel⟩
theorem ok_plan {f : Addr} {fd : FuncData} (F : Fun K "_law_plan" "_law_plan" sPlan f fd) (T : Txt mg) (A1 : Has P w K mg base "_law_draw" ["_law_state", "_law_many"] 2 spDraw) : FnOk P w K mg base CX0 3 f fd ["_law_state", "_law_comes", "_law_answers", "_law_many"] spPlan := by
  obtain ⟨f1, fd1, G1, g1, k1, b1⟩ := A1.ex
  refine F.ok scPlan (fun vs H Q E h => ?_) (fun cdv A outer s H vs Q E hr h => ?_)
  · obtain ⟨_, _, _, _, _, _, rfl, _⟩ := h
    rfl
  · obtain ⟨c, d, N, k, a, n, rfl, st, hN, k1', k2', a1', a2', n1', n2', q⟩ := h
    refine ⟨_, pss_cons (ps_set (i := 4) scPlan.nd rfl (Or.inl rfl) (pe_lst pa_nil))
      (pss_cons (ps_for PassesOwn.never rfl (pi_range1 (by rfl) T.range_ (pa_cons (pv 3) pa_nil)) (pg_name (i := 5) scPlan.nd rfl (Or.inl rfl))
        (pss_cons (ps_set (i := 6) scPlan.nd rfl (Or.inl rfl) (pe_call G1 hr (by rfl) g1 k1 b1 .nil pass0 (pa_cons (pv 0) (pa_cons (pv 1) pa_nil))))
        (pss_one (ps_expr (pe_bm PySem.F.plainAttrs_list PySem.F.slot_list_append PySem.F.type_list_append mt_append (pv 4) (pa_cons (pe_tup (pa_cons (pv 6) (pa_cons (pe_callTy call_tuple_of (by rfl) T.tuple_ boot_tuple3 (pa_cons
          (pe_lc (own := [("_law_answered", 7)]) (g := gName 7) (tt := tYes) rfl scPlan.nd (pi_range1 (by rfl) T.range_ (pa_cons (pv 2) pa_nil)) (blkOk_by (N := nPlan) (sc := defScope sPlan) (by decide +kernel)) (fun _ _ _ _ _ => pg_name (i := 7) scPlan.nd rfl (Or.inl rfl)) (fun _ _ _ _ _ => pts_nil)
            (fun _ _ _ _ _ => pe_call G1 hr (by rfl) g1 k1 b1 .nil pass0 (pa_cons (pv 0) (pa_cons (pv 3) pa_nil)))) pa_nil)) pa_nil))) pa_nil))))))
      (pss_one (ps_ret (pe_callTy call_tuple_of (by rfl) T.tuple_ boot_tuple3 (pa_cons (pv 4) pa_nil))))), ?_⟩
    refine ⟨Nat.zero_le _, fun l nl => ?_⟩
    have s1 := same_new (o := .lst []) nl
    have nld := ne_st st nl
    refine ⟨_, rfl, _, rfl, by omega, by omega, ?_⟩
    refine for_range (lo := 0) (n := ((n : Nat) : Int).toNat) (fun i σ H2 => ∃ x5 x6 x7 vs Ms, σ = [some (.ref d), some (nv k), some (nv a), some (nv n), some (.ref l), x5, x6, x7] ∧ SameX d H H2 ∧ IsSt c (N + 9 * i) H2 d ∧ H2 l = some (.lst vs) ∧ IsSeq (IsPRoom H2) vs Ms ∧ Ms.length = i ∧ ∀ R ∈ Ms, R.1 < k ∧ R.2.length = a ∧ ∀ p ∈ R.2, p < n)
      ⟨none, none, none, [], [], rfl, s1.x, st.same s1, upd_same, IsSeq.nil, rfl, by simp⟩ ?_ ?_
    · rintro i σ H2 hi ⟨x5, x6, x7, vs, Ms, rfl, x2, st2, hl2, hvs, hMl, hall⟩
      have hi : i < n := by omega
      refine ⟨_, rfl, _, rfl, c, d, _, k, rfl, st2, by omega, k1', by omega, fun j1 H3 hj1 x3 st3 => ?_⟩
      have hl3 := x3 _ _ hl2 nld
      refine ⟨_, rfl, .inl ⟨rfl, _, SqL.of hl3⟩, _, rfl, _, rfl, _, rfl, by omega, by omega, fun D hD => ?_⟩
      have nDd := ne_st st3 hD
      have s4 := same_new (o := .lst []) hD
      refine lc_range (lo := 0) (n := ((a : Nat) : Int).toNat) (fun j H4 => ∃ us : List Nat, SameX d H3 H4 ∧ IsSt c (N + 9 * i + 1 + j) H4 d ∧ H4 D = some (.lst (us.map nv)) ∧ us.length = j ∧ ∀ p ∈ us, p < n)
        ⟨[], s4.x, st3.same s4, upd_same, rfl, by simp⟩ ?_ ?_
      · rintro j H4 hj ⟨us, x4, st4, hD4, hul, hall4⟩
        have hj : j < a := by omega
        refine ⟨rfl, yes ⟨_, rfl, _, rfl, c, d, _, n, rfl, st4, by omega, n1', by omega, fun j2 H5 hj2 x5' st5 => ?_⟩⟩
        have hD5 := x5' _ _ hD4 nDd
        refine ⟨_, hD5, szl (by rw [List.length_map]; omega), us ++ [j2], (x4.trans x5').own hD, ?_, by rw [List.map_append]; exact upd_same, by simp [hul], ?_⟩
        · obtain ⟨l', m', a', e1, e2, e3⟩ := st5
          exact ⟨l', m', a', by rw [upd_ne nDd.symm]; exact e1, e2, by omega⟩
        · intro p hp
          rcases List.mem_append.mp hp with h | h
          · exact hall4 p h
          · rw [List.mem_singleton.mp h]; exact hj2
      · rintro H4 ⟨us, x4, st4, hD4, hul, hall4⟩
        refine ⟨D, _, rfl, .inl ⟨SqL.of hD4, fun t nt => ?_⟩⟩
        have s5 := same_new (o := .tup (us.map nv)) nt
        refine ⟨by show 2 ≤ sizeLine; decide, fun o no => ?_⟩
        have s6 := same_new (o := .tup [nv j1, .ref t]) no
        have x36 : SameX d H3 _ := (x4.trans s5.x).trans s6.x
        have hl6 := x36 _ _ hl3 nld
        refine ⟨l, _, _, rfl, rfl, hl6, szl (by rw [hvs.len]; omega), ?_⟩
        have t7 := tups_lst (o := .lst (vs ++ [.ref o])) hl6
        have st6 := (st4.same s5).same s6
        refine ⟨_, _, _, vs ++ [.ref o], Ms ++ [(j1, us)], rfl, ((x2.trans x3).trans x36).own nl, ?_, upd_same, ?_, by simp [hMl], ?_⟩
        · obtain ⟨l', m', a', e1, e2, e3⟩ := st6
          exact ⟨l', m', a', by rw [upd_ne nld.symm]; exact e1, e2, by omega⟩
        · exact (hvs.mono fun _ _ z => ((z.mono (st2.tups x3)).mono (st3.tups x36)).mono t7).snoc ⟨.ref t, ⟨o, rfl, t7 _ _ upd_same⟩, t, rfl, t7 _ _ (s6 _ _ upd_same)⟩
        · intro R' hR'
          rcases List.mem_append.mp hR' with h | h
          · exact hall R' h
          · rw [List.mem_singleton.mp h]; exact ⟨hj1, (show us.length = a by omega), hall4⟩
    · rintro σ H2 ⟨x5, x6, x7, vs, Ms, rfl, x2, st2, hl2, hvs, hMl, hall⟩
      refine ⟨_, rfl, l, _, rfl, .inl ⟨SqL.of hl2, fun t nt => ?_⟩⟩
      have s3 := same_new (o := .tup vs) nt
      refine q _ Ms _ (x2.trans s3.x) ((st2.same s3).le (by omega)) ⟨vs, ⟨t, rfl, upd_same⟩, hvs.mono fun _ _ z => z.mono s3.tups⟩ ⟨by omega, fun q' c' l' e => ?_⟩ (by omega)
      obtain ⟨h1, h2, h3⟩ := hall _ (List.mem_of_getElem? e)
      exact ⟨h1, h2, fun x hx => by have := h3 x hx; omega⟩
/-! ### letters -/
def spLetters : Sp := fun vs H Q _ => ∃ (c d : Addr) (N k m : Nat), vs = [.ref d, nv k, nv m] ∧ IsSt c N H d ∧ N ≤ 500000 ∧ 1 ≤ k ∧ k ≤ 8 ∧ m ≤ 100 ∧
  ∀ (v : V) (u : List Nat) (H' : Hp), SameX d H H' → IsSt c (N + 1000) H' d → IsInts H' v u → (∀ x ∈ u, x < k) → u.length ≤ m → Q v H'
abbrev nLetters : List Str := ["_law_state", "_law_many", "_law_most", "_law_k"]
theorem scLetters : FnScope nLetters ["_law_state", "_law_many", "_law_most"] (defScope sLetters) := ⟨rfl, rfl, rfl, by decide +kernel, rfl, by decide +kernel, by decide +kernel⟩
theorem ok_letters {f : Addr} {fd : FuncData} (F : Fun K "_law_letters" "_law_letters" sLetters f fd) (T : Txt mg) (A1 : Has P w K mg base "_law_draw" ["_law_state", "_law_many"] 2 spDraw) : FnOk P w K mg base CX0 3 f fd ["_law_state", "_law_many", "_law_most"] spLetters := by
  obtain ⟨f1, fd1, G1, g1, k1, b1⟩ := A1.ex
  refine F.ok scLetters (fun vs H Q E h => ?_) (fun cdv A outer s H vs Q E hr h => ?_)
  · obtain ⟨_, _, _, _, _, rfl, _⟩ := h
    rfl
  · obtain ⟨c, d, N, k, m, rfl, st, hN, k1', k2', hm, q⟩ := h
    refine ⟨_, pss_one (ps_ret (pe_callTy call_tuple_of (by rfl) T.tuple_ boot_tuple3 (pa_cons
          (pe_lc (own := [("_law_k", 3)]) (g := gName 3) (tt := tYes) rfl scLetters.nd (pi_range1 (by rfl) T.range_ (pa_cons (pe_call G1 hr (by rfl) g1 k1 b1 .nil pass0 (pa_cons (pv 0) (pa_cons (pe_op op_add (pv 2) pe_int) pa_nil))) pa_nil)) (blkOk_by (N := nLetters) (sc := defScope sLetters) (by decide +kernel)) (fun _ _ _ _ _ => pg_name (i := 3) scLetters.nd rfl (Or.inl rfl)) (fun _ _ _ _ _ => pts_nil)
            (fun _ _ _ _ _ => pe_call G1 hr (by rfl) g1 k1 b1 .nil pass0 (pa_cons (pv 0) (pa_cons (pv 1) pa_nil)))) pa_nil))), ?_⟩
    refine ⟨_, rfl, _, rfl, _, _, rfl, rfl, c, d, N, m + 1, rfl, st, by omega, by omega, by omega, fun n H3 hn x3 st3 => ?_⟩
    refine ⟨_, rfl, by omega, by omega, fun D hD => ?_⟩
    have nDd := ne_st st3 hD
    have s4 := same_new (o := .lst []) hD
    refine lc_range (lo := 0) (n := ((n : Nat) : Int).toNat) (fun j H4 => ∃ us : List Nat, SameX d H3 H4 ∧ IsSt c (N + 1 + j) H4 d ∧ H4 D = some (.lst (us.map nv)) ∧ us.length = j ∧ ∀ p ∈ us, p < k)
        ⟨[], s4.x, st3.same s4, upd_same, rfl, by simp⟩ ?_ ?_
    · rintro j H4 hj ⟨us, x4, st4, hD4, hul, hall4⟩
      have hj : j < n := by omega
      refine ⟨rfl, yes ⟨_, rfl, _, rfl, c, d, _, k, rfl, st4, by omega, k1', by omega, fun j2 H5 hj2 x5' st5 => ?_⟩⟩
      have hD5 := x5' _ _ hD4 nDd
      refine ⟨_, hD5, szl (by rw [List.length_map]; omega), us ++ [j2], (x4.trans x5').own hD, ?_, by rw [List.map_append]; exact upd_same, by simp [hul], ?_⟩
      · obtain ⟨l', m', a', e1, e2, e3⟩ := st5
        exact ⟨l', m', a', by rw [upd_ne nDd.symm]; exact e1, e2, by omega⟩
      · intro p hp
        rcases List.mem_append.mp hp with h | h
        · exact hall4 p h
        · rw [List.mem_singleton.mp h]; exact hj2
    · rintro H4 ⟨us, x4, st4, hD4, hul, hall4⟩
      refine ⟨D, _, rfl, .inl ⟨SqL.of hD4, fun t nt => ?_⟩⟩
      have s5 := same_new (o := .tup (us.map nv)) nt
      exact q _ us _ ((x3.trans x4).trans s5.x) ((st4.same s5).le (by omega)) ⟨t, rfl, upd_same⟩ hall4 (by omega)
end
end Wk
set_option Elab.async false
set_option linter.all false
set_option maxRecDepth 100000
set_option maxHeartbeats 4000000
namespace Wk
open PySem PySem.Spec PyProof.Rows L2
abbrev sBlown : Stmt := top 40
/-! ### the blown machine -/
structure BRow (fs : List Nat) (M : Mach) (r : Nat) (R : List (Nat × Nat)) (n : Nat) : Prop where
  len : R.length = n
  at_ : ∀ c p, R[c]? = some p → p.1 = ans M r c ∧ fs[p.2]? = some (nxt M r c)
theorem cell_at {O : Mach} {q c : Nat} {R : List (Nat × Nat)} {p : Nat × Nat} (h : O[q]? = some R) (g : R[c]? = some p) : cell O q c = p := by
  unfold cell
  rw [List.getD_eq_getElem?_getD, List.getD_eq_getElem?_getD, h, Option.getD_some, g, Option.getD_some]
theorem blown_of {k a : Nat} {M O : Mach} {fs : List Nat} (W : WF k a M) (h0 : fs[0]? = some 0) (hl : ∀ x ∈ fs, x < M.length) (hO : O.length = fs.length) (hr : ∀ i r : Nat, fs[i]? = some r → ∃ R : List (Nat × Nat), O[i]? = some R ∧ BRow fs M r R k) : WF k a O ∧ Sim k M 0 O 0 := by
  have hpos : 0 < fs.length := (List.getElem?_eq_some_iff.mp h0).1
  have row : ∀ (i : Nat) (R : List (Nat × Nat)), O[i]? = some R → ∃ r, fs[i]? = some r ∧ BRow fs M r R k := fun i R e => by
    have hi : i < fs.length := by rw [← hO]; exact (List.getElem?_eq_some_iff.mp e).1
    obtain ⟨R', e', b⟩ := hr i _ (List.getElem?_eq_getElem hi)
    rw [e] at e'
    cases (Option.some.inj e')
    exact ⟨_, List.getElem?_eq_getElem hi, b⟩
  refine ⟨⟨by omega, W.kpos, fun i R e => ?_, fun i R c p e g => ?_⟩, fun w hw => ?_⟩
  · obtain ⟨r, _, b⟩ := row i R e
    exact b.len
  · obtain ⟨r, hr', b⟩ := row i R e
    have hc : c < k := by rw [← b.len]; exact (List.getElem?_eq_some_iff.mp g).1
    obtain ⟨h1, h2⟩ := b.at_ c p g
    have := W.lt (hl r (List.mem_of_getElem? hr')) hc
    exact ⟨by rw [h1]; exact this.1, by rw [hO]; exact (List.getElem?_eq_some_iff.mp h2).1⟩
  · refine sim_of (fun p q => fs[q]? = some p) (fun p q c e hc => ?_) w 0 0 h0 hw
    obtain ⟨R, hR, b⟩ := hr q p e
    obtain ⟨pp, g⟩ : ∃ pp, R[c]? = some pp := ⟨_, List.getElem?_eq_getElem (by rw [b.len]; exact hc)⟩
    obtain ⟨h1, h2⟩ := b.at_ c _ g
    have ec := cell_at hR g
    exact ⟨by show ans M p c = (cell O q c).1; rw [ec, h1], by show fs[(cell O q c).2]? = _; rw [ec]; exact h2⟩
theorem erase_nv {ps : List Nat} {j : Nat} : (ps.map nv).eraseIdx j = (ps.eraseIdx j).map nv := by
  rw [List.eraseIdx_eq_take_drop_succ, List.eraseIdx_eq_take_drop_succ, List.map_append, List.map_take, List.map_drop]
theorem erase_mem {ps : List Nat} {j x : Nat} (hj : j < ps.length) (h : x ∈ ps) : x ∈ ps.eraseIdx j ∨ x = ps[j] := by
  obtain ⟨i, hi, e⟩ := List.mem_iff_getElem.mp h
  by_cases z : i = j
  · subst z
    exact .inr e.symm
  · exact .inl (List.mem_eraseIdx_iff_getElem.mpr ⟨i, hi, z, e⟩)
theorem seq_ix {j n : Nat} (h : j < n) : seqIndex? (j : Int) n = some j := by
  have e : (if (j : Int) < 0 then (j : Int) + (n : Int) else (j : Int)) = (j : Int) := if_neg (by omega)
  unfold seqIndex?
  simp only [e]
  rw [if_pos (by simp; omega)]
  rfl
/-- rooms put and taken -/
structure Pool (n : Nat) (ps fs : List Nat) : Prop where
  lt : ∀ x, x ∈ ps ∨ x ∈ fs → x < n
  all : ∀ r, r < n → r ∈ ps ∨ r ∈ fs
  first : fs[0]? = some 0
theorem Pool.next {n : Nat} {ps fs : List Nat} (P : Pool n ps fs) {j : Nat} (hj : j < ps.length) : Pool n (ps.eraseIdx j) (fs ++ [ps[j]]) where
  lt := fun x hx => by
    rcases hx with h | h
    · exact P.lt x (.inl (List.mem_of_mem_eraseIdx h))
    · rcases List.mem_append.mp h with h | h
      · exact P.lt x (.inr h)
      · rw [List.mem_singleton.mp h]; exact P.lt _ (.inl (List.getElem_mem hj))
  all := fun r hr => by
    rcases P.all r hr with h | h
    · rcases erase_mem hj h with h | h
      · exact .inl h
      · rw [h]; exact .inr (by simp)
    · exact .inr (by simp [h])
  first := by
    rw [List.getElem?_append_left (List.getElem?_eq_some_iff.mp P.first).1]
    exact P.first
section
variable {P : Program} {w : World} {K : PySem.W.Frag} {mg : Str → Option Value} {base : Heap}
def rLenK (K : PySem.W.Frag) : List V → Hp → VK → Prop := fun xs H Q => ∃ p ys, xs = [.ref p] ∧ (SqL K H p ys ∨ SqT K H p ys) ∧ Q (.int ys.length) H
theorem call_lenK {X : Cx} {K : PySem.W.Frag} (h : X.K = K) : CallR X (.builtin "len") (rLenK K) := by subst h; exact call_len_seq
theorem IsSt.updn {c d l : Addr} {N : Nat} {H : Hp} {o : HO} (st : IsSt c N H d) (h : l ≠ d) : IsSt c N (upd H l o) d := by
  obtain ⟨l', m', a', e1, e2, e3⟩ := st
  exact ⟨l', m', a', by rw [upd_ne h.symm]; exact e1, e2, e3⟩
def spBlown : Sp := fun vs H Q _ => ∃ (c d : Addr) (N : Nat) (v : V) (M : Mach) (k a : Nat), vs = [.ref d, v] ∧ IsSt c N H d ∧ N ≤ 500000 ∧ IsMach H v M ∧ WF k a M ∧ M.length ≤ 6 ∧ k ≤ 8 ∧
  ∀ (v' : V) (O : Mach) (H' : Hp), SameX d H H' → IsSt c (N + 1000) H' d → IsMach H' v' O → WF k a O → Sim k M 0 O 0 → O.length ≤ 20 → Q v' H'
abbrev nBlown : List Str := ["_law_state", "_law_machine_here", "_law_places", "_law_room", "_law_found", "_law_rooms", "_law_row", "_law_answered", "_law_later", "_law_some", "_law_k", "_law_at", "_law_one"]
theorem scBlown : FnScope nBlown ["_law_state", "_law_machine_here"] (defScope sBlown) := ⟨rfl, rfl, rfl, by decide +kernel, rfl, by decide +kernel, by decide +kernel⟩
theorem ok_blown {f : Addr} {fd : FuncData} (F : Fun K "_law_blown" "_law_blown" sBlown f fd) (T : Txt mg) (A1 : Has P w K mg base "_law_draw" ["_law_state", "_law_many"] 2 spDraw) : FnOk P w K mg base CX0 3 f fd ["_law_state", "_law_machine_here"] spBlown := by
  obtain ⟨f1, fd1, G1, g1, k1, b1⟩ := A1.ex
  refine F.ok scBlown (fun vs H Q E h => ?_) (fun cdv A outer s H vs Q E hr h => ?_)
  · obtain ⟨_, _, _, _, _, _, _, rfl, _⟩ := h
    rfl
  · obtain ⟨c, d, N, v, M, k, a, rfl, st, hN, hM, W, hM6, hk8, q⟩ := h
    have hMpos := W.pos
    refine ⟨_, pss_cons (ps_set (i := 2) scBlown.nd rfl (Or.inl rfl) (pe_lst pa_nil))
      (pss_cons (ps_for PassesOwn.never rfl (pi_range1 (by rfl) T.range_ (pa_cons (pe_callB call_len_seq (by rfl) T.len_ PySem.boot_len (pa_cons (pv 1) pa_nil)) pa_nil)) (pg_name (i := 3) scBlown.nd rfl (Or.inl rfl))
        (pss_one (ps_set (i := 2) scBlown.nd rfl (Or.inl rfl) (pe_op op_cat (pv 2) (pe_op op_rep (pe_lst (pa_cons (pv 3) pa_nil)) (pe_op op_add pe_int (pe_call G1 hr (by rfl) g1 k1 b1 .nil pass0 (pa_cons (pv 0) (pa_cons pe_int pa_nil)))))))))
      (pss_cons (ps_set (i := 4) scBlown.nd rfl (Or.inl rfl) (pe_lst (pa_cons (pe_bm PySem.F.plainAttrs_list PySem.F.slot_list_pop PySem.F.type_list_pop mt_popAt (pv 2) (pa_cons pe_int pa_nil)) pa_nil)))
      (pss_cons (ps_while PassesOwn.never (pt_cmpR (op_neD hr.units) (pv 2) (pe_lst pa_nil) (nomark _))
        (pss_one (ps_expr (pe_bm PySem.F.plainAttrs_list PySem.F.slot_list_append PySem.F.type_list_append mt_append (pv 4) (pa_cons (pe_bm PySem.F.plainAttrs_list PySem.F.slot_list_pop PySem.F.type_list_pop mt_popAt (pv 2) (pa_cons (pe_call G1 hr (by rfl) g1 k1 b1 .nil pass0 (pa_cons (pv 0) (pa_cons (pe_callB call_len_seq (by rfl) T.len_ PySem.boot_len (pa_cons (pv 2) pa_nil)) pa_nil))) pa_nil)) pa_nil)))))
      (pss_cons (ps_set (i := 4) scBlown.nd rfl (Or.inl rfl) (pe_op op_cat (pv 4) (pe_lc (own := [("_law_k", 10)]) (g := gName 10) (tt := tYes) rfl scBlown.nd (pi_range1 (by rfl) T.range_ (pa_cons (pe_call G1 hr (by rfl) g1 k1 b1 .nil pass0 (pa_cons (pv 0) (pa_cons pe_int pa_nil))) pa_nil)) (blkOk_by (N := nBlown) (sc := defScope sBlown) (by decide +kernel)) (fun _ _ _ _ _ => pg_name (i := 10) scBlown.nd rfl (Or.inl rfl)) (fun _ _ _ _ _ => pts_nil)
            (fun _ _ _ _ _ => pe_call G1 hr (by rfl) g1 k1 b1 .nil pass0 (pa_cons (pv 0) (pa_cons (pe_callB (call_lenK (K := K) rfl) (by rfl) T.len_ PySem.boot_len (pa_cons (pv 1) pa_nil)) pa_nil))))))
      (pss_cons (ps_set (i := 5) scBlown.nd rfl (Or.inl rfl) (pe_lst pa_nil))
      (pss_cons (ps_for PassesOwn.never rfl (pi_list (pv 4)) (pg_name (i := 3) scBlown.nd rfl (Or.inl rfl))
        (pss_cons (ps_set (i := 6) scBlown.nd rfl (Or.inl rfl) (pe_lst pa_nil))
        (pss_cons (ps_for PassesOwn.never rfl (pi_tup (pe_ix ix_tup (pv 1) (pv 3) (fun _ _ => rfl))) (pg_tup (by rfl) (pgs_cons (pg_name (i := 7) scBlown.nd rfl (Or.inl rfl)) (pgs_cons (pg_name (i := 8) scBlown.nd rfl (Or.inr rfl)) pgs_nil)))
          (pss_cons (ps_setLc (i := 9) (own := [("_law_at", 11), ("_law_one", 12)]) (g := g2 K 11 12) (tt := tTest (tOp rEq (tVar 12) (tVar 8))) rfl scBlown.nd rfl rfl (sw_true rfl rfl rfl rfl) (pi_enum (by rfl) T.enum_ (pa_cons (pv 4) pa_nil)) (blkOk_by (N := nBlown) (sc := defScope sBlown) (by decide +kernel))
              (fun _ _ _ _ _ => pg_tup (by rfl) (pgs_cons (pg_name (i := 11) scBlown.nd rfl (Or.inl rfl)) (pgs_cons (pg_name (i := 12) scBlown.nd rfl (Or.inl rfl)) pgs_nil)))
              (fun _ _ _ _ _ => pts_one (pt_cmpR op_eq (pv 12) (pv 8) (nomark _))) (fun _ _ _ _ _ => pv 11))
          (pss_one (ps_expr (pe_bm PySem.F.plainAttrs_list PySem.F.slot_list_append PySem.F.type_list_append mt_append (pv 6) (pa_cons (pe_tup (pa_cons (pv 7) (pa_cons (pe_ix ix_list (pv 9) (pe_call G1 hr (by rfl) g1 k1 b1 .nil pass0 (pa_cons (pv 0) (pa_cons (pe_callB call_len_seq (by rfl) T.len_ PySem.boot_len (pa_cons (pv 9) pa_nil)) pa_nil))) (fun _ _ => rfl)) pa_nil))) pa_nil))))))
        (pss_one (ps_expr (pe_bm PySem.F.plainAttrs_list PySem.F.slot_list_append PySem.F.type_list_append mt_append (pv 5) (pa_cons (pe_callTy call_tuple_of (by rfl) T.tuple_ boot_tuple3 (pa_cons (pv 6) pa_nil)) pa_nil)))))))
      (pss_one (ps_ret (pe_callTy call_tuple_of (by rfl) T.tuple_ boot_tuple3 (pa_cons (pv 5) pa_nil)))))))))), ?_⟩
    obtain ⟨ms, ⟨p, rfl, hp⟩, hms⟩ := id hM
    have hml := hms.len
    refine ⟨Nat.zero_le _, fun l0 nl0 => ?_⟩
    have s1 := same_new (o := .lst []) nl0
    refine ⟨_, rfl, p, ms, rfl, .inr (SqT.of (s1 _ _ hp)), _, rfl, by omega, by omega, ?_⟩
    refine for_range (lo := 0) (n := ((ms.length : Nat) : Int).toNat) (fun i σ H2 => ∃ x3 l ps, σ = [some (.ref d), some (.ref p), some (.ref l), x3, none, none, none, none, none, none, none, none, none] ∧ SameX d H H2 ∧ IsSt c (N + i) H2 d ∧ H2 l = some (.lst (ps.map nv)) ∧ H l = none ∧ ps.length ≤ 3 * i ∧ (∀ x ∈ ps, x < M.length) ∧ (∀ r, r < i → r ∈ ps) ∧ (0 < i → ps[0]? = some 0))
      ⟨none, l0, [], rfl, s1.x, st.same s1, upd_same, nl0, Nat.le_refl _, by simp, fun r h => by omega, fun h => by omega⟩ ?_ ?_
    · rintro i σ H2 hi ⟨x3, l, ps, rfl, x2, st2, hl2, nl, hpl, hplt, hpall, hp0⟩
      have hi : i < M.length := by omega
      refine ⟨_, rfl, _, rfl, by show 1 ≤ sizeLine; decide, fun e ne => ?_⟩
      have s3 := same_new (o := .lst [.int (0 + (i : Int))]) ne
      have st3 := st2.same s3
      have ned := ne_st st2 ne
      have nld := ne_st st nl
      refine ⟨_, rfl, c, d, N + i, 3, rfl, st3, by omega, by omega, by omega, fun j H4 hj x4 st4 => ?_⟩
      have he4 := x4 _ _ (upd_same (H := H2) (a := e) (o := .lst [.int (0 + (i : Int))])) ned
      have hl4 := x4 _ _ (s3 _ _ hl2) nld
      refine ⟨_, _, rfl, rfl, e, _, _, rfl, rfl, he4, by omega, by omega, sz (by simp only [List.length_singleton]; omega), fun p2 np2 => ?_⟩
      have s5 := same_new (o := .lst (List.replicate (1 + (j : Int)).toNat [V.int (0 + (i : Int))]).flatten) np2
      refine ⟨l, p2, _, _, rfl, rfl, s5 _ _ hl4, upd_same, sz ?_, fun p3 np3 => ?_⟩
      · simp only [List.flatten_replicate_singleton, List.length_replicate, List.length_map]; omega
      have s6 := same_new (o := .lst (ps.map nv ++ (List.replicate (1 + (j : Int)).toNat [V.int (0 + (i : Int))]).flatten)) np3
      have xA : SameX d H _ := (((x2.trans s3.x).trans x4).trans s5.x).trans s6.x
      refine ⟨_, p3, ps ++ List.replicate (1 + j) i, rfl, xA, ((st4.same s5).same s6).le (by omega), ?_, ?_, ?_, fun x hx => ?_, fun r hr' => ?_, fun _ => ?_⟩
      · rw [upd_same, List.flatten_replicate_singleton, show (1 + (j : Int)).toNat = 1 + j by omega, List.map_append, List.map_replicate, Int.zero_add]
      · cases z : H p3 with
        | none => rfl
        | some o =>
          have hnd : p3 ≠ d := ne_st (st4.same s5) np3
          have := (((x2.trans s3.x).trans x4).trans s5.x) _ _ z hnd
          rw [np3] at this
          cases this
      · rw [List.length_append, List.length_replicate]; omega
      · rcases List.mem_append.mp hx with h | h
        · exact hplt x h
        · rw [List.mem_replicate] at h; omega
      · by_cases z : r < i
        · exact List.mem_append_left _ (hpall r z)
        · exact List.mem_append_right _ (List.mem_replicate.mpr ⟨by omega, by omega⟩)
      · by_cases z : 0 < i
        · have := hp0 z
          rw [List.getElem?_append_left (List.getElem?_eq_some_iff.mp this).1]
          exact this
        · have hz : i = 0 := by omega
          subst hz
          have : ps = [] := List.length_eq_zero_iff.mp (by omega)
          rw [this, List.nil_append, List.getElem?_replicate, if_pos (by omega)]
    rintro σ H2 ⟨x3, l, ps, rfl, x2, st2, hl2, nl, hpl, hplt, hpall, hp0⟩
    have hn : ((ms.length : Nat) : Int).toNat = M.length := by omega
    rw [hn] at st2 hpl hpall hp0
    have nld := ne_st st nl
    have hp0 := hp0 hMpos
    have hpl0 : 0 < ps.length := (List.getElem?_eq_some_iff.mp hp0).1
    have hp00 : ps[0] = 0 := by
      rw [List.getElem?_eq_getElem hpl0] at hp0
      exact Option.some.inj hp0
    refine ⟨_, rfl, .inl ⟨rfl, _, SqL.of hl2⟩, l, _, 0, 0, nv 0, rfl, rfl, hl2, by decide, by decide, seq_ix (j := 0) (by rw [List.length_map]; exact hpl0), by rw [List.getElem?_map, hp0]; rfl, by show 1 ≤ sizeLine; decide, fun f' nf => ?_⟩
    have xl : SameX d H (upd H2 l (.lst ((ps.map nv).eraseIdx 0))) := x2.own nl
    have s4 := same_new (o := .lst [nv 0]) nf
    have stl : IsSt c (N + M.length) (upd H2 l (.lst ((ps.map nv).eraseIdx 0))) d := st2.updn nld
    have nfd := ne_st stl nf
    have nfl : f' ≠ l := fun z => by rw [z, upd_same] at nf; cases nf
    have nf0 : H f' = none := by
      cases z : H f' with
      | none => rfl
      | some o =>
        have := xl _ _ z nfd
        rw [nf] at this
        cases this
    have pool0 : Pool M.length (ps.eraseIdx 0) [0] := by
      refine ⟨fun x hx => ?_, fun r hr' => ?_, rfl⟩
      · rcases hx with h | h
        · exact hplt x (List.mem_of_mem_eraseIdx h)
        · rw [List.mem_singleton.mp h]; exact hMpos
      · rcases erase_mem hpl0 (hpall r hr') with h | h
        · exact .inl h
        · rw [h, hp00]; exact .inr (by simp)
    refine ⟨fun m σ H5 => ∃ ps fs, σ = [some (.ref d), some (.ref p), some (.ref l), x3, some (.ref f'), none, none, none, none, none, none, none, none] ∧ SameX d H H5 ∧ IsSt c (N + 6 + fs.length) H5 d ∧ H5 l = some (.lst (ps.map nv)) ∧ H5 f' = some (.lst (fs.map nv)) ∧ Pool M.length ps fs ∧ ps.length + fs.length ≤ 18 ∧ m = ps.length,
      ⟨_, ps.eraseIdx 0, [0], rfl, xl.trans s4.x, (stl.same s4).le (by omega), ?_, upd_same, pool0, ?_, rfl⟩, ?_⟩
    · rw [upd_ne nfl.symm, upd_same, erase_nv]
    · rw [List.length_eraseIdx_of_lt hpl0, List.length_singleton]; omega
    rintro m σ H5 ⟨ps, fs, rfl, x5, st5, hl5, hf5, pool, hlen, rfl⟩
    refine ⟨_, rfl, Nat.zero_le _, fun e ne => ?_⟩
    have s6 := same_new (o := .lst []) ne
    refine eqs_nat.lseq.rne (x := ps) (y := []) ⟨l, _, rfl, s6 _ _ hl5, seq_map (f := nv) (fun _ => rfl) ps⟩ ⟨e, _, rfl, upd_same, IsSeq.nil⟩ ⟨_, rfl, ?_⟩
    refine ite2 (fun ee => ?_) (fun ee => ?_)
    · have hpne : ps ≠ [] := fun z => by rw [z] at ee; simp at ee
      have hpl : 0 < ps.length := List.length_pos_iff.mpr hpne
      refine ⟨fun σ' H' => ∃ m', m' < ps.length ∧ ∃ ps fs, σ' = [some (.ref d), some (.ref p), some (.ref l), x3, some (.ref f'), none, none, none, none, none, none, none, none] ∧ SameX d H H' ∧ IsSt c (N + 6 + fs.length) H' d ∧ H' l = some (.lst (ps.map nv)) ∧ H' f' = some (.lst (fs.map nv)) ∧ Pool M.length ps fs ∧ ps.length + fs.length ≤ 18 ∧ m' = ps.length, fun _ _ z => z, ?_⟩
      have hl6 := s6 _ _ hl5
      have hf6 := s6 _ _ hf5
      refine ⟨_, rfl, .inl ⟨rfl, _, SqL.of hf6⟩, _, rfl, .inl ⟨rfl, _, SqL.of hl6⟩, _, rfl, _, rfl, l, _, rfl, .inl (SqL.of hl6), c, d, _, _, rfl, st5.same s6, by omega, by rw [List.length_map]; omega, by rw [List.length_map]; omega, fun j H7 hj x7 st7 => ?_⟩
      rw [List.length_map] at hj
      have hl7 := x7 _ _ hl6 nld
      have hf7 := x7 _ _ hf6 nfd
      refine ⟨l, _, _, j, nv ps[j], rfl, rfl, hl7, by omega, by omega, seq_ix (by rw [List.length_map]; exact hj), by rw [List.getElem?_map, List.getElem?_eq_getElem hj]; rfl, ?_⟩
      refine ⟨f', _, _, rfl, rfl, by rw [upd_ne nfl]; exact hf7, szl (by rw [List.length_map]; omega), ?_⟩
      refine ⟨(ps.eraseIdx j).length, ?_, ps.eraseIdx j, fs ++ [ps[j]], rfl, ((((x5.trans s6.x).trans x7).own nl).own nf0), ((st7.updn nld).updn nfd).le ?_, ?_, by rw [upd_same, List.map_append]; rfl, pool.next hj, ?_, rfl⟩
      · rw [List.length_eraseIdx_of_lt hj]; omega
      · rw [List.length_append, List.length_singleton]; omega
      · rw [upd_ne nfl.symm, upd_same, erase_nv]
      · rw [List.length_append, List.length_singleton, List.length_eraseIdx_of_lt hj]; omega
    have hps : ps = [] := by simpa using ee
    subst hps
    have hl6 := s6 _ _ hl5
    have hf6 := s6 _ _ hf5
    have x6 := x5.trans s6.x
    have st6 := st5.same s6
    refine ⟨_, rfl, _, rfl, c, d, _, 3, rfl, st6, by omega, by omega, by omega, fun n3 H7 hn3 x7 st7 => ?_⟩
    refine ⟨_, rfl, by omega, by omega, fun D hD => ?_⟩
    have nDd := ne_st st7 hD
    have s8 := same_new (o := .lst []) hD
    have hf7 := x7 _ _ hf6 nfd
    have hp7 := (st6.tups x7) _ _ ((st.tups x6) _ _ hp)
    refine lc_range (lo := 0) (n := ((n3 : Nat) : Int).toNat) (fun j H8 => ∃ us : List Nat, SameX d H7 H8 ∧ IsSt c (N + 6 + fs.length + 1 + j) H8 d ∧ H8 D = some (.lst (us.map nv)) ∧ us.length = j ∧ ∀ x ∈ us, x < M.length)
        ⟨[], s8.x, st7.same s8, upd_same, rfl, by simp⟩ ?_ ?_
    · rintro j H8 hj ⟨us, x8, st8, hD8, hul, hall8⟩
      have hj : j < n3 := by omega
      refine ⟨rfl, yes ⟨_, rfl, _, rfl, p, ms, rfl, .inr (SqT.of ((st7.tups x8) _ _ hp7)), c, d, _, _, rfl, st8, by omega, by omega, by omega, fun j2 H9 hj2 x9 st9 => ?_⟩⟩
      have hD9 := x9 _ _ hD8 nDd
      refine ⟨_, hD9, szl (by rw [List.length_map]; omega), us ++ [j2], (x8.trans x9).own hD, (st9.updn nDd).le (by omega), by rw [List.map_append]; exact upd_same, by simp [hul], ?_⟩
      intro x hx
      rcases List.mem_append.mp hx with h | h
      · exact hall8 x h
      · rw [List.mem_singleton.mp h]; omega
    rintro H8 ⟨us, x8, st8, hD8, hul, hall8⟩
    have hf8 := x8 _ _ hf7 nfd
    refine ⟨f', D, _, _, rfl, rfl, hf8, hD8, sz (by rw [List.length_map, List.length_map]; simp at hlen; omega), fun f2 nf2 => ?_⟩
    have s9 := same_new (o := .lst (fs.map nv ++ us.map nv)) nf2
    have nf2d := ne_st st8 nf2
    obtain ⟨fs2, efs⟩ : ∃ fs2, fs2 = fs ++ us := ⟨_, rfl⟩
    have hf9 : (upd H8 f2 (.lst (fs.map nv ++ us.map nv))) f2 = some (.lst (fs2.map nv)) := by rw [upd_same, efs, List.map_append]
    have hfl : fs2.length ≤ 20 := by
      rw [efs, List.length_append]
      simp at hlen
      omega
    have hf0 : fs2[0]? = some 0 := by
      rw [efs, List.getElem?_append_left (List.getElem?_eq_some_iff.mp pool.first).1]
      exact pool.first
    have hflt : ∀ x ∈ fs2, x < M.length := fun x hx => by
      rw [efs] at hx
      rcases List.mem_append.mp hx with h | h
      · exact pool.lt x (.inr h)
      · exact hall8 x h
    have hfall : ∀ r, r < M.length → r ∈ fs2 := fun r hr' => by
      rw [efs]
      rcases pool.all r hr' with h | h
      · exact absurd h (by simp)
      · exact List.mem_append_left _ h
    have x9 : SameX d H _ := ((x6.trans x7).trans x8).trans s9.x
    have st9 : IsSt c (N + 40) _ d := (st8.same s9).le (by simp at hlen; omega)
    generalize (upd H8 f2 (.lst (fs.map nv ++ us.map nv))) = H9 at s9 hf9 x9 st9 ⊢
    refine ⟨Nat.zero_le _, fun g ng => ?_⟩
    have s10 := same_new (o := .lst []) ng
    have ngd := ne_st st9 ng
    have tM9 := st.tups x9
    refine ⟨_, rfl, f2, rfl, ⟨_, SqL.of (s10 _ _ hf9)⟩, for_list (K := K) (a := f2) (xs := fs2.map nv) (fun i σ H8 => ∃ x3 x6 x7 x8 x9 vs O, σ = [some (.ref d), some (.ref p), some (.ref l), x3, some (.ref f2), some (.ref g), x6, x7, x8, x9, none, none, none] ∧ SameX d H9 H8 ∧ IsSt c (N + 40 + 8 * i) H8 d ∧ H8 g = some (.lst vs) ∧ IsSeq (IsPairs H8) vs O ∧ O.length = i ∧ ∀ j r, j < i → fs2[j]? = some r → ∃ R, O[j]? = some R ∧ BRow fs2 M r R k)
      ⟨x3, none, none, none, none, [], [], rfl, s10.x, st9.same s10, upd_same, IsSeq.nil, rfl, fun j r h => by omega⟩ (fun i σ H8 _ ⟨_, _, _, _, _, _, _, _, x8, _⟩ => SqL.of (x8 _ _ hf9 nf2d)) ?_ ?_⟩
    · rintro i y σ H8 hy ⟨x3, x6, x7, x8', x9', vs, O, rfl, x8, st8, hg8, hvs, hOl, hOall⟩
      rw [List.getElem?_map] at hy
      obtain ⟨r, hrf, rfl⟩ := Option.map_eq_some_iff.mp hy
      have hil : i < fs2.length := (List.getElem?_eq_some_iff.mp hrf).1
      have hrl := hflt r (List.mem_of_getElem? hrf)
      refine ⟨Nat.zero_le _, fun rl nrl => ?_⟩
      have s11 := same_new (o := .lst []) nrl
      have nrd := ne_st st8 nrl
      have nrg : rl ≠ g := fun z => by rw [z, hg8] at nrl; cases nrl
      have t8 := st9.tups x8
      have st11 := st8.same s11
      obtain ⟨p', vs', p2, us2, R0, ep, hp', hvl, hxr, hp2, hul2, hR, hRl, hus2, hcell⟩ := mach_room ((hM.mono tM9).mono (t8.trans s11.tups)) W hrl
      cases ep
      refine ⟨_, rfl, _, rfl, p, vs', _, _, rfl, rfl, SqT.of hp', atI_nat hxr, p2, rfl, ⟨_, SqT.of hp2⟩, ?_⟩
      refine for_tup (K := K) (a := p2) (xs := us2) (fun cc σ H10 => ∃ x7 x8 x9 us R, σ = [some (.ref d), some (.ref p), some (.ref l), some (nv r), some (.ref f2), some (.ref g), some (.ref rl), x7, x8, x9, none, none, none] ∧ SameX d H8 H10 ∧ TupS (upd H8 rl (.lst [])) H10 ∧ IsSt c (N + 40 + 8 * i + cc) H10 d ∧ H10 rl = some (.lst us) ∧ IsSeq (IsPair H10) us R ∧ BRow fs2 M r R cc)
        ⟨x7, x8', x9', [], [], rfl, s11.x, TupS.rfl' _, st11, upd_same, IsSeq.nil, ⟨rfl, fun c p h => by simp at h⟩⟩ (fun cc σ H10 _ ⟨_, _, _, _, _, _, _, t, _⟩ => SqT.of (t _ _ hp2)) ?_ ?_
      · rintro cc y σ H10 hy2 ⟨x7, x8'', x9'', us, R, rfl, x10, t10, st10, hr10, hus, bR⟩
        have hck : cc < k := by rw [← hul2]; exact (List.getElem?_eq_some_iff.mp hy2).1
        obtain ⟨o, rfl, ho⟩ := hus2.at_ cc y _ hy2 (hcell cc hck)
        have hnl := (W.lt hrl hck).2
        have hf10 := x10 _ _ (x8 _ _ hf9 nf2d) nf2d
        refine ⟨o, _, rfl, SqT.of (t10 _ _ ho), rfl, _, _, rfl, _, _, rfl, rfl, ?_⟩
        refine ⟨_, rfl, f2, _, rfl, SqL.of hf10, fun D hD => ?_⟩
        have s12 := same_new (o := .lst []) hD
        refine lc_it (walk_enum (K := K) (a := f2) (xs := fs2.map nv)) (fun n H11 => Same H10 H11 ∧ H11 D = some (.lst (((List.range n).filter fun s => decide (fs2[s]? = some (nxt M r cc))).map nv))) ⟨s12, upd_same⟩ (fun n H11 _ h => SqL.of (h.1 _ _ hf10)) ?_ ?_
        · rintro n y H11 H11' hn ⟨s13, hD13⟩ ⟨T', x, y', rfl, nT, rfl, e1, e2⟩
          rw [List.length_map] at hn
          cases (Option.some.inj e1)
          have e2 : (fs2.map nv)[n]? = some y' := e2
          rw [List.getElem?_map, List.getElem?_eq_getElem hn] at e2
          cases (Option.some.inj e2)
          have s14 := same_new (o := .tup [.int (n : Nat), nv fs2[n]]) nT
          refine ⟨T', _, rfl, SqT.of upd_same, rfl, _, _, rfl, _, _, rfl, rfl, rfl, ?_⟩
          have hD14 := s14 _ _ hD13
          have hge : fs2[n]? = some fs2[n] := List.getElem?_eq_getElem hn
          refine ⟨_, rfl, _, rfl, rfl, _, rfl, ?_⟩
          refine ite2 (fun ez => ?_) (fun ez => ?_)
          · have ez : fs2[n] = nxt M r cc := by
              have ez : decide (nv fs2[n] = nv (nxt M r cc)) = true := ez
              rw [dec_nv] at ez
              exact of_decide_eq_true ez
            refine ⟨_, rfl, _, hD14, szl ?_, (s13.trans s14).own hD, ?_⟩
            · rw [List.length_map]
              have := List.length_filter_le (fun s => decide (fs2[s]? = some (nxt M r cc))) (List.range n)
              rw [List.length_range] at this
              omega
            · rw [upd_same, List.range_succ, List.filter_append, List.map_append]
              have : List.filter (fun s => decide (fs2[s]? = some (nxt M r cc))) [n] = [n] := by
                rw [List.filter_cons, if_pos (by rw [hge, ez]; simp)]; rfl
              rw [this]
              rfl
          · have ez : ¬ fs2[n] = nxt M r cc := fun z => ez (by
              show decide (nv fs2[n] = nv (nxt M r cc)) = true
              rw [dec_nv, decide_eq_true z])
            refine ⟨s13.trans s14, ?_⟩
            rw [List.range_succ, List.filter_append]
            have : List.filter (fun s => decide (fs2[s]? = some (nxt M r cc))) [n] = [] := by
              rw [List.filter_cons, if_neg (by rw [hge]; simp; exact ez)]; rfl
            rw [this, List.append_nil]
            exact hD14
        · rintro H11 ⟨s13, hD13⟩
          rw [List.length_map] at hD13
          obtain ⟨S, eS⟩ : ∃ S, S = (List.range fs2.length).filter fun s => decide (fs2[s]? = some (nxt M r cc)) := ⟨_, rfl⟩
          rw [← eS] at hD13
          have hSm : ∀ s ∈ S, fs2[s]? = some (nxt M r cc) := fun s hs => by
            rw [eS] at hs
            exact of_decide_eq_true (List.mem_filter.mp hs).2
          have hSl : S.length ≤ fs2.length := by
            have := List.length_filter_le (fun s => decide (fs2[s]? = some (nxt M r cc))) (List.range fs2.length)
            rw [List.length_range, ← eS] at this
            exact this
          have hS0 : 0 < S.length := by
            obtain ⟨s, hs⟩ := List.mem_iff_getElem?.mp (hfall _ hnl)
            have : s ∈ S := by
              rw [eS]
              exact List.mem_filter.mpr ⟨List.mem_range.mpr (List.getElem?_eq_some_iff.mp hs).1, decide_eq_true hs⟩
            exact List.length_pos_of_mem this
          have hr13 := s13 _ _ hr10
          refine ⟨_, rfl, .inl ⟨rfl, _, SqL.of hr13⟩, _, rfl, _, rfl, _, rfl, _, rfl, D, _, rfl, .inl (SqL.of hD13), c, d, _, _, rfl, st10.same s13, by omega, by rw [List.length_map]; omega, by rw [List.length_map]; omega, fun j H14 hj x14 st14 => ?_⟩
          rw [List.length_map] at hj
          have nDd2 := ne_st st10 hD
          have hD14 := x14 _ _ hD13 nDd2
          refine ⟨D, _, _, nv S[j], rfl, rfl, SqL.of hD14, atI_nat (by rw [List.getElem?_map, List.getElem?_eq_getElem hj]; rfl), by show 2 ≤ sizeLine; decide, fun t nt => ?_⟩
          have s15 := same_new (o := .tup [nv (ans M r cc), nv S[j]]) nt
          have hr15 := s15 _ _ (x14 _ _ hr13 nrd)
          refine ⟨rl, _, _, rfl, rfl, hr15, szl (by rw [hus.len, bR.len]; omega), ?_⟩
          have t16 := tups_lst (o := .lst (us ++ [.ref t])) hr15
          have tA : TupS H10 _ := ((s13.tups.trans ((st10.same s13).tups x14)).trans s15.tups).trans t16
          refine ⟨_, _, _, us ++ [.ref t], R ++ [(ans M r cc, S[j])], rfl, (((x10.trans s13.x).trans x14).trans s15.x).own nrl, t10.trans tA, ((st14.same s15).updn nrd).le (by omega), upd_same, (hus.mono fun _ _ z => z.mono tA).snoc ⟨t, rfl, t16 _ _ upd_same⟩, ⟨by rw [List.length_append, bR.len]; rfl, fun c' p' hc' => ?_⟩⟩
          by_cases z : c' < R.length
          · rw [List.getElem?_append_left z] at hc'
            exact bR.at_ c' p' hc'
          · have hz := (List.getElem?_eq_some_iff.mp hc').1
            rw [List.length_append, List.length_singleton] at hz
            have : c' = R.length := by omega
            subst this
            rw [List.getElem?_append_right (Nat.le_refl _), Nat.sub_self] at hc'
            cases (Option.some.inj hc')
            rw [bR.len]
            exact ⟨rfl, hSm _ (List.getElem_mem hj)⟩
      · rintro σ H10 ⟨x7, x8'', x9'', us, R, rfl, x10, t10, st10, hr10, hus, bR⟩
        rw [hul2] at bR st10
        have hg10 := x10 _ _ hg8 ngd
        refine ⟨_, rfl, .inl ⟨rfl, _, SqL.of hg10⟩, _, rfl, rl, _, rfl, .inl ⟨SqL.of hr10, fun t nt => ?_⟩⟩
        have s12 := same_new (o := .tup us) nt
        have hg12 := s12 _ _ hg10
        refine ⟨g, _, _, rfl, rfl, hg12, szl (by rw [hvs.len]; omega), ?_⟩
        have t13 := tups_lst (o := .lst (vs ++ [.ref t])) hg12
        refine ⟨_, _, _, _, _, vs ++ [.ref t], O ++ [R], rfl, ((x8.trans x10).trans s12.x).own ng, ((st10.same s12).updn ngd).le (by omega), upd_same, (hvs.mono fun _ _ z => ((z.mono (st8.tups x10)).mono s12.tups).mono t13).snoc ⟨us, ⟨t, rfl, t13 _ _ upd_same⟩, hus.mono fun _ _ z => (z.mono s12.tups).mono t13⟩, by simp [hOl], fun j r' hj hj' => ?_⟩
        by_cases z : j < i
        · obtain ⟨R', e', b'⟩ := hOall j r' z hj'
          exact ⟨R', by rw [List.getElem?_append_left (by omega)]; exact e', b'⟩
        · have : j = i := by omega
          subst this
          rw [hrf] at hj'
          cases (Option.some.inj hj')
          exact ⟨R, by rw [List.getElem?_append_right (by omega), hOl, Nat.sub_self]; rfl, bR⟩
    · rintro σ H8 ⟨x3, x6, x7, x8', x9', vs, O, rfl, x8, st8, hg8, hvs, hOl, hOall⟩
      rw [List.length_map] at hOl hOall st8
      refine ⟨_, rfl, g, _, rfl, .inl ⟨SqL.of hg8, fun t nt => ?_⟩⟩
      have s9' := same_new (o := .tup vs) nt
      obtain ⟨w1, w2⟩ := blown_of (O := O) W hf0 hflt hOl fun i r e => hOall i r (List.getElem?_eq_some_iff.mp e).1 e
      exact q _ O _ ((x9.trans x8).trans s9'.x) ((st8.same s9').le (by omega)) ⟨vs, ⟨t, rfl, upd_same⟩, hvs.mono fun _ _ z => z.mono s9'.tups⟩ w1 w2 (by omega)
end
end Wk
set_option Elab.async false
set_option linter.all false
set_option maxRecDepth 100000
set_option maxHeartbeats 4000000
namespace Wk
open PySem PySem.Spec PyProof.Rows L2
abbrev sBeside : Stmt := top 41
theorem beside_wf {k a : Nat} {M : Mach} {R : List (Nat × Nat)} {i c b t : Nat} (W : WF k a M) (hi : M[i]? = some R) (hc : c < k) (hb : b < a) (ht : t < M.length) :
    WF k a (M.take i ++ [R.take c ++ [(b, t)] ++ R.drop (c + 1)] ++ M.drop (i + 1)) ∧ (M.take i ++ [R.take c ++ [(b, t)] ++ R.drop (c + 1)] ++ M.drop (i + 1)).length = M.length := by
  have hil := (List.getElem?_eq_some_iff.mp hi).1
  have hl : (M.take i ++ [R.take c ++ [(b, t)] ++ R.drop (c + 1)] ++ M.drop (i + 1)).length = M.length := by
    simp only [List.length_append, List.length_take, List.length_drop, List.length_singleton]
    omega
  refine ⟨wf_of hl W.pos W.kpos fun R' hR' => ?_, hl⟩
  have old : ∀ R' ∈ M, R'.length = k ∧ ∀ p ∈ R', p.1 < a ∧ p.2 < M.length := fun R' h => by
    obtain ⟨r, hr⟩ := List.mem_iff_getElem?.mp h
    refine ⟨W.row r R' hr, fun p hp => ?_⟩
    obtain ⟨c', hc'⟩ := List.mem_iff_getElem?.mp hp
    exact W.cells r R' c' p hr hc'
  have hRl := W.row i R hi
  have hRm := old R (List.mem_of_getElem? hi)
  rcases List.mem_append.mp hR' with h | h
  · rcases List.mem_append.mp h with h | h
    · exact old R' (List.mem_of_mem_take h)
    · rw [List.mem_singleton.mp h]
      refine ⟨?_, fun p hp => ?_⟩
      · simp only [List.length_append, List.length_take, List.length_drop, List.length_singleton]
        omega
      · rcases List.mem_append.mp hp with h | h
        · rcases List.mem_append.mp h with h | h
          · exact hRm.2 p (List.mem_of_mem_take h)
          · rw [List.mem_singleton.mp h]; exact ⟨hb, ht⟩
        · exact hRm.2 p (List.mem_of_mem_drop h)
  · exact old R' (List.mem_of_mem_drop h)
section
variable {P : Program} {w : World} {K : PySem.W.Frag} {mg : Str → Option Value} {base : Heap}
def spBeside : Sp := fun vs H Q _ => ∃ (c d : Addr) (N : Nat) (v : V) (M : Mach) (k a : Nat), vs = [.ref d, v, nv a] ∧ IsSt c N H d ∧ N ≤ 400000 ∧ IsMach H v M ∧ WF k a M ∧ M.length ≤ 20 ∧ k ≤ 8 ∧ 1 ≤ a ∧ a ≤ 8 ∧
  ∀ (v' : V) (O : Mach) (H' : Hp), SameX d H H' → IsSt c (N + 2000) H' d → IsMach H' v' O → WF k a O → O.length ≤ 20 → Q v' H'
theorem scBeside : FnScope ["_law_state", "_law_machine_here", "_law_answers", "_law_at", "_law_came", "_law_pair", "_law_pick", "_law_room"] ["_law_state", "_law_machine_here", "_law_answers"] (defScope sBeside) := ⟨rfl, rfl, rfl, by decide +kernel, rfl, by decide +kernel, by decide +kernel⟩
theorem ok_beside {f : Addr} {fd : FuncData} (F : Fun K "_law_beside" "_law_beside" sBeside f fd) (T : Txt mg) (A1 : Has P w K mg base "_law_draw" ["_law_state", "_law_many"] 2 spDraw) (A2 : Has P w K mg base "_law_machine" ["_law_state", "_law_comes", "_law_answers", "_law_many"] 3 spMachine) : FnOk P w K mg base CX0 4 f fd ["_law_state", "_law_machine_here", "_law_answers"] spBeside := by
  obtain ⟨f1, fd1, G1, g1, k1, b1⟩ := A1.ex
  obtain ⟨f2, fd2, G2, g2', k2, b2⟩ := A2.ex
  refine F.ok scBeside (fun vs H Q E h => ?_) (fun cdv A outer s H vs Q E hr h => ?_)
  · obtain ⟨_, _, _, _, _, _, _, rfl, _⟩ := h
    rfl
  · obtain ⟨c, d, N, v, M, k, a, rfl, st, hN, hM, W, hM20, hk8, ha1, ha8, q⟩ := h
    have hMpos := W.pos
    have hkpos := W.kpos
    have hr2 : L2.Room 2 _ := hr.mono (by decide)
    refine ⟨_, pss_cons (ps_par (i := 3) (j := 4) rfl scBeside.nd rfl rfl (by decide) rfl rfl (pa_cons (pe_call G1 hr2 (by rfl) g1 k1 b1 .nil pass0 (pa_cons (pv 0) (pa_cons (pe_callB call_len_seq (by rfl) T.len_ PySem.boot_len (pa_cons (pv 1) pa_nil)) pa_nil)))
          (pa_cons (pe_call G1 hr2 (by rfl) g1 k1 b1 .nil pass0 (pa_cons (pv 0) (pa_cons (pe_callB call_len_seq (by rfl) T.len_ PySem.boot_len (pa_cons (pe_ix ix_tup (pv 1) pe_int (fun _ _ => rfl)) pa_nil)) pa_nil))) pa_nil)) rfl)
      (pss_cons (ps_set (i := 5) scBeside.nd rfl (Or.inl rfl) (pe_tup (pa_cons (pe_call G1 hr2 (by rfl) g1 k1 b1 .nil pass0 (pa_cons (pv 0) (pa_cons (pv 2) pa_nil))) (pa_cons (pe_ix ix_tup (pe_ix ix_tup (pe_ix ix_tup (pv 1) (pv 3) (fun _ _ => rfl)) (pv 4) (fun _ _ => rfl)) pe_int (fun _ _ => rfl)) pa_nil))))
      (pss_cons (ps_set (i := 6) scBeside.nd rfl (Or.inl rfl) (pe_call G1 hr2 (by rfl) g1 k1 b1 .nil pass0 (pa_cons (pv 0) (pa_cons pe_int pa_nil))))
      (pss_cons (ps_if (pt_cmpR op_eq (pv 6) pe_int (nomark _)) (pss_one (ps_set (i := 5) scBeside.nd rfl (Or.inl rfl) (pe_tup (pa_cons (pe_ix ix_tup (pe_ix ix_tup (pe_ix ix_tup (pv 1) (pv 3) (fun _ _ => rfl)) (pv 4) (fun _ _ => rfl)) pe_int (fun _ _ => rfl)) (pa_cons (pe_call G1 hr2 (by rfl) g1 k1 b1 .nil pass0 (pa_cons (pv 0) (pa_cons (pe_callB call_len_seq (by rfl) T.len_ PySem.boot_len (pa_cons (pv 1) pa_nil)) pa_nil))) pa_nil))))) pss_nil)
      (pss_cons (ps_if (pt_cmpR op_eq (pv 6) pe_int (nomark _)) (pss_one (ps_ret (pe_call G2 hr (by rfl) g2' k2 b2 .nil pass0 (pa_cons (pv 0) (pa_cons (pe_callB call_len_seq (by rfl) T.len_ PySem.boot_len (pa_cons (pe_ix ix_tup (pv 1) pe_int (fun _ _ => rfl)) pa_nil)) (pa_cons (pv 2) (pa_cons (pe_op op_add pe_int (pe_call G1 hr2 (by rfl) g1 k1 b1 .nil pass0 (pa_cons (pv 0) (pa_cons pe_int pa_nil)))) pa_nil))))))) pss_nil)
      (pss_cons (ps_set (i := 7) scBeside.nd rfl (Or.inl rfl) (pe_op op_catA (pe_op op_catA (pe_slice sl_tupA (pe_ix ix_tup (pv 1) (pv 3) (fun _ _ => rfl)) po_none (po_some (pv 4))) (pe_tup (pa_cons (pv 5) pa_nil))) (pe_slice sl_tupA (pe_ix ix_tup (pv 1) (pv 3) (fun _ _ => rfl)) (po_some (pe_op op_add (pv 4) pe_int)) po_none)))
      (pss_one (ps_ret (pe_op op_catA (pe_op op_catA (pe_slice sl_tupA (pv 1) po_none (po_some (pv 3))) (pe_tup (pa_cons (pv 7) pa_nil))) (pe_slice sl_tupA (pv 1) (po_some (pe_op op_add (pv 3) pe_int)) po_none))))))))), ?_⟩
    obtain ⟨p, ms, q0, us0, R0, rfl, hp, hml, hx0, hq0, hul0, _⟩ := mach_room hM W hMpos
    refine ⟨_, rfl, _, rfl, p, ms, rfl, .inr (SqT.of hp), c, d, N, ms.length, rfl, st, by omega, by omega, by omega, fun i H1 hi x1 st1 => ?_⟩
    have t1 := st.tups x1
    refine ⟨_, rfl, _, rfl, p, ms, 0, _, rfl, rfl, SqT.of (t1 _ _ hp), atI_nat (j := 0) hx0, q0, us0, rfl, .inr (SqT.of (t1 _ _ hq0)), c, d, _, us0.length, rfl, st1, by omega, by omega, by omega, fun ch H2 hc x2 st2 => ?_⟩
    have t2 := t1.trans (st1.tups x2)
    have hiM : i < M.length := by omega
    have hck : ch < k := by omega
    refine ⟨_, _, rfl, ?_⟩
    refine ⟨_, rfl, _, rfl, c, d, _, a, rfl, st2, by omega, ha1, by omega, fun b H3 hb x3 st3 => ?_⟩
    have t3 := t2.trans (st2.tups x3)
    obtain ⟨p', ms', q1, us1, d1, ep, hp3, hx3, hq3, hu3, hd3⟩ := mach_cell (hM.mono t3) W hiM hck
    cases ep
    refine ⟨_, rfl, _, rfl, p, ms', _, _, rfl, rfl, SqT.of hp3, atI_nat hx3, _, rfl, q1, us1, _, _, rfl, rfl, SqT.of hq3, atI_nat hu3, d1, _, 1, _, rfl, rfl, SqT.of hd3, rfl, by show 2 ≤ sizeLine; decide, fun o no => ?_⟩
    have s4 := same_new (o := .tup [nv b, nv (nxt M i ch)]) no
    have st4 := st3.same s4
    refine ⟨_, rfl, c, d, _, 3, rfl, st4, by omega, by omega, by omega, fun pk H5 hpk x5 st5 => ?_⟩
    have t5 := (t3.trans s4.tups).trans (st4.tups x5)
    have hpr : IsPair H5 (.ref o) (b, nxt M i ch) := ⟨o, rfl, (st4.tups x5) _ _ upd_same⟩
    have xA : SameX d H H5 := (((x1.trans x2).trans x3).trans s4.x).trans x5
    have st5 : IsSt c (N + 10) H5 d := st5.le (by omega)
    have hnx := (W.lt hiM hck).2
    have hans := (W.lt hiM hck).1
    obtain ⟨t, et⟩ : ∃ t, t = nxt M i ch := ⟨_, rfl⟩
    rw [← et] at hpr hnx
    clear et
    refine ⟨_, rfl, rfl, _, rfl, ?_⟩
    refine ite2 (fun e => ?_) (fun e => ?_)
    · -- another later room
      have hp5 := t5 _ _ hp
      obtain ⟨p', ms', q1, us1, d1, ep, hp3, hx3, hq3, hu3, hd3⟩ := mach_cell (hM.mono t5) W hiM hck
      cases ep
      refine ⟨_, rfl, _, rfl, p, ms', _, _, rfl, rfl, SqT.of hp3, atI_nat hx3, _, rfl, q1, us1, _, _, rfl, rfl, SqT.of hq3, atI_nat hu3, d1, _, 0, _, rfl, rfl, SqT.of hd3, rfl, ?_⟩
      refine ⟨_, rfl, _, rfl, p, ms, rfl, .inr (SqT.of hp5), c, d, _, ms.length, rfl, st5, by omega, by omega, by omega, fun t H6 ht x6 st6 => ?_⟩
      refine ⟨by show 2 ≤ sizeLine; decide, fun o no => ?_⟩
      have s7 := same_new (o := .tup [nv (ans M i ch), nv t]) no
      have hpr : IsPair (upd H6 o (.tup [nv (ans M i ch), nv t])) (.ref o) (ans M i ch, t) := ⟨o, rfl, upd_same⟩
      have st5 := (st6.same s7)
      have xA := (xA.trans x6).trans s7.x
      have hnx : t < M.length := by omega
      have hb := hans
      refine ⟨_, rfl, rfl, _, rfl, ?_⟩
      have tA := st.tups xA
      have hp9 := tA _ _ hp
      refine ite2 (fun e => ?_) (fun e => ?_)
      · refine ⟨_, rfl, _, rfl, p, ms, 0, _, rfl, rfl, SqT.of hp9, atI_nat (j := 0) hx0, q0, us0, rfl, .inr (SqT.of (tA _ _ hq0)), _, rfl, _, rfl, c, d, _, 9, rfl, st5, by omega, by omega, by omega, fun j H9 hj x9 st9 => ?_⟩
        refine ⟨_, _, rfl, rfl, c, d, _, k, a, 1 + j, (by rw [hul0]; show [V.ref d, V.int (k : Int), nv a, V.int (1 + (j : Int))] = [V.ref d, nv k, nv a, V.int ((1 + j : Nat) : Int)]; rw [Int.natCast_add]; rfl), st9, by omega, by omega, by omega, ha1, ha8, by omega, by omega, fun v' O H10 x10 st10 hO WO hOl => ?_⟩
        exact q v' O H10 ((xA.trans x9).trans x10) (st10.le (by omega)) hO WO (by omega)
      obtain ⟨p', ms', q1, us1, R1, ep, hp3, hml3, hx3, hq3, hul3, hR3, hRl3, hus3, _⟩ := mach_room (hM.mono tA) W hiM
      cases ep
      obtain ⟨ms2, ⟨_, e1, e2⟩, hms⟩ := hM.mono tA
      cases e1
      rw [hp9] at e2
      cases e2
      rw [hp9] at hp3
      cases hp3
      refine ⟨_, rfl, _, rfl, p, ms, _, _, rfl, rfl, SqT.of hp9, atI_nat hx3, _, rfl, _, rfl, sl_tp ⟨q1, rfl, hq3⟩ fun v1 H11 s11 u1 => ?_⟩
      rw [cut_to] at u1
      refine ⟨_, rfl, by show 1 ≤ sizeLine; decide, fun e1 ne1 => ?_⟩
      have s12 := same_new (o := .tup [.ref o]) ne1
      refine cat_tp (u1.mono s12.tups) ⟨e1, rfl, upd_same⟩ (by rw [List.length_take]; simp; omega) fun v2 H13 s13 u2 => ?_
      have s11_13 := (s11.trans s12).trans s13
      refine ⟨_, rfl, _, rfl, p, ms, _, _, rfl, rfl, SqT.of (s11_13 _ _ hp9), atI_nat hx3, _, rfl, _, _, rfl, rfl, _, rfl, sl_fr ⟨q1, rfl, s11_13 _ _ hq3⟩ fun v3 H14 s14 u3 => ?_⟩
      rw [show ((ch : Int) + 1) = ((ch + 1 : Nat) : Int) by omega, cut_from] at u3
      refine cat_tp (u2.mono s14.tups) u3 (by simp only [List.length_append, List.length_take, List.length_drop, List.length_singleton]; omega) fun v4 H15 s15 u4 => ?_
      have s11_15 := (s11_13.trans s14).trans s15
      have t11_15 := s11_15.tups
      have hroom : IsPairs H15 v4 (R1.take ch ++ [_] ++ R1.drop (ch + 1)) := ⟨_, u4, (((hus3.take ch).append (IsSeq.one hpr)).append (hus3.drop (ch + 1))).mono fun _ _ z => z.mono t11_15⟩
      have hp15 := s11_15 _ _ hp9
      refine ⟨_, rfl, _, rfl, _, rfl, sl_tp ⟨p, rfl, hp15⟩ fun v5 H16 s16 u5 => ?_⟩
      rw [cut_to] at u5
      refine ⟨_, rfl, by show 1 ≤ sizeLine; decide, fun e2 ne2 => ?_⟩
      have s17 := same_new (o := .tup [v4]) ne2
      refine cat_tp (u5.mono s17.tups) ⟨e2, rfl, upd_same⟩ (by rw [List.length_take]; simp; omega) fun v6 H18 s18 u6 => ?_
      have s16_18 := (s16.trans s17).trans s18
      refine ⟨_, rfl, _, rfl, _, _, rfl, rfl, _, rfl, sl_fr ⟨p, rfl, s16_18 _ _ hp15⟩ fun v7 H19 s19 u7 => ?_⟩
      rw [show ((i : Int) + 1) = ((i + 1 : Nat) : Int) by omega, cut_from] at u7
      refine cat_tp (u6.mono s19.tups) u7 (by simp only [List.length_append, List.length_take, List.length_drop, List.length_singleton]; omega) fun v8 H20 s20 u8 => ?_
      have s16_20 := (s16_18.trans s19).trans s20
      have t16_20 := s16_20.tups
      obtain ⟨w1, w2⟩ := beside_wf W hR3 hck hb hnx
      refine q v8 _ H20 ((xA.trans s11_15.x).trans s16_20.x) (((st5.same s11_15).same s16_20).le (by omega)) ⟨_, u8, ?_⟩ w1 (by omega)
      exact (((hms.take i).mono fun _ _ z => (z.mono t11_15).mono t16_20).append (IsSeq.one (hroom.mono t16_20))).append ((hms.drop (i + 1)).mono fun _ _ z => (z.mono t11_15).mono t16_20)
    · refine ⟨_, rfl, rfl, _, rfl, ?_⟩
      have tA := st.tups xA
      have hp9 := tA _ _ hp
      refine ite2 (fun e => ?_) (fun e => ?_)
      · refine ⟨_, rfl, _, rfl, p, ms, 0, _, rfl, rfl, SqT.of hp9, atI_nat (j := 0) hx0, q0, us0, rfl, .inr (SqT.of (tA _ _ hq0)), _, rfl, _, rfl, c, d, _, 9, rfl, st5, by omega, by omega, by omega, fun j H9 hj x9 st9 => ?_⟩
        refine ⟨_, _, rfl, rfl, c, d, _, k, a, 1 + j, (by rw [hul0]; show [V.ref d, V.int (k : Int), nv a, V.int (1 + (j : Int))] = [V.ref d, nv k, nv a, V.int ((1 + j : Nat) : Int)]; rw [Int.natCast_add]; rfl), st9, by omega, by omega, by omega, ha1, ha8, by omega, by omega, fun v' O H10 x10 st10 hO WO hOl => ?_⟩
        exact q v' O H10 ((xA.trans x9).trans x10) (st10.le (by omega)) hO WO (by omega)
      obtain ⟨p', ms', q1, us1, R1, ep, hp3, hml3, hx3, hq3, hul3, hR3, hRl3, hus3, _⟩ := mach_room (hM.mono tA) W hiM
      cases ep
      obtain ⟨ms2, ⟨_, e1, e2⟩, hms⟩ := hM.mono tA
      cases e1
      rw [hp9] at e2
      cases e2
      rw [hp9] at hp3
      cases hp3
      refine ⟨_, rfl, _, rfl, p, ms, _, _, rfl, rfl, SqT.of hp9, atI_nat hx3, _, rfl, _, rfl, sl_tp ⟨q1, rfl, hq3⟩ fun v1 H11 s11 u1 => ?_⟩
      rw [cut_to] at u1
      refine ⟨_, rfl, by show 1 ≤ sizeLine; decide, fun e1 ne1 => ?_⟩
      have s12 := same_new (o := .tup [.ref o]) ne1
      refine cat_tp (u1.mono s12.tups) ⟨e1, rfl, upd_same⟩ (by rw [List.length_take]; simp; omega) fun v2 H13 s13 u2 => ?_
      have s11_13 := (s11.trans s12).trans s13
      refine ⟨_, rfl, _, rfl, p, ms, _, _, rfl, rfl, SqT.of (s11_13 _ _ hp9), atI_nat hx3, _, rfl, _, _, rfl, rfl, _, rfl, sl_fr ⟨q1, rfl, s11_13 _ _ hq3⟩ fun v3 H14 s14 u3 => ?_⟩
      rw [show ((ch : Int) + 1) = ((ch + 1 : Nat) : Int) by omega, cut_from] at u3
      refine cat_tp (u2.mono s14.tups) u3 (by simp only [List.length_append, List.length_take, List.length_drop, List.length_singleton]; omega) fun v4 H15 s15 u4 => ?_
      have s11_15 := (s11_13.trans s14).trans s15
      have t11_15 := s11_15.tups
      have hroom : IsPairs H15 v4 (R1.take ch ++ [_] ++ R1.drop (ch + 1)) := ⟨_, u4, (((hus3.take ch).append (IsSeq.one hpr)).append (hus3.drop (ch + 1))).mono fun _ _ z => z.mono t11_15⟩
      have hp15 := s11_15 _ _ hp9
      refine ⟨_, rfl, _, rfl, _, rfl, sl_tp ⟨p, rfl, hp15⟩ fun v5 H16 s16 u5 => ?_⟩
      rw [cut_to] at u5
      refine ⟨_, rfl, by show 1 ≤ sizeLine; decide, fun e2 ne2 => ?_⟩
      have s17 := same_new (o := .tup [v4]) ne2
      refine cat_tp (u5.mono s17.tups) ⟨e2, rfl, upd_same⟩ (by rw [List.length_take]; simp; omega) fun v6 H18 s18 u6 => ?_
      have s16_18 := (s16.trans s17).trans s18
      refine ⟨_, rfl, _, rfl, _, _, rfl, rfl, _, rfl, sl_fr ⟨p, rfl, s16_18 _ _ hp15⟩ fun v7 H19 s19 u7 => ?_⟩
      rw [show ((i : Int) + 1) = ((i + 1 : Nat) : Int) by omega, cut_from] at u7
      refine cat_tp (u6.mono s19.tups) u7 (by simp only [List.length_append, List.length_take, List.length_drop, List.length_singleton]; omega) fun v8 H20 s20 u8 => ?_
      have s16_20 := (s16_18.trans s19).trans s20
      have t16_20 := s16_20.tups
      obtain ⟨w1, w2⟩ := beside_wf W hR3 hck hb hnx
      refine q v8 _ H20 ((xA.trans s11_15.x).trans s16_20.x) (((st5.same s11_15).same s16_20).le (by omega)) ⟨_, u8, ?_⟩ w1 (by omega)
      exact (((hms.take i).mono fun _ _ z => (z.mono t11_15).mono t16_20).append (IsSeq.one (hroom.mono t16_20))).append ((hms.drop (i + 1)).mono fun _ _ z => (z.mono t11_15).mono t16_20)
end
end Wk
set_option Elab.async false
set_option linter.all false
set_option maxRecDepth 100000
set_option maxHeartbeats 4000000
namespace Wk
open PySem PySem.Spec PyProof.Rows L2
abbrev sLike : Stmt := top 42
abbrev sParted : Stmt := top 43
theorem loop_lets {M : Mach} {f : Nat → Nat} {k : Nat} {s r : List (Nat × Nat)} (hf : ∀ n, f n < k) (h : LoopOf (turnAt M 0 f) s r) : (∀ t ∈ s, t.1 < k) ∧ ∀ t ∈ r, t.1 < k := by
  obtain ⟨m1, m2⟩ := loop_mem h
  exact ⟨fun t ht => by obtain ⟨n, rfl⟩ := m1 t ht; exact hf n, fun t ht => by obtain ⟨n, rfl⟩ := m2 t ht; exact hf n⟩
theorem Parts.symm {k : Nat} {M O : Mach} {u : List Nat} {c : Nat} (h : Parts k M O u c) : Parts k O M u c := ⟨h.ok, h.lt, h.eq.symm, h.ne.symm⟩
/-- a loop that both machines make -/
def LkBoth (k : Nat) (M O : Mach) (H : Hp) (v : V) : Prop := ∃ s r, IsLoop H v s r ∧ r ≠ [] ∧ (∀ t ∈ s, t.1 < k) ∧ (∀ t ∈ r, t.1 < k) ∧ Goes M s r ∧ Goes O s r
theorem LkBoth.mono {k : Nat} {M O : Mach} {H H' : Hp} {v : V} (h : LkBoth k M O H v) (t : TupS H H') : LkBoth k M O H' v := let ⟨s, r, a, b⟩ := h; ⟨s, r, a.mono t, b⟩
section
variable {P : Program} {w : World} {K : PySem.W.Frag} {mg : Str → Option Value} {base : Heap}
/-! ### like -/
def spLike : Sp := fun vs H Q _ => ∃ (v y pl x cy x1 x2 : V) (M O : Mach) (Pl : Plan) (k a : Nat) (u s0 r0 : List Nat), vs = [v, y, pl, x, cy] ∧ IsMach H v M ∧ IsMach H y O ∧ IsPlan H pl Pl ∧ WF k a M ∧ WF k a O ∧ WP k a Pl ∧ Sim k M 0 O 0 ∧ M.length ≤ 6 ∧ O.length ≤ 20 ∧ Pl.length ≤ 6 ∧
  IsInts H x u ∧ (∀ c ∈ u, c < k) ∧ u.length ≤ 30 ∧ Tp H cy [x1, x2] ∧ IsInts H x1 s0 ∧ IsInts H x2 r0 ∧ (∀ c ∈ s0, c < k) ∧ (∀ c ∈ r0, c < k) ∧ s0.length ≤ 5 ∧ 1 ≤ r0.length ∧ r0.length ≤ 4 ∧ ∀ H', Same H H' → Q (.bl true) H'
abbrev nLike : List Str := ["_law_one", "_law_other", "_law_plan_here", "_law_run", "_law_cycle", "_law_loops", "_law_loop"]
theorem scLike : FnScope nLike ["_law_one", "_law_other", "_law_plan_here", "_law_run", "_law_cycle"] (defScope sLike) := ⟨rfl, rfl, rfl, by decide +kernel, rfl, by decide +kernel, by decide +kernel⟩
theorem ok_like {f : Addr} {fd : FuncData} (F : Fun K "_law_like" "_law_like" sLike f fd) (T : Txt mg) (A1 : Has P w K mg base "turns_of" ["machine", "run"] 4 spTurns) (A2 : Has P w K mg base "loop_of_both" ["machine", "plan"] 4 spBoth)
    (A3 : Has P w K mg base "loop_by" ["machine", "cycle"] 5 spLoopBy) (A4 : Has P w K mg base "goes_by" ["plan", "loop"] 2 spGoesBy) (A5 : Has P w K mg base "goes" ["machine", "loop"] 3 spGoes) :
    FnOk P w K mg base CX0 6 f fd ["_law_one", "_law_other", "_law_plan_here", "_law_run", "_law_cycle"] spLike := by
  obtain ⟨f1, fd1, G1, g1, k1, b1⟩ := A1.ex
  obtain ⟨f2, fd2, G2, g2', k2, b2⟩ := A2.ex
  obtain ⟨f3, fd3, G3, g3, k3, b3⟩ := A3.ex
  obtain ⟨f4, fd4, G4, g4, k4, b4⟩ := A4.ex
  obtain ⟨f5, fd5, G5, g5, k5, b5⟩ := A5.ex
  refine F.ok scLike (fun vs H Q E h => ?_) (fun cdv A outer s H vs Q E hr h => ?_)
  · obtain ⟨_, _, _, _, _, _, _, _, _, _, _, _, _, _, _, rfl, _⟩ := h
    rfl
  · obtain ⟨v, y, pl, x, cy, x1, x2, M, O, Pl, k, a, u, s0, r0, rfl, hM, hO, hP, WM, WO, WQ, S, l1, l2, l3, hx, hu, hul, hcy, hx1, hx2, hs0, hr0, c1, c2, c3, q⟩ := h
    have hr4 : L2.Room 4 _ := hr.mono (by decide)
    have hr2 : L2.Room 2 _ := hr.mono (by decide)
    have hr3 : L2.Room 3 _ := hr.mono (by decide)
    have m1 : M.length * Pl.length ≤ 6 * 6 := Nat.mul_le_mul l1 l3
    have m2 : O.length * Pl.length ≤ 20 * 6 := Nat.mul_le_mul l2 l3
    have m3 : M.length * r0.length ≤ 6 * 4 := Nat.mul_le_mul l1 c3
    have m4 : O.length * r0.length ≤ 20 * 4 := Nat.mul_le_mul l2 c3
    refine ⟨_, pss_cons (ps_if (PW.pt (pw_or (pt_cmpR (op_neD hr.units) (pe_call G1 hr4 (by rfl) g1 k1 b1 .nil pass0 (pa_cons (pv 0) (pa_cons (pv 3) pa_nil))) (pe_call G1 hr4 (by rfl) g1 k1 b1 .nil pass0 (pa_cons (pv 1) (pa_cons (pv 3) pa_nil))) (nomark _))
        (pw_or1 (pt_cmpR (op_neD hr.units) (pe_call G2 hr4 (by rfl) g2' k2 b2 .nil pass0 (pa_cons (pv 0) (pa_cons (pv 2) pa_nil))) (pe_call G2 hr4 (by rfl) g2' k2 b2 .nil pass0 (pa_cons (pv 1) (pa_cons (pv 2) pa_nil))) (nomark _))))) (pss_one (ps_ret pe_bl)) pss_nil)
      (pss_cons (ps_set (i := 5) scLike.nd rfl (Or.inl rfl) (pe_lst (pa_cons (pe_call G3 hr (by rfl) g3 k3 b3 .nil pass0 (pa_cons (pv 0) (pa_cons (pv 4) pa_nil))) (pa_cons (pe_call G3 hr (by rfl) g3 k3 b3 .nil pass0 (pa_cons (pv 1) (pa_cons (pv 4) pa_nil))) (pa_cons (pe_call G2 hr4 (by rfl) g2' k2 b2 .nil pass0 (pa_cons (pv 0) (pa_cons (pv 2) pa_nil))) pa_nil)))))
      (pss_cons (ps_if (PW.pt (pw_or (pt_cmpR (op_neD hr.units) (pe_ix ix_list (pv 5) pe_int (fun _ _ => rfl)) (pe_ix ix_list (pv 5) pe_int (fun _ _ => rfl)) (nomark _))
        (pw_or1 (pt_not (pt_val (pe_call G4 hr2 (by rfl) g4 k4 b4 .nil pass0 (pa_cons (pv 2) (pa_cons (pe_ix ix_list (pv 5) pe_int (fun _ _ => rfl)) pa_nil)))))))) (pss_one (ps_ret pe_bl)) pss_nil)
      (pss_one (ps_ret (pe_callB (cr_all rfl) (by rfl) T.all_ boot_all_ (pa_cons (pe_lc (own := [("_law_loop", 6)]) (g := gName 6) (tt := tYes) rfl scLike.nd (pi_list (pv 5)) (blkOk_by (N := nLike) (sc := defScope sLike) (by decide +kernel)) (fun _ _ _ _ _ => pg_name (i := 6) scLike.nd rfl (Or.inl rfl)) (fun _ _ _ _ _ => pts_nil)
        (fun _ _ _ _ _ => pe_and (pe_call G5 hr3 (by rfl) g5 k5 b5 .nil pass0 (pa_cons (pv 0) (pa_cons (pv 6) pa_nil))) (pe_one (pe_call G5 hr3 (by rfl) g5 k5 b5 .nil pass0 (pa_cons (pv 1) (pa_cons (pv 6) pa_nil)))))) pa_nil)))))), ?_⟩
    refine ⟨_, rfl, _, rfl, v, x, M, k, a, u, rfl, hM, WM, hx, hu, by omega, fun w1 H1 s1 ht1 => ?_⟩
    refine ⟨_, rfl, _, rfl, y, x, O, k, a, u, rfl, hO.mono s1.tups, WO, hx.mono s1.tups, hu, by omega, fun w2 H2 s2 ht2 => ?_⟩
    have sA := s1.trans s2
    refine eqs_pairs.rne (ht1.mono s2.tups) ht2 ⟨_, rfl, ?_⟩
    refine ite2 (fun e => by rw [decide_eq_true (S u hu)] at e; exact absurd e (by decide)) (fun _ => ?_)
    refine ⟨_, rfl, _, rfl, v, pl, M, Pl, k, a, rfl, hM.mono sA.tups, hP.mono sA.tups, WM, WQ, by omega, fun w3 b1s b1r H3 s3 hl3 lo3 => ?_⟩
    have sB := sA.trans s3
    refine ⟨_, rfl, _, rfl, y, pl, O, Pl, k, a, rfl, hO.mono sB.tups, hP.mono sB.tups, WO, WQ, by omega, fun w4 b2s b2r H4 s4 hl4 lo4 => ?_⟩
    have sC := sB.trans s4
    have eB : (b1s, b1r) = (b2s, b2r) := by
      obtain ⟨e1, e2⟩ := (lo3.congr fun n => both_alike WM WQ S n).uniq lo4
      rw [e1, e2]
    refine eqs_loop.rne (x := (b1s, b1r)) (y := (b2s, b2r)) (hl3.mono s4.tups) hl4 ⟨_, rfl, ?_⟩
    refine ite2 (fun e => by rw [decide_eq_true eB] at e; exact absurd e (by decide)) (fun _ => ?_)
    refine ⟨_, rfl, _, rfl, v, cy, x1, x2, M, k, a, s0, r0, rfl, hM.mono sC.tups, WM, hcy.mono sC.tups, hx1.mono sC.tups, hx2.mono sC.tups, hs0, hr0, c2, by omega, fun w5 l5s l5r H5 s5 hl5 lo5 => ?_⟩
    have sD := sC.trans s5
    refine ⟨_, rfl, _, rfl, y, cy, x1, x2, O, k, a, s0, r0, rfl, hO.mono sD.tups, WO, hcy.mono sD.tups, hx1.mono sD.tups, hx2.mono sD.tups, hs0, hr0, c2, by omega, fun w6 l6s l6r H6 s6 hl6 lo6 => ?_⟩
    have sE := sD.trans s6
    refine ⟨_, rfl, _, rfl, v, pl, M, Pl, k, a, rfl, hM.mono sE.tups, hP.mono sE.tups, WM, WQ, by omega, fun w7 b7s b7r H7 s7 hl7 lo7 => ?_⟩
    refine ⟨by show 3 ≤ sizeLine; decide, fun g ng => ?_⟩
    have s8 := same_new (o := .lst [w5, w6, w7]) ng
    have hf : ∀ n, cyc s0 r0 n < k := cyc_lt WM.kpos hs0 hr0
    have eL : (l5s, l5r) = (l6s, l6r) := by
      obtain ⟨e1, e2⟩ := (lo5.congr fun n => S.turnAt hf n).uniq lo6
      rw [e1, e2]
    have h5' := (hl5.mono s6.tups).mono (s7.trans s8).tups
    have h6' := hl6.mono (s7.trans s8).tups
    have h7' := hl7.mono s8.tups
    have sF := (sE.trans s7).trans s8
    refine ⟨_, rfl, g, _, 0, w5, rfl, rfl, SqL.of upd_same, rfl, _, rfl, g, _, 1, w6, rfl, rfl, SqL.of upd_same, rfl, ?_⟩
    refine eqs_loop.rne (x := (l5s, l5r)) (y := (l6s, l6r)) h5' h6' ⟨_, rfl, ?_⟩
    refine ite2 (fun e => by rw [decide_eq_true eL] at e; exact absurd e (by decide)) (fun _ => ?_)
    refine ⟨_, rfl, _, rfl, g, _, 2, w7, rfl, rfl, SqL.of upd_same, rfl, pl, w7, M, Pl, k, a, b7s, b7r, rfl, hP.mono sF.tups, WM, WQ, by omega, h7', lo7, fun H9 s9 => ?_⟩
    refine ⟨true, rfl, iteF ?_⟩
    have hg9 := s9 _ _ (upd_same (H := H7) (a := g) (o := .lst [w5, w6, w7]))
    have sG := sF.trans s9
    have b7 : LkBoth k M O H9 w7 := by
      have lo := lo7.congr fun n => both_turn n
      have hl := fun n => (both_lt WM WQ n).2.2.1
      obtain ⟨e1, e2⟩ := loop_lets hl lo
      exact ⟨b7s, b7r, h7'.mono s9.tups, lo7.lean.ne, e1, e2, goes_own lo, goes_like hl S lo⟩
    have b5' : LkBoth k M O H9 w5 := by
      obtain ⟨e1, e2⟩ := loop_lets hf lo5
      exact ⟨l5s, l5r, h5'.mono s9.tups, lo5.lean.ne, e1, e2, goes_own lo5, goes_like hf S lo5⟩
    have b6' : LkBoth k M O H9 w6 := by
      obtain ⟨e1, e2⟩ := loop_lets hf lo6
      exact ⟨l6s, l6r, h6'.mono s9.tups, lo6.lean.ne, e1, e2, goes_like hf S.symm lo6, goes_own lo6⟩
    have ball : ∀ (i : Nat) (z : V), [w5, w6, w7][i]? = some z → LkBoth k M O H9 z := fun i z e => by
      have := List.mem_of_getElem? e
      simp only [List.mem_cons, List.not_mem_nil, or_false] at this
      rcases this with rfl | rfl | rfl
      · exact b5'
      · exact b6'
      · exact b7
    refine ⟨_, rfl, g, rfl, ⟨_, SqL.of hg9⟩, fun D hD => lc_list (K := K) (a := g) (xs := [w5, w6, w7]) (fun i H2 => Same H9 H2 ∧ H2 D = some (.lst ((List.replicate i true).map V.bl))) ⟨same_new hD, upd_same⟩ (fun i H2 _ h2 => SqL.of (h2.1 _ _ hg9)) ?_ ?_⟩
    · rintro i z H10 hz ⟨s10, d10⟩
      have hil : i < 3 := (List.getElem?_eq_some_iff.mp hz).1
      obtain ⟨sz', rz', e1, e2, e3, e4, e5, e6⟩ := (ball i z hz).mono s10.tups
      have sH := sG.trans s10
      refine ⟨rfl, yes ⟨_, rfl, _, rfl, v, z, M, k, a, sz', rz', rfl, hM.mono sH.tups, WM, by omega, e1, e2, e3, e4, fun b H11 s11 hb => ?_⟩⟩
      have hbt := hb.mpr e5
      subst hbt
      refine ⟨true, rfl, iteT ?_⟩
      refine ⟨_, rfl, _, rfl, y, z, O, k, a, sz', rz', rfl, hO.mono (sH.trans s11).tups, WO, by omega, e1.mono s11.tups, e2, e3, e4, fun b H12 s12 hb => ?_⟩
      have hbt := hb.mpr e6
      subst hbt
      have d12 := s12 _ _ (s11 _ _ d10)
      refine ⟨_, d12, szl ?_, ((s10.trans s11).trans s12).own hD, ?_⟩
      · rw [List.length_map, List.length_replicate]; omega
      · rw [upd_same, List.replicate_succ', List.map_append]; rfl
    · rintro H10 ⟨s10, d10⟩
      exact ⟨D, _, rfl, SqL.of d10, q _ (sG.trans s10)⟩
end
end Wk
set_option Elab.async false
set_option linter.all false
set_option maxRecDepth 100000
set_option maxHeartbeats 4000000
namespace Wk
open PySem PySem.Spec PyProof.Rows L2
theorem pairs_last2 {H : Hp} {vs : List V} {l : List (Nat × Nat)} {p : Nat × Nat} (h : IsSeq (IsPair H) vs (l ++ [p])) : ∃ v, atI vs (-1) = some v ∧ IsPair H v p ∧ 0 < vs.length ∧ IsSeq (IsPair H) (vs.take (vs.length - 1)) l := by
  have hl := h.len
  rw [List.length_append, List.length_singleton] at hl
  obtain ⟨v, hv, hp⟩ := h.get (i := l.length) (x := p) (by rw [List.getElem?_append_right (Nat.le_refl _), Nat.sub_self]; rfl)
  have hs : vs = vs.take l.length ++ [v] := by
    have h1 : vs.take (l.length + 1) = vs.take l.length ++ [v] := by rw [List.take_add_one, hv]; rfl
    rw [← h1, ← hl, List.take_length]
  refine ⟨v, ?_, hp, by omega, ?_⟩
  · rw [hs]; exact atI_last _ _
  · rw [hl, Nat.add_sub_cancel]
    have := h.take l.length
    rwa [List.take_left] at this
theorem bl_seq (bs : List Bool) : IsSeq (fun v n => v = V.bl n) (bs.map V.bl) bs := seq_map (f := V.bl) (R := fun v n => v = V.bl n) (fun _ => rfl) bs
section
variable {P : Program} {w : World} {K : PySem.W.Frag} {mg : Str → Option Value} {base : Heap}
/-! ### parted -/
def spParted : Sp := fun vs H Q _ => ∃ (v y x cy x1 x2 : V) (M O : Mach) (k a : Nat) (u r0 : List Nat) (c : Nat), vs = [v, y, x, cy] ∧ IsMach H v M ∧ IsMach H y O ∧ WF k a M ∧ WF k a O ∧ Parts k M O u c ∧ M.length ≤ 6 ∧ O.length ≤ 20 ∧
  IsInts H x (u ++ [c]) ∧ u.length + 1 ≤ 120 ∧ Tp H cy [x1, x2] ∧ IsInts H x2 r0 ∧ (∀ c ∈ r0, c < k) ∧ 1 ≤ r0.length ∧ r0.length ≤ 4 ∧ ∀ H', Same H H' → Q (.bl true) H'
abbrev nParted : List Str := ["_law_one", "_law_other", "_law_run", "_law_cycle", "_law_mine", "_law_its", "_law_loops"]
theorem scParted : FnScope nParted ["_law_one", "_law_other", "_law_run", "_law_cycle"] (defScope sParted) := ⟨rfl, rfl, rfl, by decide +kernel, rfl, by decide +kernel, by decide +kernel⟩
theorem ok_parted {f : Addr} {fd : FuncData} (F : Fun K "_law_parted" "_law_parted" sParted f fd) (A1 : Has P w K mg base "turns_of" ["machine", "run"] 4 spTurns)
    (A3 : Has P w K mg base "loop_by" ["machine", "cycle"] 5 spLoopBy) (A5 : Has P w K mg base "goes" ["machine", "loop"] 3 spGoes) :
    FnOk P w K mg base CX0 6 f fd ["_law_one", "_law_other", "_law_run", "_law_cycle"] spParted := by
  obtain ⟨f1, fd1, G1, g1, k1, b1⟩ := A1.ex
  obtain ⟨f3, fd3, G3, g3, k3, b3⟩ := A3.ex
  obtain ⟨f5, fd5, G5, g5, k5, b5⟩ := A5.ex
  refine F.ok scParted (fun vs H Q E h => ?_) (fun cdv A outer s H vs Q E hr h => ?_)
  · obtain ⟨_, _, _, _, _, _, _, _, _, _, _, _, _, rfl, _⟩ := h
    rfl
  · obtain ⟨v, y, x, cy, x1, x2, M, O, k, a, u, r0, c, rfl, hM, hO, WM, WO, PA, l1, l2, hx, hul, hcy, hx2, hr0, c2, c3, q⟩ := h
    have hr4 : L2.Room 4 _ := hr.mono (by decide)
    have hr3 : L2.Room 3 _ := hr.mono (by decide)
    have m3 : M.length * r0.length ≤ 6 * 4 := Nat.mul_le_mul l1 c3
    have m4 : O.length * r0.length ≤ 20 * 4 := Nat.mul_le_mul l2 c3
    have huc : ∀ d ∈ u ++ [c], d < k := fun d hd => by
      rcases List.mem_append.mp hd with h | h
      · exact PA.ok d h
      · rw [List.mem_singleton.mp h]; exact PA.lt
    have hucl : (u ++ [c]).length ≤ 120 := by rw [List.length_append, List.length_singleton]; exact hul
    have eM : turns M 0 (u ++ [c]) = turns M 0 u ++ [(c, ans M (go M 0 u) c)] := turns_append M u [c] 0
    have eO : turns O 0 (u ++ [c]) = turns O 0 u ++ [(c, ans O (go O 0 u) c)] := turns_append O u [c] 0
    refine ⟨_, pss_cons (ps_par (i := 4) (j := 5) rfl scParted.nd rfl rfl (by decide) rfl rfl (pa_cons (pe_call G1 hr4 (by rfl) g1 k1 b1 .nil pass0 (pa_cons (pv 0) (pa_cons (pv 2) pa_nil))) (pa_cons (pe_call G1 hr4 (by rfl) g1 k1 b1 .nil pass0 (pa_cons (pv 1) (pa_cons (pv 2) pa_nil))) pa_nil)) rfl)
      (pss_cons (ps_if (PW.pt (pw_or (pt_cmpR (op_neD hr.units) (pe_slice sl_tupA (pv 4) po_none (po_some (pe_un un_neg pe_int))) (pe_slice sl_tupA (pv 5) po_none (po_some (pe_un un_neg pe_int))) (nomark _))
        (pw_or1 (pt_cmpR (op_eqD hr.units) (pe_ix ix_tup (pv 4) (pe_un un_neg pe_int) (fun _ _ => rfl)) (pe_ix ix_tup (pv 5) (pe_un un_neg pe_int) (fun _ _ => rfl)) (nomark _))))) (pss_one (ps_ret pe_bl)) pss_nil)
      (pss_cons (ps_set (i := 6) scParted.nd rfl (Or.inl rfl) (pe_lst (pa_cons (pe_call G3 hr (by rfl) g3 k3 b3 .nil pass0 (pa_cons (pv 0) (pa_cons (pe_tup (pa_cons (pv 2) (pa_cons (pe_ix ix_tup (pv 3) pe_int (fun _ _ => rfl)) pa_nil))) pa_nil))) (pa_cons (pe_call G3 hr (by rfl) g3 k3 b3 .nil pass0 (pa_cons (pv 1) (pa_cons (pe_tup (pa_cons (pv 2) (pa_cons (pe_ix ix_tup (pv 3) pe_int (fun _ _ => rfl)) pa_nil))) pa_nil))) pa_nil))))
      (pss_cons (ps_if (pt_cmpR (op_neD hr.units) (pe_lst (pa_cons (pe_call G5 hr3 (by rfl) g5 k5 b5 .nil pass0 (pa_cons (pv 0) (pa_cons (pe_ix ix_list (pv 6) pe_int (fun _ _ => rfl)) pa_nil))) (pa_cons (pe_call G5 hr3 (by rfl) g5 k5 b5 .nil pass0 (pa_cons (pv 1) (pa_cons (pe_ix ix_list (pv 6) pe_int (fun _ _ => rfl)) pa_nil))) pa_nil))) (pe_lst (pa_cons pe_bl (pa_cons pe_bl pa_nil))) (nomark _)) (pss_one (ps_ret pe_bl)) pss_nil)
      (pss_one (ps_ret (pe_cmpR (op_eqD hr.units) (pe_lst (pa_cons (pe_call G5 hr3 (by rfl) g5 k5 b5 .nil pass0 (pa_cons (pv 0) (pa_cons (pe_ix ix_list (pv 6) pe_int (fun _ _ => rfl)) pa_nil))) (pa_cons (pe_call G5 hr3 (by rfl) g5 k5 b5 .nil pass0 (pa_cons (pv 1) (pa_cons (pe_ix ix_list (pv 6) pe_int (fun _ _ => rfl)) pa_nil))) pa_nil))) (pe_lst (pa_cons pe_bl (pa_cons pe_bl pa_nil))) (nomark _))))))), ?_⟩
    refine ⟨_, rfl, _, rfl, v, x, M, k, a, u ++ [c], rfl, hM, WM, hx, huc, by omega, fun w1 H1 s1 ht1 => ?_⟩
    refine ⟨_, rfl, _, rfl, y, x, O, k, a, u ++ [c], rfl, hO.mono s1.tups, WO, hx.mono s1.tups, huc, by omega, fun w2 H2 s2 ht2 => ?_⟩
    have sA := s1.trans s2
    refine ⟨_, _, rfl, ?_⟩
    obtain ⟨ms, ⟨a1, rfl, ha1⟩, hms⟩ := ht1.mono s2.tups
    obtain ⟨is, ⟨a2, rfl, ha2⟩, his⟩ := ht2
    rw [eM] at hms
    rw [eO] at his
    obtain ⟨z1, p1, p2, p3, p4⟩ := pairs_last2 hms
    obtain ⟨z2, r1, r2, r3, r4⟩ := pairs_last2 his
    refine ⟨_, rfl, _, rfl, _, rfl, sl_tp ⟨a1, rfl, ha1⟩ fun v3 H3 s3 u3 => ?_⟩
    rw [cut_init p3] at u3
    refine ⟨_, rfl, _, rfl, _, rfl, sl_tp ⟨a2, rfl, s3 _ _ ha2⟩ fun v4 H4 s4 u4 => ?_⟩
    rw [cut_init r3] at u4
    have s34 := s3.trans s4
    have hne : (c, ans M (go M 0 u) c) ≠ (c, ans O (go O 0 u) c) := fun z => PA.ne (congrArg Prod.snd z)
    refine eqs_pairs.rne (x := turns M 0 u) (y := turns O 0 u) ⟨_, u3.mono s4.tups, p4.mono fun _ _ z => z.mono s34.tups⟩ ⟨_, u4, r4.mono fun _ _ z => z.mono s34.tups⟩ ⟨_, rfl, ?_⟩
    refine ite2 (fun e => by rw [decide_eq_true PA.eq] at e; exact absurd e (by decide)) (fun _ => ?_)
    refine ⟨_, rfl, _, rfl, a1, _, _, z1, rfl, rfl, SqT.of (s34 _ _ ha1), p1, _, rfl, _, rfl, a2, _, _, z2, rfl, rfl, SqT.of (s34 _ _ ha2), r1, eqs_pair.req (p2.mono s34.tups) (r2.mono s34.tups) ⟨_, rfl, ?_⟩⟩
    refine ite2 (fun e => absurd (of_decide_eq_true e) hne) (fun _ => ?_)
    have sB := sA.trans s34
    obtain ⟨ac, rfl, hac⟩ := id hcy
    refine ⟨_, rfl, _, rfl, _, rfl, ac, _, 1, _, rfl, rfl, SqT.of (sB _ _ hac), rfl, by show 2 ≤ sizeLine; decide, fun t5 nt5 => ?_⟩
    have s5 := same_new (o := .tup [x, x2]) nt5
    have sC := sB.trans s5
    refine ⟨v, _, x, x2, M, k, a, u ++ [c], r0, rfl, hM.mono sC.tups, WM, ⟨t5, rfl, upd_same⟩, hx.mono sC.tups, hx2.mono sC.tups, huc, hr0, c2, by omega, fun w5 l5s l5r H6 s6 hl5 lo5 => ?_⟩
    have sD := sC.trans s6
    refine ⟨_, rfl, _, rfl, _, rfl, ac, _, 1, _, rfl, rfl, SqT.of (sD _ _ hac), rfl, by show 2 ≤ sizeLine; decide, fun t7 nt7 => ?_⟩
    have s7 := same_new (o := .tup [x, x2]) nt7
    have sE := sD.trans s7
    refine ⟨y, _, x, x2, O, k, a, u ++ [c], r0, rfl, hO.mono sE.tups, WO, ⟨t7, rfl, upd_same⟩, hx.mono sE.tups, hx2.mono sE.tups, huc, hr0, c2, by omega, fun w6 l6s l6r H8 s8 hl6 lo6 => ?_⟩
    have sF := sE.trans s8
    refine ⟨by show 2 ≤ sizeLine; decide, fun g ng => ?_⟩
    have s9 := same_new (o := .lst [w5, w6]) ng
    have sG := sF.trans s9
    have h5' := hl5.mono ((s7.trans s8).trans s9).tups
    have h6' := hl6.mono s9.tups
    have hg9 : (upd H8 g (.lst [w5, w6])) g = some (.lst [w5, w6]) := upd_same
    have hf : ∀ n, cyc (u ++ [c]) r0 n < k := cyc_lt WM.kpos huc hr0
    obtain ⟨e51, e52⟩ := loop_lets hf lo5
    obtain ⟨e61, e62⟩ := loop_lets hf lo6
    refine ⟨_, rfl, _, rfl, g, _, 0, w5, rfl, rfl, SqL.of hg9, rfl, v, w5, M, k, a, l5s, l5r, rfl, hM.mono sG.tups, WM, by omega, h5', lo5.lean.ne, e51, e52, fun b1 H10 s10 hb1 => ?_⟩
    have hbt := hb1.mpr (goes_own lo5)
    subst hbt
    refine ⟨_, rfl, _, rfl, g, _, 0, w5, rfl, rfl, SqL.of (s10 _ _ hg9), rfl, y, w5, O, k, a, l5s, l5r, rfl, hO.mono (sG.trans s10).tups, WO, by omega, h5'.mono s10.tups, lo5.lean.ne, e51, e52, fun b2 H11 s11 hb2 => ?_⟩
    have hbf : b2 = false := by
      cases b2 with
      | false => rfl
      | true => exact absurd (hb2.mp rfl) (goes_not PA lo5)
    subst hbf
    refine ⟨by show 2 ≤ sizeLine; decide, fun e1 ne1 => ?_⟩
    have s12 := same_new (o := .lst [.bl true, .bl false]) ne1
    refine ⟨by show 2 ≤ sizeLine; decide, fun e2 ne2 => ?_⟩
    have s13 := same_new (o := .lst [.bl true, .bl false]) ne2
    refine eqs_bl.lseq.rne (x := [true, false]) (y := [true, false]) ⟨e1, _, rfl, s13 _ _ upd_same, bl_seq [true, false]⟩ ⟨e2, _, rfl, upd_same, bl_seq [true, false]⟩ ⟨_, rfl, ?_⟩
    refine ite2 (fun e => by simp at e) (fun _ => ?_)
    have s10_13 := ((s10.trans s11).trans s12).trans s13
    have hg13 := s10_13 _ _ hg9
    have sH := sG.trans s10_13
    refine ⟨_, rfl, _, rfl, g, _, 1, w6, rfl, rfl, SqL.of hg13, rfl, v, w6, M, k, a, l6s, l6r, rfl, hM.mono sH.tups, WM, by omega, h6'.mono s10_13.tups, lo6.lean.ne, e61, e62, fun b1 H14 s14 hb1 => ?_⟩
    have hbf : b1 = false := by
      cases b1 with
      | false => rfl
      | true => exact absurd (hb1.mp rfl) (goes_not PA.symm lo6)
    subst hbf
    refine ⟨_, rfl, _, rfl, g, _, 1, w6, rfl, rfl, SqL.of (s14 _ _ hg13), rfl, y, w6, O, k, a, l6s, l6r, rfl, hO.mono (sH.trans s14).tups, WO, by omega, (h6'.mono s10_13.tups).mono s14.tups, lo6.lean.ne, e61, e62, fun b2 H15 s15 hb2 => ?_⟩
    have hbt := hb2.mpr (goes_own lo6)
    subst hbt
    refine ⟨by show 2 ≤ sizeLine; decide, fun e1 ne1 => ?_⟩
    have s16 := same_new (o := .lst [.bl false, .bl true]) ne1
    refine ⟨by show 2 ≤ sizeLine; decide, fun e2 ne2 => ?_⟩
    have s17 := same_new (o := .lst [.bl false, .bl true]) ne2
    refine eqs_bl.lseq.req (x := [false, true]) (y := [false, true]) ⟨e1, _, rfl, s17 _ _ upd_same, bl_seq [false, true]⟩ ⟨e2, _, rfl, upd_same, bl_seq [false, true]⟩ ?_
    exact q _ ((((sH.trans s14).trans s15).trans s16).trans s17)
end
end Wk
set_option Elab.async false
set_option linter.all false
set_option maxRecDepth 100000
set_option maxHeartbeats 4000000
namespace Wk
open PySem PySem.Spec PyProof.Rows L2
abbrev sRight : Stmt := top 44
theorem boot_min_ : bootBuiltins "min" = some (.builtin "min") := by decide +kernel
theorem boot_max_ : bootBuiltins "max" = some (.builtin "max") := by decide +kernel
section
variable {P : Program} {w : World} {K : PySem.W.Frag} {mg : Str → Option Value} {base : Heap}
/-- what a right turn is about -/
structure Facts (H : Hp) (v y pl x cy x1 x2 : V) (M O : Mach) (Pl : Plan) (k a : Nat) (u s0 r0 : List Nat) : Prop where
  one : IsMach H v M
  other : IsMach H y O
  plan : IsPlan H pl Pl
  wm : WF k a M
  wo : WF k a O
  wp : WP k a Pl
  l1 : M.length ≤ 6
  l2 : O.length ≤ 20
  l3 : Pl.length ≤ 6
  run : IsInts H x u
  hu : ∀ c ∈ u, c < k
  hul : u.length ≤ 30
  cyc : Tp H cy [x1, x2]
  stem : IsInts H x1 s0
  round : IsInts H x2 r0
  hs0 : ∀ c ∈ s0, c < k
  hr0 : ∀ c ∈ r0, c < k
  c1 : s0.length ≤ 5
  c2 : 1 ≤ r0.length
  c3 : r0.length ≤ 4
  hk : k ≤ 8
def spRight : Sp := fun vs H Q _ => ∃ (v y pl x cy x1 x2 : V) (M O : Mach) (Pl : Plan) (k a : Nat) (u s0 r0 : List Nat), vs = [v, y, pl, x, cy] ∧ Facts H v y pl x cy x1 x2 M O Pl k a u s0 r0 ∧ ∀ H', Same H H' → Q (.bl true) H'
theorem scRight : FnScope ["_law_one", "_law_other", "_law_plan_here", "_law_run", "_law_cycle", "_law_row", "_law_small"] ["_law_one", "_law_other", "_law_plan_here", "_law_run", "_law_cycle"] (defScope sRight) := ⟨rfl, rfl, rfl, by decide +kernel, rfl, by decide +kernel, by decide +kernel⟩
theorem ok_right {f : Addr} {fd : FuncData} (F : Fun K "_law_right" "_law_right" sRight f fd) (T : Txt mg) (A1 : Has P w K mg base "alike" ["machine", "other"] 1 spAlike) (A2 : Has P w K mg base "merged" ["machine"] 3 spMerged)
    (A3 : Has P w K mg base "_law_like" ["_law_one", "_law_other", "_law_plan_here", "_law_run", "_law_cycle"] 6 spLike) (A4 : Has P w K mg base "_law_parted" ["_law_one", "_law_other", "_law_run", "_law_cycle"] 6 spParted) :
    FnOk P w K mg base CX0 7 f fd ["_law_one", "_law_other", "_law_plan_here", "_law_run", "_law_cycle"] spRight := by
  obtain ⟨f1, fd1, G1, g1, k1, b1⟩ := A1.ex
  obtain ⟨f2, fd2, G2, g2', k2, b2⟩ := A2.ex
  obtain ⟨f3, fd3, G3, g3, k3, b3⟩ := A3.ex
  obtain ⟨f4, fd4, G4, g4, k4, b4⟩ := A4.ex
  refine F.ok scRight (fun vs H Q E h => ?_) (fun cdv A outer s H vs Q E hr h => ?_)
  · obtain ⟨_, _, _, _, _, _, _, _, _, _, _, _, _, _, _, rfl, _⟩ := h
    rfl
  · obtain ⟨v, y, pl, x, cy, x1, x2, M, O, Pl, k, a, u, s0, r0, rfl, X, q⟩ := h
    obtain ⟨hM, hO, hP, WM, WO, WQ, l1, l2, l3, hx, hu, hul, hcy, hx1, hx2, hs0, hr0, c1, c2, c3, hk8⟩ := X
    have hr1 : L2.Room 1 _ := hr.mono (by decide)
    have hr3 : L2.Room 3 _ := hr.mono (by decide)
    have m1 : M.length * O.length ≤ 6 * 20 := Nat.mul_le_mul l1 l2
    refine ⟨_, pss_cons (ps_set (i := 5) scRight.nd rfl (Or.inl rfl) (pe_call G1 hr1 (by rfl) g1 k1 b1 .nil pass0 (pa_cons (pv 0) (pa_cons (pv 1) pa_nil))))
      (pss_cons (ps_set (i := 6) scRight.nd rfl (Or.inl rfl) (pe_lst (pa_cons (pe_call G2 hr3 (by rfl) g2' k2 b2 .nil pass0 (pa_cons (pv 0) pa_nil)) (pa_cons (pe_call G2 hr3 (by rfl) g2' k2 b2 .nil pass0 (pa_cons (pv 1) pa_nil)) pa_nil))))
      (pss_cons (ps_if (PW.pt (pw_or (pt_cmpR op_ne (pe_cmpR op_isN (pv 5) pe_non (nomark _)) (pe_cmpR (op_eqD hr.units) (pe_ix ix_list (pv 6) pe_int (fun _ _ => rfl)) (pe_ix ix_list (pv 6) pe_int (fun _ _ => rfl)) (nomark _)) (nomark _))
        (pw_or1 (pt_cmpR op_ne (pe_cmpR op_isN (pv 5) pe_non (nomark _)) (pe_cmpR op_isN (pe_call G1 hr1 (by rfl) g1 k1 b1 .nil pass0 (pa_cons (pe_ix ix_list (pv 6) pe_int (fun _ _ => rfl)) (pa_cons (pv 1) pa_nil))) pe_non (nomark _)) (nomark _))))) (pss_one (ps_ret pe_bl)) pss_nil)
      (pss_cons (ps_if (pt_cmpR op_isN (pv 5) pe_non (nomark _)) (pss_one (ps_ret (pe_and (pe_cmpR op_le (pe_callB call_len_seq (by rfl) T.len_ PySem.boot_len (pa_cons (pe_ix ix_list (pv 6) pe_int (fun _ _ => rfl)) pa_nil))
            (pe_callB (call_min2 rfl) (by rfl) T.min_ boot_min_ (pa_cons (pe_callB call_len_seq (by rfl) T.len_ PySem.boot_len (pa_cons (pv 0) pa_nil)) (pa_cons (pe_callB call_len_seq (by rfl) T.len_ PySem.boot_len (pa_cons (pv 1) pa_nil)) pa_nil))) (nomark _))
          (pe_one (pe_call G3 hr (by rfl) g3 k3 b3 .nil pass0 (pa_cons (pv 0) (pa_cons (pv 1) (pa_cons (pv 2) (pa_cons (pv 3) (pa_cons (pv 4) pa_nil)))))))))) pss_nil)
      (pss_one (ps_ret (pe_call G4 hr (by rfl) g4 k4 b4 .nil pass0 (pa_cons (pv 0) (pa_cons (pv 1) (pa_cons (pv 5) (pa_cons (pv 4) pa_nil))))))))))  , ?_⟩
    refine ⟨_, rfl, _, rfl, v, y, M, O, k, a, a, rfl, hM, hO, WM, WO, by omega, by omega, fun w1 H1 s1 hw1 => ?_⟩
    refine ⟨_, rfl, v, M, k, a, rfl, hM.mono s1.tups, WM, by omega, by omega, fun w2 N1 H2 s2 hN1 mN1 => ?_⟩
    refine ⟨_, rfl, y, O, k, a, rfl, hO.mono (s1.trans s2).tups, WO, by omega, by omega, fun w3 N2 H3 s3 hN2 mN2 => ?_⟩
    refine ⟨by show 2 ≤ sizeLine; decide, fun g ng => ?_⟩
    have s4 := same_new (o := .lst [w2, w3]) ng
    have hg4 : (upd H3 g (.lst [w2, w3])) g = some (.lst [w2, w3]) := upd_same
    have h2' := hN1.mono (s3.trans s4).tups
    have h3' := hN2.mono s4.tups
    have sA := ((s1.trans s2).trans s3).trans s4
    have W1 := mN1.wf WM
    have n1 := mN1.len WM
    have m2 : N1.length * O.length ≤ 6 * 20 := Nat.mul_le_mul (by omega) l2
    refine ⟨_, rfl, rfl, _, rfl, g, _, 0, w2, rfl, rfl, SqL.of hg4, rfl, _, rfl, g, _, 1, w3, rfl, rfl, SqL.of hg4, rfl, eqs_mach.req h2' h3' ⟨rfl, _, rfl, ?_⟩⟩
    rcases hw1 with ⟨rfl, S⟩ | ⟨ur, cr, hur, PA, hurl⟩
    · have eN : N1 = N2 := mN1.uniq WM.kpos mN2 S
      have S1 : Sim k N1 0 O 0 := mN1.sim.symm.trans S
      refine ite2 (fun e => by rw [decide_eq_true eN] at e; simp at e) (fun _ => ?_)
      refine ⟨_, rfl, rfl, _, rfl, g, _, 0, w2, rfl, rfl, SqL.of hg4, rfl, _, rfl, w2, y, N1, O, k, a, a, rfl, h2', hO.mono sA.tups, W1, WO, by omega, by omega, fun w5 H5 s5 hw5 => ?_⟩
      have e5 : w5 = .non := by
        rcases hw5 with ⟨rfl, _⟩ | ⟨_, _, _, PA, _⟩
        · rfl
        · exact absurd S1 PA.not
      subst e5
      refine ⟨rfl, rfl, _, rfl, ?_⟩
      refine ite2 (fun e => by simp at e) (fun _ => ?_)
      refine ⟨_, rfl, rfl, _, rfl, ?_⟩
      refine ite2 (fun _ => ?_) (fun e => by simp at e)
      have sB := sA.trans s5
      obtain ⟨vs2, ⟨p2, rfl, hp2⟩, hs2⟩ := h2'.mono s5.tups
      obtain ⟨vsm, ⟨pm, rfl, hpm⟩, hsm⟩ := hM.mono sB.tups
      obtain ⟨vso, ⟨po, rfl, hpo⟩, hso⟩ := hO.mono sB.tups
      have e2 := hs2.len
      have em := hsm.len
      have eo := hso.len
      have n2 := mN2.len WO
      rw [← eN] at n2
      refine ⟨_, rfl, g, _, 0, .ref p2, rfl, rfl, SqL.of (s5 _ _ hg4), rfl, p2, _, rfl, .inr (SqT.of hp2), _, rfl, pm, _, rfl, .inr (SqT.of hpm), _, rfl, po, _, rfl, .inr (SqT.of hpo), _, _, rfl, _, _, rfl, rfl, true, ?_, ?_⟩
      · show V.bl (decide ((vs2.length : Int) ≤ if (vso.length : Int) < (vsm.length : Int) then (vso.length : Int) else (vsm.length : Int))) = V.bl true
        rw [decide_eq_true (by split <;> omega)]
      refine iteT ?_
      exact ⟨_, rfl, _, rfl, _, rfl, _, rfl, _, rfl, _, _, pl, x, cy, x1, x2, M, O, Pl, k, a, u, s0, r0, rfl, hM.mono sB.tups, hO.mono sB.tups, hP.mono sB.tups, WM, WO, WQ, S, l1, l2, l3, hx.mono sB.tups, hu, hul, hcy.mono sB.tups, hx1.mono sB.tups, hx2.mono sB.tups, hs0, hr0, c1, c2, c3, fun H9 s9 => q _ (sB.trans s9)⟩
    · obtain ⟨aw, rfl, haw⟩ := id hur
      have eN : ¬ N1 = N2 := fun e => PA.not (by
        have := mN2.sim
        rw [← e] at this
        exact mN1.sim.trans this.symm)
      have S1 : ¬ Sim k N1 0 O 0 := fun S1 => PA.not (mN1.sim.trans S1)
      refine ite2 (fun e => by rw [decide_eq_false eN] at e; simp at e) (fun _ => ?_)
      refine ⟨_, rfl, rfl, _, rfl, g, _, 0, w2, rfl, rfl, SqL.of hg4, rfl, _, rfl, w2, y, N1, O, k, a, a, rfl, h2', hO.mono sA.tups, W1, WO, by omega, by omega, fun w5 H5 s5 hw5 => ?_⟩
      obtain ⟨a5, rfl⟩ : ∃ a5, w5 = .ref a5 := by
        rcases hw5 with ⟨_, z⟩ | ⟨_, _, ⟨a5, e, _⟩, _⟩
        · exact absurd z S1
        · exact ⟨a5, e⟩
      refine ⟨rfl, rfl, _, rfl, ?_⟩
      refine ite2 (fun e => by simp at e) (fun _ => ?_)
      refine ⟨_, rfl, rfl, _, rfl, ?_⟩
      refine ite2 (fun e => by simp at e) (fun _ => ?_)
      have sB := sA.trans s5
      exact ⟨_, rfl, _, rfl, _, rfl, _, rfl, v, y, _, cy, x1, x2, M, O, k, a, ur, r0, cr, rfl, hM.mono sB.tups, hO.mono sB.tups, WM, WO, PA, l1, l2, hur.mono (((s2.trans s3).trans s4).trans s5).tups, by omega, hcy.mono sB.tups, hx2.mono sB.tups, hr0, c2, c3, fun H9 s9 => q _ (sB.trans s9)⟩
end
end Wk
set_option Elab.async false
set_option linter.all false
set_option maxRecDepth 100000
set_option maxHeartbeats 4000000
namespace Wk
open PySem PySem.Spec PyProof.Rows L2
abbrev sLaw : Stmt := top 45
theorem shl_nat {j : Nat} : (1 : Int) * 2 ^ ((j : Int)).toNat = ((2 ^ j : Nat) : Int) := by
  rw [Int.toNat_natCast, Int.one_mul, Int.natCast_pow]; rfl
theorem rg_nat (n : Nat) : rgV 0 (n : Int) = (List.range n).map nv := by
  unfold rgV
  rw [Int.sub_zero, Int.toNat_natCast]
  apply List.map_congr_left
  intro i _
  rw [Int.zero_add]
theorem one_nat {j : Nat} : (1 : Int) + (j : Int) = ((1 + j : Nat) : Int) := by omega
theorem Facts.mono {H H' : Hp} {v y pl x cy x1 x2 : V} {M O : Mach} {Pl : Plan} {k a : Nat} {u s0 r0 : List Nat} (F : Facts H v y pl x cy x1 x2 M O Pl k a u s0 r0) (t : TupS H H') : Facts H' v y pl x cy x1 x2 M O Pl k a u s0 r0 :=
  ⟨F.one.mono t, F.other.mono t, F.plan.mono t, F.wm, F.wo, F.wp, F.l1, F.l2, F.l3, F.run.mono t, F.hu, F.hul, F.cyc.mono t, F.stem.mono t, F.round.mono t, F.hs0, F.hr0, F.c1, F.c2, F.c3, F.hk⟩
section
variable {P : Program} {w : World} {K : PySem.W.Frag} {mg : Str → Option Value} {base : Heap}
def spLaw (K : PySem.W.Frag) : Sp := fun vs H Q _ => ∃ (a : Addr) (ns : List Int), vs = [.ref a] ∧ SqL K H a (ns.map V.int) ∧ ∀ H', Q (.bl true) H'
abbrev nLaw : List Str := ["_law_script", "_law_state", "_law_k", "_law_comes", "_law_answers", "_law_one", "_law_plan_here", "_law_run", "_law_cycle", "_law_other"]
theorem scLaw : FnScope nLaw ["_law_script"] (defScope sLaw) := ⟨rfl, rfl, rfl, by decide +kernel, rfl, by decide +kernel, by decide +kernel⟩
theorem ok_law {f : Addr} {fd : FuncData} (F : Fun K "law" "law" sLaw f fd) (T : Txt mg) (A1 : Has P w K mg base "_law_begun" ["_law_script"] 1 spBegun) (A2 : Has P w K mg base "_law_open" ["_law_state", "_law_k"] 2 (spOpen K))
    (A3 : Has P w K mg base "_law_draw" ["_law_state", "_law_many"] 2 spDraw) (A4 : Has P w K mg base "_law_machine" ["_law_state", "_law_comes", "_law_answers", "_law_many"] 3 spMachine) (A5 : Has P w K mg base "_law_plan" ["_law_state", "_law_comes", "_law_answers", "_law_many"] 3 spPlan)
    (A6 : Has P w K mg base "_law_letters" ["_law_state", "_law_many", "_law_most"] 3 spLetters) (A7 : Has P w K mg base "_law_blown" ["_law_state", "_law_machine_here"] 3 spBlown) (A8 : Has P w K mg base "_law_beside" ["_law_state", "_law_machine_here", "_law_answers"] 4 spBeside)
    (A9 : Has P w K mg base "_law_right" ["_law_one", "_law_other", "_law_plan_here", "_law_run", "_law_cycle"] 7 spRight) (AM : Has P w K mg base "merged" ["machine"] 3 spMerged) (AR : Has P w K mg base "rooms_of" ["machine"] 1 spRooms) :
    FnOk P w K mg base CX0 8 f fd ["_law_script"] (spLaw K) := by
  obtain ⟨f1, fd1, G1, g1, k1, b1⟩ := A1.ex
  obtain ⟨f2, fd2, G2, g2', k2, b2⟩ := A2.ex
  obtain ⟨f3, fd3, G3, g3, k3, b3⟩ := A3.ex
  obtain ⟨f4, fd4, G4, g4, k4, b4⟩ := A4.ex
  obtain ⟨f5, fd5, G5, g5, k5, b5⟩ := A5.ex
  obtain ⟨f6, fd6, G6, g6, k6, b6⟩ := A6.ex
  obtain ⟨f7, fd7, G7, g7, k7, b7⟩ := A7.ex
  obtain ⟨f8, fd8, G8, g8, k8, b8⟩ := A8.ex
  obtain ⟨f9, fd9, G9, g9, k9, b9⟩ := A9.ex
  obtain ⟨fM, fdM, GM, gM, kM, bM⟩ := AM.ex
  obtain ⟨fR, fdR, GR, gR, kR, bR⟩ := AR.ex
  refine F.ok scLaw (fun vs H Q E h => ?_) (fun cdv A outer s H vs Q E hr h => ?_)
  · obtain ⟨_, _, rfl, _⟩ := h
    rfl
  · obtain ⟨c, cs, rfl, hc, q⟩ := h
    have hr1 : L2.Room 1 _ := hr.mono (by decide)
    have hr2 : L2.Room 2 _ := hr.mono (by decide)
    have hr3 : L2.Room 3 _ := hr.mono (by decide)
    have hr4 : L2.Room 4 _ := hr.mono (by decide)
    refine ⟨_, pss_cons (ps_set (i := 1) scLaw.nd rfl (Or.inl rfl) (pe_call G1 hr1 (by rfl) g1 k1 b1 .nil pass0 (pa_cons (pv 0) pa_nil)))
      (pss_cons (ps_for PassesOwn.never rfl (pi_range1 (by rfl) T.range_ (pa_cons (pe_callB (call_max2 rfl) (by rfl) T.max_ boot_max_ (pa_cons pe_int (pa_cons (pe_callB (call_min2 rfl) (by rfl) T.min_ boot_min_ (pa_cons (pe_callB call_len_seq (by rfl) T.len_ PySem.boot_len (pa_cons (pv 0) pa_nil)) (pa_cons pe_int pa_nil))) pa_nil))) pa_nil)) (pg_name (i := 2) scLaw.nd rfl (Or.inl rfl))
        (pss_cons (ps_expr (pe_call G2 hr2 (by rfl) g2' k2 b2 .nil pass0 (pa_cons (pv 1) (pa_cons (pv 2) pa_nil))))
        (pss_cons (ps_par (i := 3) (j := 4) rfl scLaw.nd rfl rfl (by decide) rfl rfl (pa_cons (pe_op op_shl pe_int (pe_call G3 hr2 (by rfl) g3 k3 b3 .nil pass0 (pa_cons (pv 1) (pa_cons pe_int pa_nil)))) (pa_cons (pe_op op_shl pe_int (pe_call G3 hr2 (by rfl) g3 k3 b3 .nil pass0 (pa_cons (pv 1) (pa_cons pe_int pa_nil)))) pa_nil)) rfl)
        (pss_cons (ps_set (i := 5) scLaw.nd rfl (Or.inl rfl) (pe_call G4 hr3 (by rfl) g4 k4 b4 .nil pass0 (pa_cons (pv 1) (pa_cons (pv 3) (pa_cons (pv 4) (pa_cons (pe_op op_add pe_int (pe_call G3 hr2 (by rfl) g3 k3 b3 .nil pass0 (pa_cons (pv 1) (pa_cons pe_int pa_nil)))) pa_nil))))))
        (pss_cons (ps_set (i := 6) scLaw.nd rfl (Or.inl rfl) (pe_call G5 hr3 (by rfl) g5 k5 b5 .nil pass0 (pa_cons (pv 1) (pa_cons (pv 3) (pa_cons (pv 4) (pa_cons (pe_op op_add pe_int (pe_call G3 hr2 (by rfl) g3 k3 b3 .nil pass0 (pa_cons (pv 1) (pa_cons pe_int pa_nil)))) pa_nil))))))
        (pss_cons (ps_set (i := 7) scLaw.nd rfl (Or.inl rfl) (pe_call G6 hr3 (by rfl) g6 k6 b6 .nil pass0 (pa_cons (pv 1) (pa_cons (pv 3) (pa_cons pe_int pa_nil)))))
        (pss_cons (ps_set (i := 8) scLaw.nd rfl (Or.inl rfl) (pe_tup (pa_cons (pe_call G6 hr3 (by rfl) g6 k6 b6 .nil pass0 (pa_cons (pv 1) (pa_cons (pv 3) (pa_cons pe_int pa_nil)))) (pa_cons (pe_op op_catA (pe_call G6 hr3 (by rfl) g6 k6 b6 .nil pass0 (pa_cons (pv 1) (pa_cons (pv 3) (pa_cons pe_int pa_nil)))) (pe_tup (pa_cons (pe_call G3 hr2 (by rfl) g3 k3 b3 .nil pass0 (pa_cons (pv 1) (pa_cons (pv 3) pa_nil))) pa_nil))) pa_nil))))
        (pss_cons (ps_set (i := 9) scLaw.nd rfl (Or.inl rfl) (pe_call G7 hr3 (by rfl) g7 k7 b7 .nil pass0 (pa_cons (pv 1) (pa_cons (pv 5) pa_nil))))
        (pss_cons (ps_if (PW.pt (pw_or (pt_not (pt_val (pe_call G9 hr (by rfl) g9 k9 b9 .nil pass0 (pa_cons (pv 5) (pa_cons (pv 9) (pa_cons (pv 6) (pa_cons (pv 7) (pa_cons (pv 8) pa_nil))))))))
            (pw_or1 (pt_not (pt_val (pe_call G9 hr (by rfl) g9 k9 b9 .nil pass0 (pa_cons (pv 5) (pa_cons (pe_call GM hr3 (by rfl) gM kM bM .nil pass0 (pa_cons (pv 5) pa_nil)) (pa_cons (pv 6) (pa_cons (pv 7) (pa_cons (pv 8) pa_nil)))))))))))  (pss_one (ps_ret pe_bl)) pss_nil)
        (pss_cons (ps_if (pt_not (pt_val (pe_call G9 hr (by rfl) g9 k9 b9 .nil pass0 (pa_cons (pv 5) (pa_cons (pe_call G8 hr4 (by rfl) g8 k8 b8 .nil pass0 (pa_cons (pv 1) (pa_cons (pv 9) (pa_cons (pv 4) pa_nil)))) (pa_cons (pv 6) (pa_cons (pv 7) (pa_cons (pv 8) pa_nil)))))))) (pss_one (ps_ret pe_bl)) pss_nil)
        (pss_one (ps_if (pt_cmpR (op_neD hr.units) (pe_call GR hr1 (by rfl) gR kR bR .nil pass0 (pa_cons (pe_call GM hr3 (by rfl) gM kM bM .nil pass0 (pa_cons (pv 9) pa_nil)) pa_nil))
            (pe_tupRg rfl (by rfl) T.tuple_ (prg_1 (by rfl) T.range_ (pe_callB call_len_seq (by rfl) T.len_ PySem.boot_len (pa_cons (pe_call GM hr3 (by rfl) gM kM bM .nil pass0 (pa_cons (pv 5) pa_nil)) pa_nil)))) (nomark _)) (pss_one (ps_ret pe_bl)) pss_nil))))))))))))
      (pss_one (ps_ret pe_bl))), ?_⟩
    refine ⟨_, rfl, c, rfl, fun d H1 s1 nd st1 => ?_⟩
    have hc1 := sql_same hc s1
    obtain ⟨n, hn1, hn30, en⟩ : ∃ n : Nat, 1 ≤ n ∧ n ≤ 30 ∧ (if (if (30 : Int) < (((cs.map V.int).length : Nat) : Int) then (30 : Int) else (((cs.map V.int).length : Nat) : Int)) > (1 : Int) then (if (30 : Int) < (((cs.map V.int).length : Nat) : Int) then (30 : Int) else (((cs.map V.int).length : Nat) : Int)) else (1 : Int)) = (n : Int) := by
      by_cases z : (30 : Int) < (((cs.map V.int).length : Nat) : Int)
      · rw [if_pos z]
        exact ⟨30, by decide, by decide, rfl⟩
      · rw [if_neg z]
        by_cases z2 : (((cs.map V.int).length : Nat) : Int) > 1
        · rw [if_pos z2]
          exact ⟨_, by omega, by omega, rfl⟩
        · rw [if_neg z2]
          exact ⟨1, by decide, by decide, rfl⟩
    refine ⟨_, rfl, c, _, rfl, .inl hc1, _, _, rfl, _, _, rfl, _, rfl, ?_⟩
    rw [en]
    refine ⟨by omega, by omega, ?_⟩
    refine for_range (lo := 0) (n := ((n : Nat) : Int).toNat) (fun i σ H2 => ∃ x2 x3 x4 x5 x6 x7 x8 x9 N, σ = [some (.ref c), some (.ref d), x2, x3, x4, x5, x6, x7, x8, x9] ∧ Same H H2 ∧ IsSt c N H2 d)
      ⟨none, none, none, none, none, none, none, none, 0, rfl, s1, st1⟩ ?_ ?_
    · rintro i σ H2 hi ⟨y2, y3, y4, y5, y6, y7, y8, y9, N, rfl, s2, st2⟩
      have hi : i < n := by omega
      rw [Int.zero_add]
      have hdn : H2 d ≠ none := by
        obtain ⟨_, _, _, e, _⟩ := st2
        rw [e]
        exact fun z => nomatch z
      refine ⟨_, rfl, _, rfl, c, d, cs, i, N, rfl, st2, sql_same hc s2, hdn, by omega, fun H3 x3 st3 => ?_⟩
      refine ⟨_, rfl, c, d, _, 4, rfl, st3, by omega, by omega, by omega, fun j1 H4 hj1 x4 st4 => ?_⟩
      refine ⟨_, _, rfl, rfl, ⟨by omega, by omega, by decide⟩, ?_⟩
      refine ⟨_, rfl, c, d, _, 4, rfl, st4, by omega, by omega, by omega, fun j2 H5 hj2 x5 st5 => ?_⟩
      refine ⟨_, _, rfl, rfl, ⟨by omega, by omega, by decide⟩, ?_⟩
      refine ⟨nv (2 ^ j1), nv (2 ^ j2), (by show [V.int (1 * 2 ^ ((j1 : Int)).toNat), V.int (1 * 2 ^ ((j2 : Int)).toNat)] = _; rw [shl_nat, shl_nat]), ?_⟩
      have hk1 : 1 ≤ 2 ^ j1 := Nat.one_le_two_pow
      have hk8 : 2 ^ j1 ≤ 2 ^ 3 := Nat.pow_le_pow_right (by decide) (by omega)
      have ha1 : 1 ≤ 2 ^ j2 := Nat.one_le_two_pow
      have ha8 : 2 ^ j2 ≤ 2 ^ 3 := Nat.pow_le_pow_right (by decide) (by omega)
      generalize 2 ^ j1 = k at hk1 hk8 ⊢
      generalize 2 ^ j2 = a at ha1 ha8 ⊢
      refine ⟨_, rfl, _, rfl, _, rfl, _, rfl, c, d, _, 6, rfl, st5, by omega, by omega, by omega, fun j3 H6 hj3 x6 st6 => ?_⟩
      refine ⟨_, _, rfl, rfl, c, d, _, k, a, 1 + j3, (by show [V.ref d, nv k, nv a, V.int (1 + (j3 : Int))] = _; rw [one_nat]), st6, by omega, hk1, by omega, ha1, by omega, by omega, by omega, fun v M H7 x7 st7 hM WM hMl => ?_⟩
      refine ⟨_, rfl, _, rfl, _, rfl, _, rfl, c, d, _, 6, rfl, st7, by omega, by omega, by omega, fun j4 H8 hj4 x8 st8 => ?_⟩
      refine ⟨_, _, rfl, rfl, c, d, _, k, a, 1 + j4, (by show [V.ref d, nv k, nv a, V.int (1 + (j4 : Int))] = _; rw [one_nat]), st8, by omega, hk1, by omega, ha1, by omega, by omega, by omega, fun pl Pl H9 x9 st9 hP WQ hPl => ?_⟩
      refine ⟨_, rfl, _, rfl, c, d, _, k, 30, rfl, st9, by omega, hk1, by omega, by omega, fun vx u H10 x10 st10 hx hu hul => ?_⟩
      refine ⟨_, rfl, _, rfl, c, d, _, k, 5, rfl, st10, by omega, hk1, by omega, by omega, fun v1 s0 H11 x11 st11 hv1 hs0 hs0l => ?_⟩
      refine ⟨_, rfl, _, rfl, c, d, _, k, 3, rfl, st11, by omega, hk1, by omega, by omega, fun v2 r1 H12 x12 st12 hv2 hr1' hr1l => ?_⟩
      refine ⟨_, rfl, _, rfl, c, d, _, k, rfl, st12, by omega, hk1, by omega, fun j5 H13 hj5 x13 st13 => ?_⟩
      refine ⟨by show 1 ≤ sizeLine; decide, fun t nt => ?_⟩
      have s14 := same_new (o := .tup [nv j5]) nt
      have hv2' := (hv2.mono (st12.tups x13)).mono s14.tups
      refine cat_tp hv2' ⟨t, rfl, upd_same⟩ (by rw [List.length_map, List.length_singleton]; omega) fun v3 H15 s15 hv3 => ?_
      refine ⟨by show 2 ≤ sizeLine; decide, fun o no => ?_⟩
      have s16 := same_new (o := .tup [v1, v3]) no
      have sz := (s14.trans s15).trans s16
      have st16 := st13.same sz
      have t12 : TupS H12 _ := (st12.tups x13).trans sz.tups
      have t11 := (st11.tups x12).trans t12
      have t10 := (st10.tups x11).trans t11
      have t9 := (st9.tups x10).trans t10
      have t8 := (st8.tups x9).trans t9
      have t7 := (st7.tups x8).trans t8
      have hv3' : IsInts H15 v3 (r1 ++ [j5]) := by
        rw [IsInts, List.map_append]
        exact hv3
      have hM' := hM.mono t7
      refine ⟨_, rfl, _, rfl, c, d, _, v, M, k, a, rfl, st16, by omega, hM', WM, by omega, by omega, fun vo O H17 x17 st17 hO WO S hOl => ?_⟩
      have t17 := st16.tups x17
      have hr0 : ∀ cc ∈ r1 ++ [j5], cc < k := fun cc hcc => by
        rcases List.mem_append.mp hcc with h | h
        · exact hr1' cc h
        · rw [List.mem_singleton.mp h]; exact hj5
      have FA : Facts H17 v vo pl vx (.ref o) v1 v3 M O Pl k a u s0 (r1 ++ [j5]) :=
        ⟨hM'.mono t17, hO, (hP.mono t9).mono t17, WM, WO, WQ, by omega, hOl, by omega, (hx.mono t10).mono t17, hu, hul, ⟨o, rfl, t17 _ _ upd_same⟩, (hv1.mono t11).mono t17, (hv3'.mono s16.tups).mono t17, hs0, hr0, hs0l, by rw [List.length_append, List.length_singleton]; omega, by rw [List.length_append, List.length_singleton]; omega, by omega⟩
      refine ⟨_, rfl, _, rfl, _, rfl, _, rfl, _, rfl, v, vo, pl, vx, .ref o, v1, v3, M, O, Pl, k, a, u, s0, r1 ++ [j5], rfl, FA, fun H18 s18 => ?_⟩
      refine ⟨true, rfl, iteF ?_⟩
      have FB := FA.mono s18.tups
      refine ⟨_, rfl, _, rfl, v, M, k, a, rfl, FB.one, WM, by omega, by omega, fun vN N1 H19 s19 hN mN => ?_⟩
      have FC := FB.mono s19.tups
      have nl := mN.len WM
      have FD : Facts H19 v vN pl vx (.ref o) v1 v3 M N1 Pl k a u s0 (r1 ++ [j5]) := { FC with other := hN, wo := mN.wf WM, l2 := by omega }
      refine ⟨_, rfl, _, rfl, _, rfl, v, vN, pl, vx, .ref o, v1, v3, M, N1, Pl, k, a, u, s0, r1 ++ [j5], rfl, FD, fun H20 s20 => ?_⟩
      refine ⟨true, rfl, iteF ?_⟩
      have FE := FC.mono s20.tups
      have sB := (s18.trans s19).trans s20
      have st20 := st17.same sB
      refine ⟨_, rfl, _, rfl, _, rfl, _, rfl, c, d, _, vo, O, k, a, rfl, st20, by omega, FE.other, WO, hOl, by omega, ha1, by omega, fun vb Bm H21 x21 st21 hB WB hBl => ?_⟩
      have FF := FE.mono (st20.tups x21)
      have FG : Facts H21 v vb pl vx (.ref o) v1 v3 M Bm Pl k a u s0 (r1 ++ [j5]) := { FF with other := hB, wo := WB, l2 := hBl }
      refine ⟨_, rfl, _, rfl, _, rfl, v, vb, pl, vx, .ref o, v1, v3, M, Bm, Pl, k, a, u, s0, r1 ++ [j5], rfl, FG, fun H22 s22 => ?_⟩
      refine ⟨true, rfl, iteF ?_⟩
      have FH := FF.mono s22.tups
      refine ⟨_, rfl, vo, O, k, a, rfl, FH.other, WO, by omega, by omega, fun vN2 N2 H23 s23 hN2 mN2 => ?_⟩
      have nl2 := mN2.len WO
      refine ⟨vN2, N2, k, a, rfl, hN2, mN2.wf WO, by omega, fun vG G H24 s24 hG B2 => ?_⟩
      have FI := FH.mono (s23.trans s24).tups
      refine ⟨_, rfl, v, M, k, a, rfl, FI.one, WM, by omega, by omega, fun vN3 N3 H25 s25 hN3 mN3 => ?_⟩
      obtain ⟨vs3, ⟨p3, rfl, hp3⟩, hs3⟩ := id hN3
      have nl3 := mN3.len WM
      have el3 := hs3.len
      refine ⟨p3, vs3, rfl, .inr (SqT.of hp3), _, rfl, RgOk.of_le (by omega) (by omega) (by omega) (by omega), fun q3 nq3 => ?_⟩
      have s26 := same_new (o := .tup (rgV 0 (vs3.length : Int))) nq3
      have eN : N2 = N3 := mN2.uniq WM.kpos mN3 S.symm
      have eG : G = List.range N3.length := by
        rw [← eN]
        exact mN2.rooms WM.kpos B2
      refine eqs_ints.rne (x := G) (y := List.range N3.length) ((hG.mono s25.tups).mono s26.tups) ⟨q3, rfl, by rw [upd_same, rg_nat, el3]⟩ ⟨_, rfl, ?_⟩
      refine ite2 (fun e => by rw [decide_eq_true eG] at e; simp at e) (fun _ => ?_)
      have sC := (((s22.trans s23).trans s24).trans s25).trans s26
      have xA := ((((((((((x3.trans x4).trans x5).trans x6).trans x7).trans x8).trans x9).trans x10).trans x11).trans x12).trans x13).trans sz.x
      have xB := (((xA.trans x17).trans sB.x).trans x21).trans sC.x
      exact ⟨_, _, _, _, _, _, _, _, _, rfl, samex_same s2 nd xB, st21.same sC⟩
    · rintro σ H2 _
      exact q H2
end
end Wk
set_option Elab.async false
set_option linter.all false
set_option maxRecDepth 100000
set_option maxHeartbeats 0
/-! The head: what stands behind the top, by names; then the law. -/
namespace Wk
open PySem PySem.Spec PyProof.Rows L2
def hd0 : He.DefD := ⟨("is_among", none), "is_among", "is_among", defArgs (top 6), defBody (top 6), defScope (top 6), [], []⟩
def hd1 : He.DefD := ⟨("least_round", none), "least_round", "least_round", defArgs (top 7), defBody (top 7), defScope (top 7), [], []⟩
def hd2 : He.DefD := ⟨("lean", none), "lean", "lean", defArgs (top 8), defBody (top 8), defScope (top 8), [], []⟩
def hd3 : He.DefD := ⟨("is_run", none), "is_run", "is_run", defArgs (top 11), defBody (top 11), defScope (top 11), [], []⟩
def hd4 : He.DefD := ⟨("need_run", none), "need_run", "need_run", defArgs (top 12), defBody (top 12), defScope (top 12), [], []⟩
def hd5 : He.DefD := ⟨("need_cycle", none), "need_cycle", "need_cycle", defArgs (top 13), defBody (top 13), defScope (top 13), [], []⟩
def hd6 : He.DefD := ⟨("told_loop", none), "told_loop", "told_loop", defArgs (top 14), defBody (top 14), defScope (top 14), [], []⟩
def hd7 : He.DefD := ⟨("step", none), "step", "step", defArgs (top 15), defBody (top 15), defScope (top 15), [], []⟩
def hd8 : He.DefD := ⟨("turns_from", none), "turns_from", "turns_from", defArgs (top 16), defBody (top 16), defScope (top 16), [], []⟩
def hd9 : He.DefD := ⟨("turns_of", none), "turns_of", "turns_of", defArgs (top 17), defBody (top 17), defScope (top 17), [], []⟩
def hd10 : He.DefD := ⟨("loop_by", none), "loop_by", "loop_by", defArgs (top 18), defBody (top 18), defScope (top 18), [], []⟩
def hd11 : He.DefD := ⟨("keeps_to", none), "keeps_to", "keeps_to", defArgs (top 19), defBody (top 19), defScope (top 19), [], []⟩
def hd12 : He.DefD := ⟨("goes", none), "goes", "goes", defArgs (top 20), defBody (top 20), defScope (top 20), [], []⟩
def hd13 : He.DefD := ⟨("rooms_of", none), "rooms_of", "rooms_of", defArgs (top 21), defBody (top 21), defScope (top 21), [], []⟩
def hd14 : He.DefD := ⟨("answers_in", none), "answers_in", "answers_in", defArgs (top 23), defBody (top 23), defScope (top 23), [], []⟩
def hd15 : He.DefD := ⟨("alike", none), "alike", "alike", defArgs (top 24), defBody (top 24), defScope (top 24), [], []⟩
def hd16 : He.DefD := ⟨("numbered", none), "numbered", "numbered", defArgs (top 25), defBody (top 25), defScope (top 25), [], []⟩
def hd17 : He.DefD := ⟨("classes_of", none), "classes_of", "classes_of", defArgs (top 26), defBody (top 26), defScope (top 26), [], []⟩
def hd18 : He.DefD := ⟨("merged", none), "merged", "merged", defArgs (top 27), defBody (top 27), defScope (top 27), [], []⟩
def hd19 : He.DefD := ⟨("keeps_by", none), "keeps_by", "keeps_by", defArgs (top 29), defBody (top 29), defScope (top 29), [], []⟩
def hd20 : He.DefD := ⟨("goes_by", none), "goes_by", "goes_by", defArgs (top 30), defBody (top 30), defScope (top 30), [], []⟩
def hd21 : He.DefD := ⟨("loop_of_both", none), "loop_of_both", "loop_of_both", defArgs (top 31), defBody (top 31), defScope (top 31), [], []⟩
def hd22 : He.DefD := ⟨("_law_mixed", none), "_law_mixed", "_law_mixed", defArgs (top 33), defBody (top 33), defScope (top 33), [], []⟩
def hd23 : He.DefD := ⟨("_law_begun", none), "_law_begun", "_law_begun", defArgs (top 34), defBody (top 34), defScope (top 34), [], []⟩
def hd24 : He.DefD := ⟨("_law_open", none), "_law_open", "_law_open", defArgs (top 35), defBody (top 35), defScope (top 35), [], []⟩
def hd25 : He.DefD := ⟨("_law_draw", none), "_law_draw", "_law_draw", defArgs (top 36), defBody (top 36), defScope (top 36), [], []⟩
def hd26 : He.DefD := ⟨("_law_machine", none), "_law_machine", "_law_machine", defArgs (top 37), defBody (top 37), defScope (top 37), [], []⟩
def hd27 : He.DefD := ⟨("_law_plan", none), "_law_plan", "_law_plan", defArgs (top 38), defBody (top 38), defScope (top 38), [], []⟩
def hd28 : He.DefD := ⟨("_law_letters", none), "_law_letters", "_law_letters", defArgs (top 39), defBody (top 39), defScope (top 39), [], []⟩
def hd29 : He.DefD := ⟨("_law_blown", none), "_law_blown", "_law_blown", defArgs (top 40), defBody (top 40), defScope (top 40), [], []⟩
def hd30 : He.DefD := ⟨("_law_beside", none), "_law_beside", "_law_beside", defArgs (top 41), defBody (top 41), defScope (top 41), [], []⟩
def hd31 : He.DefD := ⟨("_law_like", none), "_law_like", "_law_like", defArgs (top 42), defBody (top 42), defScope (top 42), [], []⟩
def hd32 : He.DefD := ⟨("_law_parted", none), "_law_parted", "_law_parted", defArgs (top 43), defBody (top 43), defScope (top 43), [], []⟩
def hd33 : He.DefD := ⟨("_law_right", none), "_law_right", "_law_right", defArgs (top 44), defBody (top 44), defScope (top 44), [], []⟩
def hd34 : He.DefD := ⟨("law", none), "law", "law", defArgs (top 45), defBody (top 45), defScope (top 45), [], []⟩
def hdAll : List He.DefD := [hd0, hd1, hd2, hd3, hd4, hd5, hd6, hd7, hd8, hd9, hd10, hd11, hd12, hd13, hd14, hd15, hd16, hd17, hd18, hd19, hd20, hd21, hd22, hd23, hd24, hd25, hd26, hd27, hd28, hd29, hd30, hd31, hd32, hd33, hd34]
def fa1 : List He.Fa := [.glo "is_among", .glo "least_round", .glo "lean", .glo "is_run", .glo "need_run", .glo "need_cycle", .glo "told_loop", .glo "step", .glo "turns_from", .glo "turns_of", .glo "loop_by", .glo "keeps_to", .glo "goes", .glo "rooms_of", .glo "answers_in", .glo "alike", .glo "numbered", .glo "classes_of", .glo "merged", .glo "keeps_by", .glo "goes_by", .glo "loop_of_both", .glo "_law_mixed", .glo "_law_begun", .glo "_law_open"]
def fa2 : List He.Fa := [.glo "_law_draw", .glo "_law_machine", .glo "_law_plan", .glo "_law_letters", .glo "_law_blown", .glo "_law_beside", .glo "_law_like", .glo "_law_parted", .glo "_law_right", .glo "law", .free "isinstance", .free "int", .free "bool", .free "range", .free "len", .free "tuple", .free "all", .free "dict", .free "zip", .free "enumerate", .free "min", .free "max", .free "abs", .int "MOST_TURNS" 200, .int "MOST_LETTERS" 10000]
def faAll : List He.Fa := fa1 ++ fa2
def nm1 : List Str := ["WishError", "BadRun", "TooGreat", "MOST_TURNS", "MOST_LETTERS", "is_among", "least_round", "lean", "is_run", "need_run", "need_cycle", "told_loop", "step", "turns_from", "turns_of", "loop_by", "keeps_to", "goes", "rooms_of"]
def nm2 : List Str := ["answers_in", "alike", "numbered", "classes_of", "merged", "keeps_by", "goes_by", "loop_of_both", "_law_mixed", "_law_begun", "_law_open", "_law_draw", "_law_machine", "_law_plan", "_law_letters", "_law_blown", "_law_beside", "_law_like", "_law_parted", "_law_right"]
def nmAll : List Str := nm1 ++ nm2
abbrev Rw : PySem.W.OpenRow := PySem.W.OpenLaw.row PySem.Challenge.rw_wishkeep_k31_whole_rooms_dont_matter
abbrev hk : PySem.W.Hook := He.hookD 2 faAll hdAll
def ob (s : PySem.W.SharedT) : He.AlD := He.obsDG 2 faAll hdAll (HandSHeadRun.getT s)
theorem ob_eq (s : PySem.W.SharedT) : ob s = hk.obs s.abs := He.obsDG_eq (HandSHeadRun.getT_eq s)
theorem run (w : World) : HandSHeadRun.RunEq Rw (PySem.W.view Rw.prog [45]) hk ob 2000 nmAll w := by
  intro os
  kernel_rfl
theorem facts {P : Program} {w : World} {K : PySem.W.Frag} {h : Heap} {mg : Str → Option Value} {f : Addr} (X : K.In h) (G : h.Ns mainGlobals mg) (hfa : mg ("law" : Str) = some (.ref f)) (c : He.SaysD faAll hdAll K) :
    ∃ fd : FuncData, (∀ (s : Shared) (v : Value), BindsTo s fd ⟨[v], []⟩ [("_law_script", v)]) ∧ ∀ base : Heap, K.In base → base.Ns mainGlobals mg → FnOk P w K mg base CX0 8 f fd ["_law_script"] (spLaw K) := by
  obtain ⟨fd0, F0⟩ := c.def_ 0 (d := hd0) rfl
  obtain ⟨fd1, F1⟩ := c.def_ 1 (d := hd1) rfl
  obtain ⟨fd2, F2⟩ := c.def_ 2 (d := hd2) rfl
  obtain ⟨fd3, F3⟩ := c.def_ 3 (d := hd3) rfl
  obtain ⟨fd4, F4⟩ := c.def_ 4 (d := hd4) rfl
  obtain ⟨fd5, F5⟩ := c.def_ 5 (d := hd5) rfl
  obtain ⟨fd6, F6⟩ := c.def_ 6 (d := hd6) rfl
  obtain ⟨fd7, F7⟩ := c.def_ 7 (d := hd7) rfl
  obtain ⟨fd8, F8⟩ := c.def_ 8 (d := hd8) rfl
  obtain ⟨fd9, F9⟩ := c.def_ 9 (d := hd9) rfl
  obtain ⟨fd10, F10⟩ := c.def_ 10 (d := hd10) rfl
  obtain ⟨fd11, F11⟩ := c.def_ 11 (d := hd11) rfl
  obtain ⟨fd12, F12⟩ := c.def_ 12 (d := hd12) rfl
  obtain ⟨fd13, F13⟩ := c.def_ 13 (d := hd13) rfl
  obtain ⟨fd14, F14⟩ := c.def_ 14 (d := hd14) rfl
  obtain ⟨fd15, F15⟩ := c.def_ 15 (d := hd15) rfl
  obtain ⟨fd16, F16⟩ := c.def_ 16 (d := hd16) rfl
  obtain ⟨fd17, F17⟩ := c.def_ 17 (d := hd17) rfl
  obtain ⟨fd18, F18⟩ := c.def_ 18 (d := hd18) rfl
  obtain ⟨fd19, F19⟩ := c.def_ 19 (d := hd19) rfl
  obtain ⟨fd20, F20⟩ := c.def_ 20 (d := hd20) rfl
  obtain ⟨fd21, F21⟩ := c.def_ 21 (d := hd21) rfl
  obtain ⟨fd22, F22⟩ := c.def_ 22 (d := hd22) rfl
  obtain ⟨fd23, F23⟩ := c.def_ 23 (d := hd23) rfl
  obtain ⟨fd24, F24⟩ := c.def_ 24 (d := hd24) rfl
  obtain ⟨fd25, F25⟩ := c.def_ 25 (d := hd25) rfl
  obtain ⟨fd26, F26⟩ := c.def_ 26 (d := hd26) rfl
  obtain ⟨fd27, F27⟩ := c.def_ 27 (d := hd27) rfl
  obtain ⟨fd28, F28⟩ := c.def_ 28 (d := hd28) rfl
  obtain ⟨fd29, F29⟩ := c.def_ 29 (d := hd29) rfl
  obtain ⟨fd30, F30⟩ := c.def_ 30 (d := hd30) rfl
  obtain ⟨fd31, F31⟩ := c.def_ 31 (d := hd31) rfl
  obtain ⟨fd32, F32⟩ := c.def_ 32 (d := hd32) rfl
  obtain ⟨fd33, F33⟩ := c.def_ 33 (d := hd33) rfl
  obtain ⟨fd34, F34⟩ := c.def_ 34 (d := hd34) rfl
  have T : Txt mg := { isinst := He.free_ok X G (c.fact 35 (f := .free "isinstance") rfl), int_ := He.free_ok X G (c.fact 36 (f := .free "int") rfl), bool_ := He.free_ok X G (c.fact 37 (f := .free "bool") rfl), range_ := He.free_ok X G (c.fact 38 (f := .free "range") rfl), len_ := He.free_ok X G (c.fact 39 (f := .free "len") rfl), tuple_ := He.free_ok X G (c.fact 40 (f := .free "tuple") rfl), all_ := He.free_ok X G (c.fact 41 (f := .free "all") rfl), dict_ := He.free_ok X G (c.fact 42 (f := .free "dict") rfl), zip_ := He.free_ok X G (c.fact 43 (f := .free "zip") rfl), enum_ := He.free_ok X G (c.fact 44 (f := .free "enumerate") rfl), min_ := He.free_ok X G (c.fact 45 (f := .free "min") rfl), max_ := He.free_ok X G (c.fact 46 (f := .free "max") rfl), abs_ := He.free_ok X G (c.fact 47 (f := .free "abs") rfl), turns_ := He.int_ok X G (c.fact 48 (f := .int "MOST_TURNS" 200) rfl), letters_ := He.int_ok X G (c.fact 49 (f := .int "MOST_LETTERS" 10000) rfl) }
  have e := hfa.symm.trans (He.glo_ok X G (c.fact 34 (f := .glo "law") rfl))
  cases e
  have b := FunD.bindsA (ps := ["_law_script"]) F34 fun _ _ _ _ _ _ us hl => match us, hl with | [_], _ => rfl
  refine ⟨fd34, fun s v => b s [v] rfl, fun base _ _ => ?_⟩
  have A0 : Has P w K mg base "is_among" ["thing", "least", "most"] 1 spAmong := ⟨_, _, ok_among (He5.fun_of F0) T, He.glo_ok X G (c.fact 0 (f := .glo "is_among") rfl), F0.kp, F0.bindsN fun _ _ _ _ _ _ us hl => match us, hl with | [_, _, _], _ => rfl⟩
  have A1 : Has P w K mg base "least_round" ["around"] 1 spLeast := ⟨_, _, ok_least (He5.fun_of F1) T, He.glo_ok X G (c.fact 1 (f := .glo "least_round") rfl), F1.kp, F1.bindsN fun _ _ _ _ _ _ us hl => match us, hl with | [_], _ => rfl⟩
  have A2 : Has P w K mg base "lean" ["loop"] 2 spLean := ⟨_, _, ok_lean (He5.fun_of F2) A1, He.glo_ok X G (c.fact 2 (f := .glo "lean") rfl), F2.kp, F2.bindsN fun _ _ _ _ _ _ us hl => match us, hl with | [_], _ => rfl⟩
  have A3 : Has P w K mg base "is_run" ["many", "thing"] 2 spRun := ⟨_, _, ok_isrun (He5.fun_of F3) T A0, He.glo_ok X G (c.fact 3 (f := .glo "is_run") rfl), F3.kp, F3.bindsN fun _ _ _ _ _ _ us hl => match us, hl with | [_, _], _ => rfl⟩
  have A4 : Has P w K mg base "need_run" ["many", "thing"] 3 spNeedRun := ⟨_, _, ok_needrun (He5.fun_of F4) A3, He.glo_ok X G (c.fact 4 (f := .glo "need_run") rfl), F4.kp, F4.bindsN fun _ _ _ _ _ _ us hl => match us, hl with | [_, _], _ => rfl⟩
  have A5 : Has P w K mg base "need_cycle" ["many", "thing"] 4 spNeedCycle := ⟨_, _, ok_needcycle (He5.fun_of F5) T A4, He.glo_ok X G (c.fact 5 (f := .glo "need_cycle") rfl), F5.kp, F5.bindsN fun _ _ _ _ _ _ us hl => match us, hl with | [_, _], _ => rfl⟩
  have A6 : Has P w K mg base "told_loop" ["stem", "around"] 3 spTold := ⟨_, _, ok_told (He5.fun_of F6) T A2, He.glo_ok X G (c.fact 6 (f := .glo "told_loop") rfl), F6.kp, F6.bindsN fun _ _ _ _ _ _ us hl => match us, hl with | [_, _], _ => rfl⟩
  have A7 : Has P w K mg base "step" ["machine", "room", "came"] 1 spStep := ⟨_, _, ok_step (He5.fun_of F7), He.glo_ok X G (c.fact 7 (f := .glo "step") rfl), F7.kp, F7.bindsN fun _ _ _ _ _ _ us hl => match us, hl with | [_, _, _], _ => rfl⟩
  have A8 : Has P w K mg base "turns_from" ["machine", "room", "run"] 2 spFrom := ⟨_, _, ok_from (He5.fun_of F8) A7, He.glo_ok X G (c.fact 8 (f := .glo "turns_from") rfl), F8.kp, F8.bindsN fun _ _ _ _ _ _ us hl => match us, hl with | [_, _, _], _ => rfl⟩
  have A9 : Has P w K mg base "turns_of" ["machine", "run"] 4 spTurns := ⟨_, _, ok_turns (He5.fun_of F9) T A4 A8, He.glo_ok X G (c.fact 9 (f := .glo "turns_of") rfl), F9.kp, F9.bindsN fun _ _ _ _ _ _ us hl => match us, hl with | [_, _], _ => rfl⟩
  have A10 : Has P w K mg base "loop_by" ["machine", "cycle"] 5 spLoopBy := ⟨_, _, ok_loopby (He5.fun_of F10) T A5 A8 A6, He.glo_ok X G (c.fact 10 (f := .glo "loop_by") rfl), F10.kp, F10.bindsN fun _ _ _ _ _ _ us hl => match us, hl with | [_, _], _ => rfl⟩
  have A11 : Has P w K mg base "keeps_to" ["machine", "room", "turns"] 2 spKeeps := ⟨_, _, ok_keeps (He5.fun_of F11) A7, He.glo_ok X G (c.fact 11 (f := .glo "keeps_to") rfl), F11.kp, F11.bindsN fun _ _ _ _ _ _ us hl => match us, hl with | [_, _, _], _ => rfl⟩
  have A12 : Has P w K mg base "goes" ["machine", "loop"] 3 spGoes := ⟨_, _, ok_goes (He5.fun_of F12) A11, He.glo_ok X G (c.fact 12 (f := .glo "goes") rfl), F12.kp, F12.bindsN fun _ _ _ _ _ _ us hl => match us, hl with | [_, _], _ => rfl⟩
  have A13 : Has P w K mg base "rooms_of" ["machine"] 1 spRooms := ⟨_, _, ok_rooms (He5.fun_of F13) T, He.glo_ok X G (c.fact 13 (f := .glo "rooms_of") rfl), F13.kp, F13.bindsN fun _ _ _ _ _ _ us hl => match us, hl with | [_], _ => rfl⟩
  have A14 : Has P w K mg base "answers_in" ["room"] 1 spAnswers := ⟨_, _, ok_answers (He5.fun_of F14) T, He.glo_ok X G (c.fact 14 (f := .glo "answers_in") rfl), F14.kp, F14.bindsN fun _ _ _ _ _ _ us hl => match us, hl with | [_], _ => rfl⟩
  have A15 : Has P w K mg base "alike" ["machine", "other"] 1 spAlike := ⟨_, _, ok_alike (He5.fun_of F15) T, He.glo_ok X G (c.fact 15 (f := .glo "alike") rfl), F15.kp, F15.bindsN fun _ _ _ _ _ _ us hl => match us, hl with | [_, _], _ => rfl⟩
  have A16 : Has P w K mg base "numbered" ["things"] 1 spNumbered := ⟨_, _, ok_numbered (He5.fun_of F16) T, He.glo_ok X G (c.fact 16 (f := .glo "numbered") rfl), F16.kp, F16.bindsN fun _ _ _ _ _ _ us hl => match us, hl with | [_], _ => rfl⟩
  have A17 : Has P w K mg base "classes_of" ["machine", "rooms"] 2 spClasses := ⟨_, _, ok_classes (He5.fun_of F17) T A14 A16, He.glo_ok X G (c.fact 17 (f := .glo "classes_of") rfl), F17.kp, F17.bindsN fun _ _ _ _ _ _ us hl => match us, hl with | [_, _], _ => rfl⟩
  have A18 : Has P w K mg base "merged" ["machine"] 3 spMerged := ⟨_, _, ok_merged (He5.fun_of F18) T A13 A17, He.glo_ok X G (c.fact 18 (f := .glo "merged") rfl), F18.kp, F18.bindsN fun _ _ _ _ _ _ us hl => match us, hl with | [_], _ => rfl⟩
  have A19 : Has P w K mg base "keeps_by" ["plan", "room", "turns"] 1 spKeepsBy := ⟨_, _, ok_keepsby (He5.fun_of F19), He.glo_ok X G (c.fact 19 (f := .glo "keeps_by") rfl), F19.kp, F19.bindsN fun _ _ _ _ _ _ us hl => match us, hl with | [_, _, _], _ => rfl⟩
  have A20 : Has P w K mg base "goes_by" ["plan", "loop"] 2 spGoesBy := ⟨_, _, ok_goesby (He5.fun_of F20) A19, He.glo_ok X G (c.fact 20 (f := .glo "goes_by") rfl), F20.kp, F20.bindsN fun _ _ _ _ _ _ us hl => match us, hl with | [_, _], _ => rfl⟩
  have A21 : Has P w K mg base "loop_of_both" ["machine", "plan"] 4 spBoth := ⟨_, _, ok_both (He5.fun_of F21) T A7 A6, He.glo_ok X G (c.fact 21 (f := .glo "loop_of_both") rfl), F21.kp, F21.bindsN fun _ _ _ _ _ _ us hl => match us, hl with | [_, _], _ => rfl⟩
  have A22 : Has P w K mg base "_law_mixed" ["_law_cell", "_law_k"] 1 spMixed := ⟨_, _, ok_mixed (He5.fun_of F22), He.glo_ok X G (c.fact 22 (f := .glo "_law_mixed") rfl), F22.kp, F22.bindsN fun _ _ _ _ _ _ us hl => match us, hl with | [_, _], _ => rfl⟩
  have A23 : Has P w K mg base "_law_begun" ["_law_script"] 1 spBegun := ⟨_, _, ok_begun (He5.fun_of F23), He.glo_ok X G (c.fact 23 (f := .glo "_law_begun") rfl), F23.kp, F23.bindsN fun _ _ _ _ _ _ us hl => match us, hl with | [_], _ => rfl⟩
  have A24 : Has P w K mg base "_law_open" ["_law_state", "_law_k"] 2 (spOpen K) := ⟨_, _, ok_open (He5.fun_of F24) T A22, He.glo_ok X G (c.fact 24 (f := .glo "_law_open") rfl), F24.kp, F24.bindsN fun _ _ _ _ _ _ us hl => match us, hl with | [_, _], _ => rfl⟩
  have A25 : Has P w K mg base "_law_draw" ["_law_state", "_law_many"] 2 spDraw := ⟨_, _, ok_draw (He5.fun_of F25) A22, He.glo_ok X G (c.fact 25 (f := .glo "_law_draw") rfl), F25.kp, F25.bindsN fun _ _ _ _ _ _ us hl => match us, hl with | [_, _], _ => rfl⟩
  have A26 : Has P w K mg base "_law_machine" ["_law_state", "_law_comes", "_law_answers", "_law_many"] 3 spMachine := ⟨_, _, ok_machine (He5.fun_of F26) T A25, He.glo_ok X G (c.fact 26 (f := .glo "_law_machine") rfl), F26.kp, F26.bindsN fun _ _ _ _ _ _ us hl => match us, hl with | [_, _, _, _], _ => rfl⟩
  have A27 : Has P w K mg base "_law_plan" ["_law_state", "_law_comes", "_law_answers", "_law_many"] 3 spPlan := ⟨_, _, ok_plan (He5.fun_of F27) T A25, He.glo_ok X G (c.fact 27 (f := .glo "_law_plan") rfl), F27.kp, F27.bindsN fun _ _ _ _ _ _ us hl => match us, hl with | [_, _, _, _], _ => rfl⟩
  have A28 : Has P w K mg base "_law_letters" ["_law_state", "_law_many", "_law_most"] 3 spLetters := ⟨_, _, ok_letters (He5.fun_of F28) T A25, He.glo_ok X G (c.fact 28 (f := .glo "_law_letters") rfl), F28.kp, F28.bindsN fun _ _ _ _ _ _ us hl => match us, hl with | [_, _, _], _ => rfl⟩
  have A29 : Has P w K mg base "_law_blown" ["_law_state", "_law_machine_here"] 3 spBlown := ⟨_, _, ok_blown (He5.fun_of F29) T A25, He.glo_ok X G (c.fact 29 (f := .glo "_law_blown") rfl), F29.kp, F29.bindsN fun _ _ _ _ _ _ us hl => match us, hl with | [_, _], _ => rfl⟩
  have A30 : Has P w K mg base "_law_beside" ["_law_state", "_law_machine_here", "_law_answers"] 4 spBeside := ⟨_, _, ok_beside (He5.fun_of F30) T A25 A26, He.glo_ok X G (c.fact 30 (f := .glo "_law_beside") rfl), F30.kp, F30.bindsN fun _ _ _ _ _ _ us hl => match us, hl with | [_, _, _], _ => rfl⟩
  have A31 : Has P w K mg base "_law_like" ["_law_one", "_law_other", "_law_plan_here", "_law_run", "_law_cycle"] 6 spLike := ⟨_, _, ok_like (He5.fun_of F31) T A9 A21 A10 A20 A12, He.glo_ok X G (c.fact 31 (f := .glo "_law_like") rfl), F31.kp, F31.bindsN fun _ _ _ _ _ _ us hl => match us, hl with | [_, _, _, _, _], _ => rfl⟩
  have A32 : Has P w K mg base "_law_parted" ["_law_one", "_law_other", "_law_run", "_law_cycle"] 6 spParted := ⟨_, _, ok_parted (He5.fun_of F32) A9 A10 A12, He.glo_ok X G (c.fact 32 (f := .glo "_law_parted") rfl), F32.kp, F32.bindsN fun _ _ _ _ _ _ us hl => match us, hl with | [_, _, _, _], _ => rfl⟩
  have A33 : Has P w K mg base "_law_right" ["_law_one", "_law_other", "_law_plan_here", "_law_run", "_law_cycle"] 7 spRight := ⟨_, _, ok_right (He5.fun_of F33) T A15 A18 A31 A32, He.glo_ok X G (c.fact 33 (f := .glo "_law_right") rfl), F33.kp, F33.bindsN fun _ _ _ _ _ _ us hl => match us, hl with | [_, _, _, _, _], _ => rfl⟩
  exact ok_law (He5.fun_of F34) T A23 A24 A25 A26 A27 A28 A29 A30 A33 A18 A13
end Wk
open PySem PySem.W PySem.Calls PyProof.Rows
theorem PySem.Challenge.cw_wishkeep_k31_whole_rooms_dont_matter_holds : PySem.Challenge.rw_wishkeep_k31_whole_rooms_dont_matter.Holds := by
  w_on; o_law
  refine HandSHeadRun.head_any (r := OpenLaw.row PySem.Challenge.rw_wishkeep_k31_whole_rooms_dont_matter) (q := view (OpenLaw.row PySem.Challenge.rw_wishkeep_k31_whole_rooms_dont_matter).prog [45]) (H := Wk.hk) (ob := Wk.ob) (M := 2000) (loose := Wk.nmAll) (d := HandSHeadRun.topDef (OpenLaw.row PySem.Challenge.rw_wishkeep_k31_whole_rooms_dont_matter).prog 45) (kwd := []) Wk.ob_eq
    (by kernel_rfl) (fun s => by kernel_rfl) Wk.run (by kernel_rfl) (by kernel_rfl) (by kernel_rfl) (by rfl) (by first | assumption | decide +kernel) (by decide +kernel) ⟨rfl, rfl, rfl, rfl, rfl, by decide +kernel⟩ ?hw ?hc
  case hw => w_witness2
  case hc =>
    refine L2.walk_ofE (l := PySem.Challenge.rw_wishkeep_k31_whole_rooms_dont_matter) (n := 63) (k := 8) (x := "_law_script") (CX := L2.CX0) rfl (by decide) (by kernel_rfl) ⟨rfl, by decide, by decide⟩ ?F (fun _ _ _ _ z => z)
    intro w mg fa h Y G hmg0
    obtain ⟨K, KX, c⟩ := Y
    have hmg : mg ("law" : PySem.Str) = some (.ref fa) := by
      have e : (HandSHeadRun.topDef (OpenLaw.row PySem.Challenge.rw_wishkeep_k31_whole_rooms_dont_matter).prog 45).name = ("law" : PySem.Str) := by kernel_rfl
      rw [← e]
      exact hmg0
    obtain ⟨fd, hb, hF⟩ := Wk.facts (P := (PySem.Challenge.rw_wishkeep_k31_whole_rooms_dont_matter).prog) (w := w) KX G hmg c
    exact ⟨K, fd, Wk.spLaw K, KX, hb, fun H a ns hl _ hS => ⟨a, ns, rfl, hS, fun _ => rfl⟩, hF⟩
