import PyProof.Rows.All
import Wide.All
import OpenK.AllK
import Wide.FinOn
import KE.KStateDown
import Lean
import HandS.ForMost
import HandS.Defaults
import HandS.MakeKwOnly
import HandS.Wide
import HandS.Exc
import HandS.Codes
import HandS.Walk
import HandS.IsInst
import HandS.SortInts
import HandS.Head0
import HandS.Head1
import HandS.Head2
import HandS.HeadEnd
import HandS.HeadHook1
import HandS.HeadHook2
import PySem.Challenge.RW_vastword_k31_whole_walks_over_vast_texts
import HandS.OwnEq
import HandS.More
import HandS.Replace
import HandS.Zip
set_option maxHeartbeats 400000
set_option maxRecDepth 100000
/-! Part A: sides, meetings, the window. -/
namespace VW

/-- on which of two sides a piece stands in a turn -/
def side (n t : Nat) : Nat := (n * 10368889 % 16777216 / 2 ^ (t / 2 / 2 % 24) % 2 + t / 2 % 2) % 2
def Meet (a b t : Nat) : Prop := side a t = 0 ∧ side b t = 1
instance (a b t : Nat) : Decidable (Meet a b t) := inferInstanceAs (Decidable (_ ∧ _))
/-- two neighbours that are not made one in turn t -/
def NoM (t x y : Nat) : Prop := (t % 2 = 0 → x ≠ y) ∧ (t % 2 = 1 → ¬ Meet x y t)
instance (t x y : Nat) : Decidable (NoM t x y) := inferInstanceAs (Decidable (_ ∧ _))

theorem side_lt (n t : Nat) : side n t < 2 := Nat.mod_lt _ (by decide)
theorem hash_inj {x y : Nat} (hx : x < 16777216) (hy : y < 16777216) (h : x * 10368889 % 16777216 = y * 10368889 % 16777216) : x = y := by
  have back : ∀ z, z < 16777216 → z * 10368889 % 16777216 * 11764425 % 16777216 = z := fun z hz => by
    rw [Nat.mod_mul_mod, Nat.mul_assoc, ← Nat.mul_mod_mod, show 10368889 * 11764425 % 16777216 = 1 from by decide +kernel, Nat.mul_one, Nat.mod_eq_of_lt hz]
  rw [← back x hx, ← back y hy, h]
theorem bit_differs {a b : Nat} (ha : a < 2 ^ 24) (hb : b < 2 ^ 24) (h : a ≠ b) : ∃ i, i < 24 ∧ a / 2 ^ i % 2 ≠ b / 2 ^ i % 2 := by
  by_cases q : ∃ i, i < 24 ∧ a / 2 ^ i % 2 ≠ b / 2 ^ i % 2
  · exact q
  · exfalso
    apply h
    apply Nat.eq_of_testBit_eq
    intro i
    by_cases hi : i < 24
    · have e : a / 2 ^ i % 2 = b / 2 ^ i % 2 := by
        by_cases e : a / 2 ^ i % 2 = b / 2 ^ i % 2
        · exact e
        · exact absurd ⟨i, hi, e⟩ q
      rw [Nat.testBit_eq_decide_div_mod_eq, Nat.testBit_eq_decide_div_mod_eq, e]
    · have l : 2 ^ 24 ≤ 2 ^ i := Nat.pow_le_pow_right (by decide) (by omega)
      rw [Nat.testBit_lt_two_pow (Nat.lt_of_lt_of_le ha l), Nat.testBit_lt_two_pow (Nat.lt_of_lt_of_le hb l)]
/-- a turn of a given place and half within any window of 96 turns -/
theorem turn_in (t0 i p : Nat) (hi : i < 24) (hp : p < 2) : ∃ u, t0 ≤ u ∧ u < t0 + 96 ∧ u % 2 = 1 ∧ u / 2 / 2 % 24 = i ∧ u / 2 % 2 = p := by
  refine ⟨4 * i + 2 * p + 1 + 96 * ((t0 + 95 - (4 * i + 2 * p + 1)) / 96), ?_, ?_, ?_, ?_, ?_⟩
  all_goals omega
theorem window {x y : Nat} (hx : x < 16777216) (hy : y < 16777216) (h : x ≠ y) (t0 : Nat) : ∃ u, t0 ≤ u ∧ u < t0 + 96 ∧ u % 2 = 1 ∧ Meet x y u := by
  have hh : x * 10368889 % 16777216 ≠ y * 10368889 % 16777216 := fun e => h (hash_inj hx hy e)
  obtain ⟨i, hi, hd⟩ := bit_differs (a := x * 10368889 % 16777216) (b := y * 10368889 % 16777216) (Nat.mod_lt _ (by decide)) (Nat.mod_lt _ (by decide)) hh
  have h1 : x * 10368889 % 16777216 / 2 ^ i % 2 < 2 := Nat.mod_lt _ (by decide)
  have h2 : y * 10368889 % 16777216 / 2 ^ i % 2 < 2 := Nat.mod_lt _ (by decide)
  obtain ⟨u, u1, u2, u3, u4, u5⟩ := turn_in t0 i (x * 10368889 % 16777216 / 2 ^ i % 2) hi h1
  refine ⟨u, u1, u2, u3, ?_, ?_⟩
  · unfold side
    rw [u4, u5]
    omega
  · unfold side
    rw [u4, u5]
    omega
/-- two neighbours that stay side by side through 96 turns can't be -/
theorem no_stay {x y s t : Nat} (hx : x < 16777216) (hy : y < 16777216) (ht : s + 96 ≤ t) (h : ∀ u, s ≤ u → u < t → NoM u x y) : False := by
  by_cases e : x = y
  · by_cases hs : s % 2 = 0
    · exact (h s (Nat.le_refl _) (by omega)).1 hs e
    · exact (h (s + 1) (by omega) (by omega)).1 (by omega) e
  · obtain ⟨u, u1, u2, u3, u4⟩ := window hx hy e s
    exact (h u u1 (by omega)).2 u3 u4

/-! ### lists whose neighbours stand in a relation -/
def Ch (R : Nat → Nat → Prop) : List Nat → Prop
  | [] => True
  | [_] => True
  | x :: y :: r => R x y ∧ Ch R (y :: r)
def hd (l : List Nat) : Nat := l.headD 0
def ls (l : List Nat) : Nat := l.getLastD 0
theorem hd_cons (x : Nat) (l : List Nat) : hd (x :: l) = x := rfl
theorem ls_snoc (l : List Nat) (x : Nat) : ls (l ++ [x]) = x := by simp [ls]
theorem ls_one (x : Nat) : ls [x] = x := rfl
theorem snoc_ex {l : List Nat} (h : l ≠ []) : ∃ r x, l = r ++ [x] := by
  rcases List.eq_nil_or_concat l with e | ⟨r, x, e⟩
  · exact absurd e h
  · exact ⟨r, x, by simpa using e⟩
theorem ls_app {a b : List Nat} (h : b ≠ []) : ls (a ++ b) = ls b := by
  obtain ⟨r, x, rfl⟩ := snoc_ex h
  rw [← List.append_assoc, ls_snoc, ls_snoc]
theorem hd_app {a b : List Nat} (h : a ≠ []) : hd (a ++ b) = hd a := by
  cases a with
  | nil => exact absurd rfl h
  | cons x r => rfl
theorem ls_cons {x : Nat} {l : List Nat} (h : l ≠ []) : ls (x :: l) = ls l := ls_app (a := [x]) h
theorem snoc_of {l : List Nat} (h : l ≠ []) : ∃ r, l = r ++ [ls l] := by
  obtain ⟨r, x, rfl⟩ := snoc_ex h
  rw [ls_snoc]
  exact ⟨r, rfl⟩
theorem cons_of {l : List Nat} (h : l ≠ []) : ∃ r, l = hd l :: r := by
  cases l with
  | nil => exact absurd rfl h
  | cons x r => exact ⟨r, rfl⟩
theorem ch_cons {R : Nat → Nat → Prop} {x : Nat} {l : List Nat} : Ch R (x :: l) ↔ (l ≠ [] → R x (hd l)) ∧ Ch R l := by
  cases l with
  | nil => simp [Ch]
  | cons y r => simp [Ch, hd]
theorem ch_app {R : Nat → Nat → Prop} : ∀ {a b : List Nat}, Ch R (a ++ b) ↔ Ch R a ∧ Ch R b ∧ (a ≠ [] → b ≠ [] → R (ls a) (hd b))
  | [], b => by simp [Ch]
  | x :: a, b => by
    rw [List.cons_append, ch_cons, ch_cons, ch_app (a := a) (b := b)]
    by_cases ha : a = []
    · subst ha
      simp [Ch, ls_one]
      exact And.comm
    · rw [hd_app ha, ls_cons ha]
      have h1 : a ++ b ≠ [] := by simp [ha]
      simp [ha]
      constructor
      · rintro ⟨p, q, r, u⟩
        exact ⟨⟨p, q⟩, r, u⟩
      · rintro ⟨⟨p, q⟩, r, u⟩
        exact ⟨p, q, r, u⟩
theorem ch_mono {R R' : Nat → Nat → Prop} : ∀ {l : List Nat}, Ch R l → (∀ x ∈ l, ∀ y ∈ l, R x y → R' x y) → Ch R' l
  | [], _, _ => trivial
  | [_], _, _ => trivial
  | x :: y :: r, h, f => ⟨f x (by simp) y (by simp) h.1, ch_mono h.2 fun a ha b hb => f a (List.mem_cons_of_mem _ ha) b (List.mem_cons_of_mem _ hb)⟩
theorem ch_and {R R' : Nat → Nat → Prop} : ∀ {l : List Nat}, Ch R l → Ch R' l → Ch (fun x y => R x y ∧ R' x y) l
  | [], _, _ => trivial
  | [_], _, _ => trivial
  | _ :: _ :: _, h, f => ⟨⟨h.1, f.1⟩, ch_and h.2 f.2⟩
theorem ch_rep {R : Nat → Nat → Prop} {x : Nat} (h : R x x) : ∀ n, Ch R (List.replicate n x)
  | 0 => trivial
  | 1 => trivial
  | n + 2 => ⟨h, ch_rep h (n + 1)⟩
/-- the middle of a chain -/
theorem ch_mid {R : Nat → Nat → Prop} {a b : List Nat} {x y : Nat} (h : Ch R (a ++ x :: y :: b)) : R x y := (ch_app.mp h).2.1.1
theorem flatMap_ne {f : Nat → List Nat} {l : List Nat} (h : l ≠ []) (hf : ∀ x ∈ l, f x ≠ []) : l.flatMap f ≠ [] := by
  cases l with
  | nil => exact absurd rfl h
  | cons x r =>
    rw [List.flatMap_cons]
    simp [hf x (by simp)]
theorem hd_flatMap {f : Nat → List Nat} {l : List Nat} (h : l ≠ []) (hf : ∀ x ∈ l, f x ≠ []) : hd (l.flatMap f) = hd (f (hd l)) := by
  cases l with
  | nil => exact absurd rfl h
  | cons x r =>
    rw [List.flatMap_cons, hd_app (hf x (by simp)), hd_cons]
theorem ls_flatMap {f : Nat → List Nat} {l : List Nat} (h : l ≠ []) (hf : ∀ x ∈ l, f x ≠ []) : ls (l.flatMap f) = ls (f (ls l)) := by
  obtain ⟨r, e⟩ := snoc_of h
  have hm : ls l ∈ l := by
    have q : ls l ∈ r ++ [ls l] := by simp
    rw [← e] at q
    exact q
  have h2 : l.flatMap f = r.flatMap f ++ f (ls l) := by
    conv => lhs; rw [e]
    simp
  rw [h2, ls_app (hf _ hm)]
theorem ch_flat {R R' : Nat → Nat → Prop} {f : Nat → List Nat} : ∀ {l : List Nat}, Ch R' l → (∀ x ∈ l, f x ≠ [] ∧ Ch R (f x)) → (∀ x ∈ l, ∀ y ∈ l, R' x y → R (ls (f x)) (hd (f y))) → Ch R (l.flatMap f)
  | [], _, _, _ => trivial
  | x :: r, h, hf, hb => by
    rw [List.flatMap_cons, ch_app]
    have ih := ch_flat (l := r) (ch_cons.mp h).2 (fun y hy => hf y (List.mem_cons_of_mem _ hy)) (fun a ha b hb' => hb a (List.mem_cons_of_mem _ ha) b (List.mem_cons_of_mem _ hb'))
    refine ⟨(hf x (by simp)).2, ih, fun _ h2 => ?_⟩
    have hr : r ≠ [] := by
      intro e
      subst e
      simp at h2
    rw [hd_flatMap hr fun y hy => (hf y (List.mem_cons_of_mem _ hy)).1]
    obtain ⟨q, e⟩ := cons_of hr
    have hm : hd r ∈ r := by rw [e]; simp [hd]
    exact hb x (by simp) (hd r) (List.mem_cons_of_mem _ hm) ((ch_cons.mp h).1 hr)
/-- two cuts of one list: the shorter head is the head of the longer -/
theorem app_cut {a b c d : List Nat} (h : a ++ b = c ++ d) (hl : a.length ≤ c.length) : ∃ e, c = a ++ e ∧ b = e ++ d := by
  rcases List.append_eq_append_iff.mp h with ⟨e, h1, h2⟩ | ⟨e, h1, h2⟩
  · exact ⟨e, h1, h2⟩
  · have : e = [] := by
      have := congrArg List.length h1
      rw [List.length_append] at this
      exact List.length_eq_zero_iff.mp (by omega)
    subst this
    exact ⟨[], by simpa using h1.symm, by simpa using h2.symm⟩
end VW
set_option maxHeartbeats 400000
set_option maxRecDepth 100000
/-! Part B: the store of pieces, their parses turn by turn. -/
namespace VW
inductive Node where
  | L (a : Nat)
  | P (l r : Nat)
  | B (l m : Nat)
  deriving DecidableEq

/-- the store: its pieces by number, and beside what the program keeps (node, size, birth) their letters and their parses -/
structure Sto where
  len : Nat
  node : Nat → Node
  size : Nat → Nat
  birth : Nat → Nat
  cont : Nat → List Nat
  exp : Nat → Nat → List Nat

def fst (S : Sto) (s x : Nat) : Nat := hd (S.exp x s)
def lst (S : Sto) (s x : Nat) : Nat := ls (S.exp x s)
def Sep (S : Sto) (t x y : Nat) : Prop := ∀ s, s < t → NoM s (lst S s x) (fst S s y)
def flat (S : Sto) (s : Nat) (xs : List Nat) : List Nat := xs.flatMap fun x => S.exp x s
def szs (S : Sto) (xs : List Nat) : Nat := (xs.map S.size).sum
def cts (S : Sto) (xs : List Nat) : List Nat := xs.flatMap S.cont

theorem szs_nil {S : Sto} : szs S [] = 0 := rfl
theorem szs_cons {S : Sto} {x : Nat} {l : List Nat} : szs S (x :: l) = S.size x + szs S l := by simp [szs]
theorem szs_app {S : Sto} {a b : List Nat} : szs S (a ++ b) = szs S a + szs S b := by simp [szs]
theorem szs_rep {S : Sto} {x n : Nat} : szs S (List.replicate n x) = n * S.size x := by
  induction n with
  | zero => simp [szs]
  | succ n ih => rw [List.replicate_succ, szs_cons, ih, Nat.succ_mul, Nat.add_comm]
theorem cts_app {S : Sto} {a b : List Nat} : cts S (a ++ b) = cts S a ++ cts S b := by simp [cts]
theorem cts_cons {S : Sto} {x : Nat} {l : List Nat} : cts S (x :: l) = S.cont x ++ cts S l := by simp [cts]
theorem flat_app {S : Sto} {s : Nat} {a b : List Nat} : flat S s (a ++ b) = flat S s a ++ flat S s b := by simp [flat]
theorem flat_cons {S : Sto} {s x : Nat} {l : List Nat} : flat S s (x :: l) = S.exp x s ++ flat S s l := by simp [flat]
theorem flat_nil {S : Sto} {s : Nat} : flat S s [] = [] := rfl

/-- a piece n made in turn t of ks -/
structure Comp (S : Sto) (n t : Nat) (ks : List Nat) : Prop where
  two : 2 ≤ ks.length
  lt : ∀ k ∈ ks, k < n ∧ S.birth k ≤ t
  size : S.size n = szs S ks
  cont : S.cont n = cts S ks
  birth : S.birth n = t + 1
  sep : Ch (Sep S t) ks
  exp : ∀ s, S.exp n s = if t + 1 ≤ s then [n] else flat S s ks

def NOk (S : Sto) (n : Nat) : Prop := match S.node n with
  | .L a => a < 8 ∧ S.size n = 1 ∧ S.birth n = 0 ∧ S.cont n = [a] ∧ ∀ s, S.exp n s = [n]
  | .P l r => ∃ t, t % 2 = 1 ∧ Meet l r t ∧ Comp S n t [l, r]
  | .B l m => ∃ t, t % 2 = 0 ∧ Comp S n t (List.replicate m l)

structure Ok (S : Sto) : Prop where
  nodes : ∀ n, n < S.len → NOk S n
  inj : ∀ n m, n < S.len → m < S.len → S.node n = S.node m → n = m

section
variable {S : Sto} (ok : Ok S)
include ok
theorem view {n : Nat} (h : n < S.len) : (∃ a, S.node n = .L a ∧ a < 8 ∧ S.size n = 1 ∧ S.birth n = 0 ∧ S.cont n = [a] ∧ ∀ s, S.exp n s = [n]) ∨ ∃ t ks, Comp S n t ks := by
  have k := ok.nodes n h
  unfold NOk at k
  cases e : S.node n with
  | L a =>
    rw [e] at k
    exact .inl ⟨a, rfl, k⟩
  | P l r =>
    rw [e] at k
    obtain ⟨t, _, _, c⟩ := k
    exact .inr ⟨t, _, c⟩
  | B l m =>
    rw [e] at k
    obtain ⟨t, _, c⟩ := k
    exact .inr ⟨t, _, c⟩
theorem exp_ne : ∀ {n : Nat}, n < S.len → ∀ s, S.exp n s ≠ [] := by
  intro n
  induction n using Nat.strongRecOn with
  | ind n ih =>
    intro h s
    rcases view ok h with ⟨a, _, _, _, _, _, e⟩ | ⟨t, ks, c⟩
    · rw [e]; simp
    · rw [c.exp]
      split
      · simp
      · refine flatMap_ne ?_ fun x hx => ih x (c.lt x hx).1 (Nat.lt_trans (c.lt x hx).1 h) s
        intro e
        have := c.two
        rw [e] at this
        simp at this
theorem exp_self {n s : Nat} (h : n < S.len) (hb : S.birth n ≤ s) : S.exp n s = [n] := by
  rcases view ok h with ⟨a, _, _, _, _, _, e⟩ | ⟨t, ks, c⟩
  · exact e s
  · rw [c.exp, if_pos (by rw [← c.birth]; exact hb)]
theorem exp_mem : ∀ {n : Nat}, n < S.len → ∀ s, ∀ x ∈ S.exp n s, x ≤ n ∧ S.birth x ≤ s := by
  intro n
  induction n using Nat.strongRecOn with
  | ind n ih =>
    intro h s x hx
    rcases view ok h with ⟨a, _, _, _, b, _, e⟩ | ⟨t, ks, c⟩
    · rw [e] at hx
      have : x = n := by simpa using hx
      subst this
      exact ⟨Nat.le_refl _, by omega⟩
    · rw [c.exp] at hx
      split at hx
      · have : x = n := by simpa using hx
        subst this
        exact ⟨Nat.le_refl _, by rw [c.birth]; assumption⟩
      · obtain ⟨k, hk, hx⟩ := List.mem_flatMap.mp hx
        have := ih k (c.lt k hk).1 (Nat.lt_trans (c.lt k hk).1 h) s x hx
        exact ⟨Nat.le_trans this.1 (Nat.le_of_lt (c.lt k hk).1), this.2⟩
theorem exp_lt {n : Nat} (h : n < S.len) (s : Nat) : ∀ x ∈ S.exp n s, x < S.len := fun x hx => Nat.lt_of_le_of_lt (exp_mem ok h s x hx).1 h
omit ok in
theorem flat_flat {s t : Nat} {l : List Nat} : (∀ x ∈ l, flat S s (S.exp x t) = S.exp x s) → flat S s (flat S t l) = flat S s l := by
  intro h
  induction l with
  | nil => rfl
  | cons x r ih =>
    rw [flat_cons, flat_app, h x (by simp), ih fun y hy => h y (List.mem_cons_of_mem _ hy), ← flat_cons]
omit ok in
theorem flat_self {s : Nat} {l : List Nat} (h : ∀ x ∈ l, S.exp x s = [x]) : flat S s l = l := by
  induction l with
  | nil => rfl
  | cons x r ih =>
    rw [flat_cons, h x (by simp), ih fun y hy => h y (List.mem_cons_of_mem _ hy)] <;> rfl
theorem exp_comp : ∀ {n : Nat}, n < S.len → ∀ s t, s ≤ t → flat S s (S.exp n t) = S.exp n s := by
  intro n
  induction n using Nat.strongRecOn with
  | ind n ih =>
    intro h s t hs
    rcases view ok h with ⟨a, _, _, _, _, _, e⟩ | ⟨u, ks, c⟩
    · rw [e, e, flat_cons, e, flat_nil] <;> rfl
    · rw [c.exp t]
      split
      · rw [flat_cons, flat_nil, List.append_nil]
      · rw [c.exp s, if_neg (by omega)]
        exact flat_flat fun x hx => ih x (c.lt x hx).1 (Nat.lt_trans (c.lt x hx).1 h) s t hs
omit ok in
theorem szs_flat {f : Nat → List Nat} {l : List Nat} (h : ∀ x ∈ l, szs S (f x) = S.size x) : szs S (l.flatMap f) = szs S l := by
  induction l with
  | nil => rfl
  | cons x r ih =>
    rw [List.flatMap_cons, szs_app, h x (by simp), ih fun y hy => h y (List.mem_cons_of_mem _ hy), szs_cons]
omit ok in
theorem cts_flat {f : Nat → List Nat} {l : List Nat} (h : ∀ x ∈ l, cts S (f x) = S.cont x) : cts S (l.flatMap f) = cts S l := by
  induction l with
  | nil => rfl
  | cons x r ih =>
    rw [List.flatMap_cons, cts_app, h x (by simp), ih fun y hy => h y (List.mem_cons_of_mem _ hy), cts_cons]
theorem exp_szs : ∀ {n : Nat}, n < S.len → ∀ s, szs S (S.exp n s) = S.size n := by
  intro n
  induction n using Nat.strongRecOn with
  | ind n ih =>
    intro h s
    rcases view ok h with ⟨a, _, _, _, _, _, e⟩ | ⟨u, ks, c⟩
    · rw [e]; simp [szs]
    · rw [c.exp s]
      split
      · simp [szs]
      · rw [c.size]
        exact szs_flat fun x hx => ih x (c.lt x hx).1 (Nat.lt_trans (c.lt x hx).1 h) s
theorem exp_cts : ∀ {n : Nat}, n < S.len → ∀ s, cts S (S.exp n s) = S.cont n := by
  intro n
  induction n using Nat.strongRecOn with
  | ind n ih =>
    intro h s
    rcases view ok h with ⟨a, _, _, _, _, _, e⟩ | ⟨u, ks, c⟩
    · rw [e]; simp [cts]
    · rw [c.exp s]
      split
      · simp [cts]
      · rw [c.cont]
        exact cts_flat fun x hx => ih x (c.lt x hx).1 (Nat.lt_trans (c.lt x hx).1 h) s
omit ok in
theorem len_cts {l : List Nat} (h : ∀ x ∈ l, (S.cont x).length = S.size x) : (cts S l).length = szs S l := by
  induction l with
  | nil => rfl
  | cons x r ih =>
    rw [cts_cons, List.length_append, h x (by simp), ih fun y hy => h y (List.mem_cons_of_mem _ hy), szs_cons]
theorem cont_len : ∀ {n : Nat}, n < S.len → (S.cont n).length = S.size n := by
  intro n
  induction n using Nat.strongRecOn with
  | ind n ih =>
    intro h
    rcases view ok h with ⟨a, _, _, e1, _, e2, _⟩ | ⟨u, ks, c⟩
    · rw [e1, e2] <;> rfl
    · rw [c.size, c.cont]
      exact len_cts fun x hx => ih x (c.lt x hx).1 (Nat.lt_trans (c.lt x hx).1 h)
omit ok in
theorem le_szs {l : List Nat} (h : ∀ x ∈ l, 1 ≤ S.size x) : l.length ≤ szs S l := by
  induction l with
  | nil => exact Nat.le_refl _
  | cons x r ih =>
    have := ih fun y hy => h y (List.mem_cons_of_mem _ hy)
    have := h x (by simp)
    rw [szs_cons, List.length_cons]
    omega
theorem size_pos : ∀ {n : Nat}, n < S.len → 1 ≤ S.size n := by
  intro n
  induction n using Nat.strongRecOn with
  | ind n ih =>
    intro h
    rcases view ok h with ⟨a, _, _, e1, _, e2, _⟩ | ⟨u, ks, c⟩
    · omega
    · have := le_szs (S := S) (l := ks) fun x hx => ih x (c.lt x hx).1 (Nat.lt_trans (c.lt x hx).1 h)
      have := c.two
      rw [c.size]
      omega
theorem cont_lt : ∀ {n : Nat}, n < S.len → ∀ a ∈ S.cont n, a < 8 := by
  intro n
  induction n using Nat.strongRecOn with
  | ind n ih =>
    intro h a ha
    rcases view ok h with ⟨b, _, hb, _, _, e2, _⟩ | ⟨u, ks, c⟩
    · rw [e2] at ha
      have : a = b := by simpa using ha
      omega
    · rw [c.cont] at ha
      obtain ⟨x, hx, ha⟩ := List.mem_flatMap.mp ha
      exact ih x (c.lt x hx).1 (Nat.lt_trans (c.lt x hx).1 h) a ha
theorem exp_big {n s : Nat} (h : n < S.len) (hs : s < S.birth n) : 2 ≤ (S.exp n s).length := by
  rcases view ok h with ⟨b, _, hb, _, e, _, _⟩ | ⟨u, ks, c⟩
  · omega
  · rw [c.birth] at hs
    rw [c.exp, if_neg (by omega)]
    have h2 := c.two
    have lt := c.lt
    match ks, h2, lt with
    | x :: y :: r, _, lt =>
      have hx := exp_ne ok (Nat.lt_trans (lt x (by simp)).1 h) s
      have hy := exp_ne ok (Nat.lt_trans (lt y (by simp)).1 h) s
      rw [flat_cons, flat_cons, List.length_append, List.length_append]
      have := List.length_pos_iff.mpr hx
      have := List.length_pos_iff.mpr hy
      omega
/-- the last piece of a later parse has the same last piece in an earlier one -/
theorem lst_comp {n s t : Nat} (h : n < S.len) (hs : s ≤ t) : lst S s (lst S t n) = lst S s n := by
  have e := exp_comp ok h s t hs
  have q := ls_flatMap (f := fun x => S.exp x s) (exp_ne ok h t) fun x hx => exp_ne ok (exp_lt ok h t x hx) s
  have q2 : ls (S.exp n s) = ls (S.exp (ls (S.exp n t)) s) := by
    rw [← e]
    exact q
  exact q2.symm
theorem fst_comp {n s t : Nat} (h : n < S.len) (hs : s ≤ t) : fst S s (fst S t n) = fst S s n := by
  have e := exp_comp ok h s t hs
  have q := hd_flatMap (f := fun x => S.exp x s) (exp_ne ok h t) fun x hx => exp_ne ok (exp_lt ok h t x hx) s
  have q2 : hd (S.exp n s) = hd (S.exp (hd (S.exp n t)) s) := by
    rw [← e]
    exact q
  exact q2.symm
theorem fst_self {n s : Nat} (h : n < S.len) (hb : S.birth n ≤ s) : fst S s n = n := by
  unfold fst
  rw [exp_self ok h hb] <;> rfl
theorem lst_self {n s : Nat} (h : n < S.len) (hb : S.birth n ≤ s) : lst S s n = n := by
  unfold lst
  rw [exp_self ok h hb] <;> rfl
/-- parts of a chain, an earlier parse of it -/
theorem sep_flat {s t : Nat} {l : List Nat} (hs : s ≤ t) (hl : ∀ x ∈ l, x < S.len) (hc : ∀ x ∈ l, Ch (Sep S s) (S.exp x s)) (h : Ch (Sep S t) l) : Ch (Sep S s) (flat S s l) := by
  refine ch_flat h (fun x hx => ⟨exp_ne ok (hl x hx) s, hc x hx⟩) fun x hx y hy r u hu => ?_
  have e1 : lst S u (ls (S.exp x s)) = lst S u x := lst_comp ok (hl x hx) (Nat.le_of_lt hu)
  have e2 : fst S u (hd (S.exp y s)) = fst S u y := fst_comp ok (hl y hy) (Nat.le_of_lt hu)
  rw [e1, e2]
  exact r u (Nat.lt_of_lt_of_le hu hs)
theorem exp_ch : ∀ {n : Nat}, n < S.len → ∀ t, Ch (Sep S t) (S.exp n t) := by
  intro n
  induction n using Nat.strongRecOn with
  | ind n ih =>
    intro h t
    rcases view ok h with ⟨b, _, hb, _, _, _, e⟩ | ⟨u, ks, c⟩
    · rw [e]; trivial
    · rw [c.exp]
      split
      · trivial
      · exact sep_flat ok (by omega) (fun x hx => Nat.lt_trans (c.lt x hx).1 h) (fun x hx => ih x (c.lt x hx).1 (Nat.lt_trans (c.lt x hx).1 h) t) c.sep
theorem flat_ch {s t : Nat} {l : List Nat} (hs : s ≤ t) (hl : ∀ x ∈ l, x < S.len) (h : Ch (Sep S t) l) : Ch (Sep S s) (flat S s l) := sep_flat ok hs hl (fun x hx => exp_ch ok (hl x hx) s) h
theorem flat_szs {s : Nat} {l : List Nat} (hl : ∀ x ∈ l, x < S.len) : szs S (flat S s l) = szs S l := szs_flat fun x hx => exp_szs ok (hl x hx) s
theorem flat_cts {s : Nat} {l : List Nat} (hl : ∀ x ∈ l, x < S.len) : cts S (flat S s l) = cts S l := cts_flat fun x hx => exp_cts ok (hl x hx) s
theorem flat_lt {s : Nat} {l : List Nat} (hl : ∀ x ∈ l, x < S.len) : ∀ x ∈ flat S s l, x < S.len ∧ S.birth x ≤ s := fun x hx => by
  obtain ⟨y, hy, hx⟩ := List.mem_flatMap.mp hx
  exact ⟨exp_lt ok (hl y hy) s x hx, (exp_mem ok (hl y hy) s x hx).2⟩

/-! ### the window: 96 turns make three pieces into two or less -/
theorem shrink {s t : Nat} (cap : S.len ≤ 16777216) (ht : s + 96 ≤ t) : ∀ {l : List Nat}, (∀ x ∈ l, x < S.len) → Ch (Sep S t) l → 3 * l.length ≤ 2 * (flat S s l).length + 1
  | [], _, _ => by simp
  | [x], hl, _ => by
    have := List.length_pos_iff.mpr (exp_ne ok (hl x (by simp)) s)
    rw [flat_cons, flat_nil, List.append_nil, List.length_singleton]
    omega
  | x :: y :: r, hl, h => by
    have hx := hl x (by simp)
    have hy := hl y (by simp)
    have ih := shrink cap ht (l := r) (fun z hz => hl z (by simp [hz])) (ch_cons.mp h.2).2
    have px := List.length_pos_iff.mpr (exp_ne ok hx s)
    have py := List.length_pos_iff.mpr (exp_ne ok hy s)
    have three : 3 ≤ (S.exp x s).length + (S.exp y s).length := by
      by_cases bx : s < S.birth x
      · have := exp_big ok hx bx
        omega
      · by_cases by' : s < S.birth y
        · have := exp_big ok hy by'
          omega
        · exfalso
          refine no_stay (x := x) (y := y) (Nat.lt_of_lt_of_le hx cap) (Nat.lt_of_lt_of_le hy cap) ht fun u h1 h2 => ?_
          have := h.1 u h2
          rw [lst_self ok hx (by omega), fst_self ok hy (by omega)] at this
          exact this
    rw [flat_cons, flat_cons, List.length_append, List.length_append, List.length_cons, List.length_cons]
    omega
theorem shrinks (cap : S.len ≤ 16777216) : ∀ (w t : Nat) {l : List Nat}, 96 * w ≤ t → (∀ x ∈ l, x < S.len) → Ch (Sep S t) l → 3 ^ w * (l.length - 1) ≤ 2 ^ w * (szs S l - 1)
  | 0, t, l, _, hl, _ => by
    have := le_szs (S := S) (l := l) fun x hx => size_pos ok (hl x hx)
    simp only [Nat.pow_zero]
    omega
  | w + 1, t, l, ht, hl, h => by
    have s1 := shrink ok (s := t - 96) cap (by omega) hl h
    have ih := shrinks cap w (t - 96) (l := flat S (t - 96) l) (by omega) (fun x hx => (flat_lt ok hl x hx).1) (flat_ch ok (by omega) hl h)
    rw [flat_szs ok hl] at ih
    have a : 3 * (l.length - 1) ≤ 2 * ((flat S (t - 96) l).length - 1) := by omega
    have b := Nat.mul_le_mul_left (3 ^ w) a
    have c := Nat.mul_le_mul_left 2 ih
    have e1 : 3 ^ (w + 1) * (l.length - 1) = 3 ^ w * (3 * (l.length - 1)) := by rw [Nat.pow_succ, Nat.mul_assoc]
    have e2 : 2 ^ (w + 1) * (szs S l - 1) = 2 * (2 ^ w * (szs S l - 1)) := by rw [Nat.pow_succ, Nat.mul_comm (2 ^ w) 2, Nat.mul_assoc]
    have e3 : 3 ^ w * (2 * ((flat S (t - 96) l).length - 1)) = 2 * (3 ^ w * ((flat S (t - 96) l).length - 1)) := by rw [← Nat.mul_assoc, Nat.mul_comm (3 ^ w) 2, Nat.mul_assoc]
    omega
/-- behind turn 9888 a text of at most 10 ^ 18 letters is one piece -/
theorem one_left (cap : S.len ≤ 16777216) {t : Nat} {l : List Nat} (ht : 9888 ≤ t) (hl : ∀ x ∈ l, x < S.len) (h : Ch (Sep S t) l) (hz : szs S l ≤ 10 ^ 18) : l.length ≤ 1 := by
  have k := shrinks ok cap 103 t (l := l) (by omega) hl h
  by_cases q : l.length ≤ 1
  · exact q
  · exfalso
    have a : 3 ^ 103 * 1 ≤ 3 ^ 103 * (l.length - 1) := Nat.mul_le_mul_left _ (by omega)
    have b : 2 ^ 103 * (szs S l - 1) ≤ 2 ^ 103 * 10 ^ 18 := Nat.mul_le_mul_left _ (by omega)
    have c : 2 ^ 103 * 10 ^ 18 < 3 ^ 103 * 1 := by decide +kernel
    exact absurd (Nat.le_trans a (Nat.le_trans k b)) (Nat.not_le_of_lt c)
end
end VW
set_option maxHeartbeats 400000
set_option maxRecDepth 100000
/-! Part C: the store grows. -/
namespace VW
structure Le (S S' : Sto) : Prop where
  len : S.len ≤ S'.len
  node : ∀ n, n < S.len → S'.node n = S.node n
  size : ∀ n, n < S.len → S'.size n = S.size n
  birth : ∀ n, n < S.len → S'.birth n = S.birth n
  cont : ∀ n, n < S.len → S'.cont n = S.cont n
  exp : ∀ n, n < S.len → S'.exp n = S.exp n
theorem Le.refl (S : Sto) : Le S S := ⟨Nat.le_refl _, fun _ _ => rfl, fun _ _ => rfl, fun _ _ => rfl, fun _ _ => rfl, fun _ _ => rfl⟩
theorem Le.trans {S S1 S2 : Sto} (a : Le S S1) (b : Le S1 S2) : Le S S2 :=
  ⟨Nat.le_trans a.len b.len, fun n h => (b.node n (Nat.lt_of_lt_of_le h a.len)).trans (a.node n h), fun n h => (b.size n (Nat.lt_of_lt_of_le h a.len)).trans (a.size n h),
    fun n h => (b.birth n (Nat.lt_of_lt_of_le h a.len)).trans (a.birth n h), fun n h => (b.cont n (Nat.lt_of_lt_of_le h a.len)).trans (a.cont n h), fun n h => (b.exp n (Nat.lt_of_lt_of_le h a.len)).trans (a.exp n h)⟩
section
variable {S S' : Sto} (le : Le S S')
include le
theorem Le.lt {n : Nat} (h : n < S.len) : n < S'.len := Nat.lt_of_lt_of_le h le.len
theorem Le.lst {s x : Nat} (h : x < S.len) : lst S' s x = lst S s x := by unfold VW.lst; rw [le.exp x h]
theorem Le.fst {s x : Nat} (h : x < S.len) : fst S' s x = fst S s x := by unfold VW.fst; rw [le.exp x h]
theorem Le.sep {t x y : Nat} (hx : x < S.len) (hy : y < S.len) (h : Sep S t x y) : Sep S' t x y := fun s hs => by
  rw [le.lst hx, le.fst hy]
  exact h s hs
theorem Le.flat {s : Nat} : ∀ {l : List Nat}, (∀ x ∈ l, x < S.len) → flat S' s l = flat S s l
  | [], _ => rfl
  | x :: r, h => by rw [flat_cons, flat_cons, le.exp x (h x (by simp)), Le.flat (l := r) fun y hy => h y (List.mem_cons_of_mem _ hy)]
theorem Le.szs : ∀ {l : List Nat}, (∀ x ∈ l, x < S.len) → szs S' l = szs S l
  | [], _ => rfl
  | x :: r, h => by rw [szs_cons, szs_cons, le.size x (h x (by simp)), Le.szs (l := r) fun y hy => h y (List.mem_cons_of_mem _ hy)]
theorem Le.cts : ∀ {l : List Nat}, (∀ x ∈ l, x < S.len) → cts S' l = cts S l
  | [], _ => rfl
  | x :: r, h => by rw [cts_cons, cts_cons, le.cont x (h x (by simp)), Le.cts (l := r) fun y hy => h y (List.mem_cons_of_mem _ hy)]
theorem Le.comp {n t : Nat} {ks : List Nat} (h : n < S.len) (c : Comp S n t ks) : Comp S' n t ks := by
  have hk : ∀ x ∈ ks, x < S.len := fun x hx => Nat.lt_trans (c.lt x hx).1 h
  refine ⟨c.two, fun k hx => ⟨(c.lt k hx).1, by rw [le.birth k (hk k hx)]; exact (c.lt k hx).2⟩, ?_, ?_, ?_, ?_, fun s => ?_⟩
  · rw [le.size n h, c.size, le.szs hk]
  · rw [le.cont n h, c.cont, le.cts hk]
  · rw [le.birth n h, c.birth]
  · exact ch_mono c.sep fun x hx y hy r => le.sep (hk x hx) (hk y hy) r
  · rw [le.exp n h, c.exp, le.flat hk]
theorem Le.nok {n : Nat} (h : n < S.len) (k : NOk S n) : NOk S' n := by
  unfold NOk at k ⊢
  rw [le.node n h]
  cases e : S.node n with
  | L a =>
    rw [e] at k
    exact ⟨k.1, by rw [le.size n h]; exact k.2.1, by rw [le.birth n h]; exact k.2.2.1, by rw [le.cont n h]; exact k.2.2.2.1, by rw [le.exp n h]; exact k.2.2.2.2⟩
  | P l r =>
    rw [e] at k
    obtain ⟨t, h1, h2, c⟩ := k
    exact ⟨t, h1, h2, le.comp h c⟩
  | B l m =>
    rw [e] at k
    obtain ⟨t, h1, c⟩ := k
    exact ⟨t, h1, le.comp h c⟩
end

def put {α : Type} (f : Nat → α) (k : Nat) (v : α) : Nat → α := fun n => if n = k then v else f n
theorem put_same {α : Type} {f : Nat → α} {k : Nat} {v : α} : put f k v k = v := by unfold put; rw [if_pos rfl]
theorem put_ne {α : Type} {f : Nat → α} {k n : Nat} {v : α} (h : n ≠ k) : put f k v n = f n := by unfold put; rw [if_neg h]
/-- a letter more -/
def addL (S : Sto) (a : Nat) : Sto where
  len := S.len + 1
  node := put S.node S.len (.L a)
  size := put S.size S.len 1
  birth := put S.birth S.len 0
  cont := put S.cont S.len [a]
  exp := put S.exp S.len fun _ => [S.len]
/-- a piece more, made in turn t of ks -/
def addC (S : Sto) (nd : Node) (t : Nat) (ks : List Nat) : Sto where
  len := S.len + 1
  node := put S.node S.len nd
  size := put S.size S.len (szs S ks)
  birth := put S.birth S.len (t + 1)
  cont := put S.cont S.len (cts S ks)
  exp := put S.exp S.len fun s => if t + 1 ≤ s then [S.len] else flat S s ks
theorem le_addL {S : Sto} {a : Nat} : Le S (addL S a) :=
  ⟨Nat.le_succ _, fun _ h => put_ne (Nat.ne_of_lt h), fun _ h => put_ne (Nat.ne_of_lt h), fun _ h => put_ne (Nat.ne_of_lt h), fun _ h => put_ne (Nat.ne_of_lt h), fun _ h => put_ne (Nat.ne_of_lt h)⟩
theorem le_addC {S : Sto} {nd : Node} {t : Nat} {ks : List Nat} : Le S (addC S nd t ks) :=
  ⟨Nat.le_succ _, fun _ h => put_ne (Nat.ne_of_lt h), fun _ h => put_ne (Nat.ne_of_lt h), fun _ h => put_ne (Nat.ne_of_lt h), fun _ h => put_ne (Nat.ne_of_lt h), fun _ h => put_ne (Nat.ne_of_lt h)⟩
theorem inj_add {S S' : Sto} {nd : Node} (ok : Ok S) (le : Le S S') (hl : S'.len = S.len + 1) (hn : S'.node S.len = nd) (new : ∀ n, n < S.len → S.node n ≠ nd) :
    ∀ n m, n < S'.len → m < S'.len → S'.node n = S'.node m → n = m := by
  intro n m h1 h2 e
  by_cases a : n < S.len
  · by_cases b : m < S.len
    · rw [le.node n a, le.node m b] at e
      exact ok.inj n m a b e
    · have : m = S.len := by omega
      subst this
      rw [le.node n a, hn] at e
      exact absurd e (new n a)
  · have : n = S.len := by omega
    subst this
    by_cases b : m < S.len
    · rw [le.node m b, hn] at e
      exact absurd e.symm (new m b)
    · omega
theorem addL_ok {S : Sto} {a : Nat} (ok : Ok S) (ha : a < 8) (new : ∀ n, n < S.len → S.node n ≠ .L a) : Ok (addL S a) where
  nodes := fun n h => by
    by_cases q : n < S.len
    · exact le_addL.nok q (ok.nodes n q)
    · have : n = S.len := by
        have : n < S.len + 1 := h
        omega
      subst this
      have e : (addL S a).node S.len = .L a := put_same
      unfold NOk
      rw [e]
      exact ⟨ha, put_same, put_same, put_same, fun s => by show put S.exp S.len (fun _ => [S.len]) S.len s = [S.len]; rw [put_same]⟩
  inj := inj_add ok le_addL rfl put_same new
/-- what is asked of a piece to be made in turn t: its text as a pair or a block -/
inductive Mk (S : Sto) (t : Nat) : Node → List Nat → Prop
  | P (l r : Nat) (odd : t % 2 = 1) (hl : l < S.len) (hr : r < S.len) (bl : S.birth l ≤ t) (br : S.birth r ≤ t) (m : Meet l r t) (sep : Sep S t l r) : Mk S t (.P l r) [l, r]
  | B (l m : Nat) (even : t % 2 = 0) (hl : l < S.len) (bl : S.birth l ≤ t) (two : 2 ≤ m) (sep : Sep S t l l) : Mk S t (.B l m) (List.replicate m l)
theorem Mk.lt {S : Sto} {t : Nat} {nd : Node} {ks : List Nat} (h : Mk S t nd ks) : ∀ k ∈ ks, k < S.len ∧ S.birth k ≤ t := by
  cases h with
  | P l r odd hl hr bl br m sep =>
    intro k hk
    have : k = l ∨ k = r := by simpa using hk
    rcases this with e | e <;> subst e
    · exact ⟨hl, bl⟩
    · exact ⟨hr, br⟩
  | B l m even hl bl two sep =>
    intro k hk
    rw [List.eq_of_mem_replicate hk]
    exact ⟨hl, bl⟩
theorem Mk.two {S : Sto} {t : Nat} {nd : Node} {ks : List Nat} (h : Mk S t nd ks) : 2 ≤ ks.length := by
  cases h with
  | P l r odd hl hr bl br m sep => simp
  | B l m even hl bl two sep => simpa using two
theorem Mk.ch {S : Sto} {t : Nat} {nd : Node} {ks : List Nat} (h : Mk S t nd ks) : Ch (Sep S t) ks := by
  cases h with
  | P l r odd hl hr bl br m sep => exact ⟨sep, trivial⟩
  | B l m even hl bl two sep => exact ch_rep sep m
theorem addC_ok {S : Sto} {t : Nat} {nd : Node} {ks : List Nat} (ok : Ok S) (mk : Mk S t nd ks) (new : ∀ n, n < S.len → S.node n ≠ nd) : Ok (addC S nd t ks) where
  nodes := fun n h => by
    by_cases q : n < S.len
    · exact le_addC.nok q (ok.nodes n q)
    · have : n = S.len := by
        have : n < S.len + 1 := h
        omega
      subst this
      have e : (addC S nd t ks).node S.len = nd := put_same
      have hk : ∀ x ∈ ks, x < S.len := fun x hx => (mk.lt x hx).1
      have c : Comp (addC S nd t ks) S.len t ks := by
        refine ⟨mk.two, fun k hx => ⟨hk k hx, ?_⟩, ?_, ?_, put_same, ?_, fun s => ?_⟩
        · rw [le_addC.birth k (hk k hx)]
          exact (mk.lt k hx).2
        · rw [le_addC.szs hk]
          exact put_same
        · rw [le_addC.cts hk]
          exact put_same
        · exact ch_mono mk.ch fun x hx y hy r => le_addC.sep (hk x hx) (hk y hy) r
        · rw [le_addC.flat hk]
          show put S.exp S.len (fun s => if t + 1 ≤ s then [S.len] else flat S s ks) S.len s = _
          rw [put_same]
      unfold NOk
      rw [e]
      cases mk with
      | P l r odd hl hr bl br m sep => exact ⟨t, odd, m, c⟩
      | B l m even hl bl two sep => exact ⟨t, even, c⟩
  inj := inj_add ok le_addC rfl put_same new
/-- a piece that is there was made in the very turn in which it could be made -/
theorem made_when {S : Sto} {t n : Nat} {nd : Node} {ks : List Nat} (ok : Ok S) (mk : Mk S t nd ks) (h : n < S.len) (e : S.node n = nd) : Comp S n t ks := by
  have k := ok.nodes n h
  unfold NOk at k
  rw [e] at k
  cases mk with
  | P l r odd hl hr bl br m sep =>
    obtain ⟨u, uo, um, c⟩ := k
    have b1 := (c.lt l (by simp)).2
    have b2 := (c.lt r (by simp)).2
    have su : Sep S u l r := c.sep.1
    rcases Nat.lt_trichotomy u t with q | q | q
    · have := sep u q
      rw [lst_self ok hl b1, fst_self ok hr b2] at this
      exact absurd um (this.2 uo)
    · subst q
      exact c
    · have := su t q
      rw [lst_self ok hl bl, fst_self ok hr br] at this
      exact absurd m (this.2 odd)
  | B l m even hl bl two sep =>
    obtain ⟨u, ue, c⟩ := k
    have b1 := (c.lt l (by simp; omega)).2
    have su : Sep S u l l := by
      have := c.sep
      match m, two, this with
      | m + 2, _, this => exact this.1
    rcases Nat.lt_trichotomy u t with q | q | q
    · have := sep u q
      rw [lst_self ok hl b1, fst_self ok hl b1] at this
      exact absurd rfl (this.1 ue)
    · subst q
      exact c
    · have := su t q
      rw [lst_self ok hl bl, fst_self ok hl bl] at this
      exact absurd rfl (this.1 even)
/-- what keep leaves: a store that may be one piece longer, the piece's number -/
structure Kept (S : Sto) (nd : Node) (S' : Sto) (n : Nat) : Prop where
  le : Le S S'
  ok : Ok S'
  lt : n < S'.len
  node : S'.node n = nd
  few : S'.len ≤ S.len + 1
theorem kept_new {S : Sto} {t : Nat} {nd : Node} {ks : List Nat} (ok : Ok S) (mk : Mk S t nd ks) (new : ∀ n, n < S.len → S.node n ≠ nd) : Kept S nd (addC S nd t ks) S.len :=
  ⟨le_addC, addC_ok ok mk new, Nat.lt_succ_self _, put_same, Nat.le_refl _⟩
theorem kept_newL {S : Sto} {a : Nat} (ok : Ok S) (ha : a < 8) (new : ∀ n, n < S.len → S.node n ≠ .L a) : Kept S (.L a) (addL S a) S.len :=
  ⟨le_addL, addL_ok ok ha new, Nat.lt_succ_self _, put_same, Nat.le_refl _⟩
theorem kept_old {S : Sto} {nd : Node} {n : Nat} (ok : Ok S) (h : n < S.len) (e : S.node n = nd) : Kept S nd S n := ⟨Le.refl S, ok, h, e, Nat.le_succ _⟩
theorem Mk.le {S S' : Sto} {t : Nat} {nd : Node} {ks : List Nat} (le : Le S S') (mk : Mk S t nd ks) : Mk S' t nd ks := by
  cases mk with
  | P l r odd hl hr bl br m sep => exact .P l r odd (le.lt hl) (le.lt hr) (by rw [le.birth l hl]; exact bl) (by rw [le.birth r hr]; exact br) m (le.sep hl hr sep)
  | B l m even hl bl two sep => exact .B l m even (le.lt hl) (by rw [le.birth l hl]; exact bl) two (le.sep hl hl sep)
theorem Kept.comp {S S' : Sto} {nd : Node} {n t : Nat} {ks : List Nat} (k : Kept S nd S' n) (mk : Mk S t nd ks) : Comp S' n t ks := made_when k.ok (mk.le k.le) k.lt k.node
/-- the turn that the program reckons for a pair is the one asked: no meeting before -/
theorem first_meet {S : Sto} {t l r : Nat} (ok : Ok S) (mk : Mk S t (.P l r) [l, r]) {u : Nat} (h1 : S.birth l ≤ u) (h2 : S.birth r ≤ u) (h3 : u % 2 = 1) (h4 : u < t) : ¬ Meet l r u := by
  cases mk with
  | P l r odd hl hr bl br m sep =>
    have := sep u h4
    rw [lst_self ok hl h1, fst_self ok hr h2] at this
    exact this.2 h3
theorem block_turn {S : Sto} {t l m : Nat} {ks : List Nat} (ok : Ok S) (mk : Mk S t (.B l m) ks) : t = S.birth l + S.birth l % 2 := by
  cases mk with
  | B l m even hl bl two sep =>
    by_cases q : S.birth l + S.birth l % 2 < t
    · have := sep _ q
      rw [lst_self ok hl (by omega), fst_self ok hl (by omega)] at this
      exact absurd rfl (this.1 (by omega))
    · omega
end VW
set_option maxHeartbeats 400000
set_option maxRecDepth 100000
set_option linter.all false
/-! Part D: places in a parse; what is taken from a stretch's ends. -/
namespace VW
/-- a place at which a piece of the parse begins or ends -/
def Al (S : Sto) (top t p : Nat) : Prop := ∃ A B, S.exp top t = A ++ B ∧ szs S A = p
def Seg (S : Sto) (top t lo hi : Nat) (M : List Nat) : Prop := ∃ A B, S.exp top t = A ++ (M ++ B) ∧ szs S A = lo ∧ lo + szs S M = hi
/-- the piece nm stands at st and covers at -/
def Loc (S : Sto) (top t nm st at_ : Nat) : Prop := ∃ A B, S.exp top t = A ++ nm :: B ∧ szs S A = st ∧ st ≤ at_ ∧ at_ < st + S.size nm
/-- the names that runs stand for -/
def unr (rs : List (Nat × Nat)) : List Nat := rs.flatMap fun r => List.replicate r.2 r.1
def wt (rs : List (Nat × Nat)) : Nat := (rs.map fun r => if 1 < r.2 then 2 else 1).sum
theorem unr_app {a b : List (Nat × Nat)} : unr (a ++ b) = unr a ++ unr b := by simp [unr]
theorem unr_cons {r : Nat × Nat} {b : List (Nat × Nat)} : unr (r :: b) = List.replicate r.2 r.1 ++ unr b := by simp [unr]
theorem wt_app {a b : List (Nat × Nat)} : wt (a ++ b) = wt a + wt b := by simp [wt]
theorem wt_cons {r : Nat × Nat} {b : List (Nat × Nat)} : wt (r :: b) = (if 1 < r.2 then 2 else 1) + wt b := by simp [wt]

section
variable {S : Sto} (ok : Ok S)
include ok
theorem szs0 {l : List Nat} (hl : ∀ x ∈ l, x < S.len) (h : szs S l = 0) : l = [] := by
  have := le_szs (S := S) (l := l) fun x hx => size_pos ok (hl x hx)
  exact List.length_eq_zero_iff.mp (by omega)
theorem szs_pos {l : List Nat} (hl : ∀ x ∈ l, x < S.len) (h : l ≠ []) : 0 < szs S l := by
  rcases Nat.eq_zero_or_pos (szs S l) with q | q
  · exact absurd (szs0 ok hl q) h
  · exact q
/-- two cuts of one parse, by their places -/
theorem cut_le {a b c d : List Nat} (hl : ∀ x ∈ a ++ b, x < S.len) (h : a ++ b = c ++ d) (hs : szs S a ≤ szs S c) : ∃ e, c = a ++ e ∧ b = e ++ d := by
  by_cases q : a.length ≤ c.length
  · exact app_cut h q
  · obtain ⟨e, h1, h2⟩ := app_cut h.symm (by omega)
    subst h1
    rw [szs_app] at hs
    have : e = [] := szs0 ok (fun x hx => hl x (by simp [hx])) (by omega)
    subst this
    exact ⟨[], by simp, by simpa using h2.symm⟩
theorem cut_eq {a b c d : List Nat} (hl : ∀ x ∈ a ++ b, x < S.len) (h : a ++ b = c ++ d) (hs : szs S a = szs S c) : a = c ∧ b = d := by
  obtain ⟨e, h1, h2⟩ := cut_le ok hl h (Nat.le_of_eq hs)
  have : e = [] := by
    subst h1
    rw [szs_app] at hs
    refine szs0 ok (fun x hx => hl x ?_) (by omega)
    rw [h2]
    simp [hx]
  subst this
  exact ⟨by simpa using h1.symm, by simpa using h2⟩
section
variable {top t lo hi p q : Nat} (ht : top < S.len)
include ht
theorem al_zero : Al S top t 0 := ⟨[], S.exp top t, rfl, rfl⟩
theorem al_size : Al S top t (S.size top) := ⟨S.exp top t, [], by simp, exp_szs ok ht t⟩
theorem al_le (h : Al S top t p) : p ≤ S.size top := by
  obtain ⟨A, B, e, hs⟩ := h
  have := exp_szs ok ht t
  rw [e, szs_app] at this
  omega
theorem seg_of (h1 : Al S top t lo) (h2 : Al S top t hi) (h : lo ≤ hi) : ∃ M, Seg S top t lo hi M := by
  obtain ⟨A, B, e, hs⟩ := h1
  obtain ⟨C, D, e', hs'⟩ := h2
  obtain ⟨E, e1, e2⟩ := cut_le ok (a := A) (b := B) (c := C) (d := D) (fun x hx => exp_lt ok ht t x (by rw [e]; exact hx)) (e.symm.trans e') (by omega)
  refine ⟨E, A, D, by rw [e, e2], hs, ?_⟩
  rw [e1, szs_app] at hs'
  omega
omit ok ht in
theorem seg_al1 {M : List Nat} (h : Seg S top t lo hi M) : Al S top t lo := by
  obtain ⟨A, B, e, h1, h2⟩ := h
  exact ⟨A, M ++ B, e, h1⟩
omit ok ht in
theorem seg_al2 {M : List Nat} (h : Seg S top t lo hi M) : Al S top t hi := by
  obtain ⟨A, B, e, h1, h2⟩ := h
  exact ⟨A ++ M, B, by rw [e, List.append_assoc], by rw [szs_app]; omega⟩
theorem seg_lt {M : List Nat} (h : Seg S top t lo hi M) : ∀ x ∈ M, x < S.len ∧ S.birth x ≤ t := fun x hx => by
  obtain ⟨A, B, e, h1, h2⟩ := h
  have hm : x ∈ S.exp top t := by rw [e]; simp [hx]
  exact ⟨exp_lt ok ht t x hm, (exp_mem ok ht t x hm).2⟩
theorem seg_ne {M : List Nat} (h : Seg S top t lo hi M) (hl : lo < hi) : M ≠ [] := by
  obtain ⟨A, B, e, h1, h2⟩ := h
  intro z
  subst z
  rw [szs_nil] at h2
  omega
omit ok ht in
theorem seg_nil {M : List Nat} (h : Seg S top t lo hi M) (hl : M ≠ []) (ok : Ok S) (ht : top < S.len) : lo < hi := by
  have := szs_pos ok (fun x hx => (seg_lt ok ht h x hx).1) hl
  obtain ⟨A, B, e, h1, h2⟩ := h
  omega
theorem seg_eq {M N : List Nat} (h : Seg S top t lo hi M) (h' : Seg S top t lo hi N) : M = N := by
  obtain ⟨A, B, e, h1, h2⟩ := h
  obtain ⟨C, D, e', h3, h4⟩ := h'
  have c1 := cut_eq ok (a := A) (b := M ++ B) (c := C) (d := N ++ D) (fun x hx => exp_lt ok ht t x (by rw [e]; exact hx)) (e.symm.trans e') (by omega)
  have c2 := cut_eq ok (a := M) (b := B) (c := N) (d := D) (fun x hx => exp_lt ok ht t x (by rw [e]; simp only [List.mem_append] at hx ⊢; exact .inr hx)) c1.2 (by omega)
  exact c2.1
theorem seg_split {M : List Nat} (h : Seg S top t lo hi M) (hm : Al S top t p) (h1 : lo ≤ p) (h2 : p ≤ hi) : ∃ F N, M = F ++ N ∧ Seg S top t lo p F ∧ Seg S top t p hi N := by
  obtain ⟨F, hF⟩ := seg_of ok ht (seg_al1 h) hm h1
  obtain ⟨N, hN⟩ := seg_of ok ht hm (seg_al2 h) h2
  refine ⟨F, N, ?_, hF, hN⟩
  refine seg_eq ok ht h ?_
  obtain ⟨A, B, e, a1, a2⟩ := hF
  obtain ⟨C, D, e', c1, c2⟩ := hN
  have := cut_eq ok (a := A ++ F) (b := B) (c := C) (d := N ++ D) (fun x hx => exp_lt ok ht t x (by rw [e]; simpa using hx)) (by rw [List.append_assoc]; exact e.symm.trans e') (by rw [szs_app]; omega)
  refine ⟨A, D, ?_, a1, by rw [szs_app]; omega⟩
  rw [e, this.2]
  simp
omit ok ht in
theorem seg_join {F N : List Nat} (ok : Ok S) (ht : top < S.len) (h : Seg S top t lo p F) (h' : Seg S top t p hi N) : Seg S top t lo hi (F ++ N) := by
  obtain ⟨A, B, e, a1, a2⟩ := h
  obtain ⟨C, D, e', c1, c2⟩ := h'
  have := cut_eq ok (a := A ++ F) (b := B) (c := C) (d := N ++ D) (fun x hx => exp_lt ok ht t x (by rw [e]; simpa using hx)) (by rw [List.append_assoc]; exact e.symm.trans e') (by rw [szs_app]; omega)
  refine ⟨A, D, ?_, a1, by rw [szs_app]; omega⟩
  rw [e, this.2]
  simp
theorem al_down {s : Nat} (h : Al S top t p) (hs : s ≤ t) : Al S top s p := by
  obtain ⟨A, B, e, a1⟩ := h
  have hA : ∀ x ∈ A, x < S.len := fun x hx => exp_lt ok ht t x (by rw [e]; simp [hx])
  exact ⟨flat S s A, flat S s B, by rw [← exp_comp ok ht s t hs, e, flat_app], by rw [flat_szs ok hA]; exact a1⟩
theorem seg_down {s : Nat} {M : List Nat} (h : Seg S top t lo hi M) (hs : s ≤ t) : Seg S top s lo hi (flat S s M) := by
  obtain ⟨A, B, e, a1, a2⟩ := h
  have hA : ∀ x ∈ A, x < S.len := fun x hx => exp_lt ok ht t x (by rw [e]; simp [hx])
  have hM : ∀ x ∈ M, x < S.len := fun x hx => exp_lt ok ht t x (by rw [e]; simp [hx])
  exact ⟨flat S s A, flat S s B, by rw [← exp_comp ok ht s t hs, e, flat_app, flat_app], by rw [flat_szs ok hA]; exact a1, by rw [flat_szs ok hM]; exact a2⟩
theorem seg_ch {M : List Nat} (h : Seg S top t lo hi M) : Ch (Sep S t) M := by
  obtain ⟨A, B, e, a1, a2⟩ := h
  have := exp_ch ok ht t
  rw [e] at this
  exact (ch_app.mp (ch_app.mp this).2.1).1
/-- around a place of the next parse two pieces were not made one -/
theorem bdry {F N : List Nat} (h1 : Seg S top t lo p F) (h2 : Seg S top t p hi N) (hF : F ≠ []) (hN : N ≠ []) (ha : Al S top (t + 1) p) : NoM t (ls F) (hd N) := by
  obtain ⟨A, B, e, a1, a2⟩ := h1
  obtain ⟨C, D, e', c1, c2⟩ := h2
  obtain ⟨U, W, e2, u1⟩ := ha
  have hU : ∀ x ∈ U, x < S.len := fun x hx => exp_lt ok ht (t + 1) x (by rw [e2]; simp [hx])
  have hW : ∀ x ∈ W, x < S.len := fun x hx => exp_lt ok ht (t + 1) x (by rw [e2]; simp [hx])
  have e3 : S.exp top t = flat S t U ++ flat S t W := by rw [← exp_comp ok ht t (t + 1) (Nat.le_succ _), e2, flat_app]
  have k1 := cut_eq ok (a := A ++ F) (b := B) (c := flat S t U) (d := flat S t W) (fun x hx => exp_lt ok ht t x (by rw [e]; simpa using hx)) (by rw [List.append_assoc]; exact e.symm.trans e3) (by rw [szs_app, flat_szs ok hU]; omega)
  have k2 := cut_eq ok (a := C) (b := N ++ D) (c := flat S t U) (d := flat S t W) (fun x hx => exp_lt ok ht t x (by rw [e']; exact hx)) (e'.symm.trans e3) (by rw [flat_szs ok hU]; omega)
  have nU : U ≠ [] := by
    intro z
    subst z
    have := k1.1
    rw [flat_nil] at this
    simp [hF] at this
  have nW : W ≠ [] := by
    intro z
    subst z
    have := k2.2
    rw [flat_nil] at this
    simp [hN] at this
  have c := exp_ch ok ht (t + 1)
  rw [e2] at c
  have s := (ch_app.mp c).2.2 nU nW t (Nat.lt_succ_self t)
  have q1 : lst S t (ls U) = ls F := by
    have := ls_flatMap (f := fun x => S.exp x t) nU fun x hx => exp_ne ok (hU x hx) t
    have z : ls (flat S t U) = lst S t (ls U) := this
    rw [← z, ← k1.1, ls_app hF]
  have q2 : fst S t (hd W) = hd N := by
    have := hd_flatMap (f := fun x => S.exp x t) nW fun x hx => exp_ne ok (hW x hx) t
    have z : hd (flat S t W) = fst S t (hd W) := this
    rw [← z, ← k2.2, hd_app hN]
  rw [q1, q2] at s
  exact s
end
omit ok in
/-- a cut of a list of pieces' parts: between two of them or within one -/
theorem flat_cut {s : Nat} : ∀ {Z X Y : List Nat}, flat S s Z = X ++ Y → (∃ A B, Z = A ++ B ∧ flat S s A = X ∧ flat S s B = Y) ∨ ∃ A z B k1 k2, Z = A ++ z :: B ∧ S.exp z s = k1 ++ k2 ∧ k1 ≠ [] ∧ k2 ≠ [] ∧ X = flat S s A ++ k1 ∧ Y = k2 ++ flat S s B
  | [], X, Y, h => by
    rw [flat_nil] at h
    obtain ⟨h1, h2⟩ := List.append_eq_nil_iff.mp h.symm
    exact .inl ⟨[], [], rfl, h1.symm, h2.symm⟩
  | z :: Z, X, Y, h => by
    rw [flat_cons] at h
    by_cases q : X.length < (S.exp z s).length
    · obtain ⟨e, h1, h2⟩ := app_cut h.symm (by omega)
      by_cases hX : X = []
      · subst hX
        refine .inl ⟨[], z :: Z, rfl, rfl, ?_⟩
        rw [flat_cons]
        exact h
      · refine .inr ⟨[], z, Z, X, e, rfl, h1, hX, ?_, by simp [flat], h2⟩
        intro w
        subst w
        simp at h1
        rw [h1] at q
        exact Nat.lt_irrefl _ q
    · obtain ⟨e, h1, h2⟩ := app_cut h (by omega)
      rcases flat_cut (Z := Z) (X := e) (Y := Y) h2 with ⟨A, B, e1, e2, e3⟩ | ⟨A, w, B, k1, k2, e1, e2, n1, n2, e3, e4⟩
      · exact .inl ⟨z :: A, B, by rw [e1]; rfl, by rw [flat_cons, e2, h1], e3⟩
      · exact .inr ⟨z :: A, w, B, k1, k2, by rw [e1]; rfl, e2, n1, n2, by rw [flat_cons, h1, e3, List.append_assoc], e4⟩
theorem born_now {z t : Nat} (hz : z < S.len) (hb : S.birth z ≤ t + 1) (h : 2 ≤ (S.exp z t).length) :
    (t % 2 = 1 ∧ ∃ l r, S.exp z t = [l, r] ∧ Meet l r t) ∨ (t % 2 = 0 ∧ ∃ l m, S.node z = .B l m ∧ S.exp z t = List.replicate m l) := by
  have nb : t < S.birth z := by
    by_cases q : S.birth z ≤ t
    · rw [exp_self ok hz q] at h
      simp at h
    · omega
  have k := ok.nodes z hz
  unfold NOk at k
  cases e : S.node z with
  | L a =>
    rw [e] at k
    have := k.2.2.1
    omega
  | P l r =>
    rw [e] at k
    obtain ⟨u, uo, um, c⟩ := k
    have : u = t := by have := c.birth; omega
    subst this
    refine .inl ⟨uo, l, r, ?_, um⟩
    rw [c.exp, if_neg (by omega)]
    refine flat_self fun x hx => exp_self ok (Nat.lt_trans (c.lt x hx).1 hz) (c.lt x hx).2
  | B l m =>
    rw [e] at k
    obtain ⟨u, uo, c⟩ := k
    have : u = t := by have := c.birth; omega
    subst this
    refine .inr ⟨uo, l, m, rfl, ?_⟩
    rw [c.exp, if_neg (by omega)]
    refine flat_self fun x hx => exp_self ok (Nat.lt_trans (c.lt x hx).1 hz) (c.lt x hx).2
/-- two neighbours that are not made one: their place is one of the next parse -/
theorem al_up {top t lo p hi : Nat} {F N : List Nat} (ht : top < S.len) (h1 : Seg S top t lo p F) (h2 : Seg S top t p hi N) (hF : F ≠ []) (hN : N ≠ []) (ha : NoM t (ls F) (hd N)) : Al S top (t + 1) p := by
  obtain ⟨A, B, e, a1, a2⟩ := h1
  obtain ⟨C, D, e', c1, c2⟩ := h2
  have k := cut_eq ok (a := A ++ F) (b := B) (c := C) (d := N ++ D) (fun x hx => exp_lt ok ht t x (by rw [e]; simpa using hx)) (by rw [List.append_assoc]; exact e.symm.trans e') (by rw [szs_app]; omega)
  have e3 : flat S t (S.exp top (t + 1)) = C ++ (N ++ D) := (exp_comp ok ht t (t + 1) (Nat.le_succ _)).trans e'
  rcases flat_cut e3 with ⟨U, W, z1, z2, z3⟩ | ⟨U, z, W, k1, k2, z1, z2, n1, n2, z3, z4⟩
  · refine ⟨U, W, z1, ?_⟩
    have hU : ∀ x ∈ U, x < S.len := fun x hx => exp_lt ok ht (t + 1) x (by rw [z1]; simp [hx])
    rw [← flat_szs ok hU (s := t), z2]
    exact c1
  · exfalso
    have hz : z ∈ S.exp top (t + 1) := by rw [z1]; simp
    have lz := exp_lt ok ht (t + 1) z hz
    have bz := (exp_mem ok ht (t + 1) z hz).2
    have l2 : 2 ≤ (S.exp z t).length := by
      rw [z2, List.length_append]
      have := List.length_pos_iff.mpr n1
      have := List.length_pos_iff.mpr n2
      omega
    have q1 : ls F = ls k1 := by
      rw [← ls_app (a := A) hF, k.1, z3, ls_app n1]
    have q2 : hd N = hd k2 := by
      have : hd (N ++ D) = hd (k2 ++ flat S t W) := congrArg hd z4
      rw [hd_app hN, hd_app n2] at this
      exact this
    rw [q1, q2] at ha
    rcases born_now ok lz bz l2 with ⟨ho, l, r, e5, m⟩ | ⟨he, l, m, _, e5⟩
    · rw [z2] at e5
      have : k1 = [l] ∧ k2 = [r] := by
        match k1, k2, n1, n2, e5 with
        | [a], [b], _, _, e5 => simpa using e5
        | [a], b :: c :: d, _, _, e5 => simp at e5
        | a :: b :: c, d :: f, _, _, e5 => simp at e5
      rw [this.1, this.2] at ha
      exact ha.2 ho m
    · rw [z2] at e5
      obtain ⟨_, r1, r2⟩ := List.append_eq_replicate_iff.mp e5
      have x1 : ls k1 = l := by
        obtain ⟨r, x, w⟩ := snoc_ex n1
        rw [w, ls_snoc]
        rw [w] at r1
        rw [List.eq_replicate_iff] at r1
        exact r1.2 x (by simp)
      have x2 : hd k2 = l := by
        obtain ⟨r, w⟩ := cons_of n2
        rw [List.eq_replicate_iff] at r2
        refine r2.2 _ ?_
        rw [w]
        simp [hd]
      exact ha.1 he (x1.trans x2.symm)

/-! ### what the search for a piece finds -/
section
variable {top t nm st at_ lo hi p : Nat} (ht : top < S.len)
include ht
omit ok ht in
theorem loc_seg (h : Loc S top t nm st at_) : Seg S top t st (st + S.size nm) [nm] := by
  obtain ⟨A, B, e, a1, a2, a3⟩ := h
  exact ⟨A, B, by rw [e]; rfl, a1, by simp [szs]⟩
theorem loc_lt (h : Loc S top t nm st at_) : nm < S.len ∧ S.birth nm ≤ t := seg_lt ok ht (loc_seg h) nm (by simp)
/-- nothing of the parse begins within a piece -/
theorem al_out (h : Loc S top t nm st at_) (ha : Al S top t p) : p ≤ st ∨ st + S.size nm ≤ p := by
  obtain ⟨A, B, e, a1, a2, a3⟩ := h
  obtain ⟨C, D, e', c1⟩ := ha
  by_cases q : p ≤ st
  · exact .inl q
  · obtain ⟨E, e1, e2⟩ := cut_le ok (a := A) (b := nm :: B) (c := C) (d := D) (fun x hx => exp_lt ok ht t x (by rw [e]; exact hx)) (e.symm.trans e') (by omega)
    refine .inr ?_
    cases E with
    | nil =>
      rw [List.append_nil] at e1
      subst e1
      omega
    | cons y r =>
      rw [List.cons_append] at e2
      injection e2 with f1 f2
      subst f1
      rw [e1, szs_app, szs_cons] at c1
      omega
theorem loc_begin (h : Loc S top t nm st p) (ha : Al S top t p) : st = p := by
  have := al_out ok ht h ha
  obtain ⟨A, B, e, a1, a2, a3⟩ := h
  omega
theorem loc_end (h : Loc S top t nm st (p - 1)) (hp : 0 < p) (ha : Al S top t p) : st + S.size nm = p := by
  have := al_out ok ht h ha
  obtain ⟨A, B, e, a1, a2, a3⟩ := h
  omega
theorem loc_eq {nm' st' : Nat} (h : Loc S top t nm st at_) (h' : Loc S top t nm' st' at_) : nm = nm' ∧ st = st' := by
  have s := loc_seg h
  have s' := loc_seg h'
  have b1 := al_out ok ht h (seg_al1 s')
  have b2 := al_out ok ht h (seg_al2 s')
  have b3 := al_out ok ht h' (seg_al1 s)
  have b4 := al_out ok ht h' (seg_al2 s)
  obtain ⟨A, B, e, a1, a2, a3⟩ := id h
  obtain ⟨C, D, e', c1, c2, c3⟩ := id h'
  have e1 : st = st' := by omega
  have e2 : st + S.size nm = st' + S.size nm' := by omega
  subst e1
  rw [← e2] at s'
  have := seg_eq ok ht s s'
  exact ⟨by injection this, rfl⟩
theorem seg_in_rep {b e m l : Nat} (h : Seg S top t b e (List.replicate m l)) (ha : Al S top t lo) (hb : Al S top t hi) (h1 : b ≤ lo) (h2 : lo ≤ hi) (h3 : hi ≤ e) : ∃ c, Seg S top t lo hi (List.replicate c l) ∧ hi - lo = c * S.size l := by
  obtain ⟨F, N, e1, s1, s2⟩ := seg_split ok ht h ha h1 (Nat.le_trans h2 h3)
  obtain ⟨G, N', e2, s3, s4⟩ := seg_split ok ht s2 hb h2 h3
  have r1 := (List.append_eq_replicate_iff.mp e1.symm).2.2
  rw [e2] at r1
  have r2 := (List.append_eq_replicate_iff.mp r1).2.1
  refine ⟨G.length, by rw [← r2]; exact s3, ?_⟩
  obtain ⟨A, B, _, _, z⟩ := s3
  rw [r2, szs_rep] at z
  omega
end

/-! ### the ends of a stretch -/
/-- what is taken from the beginning: up to e_, as runs -/
structure OffL (S : Sto) (t top lo hi e_ : Nat) (rs : List (Nat × Nat)) : Prop where
  lt : lo < e_
  le : e_ ≤ hi
  seg : Seg S top t lo e_ (unr rs)
  up : e_ < hi → Al S top (t + 1) e_
  wt : wt rs ≤ 2
  one : ∀ r ∈ rs, 1 ≤ r.2 ∧ (t % 2 = 1 → r.2 = 1)
  ne : rs ≠ []
structure OffR (S : Sto) (t top lo hi b_ : Nat) (rs : List (Nat × Nat)) : Prop where
  le : lo ≤ b_
  lt : b_ < hi
  seg : Seg S top t b_ hi (unr rs)
  up : lo < b_ → Al S top (t + 1) b_
  wt : wt rs ≤ 2
  one : ∀ r ∈ rs, 1 ≤ r.2 ∧ (t % 2 = 1 → r.2 = 1)
  ne : rs ≠ []
omit ok in
theorem wt_one (a c : Nat) : wt [(a, c)] ≤ 2 := by
  show (if 1 < c then 2 else 1) + 0 ≤ 2
  split <;> omega
omit ok in
theorem wt_two (a b : Nat) : wt [(a, 1), (b, 1)] ≤ 2 := by
  simp [wt]
section
variable {top t lo hi nm st over begun : Nat} (ht : top < S.len) (hlo : Al S top t lo) (hhi : Al S top t hi) (hlt : lo < hi)
include ht hlo hhi hlt
/-- even, the first piece stays alone -/
theorem offL_alone (h : Loc S top t nm st lo) (h' : Loc S top (t + 1) nm begun lo) : OffL S t top lo hi (lo + S.size nm) [(nm, (lo + S.size nm - lo) / S.size nm)] ∧ st = lo := by
  have e := loc_begin ok ht h hlo
  subst e
  have hn := (loc_lt ok ht h).1
  have hb := (loc_lt ok ht h).2
  have sp := size_pos ok hn
  have q := al_out ok ht h hhi
  have k : begun = st := by
    have d := seg_down ok ht (loc_seg h') (Nat.le_succ t)
    rw [flat_cons, flat_nil, List.append_nil, exp_self ok hn hb] at d
    have o := al_out ok ht h (seg_al1 d)
    have o2 := al_out ok ht h (seg_al2 d)
    obtain ⟨A, B, _, _, z1, z2⟩ := h'
    omega
  have c : (st + S.size nm - st) / S.size nm = 1 := by
    rw [Nat.add_sub_cancel_left]
    exact Nat.div_self sp
  refine ⟨⟨by omega, by omega, ?_, fun _ => ?_, wt_one _ _, fun r hr => ?_, by simp⟩, rfl⟩
  · rw [c]
    exact loc_seg h
  · have := seg_al2 (loc_seg h')
    rw [k] at this
    exact this
  · have : r = (nm, (st + S.size nm - st) / S.size nm) := by simpa using hr
    subst this
    rw [c]
    exact ⟨Nat.le_refl _, fun _ => rfl⟩
/-- even, the first piece becomes part of a block -/
theorem offL_block (he : t % 2 = 0) (h : Loc S top t nm st lo) (h' : Loc S top (t + 1) over begun lo) (hne : over ≠ nm) : OffL S t top lo hi (min (begun + S.size over) hi) [(nm, (min (begun + S.size over) hi - lo) / S.size nm)] ∧ st = lo := by
  have e := loc_begin ok ht h hlo
  subst e
  have hn := (loc_lt ok ht h).1
  have sp := size_pos ok hn
  have ho := loc_lt ok ht h'
  have d := seg_down ok ht (loc_seg h') (Nat.le_succ t)
  rw [flat_cons, flat_nil, List.append_nil] at d
  obtain ⟨A', B', _, _, z1, z2⟩ := id h'
  obtain ⟨l, m, e1, e2⟩ : ∃ l m, S.node over = .B l m ∧ S.exp over t = List.replicate m l := by
    by_cases two : 2 ≤ (S.exp over t).length
    · rcases born_now ok ho.1 ho.2 two with ⟨o, _⟩ | ⟨_, k⟩
      · omega
      · exact k
    · exfalso
      have b : S.birth over ≤ t := by
        by_cases b : S.birth over ≤ t
        · exact b
        · exact absurd (exp_big ok ho.1 (by omega : t < S.birth over)) two
      rw [exp_self ok ho.1 b] at d
      have l' : Loc S top t over begun st := by
        obtain ⟨A, B, e3, a1, a2⟩ := d
        exact ⟨A, B, e3, a1, z1, z2⟩
      exact hne (loc_eq ok ht l' h).1
  rw [e2] at d
  -- the end is a place of the parse
  have hend : Al S top t (min (begun + S.size over) hi) := by
    rcases Nat.le_total (begun + S.size over) hi with q | q
    · rw [Nat.min_eq_left q]
      exact seg_al2 d
    · rw [Nat.min_eq_right q]
      exact hhi
  obtain ⟨c, sc, ec⟩ := seg_in_rep ok ht d hlo hend z1 (by omega) (by omega)
  have cpos : 0 < c := by
    rcases Nat.eq_zero_or_pos c with z | z
    · subst z
      omega
    · exact z
  -- the block's piece is the one that stands here
  have en : l = nm := by
    have q := al_out ok ht h hend
    have s1 : Al S top t (st + S.size nm) := seg_al2 (loc_seg h)
    obtain ⟨F, N, f1, f2, f3⟩ := seg_split ok ht sc s1 (by omega) (by omega)
    have : F = [nm] := seg_eq ok ht f2 (loc_seg h)
    subst this
    have : nm ∈ List.replicate c l := by rw [f1]; simp
    exact (List.eq_of_mem_replicate this).symm
  subst en
  have ed : (min (begun + S.size over) hi - st) / S.size l = c := by
    rw [ec]
    exact Nat.mul_div_cancel _ sp
  refine ⟨⟨by omega, Nat.min_le_right _ _, ?_, fun q => ?_, wt_one _ _, fun r hr => ?_, by simp⟩, rfl⟩
  · rw [ed]
    show Seg S top t st _ (List.replicate c l ++ [])
    rw [List.append_nil]
    exact sc
  · have : min (begun + S.size over) hi = begun + S.size over := by omega
    rw [this]
    exact seg_al2 (loc_seg h')
  · have : r = (l, (min (begun + S.size over) hi - st) / S.size l) := by simpa using hr
    subst this
    rw [ed]
    exact ⟨cpos, fun o => by omega⟩
/-- odd, the first piece and the next one meet -/
theorem offL_pair (hod : t % 2 = 1) (h : Loc S top t nm st lo) {af ast : Nat} (hin : lo + S.size nm < hi) (h' : Loc S top t af ast (lo + S.size nm)) (hm : Meet nm af t) : OffL S t top lo hi (lo + S.size nm + S.size af) [(nm, 1), (af, 1)] := by
  have e := loc_begin ok ht h hlo
  subst e
  have e' := loc_begin ok ht h' (seg_al2 (loc_seg h))
  subst e'
  have q := al_out ok ht h' hhi
  have sp := size_pos ok (loc_lt ok ht h).1
  have s2 := seg_join ok ht (loc_seg h) (loc_seg h')
  refine ⟨by omega, by omega, s2, fun r => ?_, wt_two _ _, fun r hr => ?_, by simp⟩
  · obtain ⟨N, hN⟩ := seg_of ok ht (seg_al2 (loc_seg h')) hhi (by omega)
    refine al_up ok ht s2 hN (by simp) (seg_ne ok ht hN r) ⟨fun z => by omega, fun _ m => ?_⟩
    have a1 : side af t = 1 := hm.2
    have a2 : side (ls [nm, af]) t = 0 := m.1
    have : ls [nm, af] = af := rfl
    rw [this] at a2
    omega
  · have : r = (nm, 1) ∨ r = (af, 1) := by simpa using hr
    rcases this with z | z <;> subst z <;> exact ⟨Nat.le_refl _, fun _ => rfl⟩
/-- odd, they don't meet -/
theorem offL_apart (hod : t % 2 = 1) (h : Loc S top t nm st lo) {af ast : Nat} (hin : lo + S.size nm < hi) (h' : Loc S top t af ast (lo + S.size nm)) (hm : ¬ Meet nm af t) : OffL S t top lo hi (lo + S.size nm) [(nm, 1)] := by
  have e := loc_begin ok ht h hlo
  subst e
  have sp := size_pos ok (loc_lt ok ht h).1
  refine ⟨by omega, by omega, loc_seg h, fun r => ?_, wt_one _ _, fun r hr => ?_, by simp⟩
  · have e' := loc_begin ok ht h' (seg_al2 (loc_seg h))
    subst e'
    exact al_up ok ht (loc_seg h) (loc_seg h') (by simp) (by simp) ⟨fun z => by omega, fun _ m => hm m⟩
  · have : r = (nm, 1) := by simpa using hr
    subst this
    exact ⟨Nat.le_refl _, fun _ => rfl⟩
/-- odd, it is the only piece -/
theorem offL_only (hod : t % 2 = 1) (h : Loc S top t nm st lo) (hin : ¬ lo + S.size nm < hi) : OffL S t top lo hi (lo + S.size nm) [(nm, 1)] := by
  have e := loc_begin ok ht h hlo
  subst e
  have sp := size_pos ok (loc_lt ok ht h).1
  have q := al_out ok ht h hhi
  refine ⟨by omega, by omega, loc_seg h, fun r => by omega, wt_one _ _, fun r hr => ?_, by simp⟩
  have : r = (nm, 1) := by simpa using hr
  subst this
  exact ⟨Nat.le_refl _, fun _ => rfl⟩
/-- the same from the end -/
theorem offR_alone (h : Loc S top t nm st (hi - 1)) (h' : Loc S top (t + 1) nm begun (hi - 1)) : OffR S t top lo hi st [(nm, (hi - st) / S.size nm)] := by
  have e := loc_end ok ht h (by omega) hhi
  have hn := (loc_lt ok ht h).1
  have hb := (loc_lt ok ht h).2
  have sp := size_pos ok hn
  have q := al_out ok ht h hlo
  have k : begun = st := by
    have d := seg_down ok ht (loc_seg h') (Nat.le_succ t)
    rw [flat_cons, flat_nil, List.append_nil, exp_self ok hn hb] at d
    have o := al_out ok ht h (seg_al1 d)
    have o2 := al_out ok ht h (seg_al2 d)
    obtain ⟨A, B, _, _, z1, z2⟩ := h'
    omega
  have c : (hi - st) / S.size nm = 1 := by
    have : hi - st = S.size nm := by omega
    rw [this]
    exact Nat.div_self sp
  refine ⟨by omega, by omega, ?_, fun _ => ?_, wt_one _ _, fun r hr => ?_, by simp⟩
  · rw [c]
    have := loc_seg h
    rw [e] at this
    exact this
  · have := seg_al1 (loc_seg h')
    rw [k] at this
    exact this
  · have : r = (nm, (hi - st) / S.size nm) := by simpa using hr
    subst this
    rw [c]
    exact ⟨Nat.le_refl _, fun _ => rfl⟩
theorem offR_block (he : t % 2 = 0) (h : Loc S top t nm st (hi - 1)) (h' : Loc S top (t + 1) over begun (hi - 1)) (hne : over ≠ nm) : OffR S t top lo hi (max begun lo) [(nm, (hi - max begun lo) / S.size nm)] := by
  have e := loc_end ok ht h (by omega) hhi
  have hn := (loc_lt ok ht h).1
  have sp := size_pos ok hn
  have ho := loc_lt ok ht h'
  have d := seg_down ok ht (loc_seg h') (Nat.le_succ t)
  rw [flat_cons, flat_nil, List.append_nil] at d
  obtain ⟨A', B', _, _, z1, z2⟩ := id h'
  obtain ⟨l, m, e1, e2⟩ : ∃ l m, S.node over = .B l m ∧ S.exp over t = List.replicate m l := by
    by_cases two : 2 ≤ (S.exp over t).length
    · rcases born_now ok ho.1 ho.2 two with ⟨o, _⟩ | ⟨_, k⟩
      · omega
      · exact k
    · exfalso
      have b : S.birth over ≤ t := by
        by_cases b : S.birth over ≤ t
        · exact b
        · exact absurd (exp_big ok ho.1 (by omega : t < S.birth over)) two
      rw [exp_self ok ho.1 b] at d
      have l' : Loc S top t over begun (hi - 1) := by
        obtain ⟨A, B, e3, a1, a2⟩ := d
        exact ⟨A, B, e3, a1, z1, z2⟩
      exact hne (loc_eq ok ht l' h).1
  rw [e2] at d
  have hbeg : Al S top t (max begun lo) := by
    rcases Nat.le_total begun lo with q | q
    · rw [Nat.max_eq_right q]
      exact hlo
    · rw [Nat.max_eq_left q]
      exact seg_al1 d
  obtain ⟨c, sc, ec⟩ := seg_in_rep ok ht d hbeg hhi (by omega) (by omega) (by omega)
  have cpos : 0 < c := by
    rcases Nat.eq_zero_or_pos c with z | z
    · subst z
      omega
    · exact z
  have en : l = nm := by
    have q := al_out ok ht h hbeg
    have s1 : Al S top t st := seg_al1 (loc_seg h)
    obtain ⟨F, N, f1, f2, f3⟩ := seg_split ok ht sc s1 (by omega) (by omega)
    have : N = [nm] := by
      have w := loc_seg h
      rw [e] at w
      exact seg_eq ok ht f3 w
    subst this
    have : nm ∈ List.replicate c l := by rw [f1]; simp
    exact (List.eq_of_mem_replicate this).symm
  subst en
  have ed : (hi - max begun lo) / S.size l = c := by
    rw [ec]
    exact Nat.mul_div_cancel _ sp
  refine ⟨Nat.le_max_right _ _, by omega, ?_, fun q => ?_, wt_one _ _, fun r hr => ?_, by simp⟩
  · rw [ed]
    show Seg S top t _ hi (List.replicate c l ++ [])
    rw [List.append_nil]
    exact sc
  · have : max begun lo = begun := by omega
    rw [this]
    exact seg_al1 (loc_seg h')
  · have : r = (l, (hi - max begun lo) / S.size l) := by simpa using hr
    subst this
    rw [ed]
    exact ⟨cpos, fun o => by omega⟩
theorem offR_pair (hod : t % 2 = 1) (h : Loc S top t nm st (hi - 1)) {bf bst : Nat} (hin : lo < st) (h' : Loc S top t bf bst (st - 1)) (hm : Meet bf nm t) : OffR S t top lo hi bst [(bf, 1), (nm, 1)] := by
  have e := loc_end ok ht h (by omega) hhi
  have e' := loc_end ok ht h' (by omega) (seg_al1 (loc_seg h))
  have q := al_out ok ht h' hlo
  have sp := size_pos ok (loc_lt ok ht h).1
  have sp' := size_pos ok (loc_lt ok ht h').1
  have g1 := loc_seg h
  rw [e] at g1
  have g2 := loc_seg h'
  rw [e'] at g2
  have s2 := seg_join ok ht g2 g1
  refine ⟨by omega, by omega, s2, fun r => ?_, wt_two _ _, fun r hr => ?_, by simp⟩
  · obtain ⟨N, hN⟩ := seg_of ok ht hlo (seg_al1 g2) (by omega)
    refine al_up ok ht hN s2 (seg_ne ok ht hN r) (by simp) ⟨fun z => by omega, fun _ m => ?_⟩
    have a1 : side bf t = 0 := hm.1
    have a2 : side (hd ([bf] ++ [nm])) t = 1 := m.2
    have : hd ([bf] ++ [nm]) = bf := rfl
    rw [this] at a2
    omega
  · have : r = (bf, 1) ∨ r = (nm, 1) := by simpa using hr
    rcases this with z | z <;> subst z <;> exact ⟨Nat.le_refl _, fun _ => rfl⟩
theorem offR_apart (hod : t % 2 = 1) (h : Loc S top t nm st (hi - 1)) {bf bst : Nat} (hin : lo < st) (h' : Loc S top t bf bst (st - 1)) (hm : ¬ Meet bf nm t) : OffR S t top lo hi st [(nm, 1)] := by
  have e := loc_end ok ht h (by omega) hhi
  have e' := loc_end ok ht h' (by omega) (seg_al1 (loc_seg h))
  have sp := size_pos ok (loc_lt ok ht h).1
  have g1 := loc_seg h
  rw [e] at g1
  have g2 := loc_seg h'
  rw [e'] at g2
  refine ⟨by omega, by omega, g1, fun r => ?_, wt_one _ _, fun r hr => ?_, by simp⟩
  · exact al_up ok ht g2 g1 (by simp) (by simp) ⟨fun z => by omega, fun _ m => hm m⟩
  · have : r = (nm, 1) := by simpa using hr
    subst this
    exact ⟨Nat.le_refl _, fun _ => rfl⟩
theorem offR_only (hod : t % 2 = 1) (h : Loc S top t nm st (hi - 1)) (hin : ¬ lo < st) : OffR S t top lo hi st [(nm, 1)] := by
  have e := loc_end ok ht h (by omega) hhi
  have sp := size_pos ok (loc_lt ok ht h).1
  have q := al_out ok ht h hlo
  have g1 := loc_seg h
  rw [e] at g1
  refine ⟨by omega, by omega, g1, fun r => by omega, wt_one _ _, fun r hr => ?_, by simp⟩
  have : r = (nm, 1) := by simpa using hr
  subst this
  exact ⟨Nat.le_refl _, fun _ => rfl⟩
end
end
end VW
set_option maxHeartbeats 400000
set_option maxRecDepth 100000
set_option linter.all false
/-! Part E: runs made pieces (blocks, pairs). -/
namespace VW
def NoMp (S : Sto) (t x y : Nat) : Prop := NoM t (lst S t x) (fst S t y)
/-- out is what turn t makes of raw -/
structure Mgd (S : Sto) (t : Nat) (raw out : List Nat) : Prop where
  lt : ∀ x ∈ out, x < S.len ∧ S.birth x ≤ t + 1
  flat : flat S t out = raw
  ch : Ch (NoMp S t) out
inductive F2 {α β : Type} (R : α → β → Prop) : List α → List β → Prop
  | nil : F2 R [] []
  | cons {x : α} {y : β} {a : List α} {b : List β} (h : R x y) (t : F2 R a b) : F2 R (x :: a) (y :: b)
theorem F2.len {α β : Type} {R : α → β → Prop} : ∀ {a : List α} {b : List β}, F2 R a b → a.length = b.length
  | _, _, .nil => rfl
  | _, _, .cons _ t => congrArg (· + 1) t.len
theorem F2.snoc {α β : Type} {R : α → β → Prop} {x : α} {y : β} : ∀ {a : List α} {b : List β}, F2 R a b → R x y → F2 R (a ++ [x]) (b ++ [y])
  | _, _, .nil, h => .cons h .nil
  | _, _, .cons r t, h => .cons r (t.snoc h)
theorem F2.mono {α β : Type} {R R' : α → β → Prop} (f : ∀ x y, R x y → R' x y) : ∀ {a : List α} {b : List β}, F2 R a b → F2 R' a b
  | _, _, .nil => .nil
  | _, _, .cons r t => .cons (f _ _ r) (t.mono f)
theorem F2.get {α β : Type} {R : α → β → Prop} : ∀ {a : List α} {b : List β}, F2 R a b → ∀ (i : Nat) (x : α), a[i]? = some x → ∃ y, b[i]? = some y ∧ R x y
  | _, _, .nil, i, x, h => by simp at h
  | _, _, .cons r t, 0, x, h => by simp at h; subst h; exact ⟨_, rfl, r⟩
  | _, _, .cons r t, i + 1, x, h => by
    obtain ⟨y, h1, h2⟩ := F2.get t i x (by simpa using h)
    exact ⟨y, by simpa using h1, h2⟩
theorem F2.get' {α β : Type} {R : α → β → Prop} : ∀ {a : List α} {b : List β}, F2 R a b → ∀ (i : Nat) (y : β), b[i]? = some y → ∃ x, a[i]? = some x ∧ R x y
  | _, _, .nil, i, x, h => by simp at h
  | _, _, .cons r t, 0, x, h => by simp at h; subst h; exact ⟨_, rfl, r⟩
  | _, _, .cons r t, i + 1, x, h => by
    obtain ⟨y, h1, h2⟩ := F2.get' t i x (by simpa using h)
    exact ⟨y, by simpa using h1, h2⟩
theorem F2.unsnoc {α β : Type} {R : α → β → Prop} {x : α} : ∀ {a : List α} {b : List β}, F2 R (a ++ [x]) b → ∃ b' y, b = b' ++ [y] ∧ F2 R a b' ∧ R x y
  | [], _, .cons r .nil => ⟨[], _, rfl, .nil, r⟩
  | _ :: a, _, .cons r t => by
    obtain ⟨b', y, e, h1, h2⟩ := F2.unsnoc (a := a) t
    exact ⟨_ :: b', y, by rw [e]; rfl, .cons r h1, h2⟩
theorem F2.map1 {α β γ : Type} {R : γ → β → Prop} (f : α → γ) : ∀ {a : List α} {b : List β}, F2 (fun x y => R (f x) y) a b → F2 R (a.map f) b
  | _, _, .nil => .nil
  | _, _, .cons r t => .cons r (t.map1 f)

section
variable {S : Sto} {t : Nat}
theorem Mgd.le {S' : Sto} {raw out : List Nat} (m : Mgd S t raw out) (le : Le S S') : Mgd S' t raw out :=
  ⟨fun x hx => ⟨le.lt (m.lt x hx).1, by rw [le.birth x (m.lt x hx).1]; exact (m.lt x hx).2⟩, by rw [le.flat fun x hx => (m.lt x hx).1]; exact m.flat,
    ch_mono m.ch fun x hx y hy r => by unfold NoMp; rw [le.lst (m.lt x hx).1, le.fst (m.lt y hy).1]; exact r⟩
theorem Mgd.nil : Mgd S t [] [] := ⟨fun x hx => (nomatch hx), rfl, trivial⟩
variable (ok : Ok S)
include ok
theorem flat_ls {out : List Nat} (h : out ≠ []) (hl : ∀ x ∈ out, x < S.len) : ls (flat S t out) = lst S t (ls out) := ls_flatMap (f := fun x => S.exp x t) h fun x hx => exp_ne ok (hl x hx) t
theorem flat_hd {out : List Nat} (h : out ≠ []) (hl : ∀ x ∈ out, x < S.len) : hd (flat S t out) = fst S t (hd out) := hd_flatMap (f := fun x => S.exp x t) h fun x hx => exp_ne ok (hl x hx) t
theorem flat_ne {out : List Nat} (h : out ≠ []) (hl : ∀ x ∈ out, x < S.len) : flat S t out ≠ [] := flatMap_ne (f := fun x => S.exp x t) h fun x hx => exp_ne ok (hl x hx) t
theorem Mgd.nil_of {out : List Nat} (m : Mgd S t [] out) : out = [] := by
  by_cases h : out = []
  · exact h
  · exact absurd m.flat (flat_ne ok h fun x hx => (m.lt x hx).1)
theorem Mgd.ne_of {raw out : List Nat} (m : Mgd S t raw out) (h : raw ≠ []) : out ≠ [] := by
  intro z
  subst z
  exact h m.flat.symm
/-- one piece more -/
theorem Mgd.snoc {raw out rs : List Nat} {x : Nat} (m : Mgd S t raw out) (hx : x < S.len) (hb : S.birth x ≤ t + 1) (he : S.exp x t = rs) (hn : raw ≠ [] → NoM t (ls raw) (hd rs)) : Mgd S t (raw ++ rs) (out ++ [x]) := by
  have hl : ∀ y ∈ out, y < S.len := fun y hy => (m.lt y hy).1
  refine ⟨fun y hy => ?_, ?_, ?_⟩
  · rcases List.mem_append.mp hy with q | q
    · exact m.lt y q
    · have : y = x := by simpa using q
      subst this
      exact ⟨hx, hb⟩
  · rw [flat_app, m.flat, flat_cons, flat_nil, List.append_nil, he]
  · refine ch_app.mpr ⟨m.ch, trivial, fun h _ => ?_⟩
    have hr : raw ≠ [] := by
      rw [← m.flat]
      exact flat_ne ok h hl
    have := hn hr
    unfold NoMp
    rw [← flat_ls ok h hl, m.flat]
    show NoM t (ls raw) (fst S t x)
    unfold fst
    rw [he]
    exact this
end

/-! ### blocks: neighbours that are alike are told once -/
/-- js tells the same names as pre, neighbours of js are unlike -/
structure Jn (pre js : List (Nat × Nat)) : Prop where
  unr : unr js = unr pre
  ch : Ch (fun x y => x ≠ y) (js.map (·.1))
  one : ∀ r ∈ js, 1 ≤ r.2
  wt : wt js ≤ wt pre
theorem Jn.nil : Jn [] [] := ⟨rfl, trivial, fun _ h => (nomatch h), Nat.le_refl _⟩
theorem unr_ls {js : List (Nat × Nat)} (h : js ≠ []) (one : ∀ r ∈ js, 1 ≤ r.2) : unr js ≠ [] ∧ ls (unr js) = ls (js.map (·.1)) := by
  rcases List.eq_nil_or_concat js with e | ⟨r, x, e⟩
  · exact absurd e h
  · have e : js = r ++ [x] := by simpa using e
    subst e
    have : 1 ≤ x.2 := one x (by simp)
    obtain ⟨c, hc⟩ : ∃ c, x.2 = c + 1 := ⟨x.2 - 1, by omega⟩
    rw [unr_app, unr_cons, hc, List.replicate_succ']
    have z : unr [] = [] := rfl
    rw [z, List.append_nil, ← List.append_assoc, ls_snoc, List.map_append]
    exact ⟨by simp, by rw [List.map_cons, List.map_nil, ls_snoc]⟩
theorem unr_hd {js : List (Nat × Nat)} (h : js ≠ []) (one : ∀ r ∈ js, 1 ≤ r.2) : unr js ≠ [] ∧ hd (unr js) = hd (js.map (·.1)) := by
  cases js with
  | nil => exact absurd rfl h
  | cons x r =>
    have : 1 ≤ x.2 := one x (by simp)
    obtain ⟨c, hc⟩ : ∃ c, x.2 = c + 1 := ⟨x.2 - 1, by omega⟩
    rw [unr_cons, hc, List.replicate_succ]
    exact ⟨by simp, rfl⟩
theorem Jn.more {pre js : List (Nat × Nat)} {n a c d : Nat} (j : Jn pre (js ++ [(n, c)])) (hd1 : 1 ≤ d) (e : a = n) : Jn (pre ++ [(a, d)]) (js ++ [(n, c + d)]) := by
  subst e
  have hc : 1 ≤ c := j.one (a, c) (by simp)
  refine ⟨?_, ?_, fun r hr => ?_, ?_⟩
  · rw [unr_app, unr_app, ← j.unr, unr_app, List.append_assoc]
    congr 1
    show List.replicate (c + d) a ++ [] = (List.replicate c a ++ []) ++ (List.replicate d a ++ [])
    simp [List.replicate_append_replicate]
  · have := j.ch
    rw [List.map_append] at this ⊢
    exact this
  · rcases List.mem_append.mp hr with q | q
    · exact j.one r (by simp [q])
    · have : r = (a, c + d) := by simpa using q
      subst this
      show 1 ≤ c + d
      omega
  · have := j.wt
    rw [wt_app] at this ⊢
    rw [wt_app]
    have e1 : VW.wt [(a, c + d)] ≤ 2 := wt_one _ _
    have e2 : 1 ≤ VW.wt [(a, c)] := by
      show 1 ≤ (if 1 < c then 2 else 1) + 0
      split <;> omega
    have e3 : 1 ≤ VW.wt [(a, d)] := by
      show 1 ≤ (if 1 < d then 2 else 1) + 0
      split <;> omega
    omega
theorem Jn.new {pre js : List (Nat × Nat)} {a d : Nat} (j : Jn pre js) (hd1 : 1 ≤ d) (e : js ≠ [] → ls (js.map (·.1)) ≠ a) : Jn (pre ++ [(a, d)]) (js ++ [(a, d)]) := by
  refine ⟨?_, ?_, fun r hr => ?_, ?_⟩
  · rw [unr_app, unr_app, j.unr]
  · rw [List.map_append]
    refine ch_app.mpr ⟨j.ch, trivial, fun h _ => e ?_⟩
    intro z
    subst z
    exact h rfl
  · rcases List.mem_append.mp hr with q | q
    · exact j.one r q
    · have : r = (a, d) := by simpa using q
      subst this
      exact hd1
  · have := j.wt
    rw [wt_app, wt_app]
    omega
/-- the second walk of blocks, one run more -/
theorem blk_step {S : Sto} {t : Nat} (ok : Ok S) (he : t % 2 = 0) {pre : List (Nat × Nat)} {n c x : Nat} {out : List Nat} (m : Mgd S t (unr pre) out) (hn : n < S.len) (hb : S.birth n ≤ t) (hx : x < S.len)
    (one : ∀ r ∈ pre, 1 ≤ r.2) (hch : pre ≠ [] → ls (pre.map (·.1)) ≠ n) (hc : 1 ≤ c) (h : (c = 1 ∧ x = n) ∨ Comp S x t (List.replicate c n)) : Mgd S t (unr (pre ++ [(n, c)])) (out ++ [x]) := by
  rw [unr_app, unr_cons]
  show Mgd S t (unr pre ++ (List.replicate c n ++ [])) (out ++ [x])
  rw [List.append_nil]
  have hex : S.exp x t = List.replicate c n ∧ S.birth x ≤ t + 1 := by
    rcases h with ⟨h1, h2⟩ | k
    · subst h1
      subst h2
      exact ⟨exp_self ok hn hb, Nat.le_succ_of_le hb⟩
    · refine ⟨?_, Nat.le_of_eq k.birth⟩
      rw [k.exp, if_neg (by omega)]
      refine flat_self fun y hy => ?_
      rw [List.eq_of_mem_replicate hy]
      exact exp_self ok hn hb
  refine m.snoc ok hx hex.2 hex.1 fun hr => ?_
  have hp : pre ≠ [] := by
    intro z
    subst z
    exact hr rfl
  obtain ⟨d, hd'⟩ : ∃ d, c = d + 1 := ⟨c - 1, by omega⟩
  rw [(unr_ls hp one).2, hd', List.replicate_succ]
  exact ⟨fun _ => hch hp, fun o => by omega⟩
/-- a block may be made of a run -/
theorem blk_mk {S : Sto} {t : Nat} (he : t % 2 = 0) {raw a b : List Nat} {n c : Nat} (hch : Ch (Sep S t) raw) (e : raw = a ++ (List.replicate c n ++ b)) (hn : n < S.len) (hb : S.birth n ≤ t) (hc : 2 ≤ c) : Mk S t (.B n c) (List.replicate c n) := by
  refine .B n c he hn hb hc ?_
  rw [e] at hch
  have := (ch_app.mp (ch_app.mp hch).2.1).1
  obtain ⟨d, hd'⟩ : ∃ d, c = d + 2 := ⟨c - 2, by omega⟩
  rw [hd', List.replicate_succ, List.replicate_succ] at this
  exact this.1
/-! ### pairs -/
theorem take_two {ns : List Nat} {i x : Nat} (h : ns[i]? = some x) : ns.take (i + 1) = ns.take i ++ [x] := by
  obtain ⟨h1, h2⟩ := List.getElem?_eq_some_iff.mp h
  rw [List.take_succ, h]
  rfl
theorem ch_at {R : Nat → Nat → Prop} : ∀ {l : List Nat} {i x y : Nat}, Ch R l → l[i]? = some x → l[i + 1]? = some y → R x y
  | [], i, x, y, _, h, _ => by simp at h
  | [_], 0, x, y, _, _, h => by simp at h
  | [_], i + 1, x, y, _, h, _ => by simp at h
  | a :: b :: r, 0, x, y, c, h1, h2 => by
    simp at h1 h2
    subst h1
    subst h2
    exact c.1
  | a :: b :: r, i + 1, x, y, c, h1, h2 => ch_at (l := b :: r) (i := i) c.2 (by simpa using h1) (by simpa using h2)
theorem ls_take {ns : List Nat} {i x : Nat} (h : ns[i]? = some x) : ls (ns.take (i + 1)) = x := by
  rw [take_two h, ls_snoc]
theorem pair_mk {S : Sto} {t : Nat} (ho : t % 2 = 1) {ns : List Nat} {i x y : Nat} (hch : Ch (Sep S t) ns) (hl : ∀ z ∈ ns, z < S.len ∧ S.birth z ≤ t) (hx : ns[i]? = some x) (hy : ns[i + 1]? = some y) (m : Meet x y t) : Mk S t (.P x y) [x, y] := by
  have ix := hl x (List.mem_of_getElem? hx)
  have iy := hl y (List.mem_of_getElem? hy)
  exact .P x y ho ix.1 iy.1 ix.2 iy.2 m (ch_at hch hx hy)
theorem pair_step {S : Sto} {t : Nat} (ok : Ok S) (ho : t % 2 = 1) {ns out : List Nat} {i x y n : Nat} (m : Mgd S t (ns.take i) out) (hb : ∀ (p : Nat), i = p + 1 → ∀ a, ns[p]? = some a → ¬ Meet a x t) (hx : ns[i]? = some x) (hy : ns[i + 1]? = some y)
    (hn : n < S.len) (bx : x < S.len ∧ S.birth x ≤ t) (by_ : y < S.len ∧ S.birth y ≤ t) (c : Comp S n t [x, y]) : Mgd S t (ns.take (i + 2)) (out ++ [n]) := by
  rw [take_two (i := i + 1) hy, take_two hx, List.append_assoc]
  refine m.snoc ok hn (Nat.le_of_eq c.birth) ?_ fun hr => ?_
  · rw [c.exp, if_neg (by omega)]
    refine flat_self fun z hz => exp_self ok ?_ (c.lt z hz).2
    have : z = x ∨ z = y := by simpa using hz
    rcases this with q | q <;> subst q
    · exact bx.1
    · exact by_.1
  · cases i with
    | zero => simp at hr
    | succ p =>
      obtain ⟨h1, h2⟩ := List.getElem?_eq_some_iff.mp hx
      have ha : ns[p]? = some ns[p] := List.getElem?_eq_getElem (by omega)
      rw [ls_take ha]
      exact ⟨fun z => by omega, fun _ => hb p rfl _ ha⟩
theorem lone_step {S : Sto} {t : Nat} (ok : Ok S) (ho : t % 2 = 1) {ns out : List Nat} {i x : Nat} (m : Mgd S t (ns.take i) out) (hb : ∀ (p : Nat), i = p + 1 → ∀ a, ns[p]? = some a → ¬ Meet a x t) (hx : ns[i]? = some x)
    (bx : x < S.len ∧ S.birth x ≤ t) : Mgd S t (ns.take (i + 1)) (out ++ [x]) := by
  rw [take_two hx]
  refine m.snoc ok bx.1 (Nat.le_succ_of_le bx.2) (exp_self ok bx.1 bx.2) fun hr => ?_
  cases i with
  | zero => simp at hr
  | succ p =>
    obtain ⟨h1, h2⟩ := List.getElem?_eq_some_iff.mp hx
    have ha : ns[p]? = some ns[p] := List.getElem?_eq_getElem (by omega)
    rw [ls_take ha]
    exact ⟨fun z => by omega, fun _ => hb p rfl _ ha⟩
theorem meet_once {x y z t : Nat} (h : Meet x y t) : ¬ Meet y z t := fun k => by
  have a := h.2
  have b := k.1
  omega
end VW
set_option maxHeartbeats 400000
set_option maxRecDepth 100000
set_option linter.all false
/-! Part F: a turn of woven. -/
namespace VW
structure Part where
  top : Nat
  lo : Nat
  hi : Nat
def mix (gs ms : List (List Nat)) (g : List Nat) : List Nat := (List.zipWith (fun a b => a ++ b) gs ms).flatten ++ g
theorem mix_ext {gs ms : List (List Nat)} {g x : List Nat} : mix gs ms (g ++ x) = mix gs ms g ++ x := by simp [mix]
theorem mix_snoc {gs ms : List (List Nat)} {g m g' : List Nat} (h : gs.length = ms.length) : mix (gs ++ [g]) (ms ++ [m]) g' = mix gs ms g ++ (m ++ g') := by
  unfold mix
  rw [List.zipWith_append h]
  simp
theorem mix_nil {g : List Nat} : mix [] [] g = g := rfl
/-- raw gaps gs (closed), g (the last), parts' parses ms of the next turn between them: no two that stand beside a border are made one -/
inductive Bd (S : Sto) (t : Nat) : List (List Nat) → List (List Nat) → List Nat → Prop
  | one (g : List Nat) : Bd S t [] [] g
  | snoc {gs ms : List (List Nat)} {g m g' : List Nat} (b : Bd S t gs ms g) (ne : m ≠ []) (lt : ∀ x ∈ m, x < S.len ∧ S.birth x ≤ t + 1) (ch : Ch (Sep S (t + 1)) m)
      (l : g ≠ [] → NoM t (ls g) (fst S t (hd m))) (in_ : ms ≠ [] → g ≠ []) (r : g' ≠ [] → NoM t (lst S t (ls m)) (hd g')) : Bd S t (gs ++ [g]) (ms ++ [m]) g'
section
variable {S : Sto} {t : Nat}
theorem Bd.len {gs ms : List (List Nat)} {g : List Nat} (b : Bd S t gs ms g) : gs.length = ms.length := by
  induction b with
  | one => rfl
  | snoc _ _ _ _ _ _ _ ih => simp [ih]
theorem Bd.ext {gs ms : List (List Nat)} {g : List Nat} (b : Bd S t gs ms g) (x : List Nat) (h : g ≠ [] ∨ ms = []) : Bd S t gs ms (g ++ x) := by
  cases b with
  | one g => exact .one _
  | snoc b ne lt ch l in_ r =>
    have hg : g ≠ [] := by
      rcases h with h | h
      · exact h
      · simp at h
    exact .snoc b ne lt ch l in_ fun _ => by rw [hd_app hg]; exact r hg
theorem ls_mem {l : List Nat} (h : l ≠ []) : ls l ∈ l := by
  obtain ⟨r, e⟩ := snoc_of h
  have q : ls l ∈ r ++ [ls l] := by simp
  rw [← e] at q
  exact q
theorem hd_mem {l : List Nat} (h : l ≠ []) : hd l ∈ l := by
  obtain ⟨r, e⟩ := cons_of h
  have q : hd l ∈ hd l :: r := by simp
  rw [← e] at q
  exact q
theorem Bd.le {S' : Sto} (le : Le S S') {gs ms : List (List Nat)} {g : List Nat} (b : Bd S t gs ms g) : Bd S' t gs ms g := by
  induction b with
  | one => exact .one _
  | snoc b ne lt ch l in_ r ih =>
    refine .snoc ih ne (fun x hx => ⟨le.lt (lt x hx).1, by rw [le.birth x (lt x hx).1]; exact (lt x hx).2⟩) (ch_mono ch fun x hx y hy q => le.sep (lt x hx).1 (lt y hy).1 q) (fun h => ?_) in_ fun h => ?_
    · rw [le.fst (lt _ (hd_mem ne)).1]
      exact l h
    · rw [le.lst (lt _ (ls_mem ne)).1]
      exact r h
variable (ok : Ok S)
include ok
theorem bd_merge {gs ms : List (List Nat)} {g : List Nat} (b : Bd S t gs ms g) : ∀ {gs' : List (List Nat)} {g' : List Nat}, F2 (Mgd S t) gs gs' → Mgd S t g g' →
    Ch (NoMp S t) (mix gs' ms g') ∧ flat S t (mix gs' ms g') = mix gs (ms.map (flat S t)) g ∧ ∀ x ∈ mix gs' ms g', x < S.len ∧ S.birth x ≤ t + 1 := by
  induction b with
  | one g =>
    intro gs' g' f m
    cases f
    exact ⟨m.ch, m.flat, m.lt⟩
  | @snoc gs ms g m g' b ne lt ch l in_ r ih =>
    intro gs'' g'' f k
    obtain ⟨gs1, g1, rfl, f1, k1⟩ := f.unsnoc
    obtain ⟨i1, i2, i3⟩ := ih f1 k1
    have hlen : gs1.length = ms.length := f1.len.symm.trans b.len
    have hm : ∀ x ∈ m, x < S.len := fun x hx => (lt x hx).1
    rw [mix_snoc hlen, List.map_append]
    show _ ∧ _ = mix (gs ++ [g]) (ms.map (flat S t) ++ [flat S t m]) g' ∧ _
    rw [mix_snoc (by rw [List.length_map]; exact b.len)]
    refine ⟨ch_app.mpr ⟨i1, ch_app.mpr ⟨?_, k.ch, fun _ h2 => ?_⟩, fun h1 _ => ?_⟩, ?_, fun x hx => ?_⟩
    · exact ch_mono ch fun x hx y hy q => q t (Nat.lt_succ_self t)
    · have hr : g' ≠ [] := by
        intro z
        subst z
        exact h2 (k.nil_of ok)
      have := r hr
      unfold NoMp
      rw [← k.flat, flat_hd ok h2 fun x hx => (k.lt x hx).1] at this
      exact this
    · have hg : g ≠ [] := by
        intro z
        subst z
        have e1 := k1.nil_of ok
        subst e1
        by_cases q : ms = []
        · subst q
          have e2 : gs1 = [] := List.length_eq_zero_iff.mp hlen
          subst e2
          exact h1 rfl
        · exact in_ q rfl
      have hg1 := k1.ne_of ok hg
      have e : ls (mix gs1 ms g1) = ls g1 := by
        unfold mix
        exact ls_app hg1
      rw [e, hd_app ne]
      have := l hg
      rw [← k1.flat, flat_ls ok hg1 fun x hx => (k1.lt x hx).1] at this
      exact this
    · rw [flat_app, flat_app, i2, k.flat]
    · rcases List.mem_append.mp hx with q | q
      · exact i3 x q
      · rcases List.mem_append.mp q with q | q
        · exact lt x q
        · exact k.lt x q
/-- neighbours that were apart, and are not made one now, are apart one turn longer -/
theorem sep_up : ∀ {X : List Nat}, (∀ x ∈ X, x < S.len ∧ S.birth x ≤ t + 1) → Ch (Sep S t) (flat S t X) → Ch (NoMp S t) X → Ch (Sep S (t + 1)) X
  | [], _, _, _ => trivial
  | [_], _, _, _ => trivial
  | x :: y :: r, lt, c, n => by
    have lx := (lt x (by simp)).1
    have ly := (lt y (by simp)).1
    rw [flat_cons] at c
    have c' := ch_app.mp c
    have ex := exp_ne ok lx t
    have ey := exp_ne ok ly t
    have hne : flat S t (y :: r) ≠ [] := by
      rw [flat_cons]
      simp [ey]
    refine ⟨fun s hs => ?_, sep_up (X := y :: r) (fun z hz => lt z (List.mem_cons_of_mem _ hz)) c'.2.1 n.2⟩
    by_cases q : s < t
    · have := c'.2.2 ex hne s q
      rw [flat_cons, hd_app ey] at this
      have e1 : lst S s (ls (S.exp x t)) = lst S s x := lst_comp ok lx (Nat.le_of_lt q)
      have e2 : fst S s (hd (S.exp y t)) = fst S s y := fst_comp ok ly (Nat.le_of_lt q)
      rw [e1, e2] at this
      exact this
    · have : s = t := by omega
      subst this
      exact n.1
end

/-- a stretch, not empty, and its parse in turn t -/
structure PM (S : Sto) (t : Nat) (p : Part) (m : List Nat) : Prop where
  top : p.top < S.len
  lt : p.lo < p.hi
  le : p.hi ≤ S.size p.top
  seg : Seg S p.top t p.lo p.hi m
theorem Le.al {S S' : Sto} (le : Le S S') (ok : Ok S) {top t p : Nat} (ht : top < S.len) (h : Al S top t p) : Al S' top t p := by
  obtain ⟨A, B, e, s⟩ := h
  exact ⟨A, B, by rw [le.exp top ht]; exact e, by rw [le.szs fun x hx => exp_lt ok ht t x (by rw [e]; simp [hx])]; exact s⟩
theorem Le.seg {S S' : Sto} (le : Le S S') (ok : Ok S) {top t lo hi : Nat} {M : List Nat} (ht : top < S.len) (h : Seg S top t lo hi M) : Seg S' top t lo hi M := by
  obtain ⟨A, B, e, s, s'⟩ := h
  exact ⟨A, B, by rw [le.exp top ht]; exact e, by rw [le.szs fun x hx => exp_lt ok ht t x (by rw [e]; simp [hx])]; exact s, by rw [le.szs fun x hx => exp_lt ok ht t x (by rw [e]; simp [hx])]; exact s'⟩
theorem PM.le_ {S S' : Sto} (le : Le S S') (ok : Ok S) {t : Nat} {p : Part} {m : List Nat} (h : PM S t p m) : PM S' t p m :=
  ⟨le.lt h.top, h.lt, by rw [le.size p.top h.top]; exact h.le, le.seg ok h.top h.seg⟩

abbrev Rn := Nat × Nat
def wsum (l : List (List Rn)) : Nat := (l.map wt).sum
theorem wsum_app {a b : List (List Rn)} : wsum (a ++ b) = wsum a + wsum b := by simp [wsum]
theorem wsum_one {a : List Rn} : wsum [a] = wt a := by simp [wsum]
def lf (i : Nat) (p : Part) : Prop := 0 < i ∨ 0 < p.lo
def rf (S : Sto) (n i : Nat) (p : Part) : Prop := i + 1 < n ∨ p.hi < S.size p.top
instance (i : Nat) (p : Part) : Decidable (lf i p) := inferInstanceAs (Decidable (_ ∨ _))
instance (S : Sto) (n i : Nat) (p : Part) : Decidable (rf S n i p) := inferInstanceAs (Decidable (_ ∨ _))
def b2 (c : Prop) [Decidable c] : Nat := if c then 1 else 0
def fsum (S : Sto) (n : Nat) : Nat → List Part → Nat
  | _, [] => 0
  | i, p :: r => b2 (lf i p) + b2 (rf S n i p) + fsum S n (i + 1) r
def dsum (S : Sto) : List Part → Nat
  | [] => 0
  | p :: r => b2 (0 < p.lo) + b2 (p.hi < S.size p.top) + dsum S r
theorem fsum_snoc {S : Sto} {n : Nat} : ∀ {l : List Part} {i : Nat} {p : Part}, fsum S n i (l ++ [p]) = fsum S n i l + (b2 (lf (i + l.length) p) + b2 (rf S n (i + l.length) p))
  | [], i, p => by simp [fsum]
  | q :: l, i, p => by
    have := fsum_snoc (S := S) (n := n) (l := l) (i := i + 1) (p := p)
    show b2 (lf i q) + b2 (rf S n i q) + fsum S n (i + 1) (l ++ [p]) = b2 (lf i q) + b2 (rf S n i q) + fsum S n (i + 1) l + _
    rw [this, List.length_cons, show i + (l.length + 1) = i + 1 + l.length by omega]
    omega
theorem dsum_snoc {S : Sto} : ∀ {l : List Part} {p : Part}, dsum S (l ++ [p]) = dsum S l + (b2 (0 < p.lo) + b2 (p.hi < S.size p.top))
  | [], p => by simp [dsum]
  | q :: l, p => by
    have := dsum_snoc (S := S) (l := l) (p := p)
    show b2 (0 < q.lo) + b2 (q.hi < S.size q.top) + dsum S (l ++ [p]) = b2 (0 < q.lo) + b2 (q.hi < S.size q.top) + dsum S l + _
    rw [this]
    omega
theorem b2_le (c : Prop) [Decidable c] : b2 c ≤ 1 := by
  unfold b2
  split <;> omega
theorem b2_t {c : Prop} [Decidable c] (h : c) : b2 c = 1 := by
  unfold b2
  rw [if_pos h]
theorem b2_f {c : Prop} [Decidable c] (h : ¬ c) : b2 c = 0 := by
  unfold b2
  rw [if_neg h]

/-- the state of woven at the head of turn t -/
structure WS (S : Sto) (t : Nat) (P : List Part) (ms : List (List Nat)) (G : List (List Rn)) (X : List Nat) : Prop where
  pm : F2 (PM S t) P ms
  len : G.length = P.length + 1
  one : ∀ l ∈ G, ∀ r ∈ l, r.2 = 1
  eq : X = mix ((G.take P.length).map unr) ms (unr (G.getD P.length []))
  lt : ∀ x ∈ X, x < S.len ∧ S.birth x ≤ t
  ch : Ch (Sep S t) X
  first : ∀ p r, P = p :: r → p.lo = 0 → G[0]? = some []
  right : ∀ r p, P = r ++ [p] → p.hi = S.size p.top → G[P.length]? = some []
  jj : 2 ≤ P.length ∨ ∀ p ∈ P, 0 < p.lo ∨ p.hi < S.size p.top

/-- what is taken from the left, if f -/
structure HL (S : Sto) (t : Nat) (p : Part) (f : Prop) (e : Nat) (rs : List Rn) : Prop where
  ge : p.lo ≤ e
  le : e ≤ p.hi
  seg : Seg S p.top t p.lo e (unr rs)
  up : e < p.hi → Al S p.top (t + 1) e
  one : ∀ r ∈ rs, 1 ≤ r.2 ∧ (t % 2 = 1 → r.2 = 1)
  on : f → rs ≠ [] ∧ p.lo < e ∧ wt rs ≤ 2
  off : ¬ f → rs = [] ∧ e = p.lo
/-- what is taken from the right, if f and something is left -/
structure HR (S : Sto) (t : Nat) (p : Part) (e : Nat) (f : Prop) (b : Nat) (rs : List Rn) : Prop where
  ge : e ≤ b
  le : b ≤ p.hi
  seg : Seg S p.top t b p.hi (unr rs)
  up : e < b → Al S p.top (t + 1) b
  one : ∀ r ∈ rs, 1 ≤ r.2 ∧ (t % 2 = 1 → r.2 = 1)
  on : f → e < p.hi → rs ≠ [] ∧ b < p.hi ∧ wt rs ≤ 2
  off : ¬ (f ∧ e < p.hi) → rs = [] ∧ b = p.hi
section
variable {S : Sto} {t : Nat} (ok : Ok S) {p : Part} {m : List Nat} (h : PM S t p m)
include ok h
theorem HL.of_off {f : Prop} {e : Nat} {rs : List Rn} (o : OffL S t p.top p.lo p.hi e rs) (hf : f) : HL S t p f e rs :=
  ⟨Nat.le_of_lt o.lt, o.le, o.seg, o.up, o.one, fun _ => ⟨o.ne, o.lt, o.wt⟩, fun n => absurd hf n⟩
theorem HL.none {f : Prop} (hf : ¬ f) (h0 : p.lo = 0) : HL S t p f p.lo [] := by
  refine ⟨Nat.le_refl _, Nat.le_of_lt h.lt, ?_, fun _ => by rw [h0]; exact al_zero ok h.top, fun r hr => (nomatch hr), fun y => absurd y hf, fun _ => ⟨rfl, rfl⟩⟩
  obtain ⟨A, B, e, a1, a2⟩ := h.seg
  exact ⟨A, m ++ B, e, a1, rfl⟩
theorem HR.of_off {f : Prop} {e b : Nat} {rs : List Rn} (o : OffR S t p.top e p.hi b rs) (hf : f) (he : e < p.hi) : HR S t p e f b rs :=
  ⟨o.le, Nat.le_of_lt o.lt, o.seg, o.up, o.one, fun _ _ => ⟨o.ne, o.lt, o.wt⟩, fun n => absurd ⟨hf, he⟩ n⟩
theorem HR.none {f : Prop} {e : Nat} (he : e ≤ p.hi) (hf : ¬ (f ∧ e < p.hi)) (hz : e < p.hi → p.hi = S.size p.top) : HR S t p e f p.hi [] := by
  refine ⟨he, Nat.le_refl _, ?_, fun q => by rw [hz q]; exact al_size ok h.top, fun r hr => (nomatch hr), fun a b => absurd ⟨a, b⟩ hf, fun _ => ⟨rfl, rfl⟩⟩
  obtain ⟨A, B, e, a1, a2⟩ := h.seg
  exact ⟨A ++ m, B, by rw [e, show unr [] = [] from rfl]; simp, by rw [szs_app]; omega, by rw [show unr [] = [] from rfl, szs_nil]; rfl⟩
end
/-- loosened, behind k parts: lp left, gs the closed gaps, g the last one -/
structure LI (S : Sto) (t : Nat) (P : List Part) (ms : List (List Nat)) (G : List (List Rn)) (k : Nat) (lp : List Part) (gs : List (List Rn)) (g : List Rn) (ms' : List (List Nat)) : Prop where
  pm : F2 (PM S (t + 1)) lp ms'
  bd : Bd S t (gs.map unr) ms' (unr g)
  eq : mix (gs.map unr) (ms'.map (flat S t)) (unr g) = mix ((G.take k).map unr) (ms.take k) (unr (G.getD k []))
  ne : lp ≠ [] → k < P.length → unr g ≠ []
  one : ∀ l ∈ gs ++ [g], ∀ r ∈ l, 1 ≤ r.2 ∧ (t % 2 = 1 → r.2 = 1)
  wts : wsum (gs ++ [g]) ≤ wsum (G.take (k + 1)) + 2 * fsum S P.length 0 (P.take k)
  ds : dsum S lp ≤ fsum S P.length 0 (P.take k)
  zero : k = 0 → lp = [] ∧ gs = [] ∧ g = G.getD 0 []
  first : ∀ p r, lp = p :: r → p.lo = 0 → (gs ++ [g])[0]? = some []
  later : ∀ p r, lp = p :: r → ∀ q ∈ r, 0 < q.lo
  right : ∀ r p, lp = r ++ [p] → (∀ q ∈ r, q.hi < S.size q.top) ∧ (p.hi < S.size p.top ∨ (k = P.length ∧ g = []))
  jj : ∀ p ∈ lp, 0 < p.lo ∨ p.hi < S.size p.top
  cnt : lp.length + k ≤ (ms.take k).flatten.length
theorem take_succ' {α : Type} {l : List α} {k : Nat} {x : α} (h : l[k]? = some x) : l.take (k + 1) = l.take k ++ [x] := by
  rw [List.take_succ, h]
  rfl
section
variable {S : Sto} {t : Nat} {P : List Part} {ms : List (List Nat)} {G : List (List Rn)} {X : List Nat} (ok : Ok S) (W : WS S t P ms G X)
include ok W
theorem li_zero : LI S t P ms G 0 [] [] (G.getD 0 []) [] := by
  have hl : 0 < G.length := by rw [W.len]; omega
  have hg : G[0]? = some (G.getD 0 []) := by
    rw [List.getElem?_eq_getElem hl, List.getD_eq_getElem?_getD, List.getElem?_eq_getElem hl]
    rfl
  refine ⟨.nil, .one _, rfl, fun h => absurd rfl h, fun l hm r hr => ?_, ?_, Nat.le_refl _, fun _ => ⟨rfl, rfl, rfl⟩, fun p r e => (nomatch e), fun p r e => (nomatch e), fun r p e => ?_, fun p hp => (nomatch hp), Nat.zero_le _⟩
  · have : l = G.getD 0 [] := by simpa using hm
    subst this
    have := W.one _ (List.mem_of_getElem? hg) r hr
    omega
  · rw [take_succ' hg]
    simp [wsum, fsum]
  · have := congrArg List.length e
    simp at this
theorem li_step {k : Nat} {lp : List Part} {gs : List (List Rn)} {g : List Rn} {ms' : List (List Nat)} (L : LI S t P ms G k lp gs g ms') {p : Part} {m : List Nat} {g2 : List Rn} (hp : P[k]? = some p) (hm : ms[k]? = some m) (hg : G[k + 1]? = some g2)
    {e b : Nat} {rl rr : List Rn} (hl : HL S t p (lf k p) e rl) (hr : HR S t p e (rf S P.length k p) b rr) :
    (e < b → ∃ m', LI S t P ms G (k + 1) (lp ++ [⟨p.top, e, b⟩]) (gs ++ [g ++ rl]) (rr ++ g2) (ms' ++ [m'])) ∧ (¬ e < b → LI S t P ms G (k + 1) lp gs ((g ++ rl) ++ (rr ++ g2)) ms') := by
  obtain ⟨m0, hm0, q⟩ := W.pm.get k p hp
  have : m0 = m := by rw [hm] at hm0; exact (Option.some.inj hm0).symm
  subst this
  have kl : k < P.length := (List.getElem?_eq_some_iff.mp hp).1
  have hmix : mix ((G.take (k + 1)).map unr) (ms.take (k + 1)) (unr (G.getD (k + 1) [])) = mix ((G.take k).map unr) (ms.take k) (unr (G.getD k [])) ++ (m0 ++ unr g2) := by
    have hgk : G[k]? = some (G.getD k []) := by
      have : k < G.length := by rw [W.len]; omega
      rw [List.getElem?_eq_getElem this, List.getD_eq_getElem?_getD, List.getElem?_eq_getElem this]
      rfl
    have e2 : G.getD (k + 1) [] = g2 := by rw [List.getD_eq_getElem?_getD, hg]; rfl
    rw [take_succ' hgk, take_succ' hm, List.map_append, List.map_cons, List.map_nil, e2]
    refine mix_snoc ?_
    rw [List.length_map, List.length_take, List.length_take, W.len, ← W.pm.len]
    omega
  -- the stretch in three
  have s1 := hl.seg
  have s3 := hr.seg
  obtain ⟨mid, s2⟩ := seg_of ok q.top (seg_al2 s1) (seg_al1 s3) hr.ge
  have em : m0 = unr rl ++ (mid ++ unr rr) := seg_eq ok q.top q.seg (seg_join ok q.top s1 (seg_join ok q.top s2 s3))
  have g2one : ∀ r ∈ g2, 1 ≤ r.2 ∧ (t % 2 = 1 → r.2 = 1) := fun r hr => by
    have := W.one _ (List.mem_of_getElem? hg) r hr
    omega
  have urn : ∀ {rs : List Rn}, rs ≠ [] → (∀ r ∈ rs, 1 ≤ r.2 ∧ (t % 2 = 1 → r.2 = 1)) → unr rs ≠ [] := fun h1 h2 => (unr_ls h1 fun r hr => (h2 r hr).1).1
  have hfs : fsum S P.length 0 (P.take (k + 1)) = fsum S P.length 0 (P.take k) + (b2 (lf k p) + b2 (rf S P.length k p)) := by
    rw [take_succ' hp, fsum_snoc, List.length_take, show 0 + min k P.length = k by omega]
  have hG : wsum (G.take (k + 1 + 1)) = wsum (G.take (k + 1)) + wt g2 := by rw [take_succ' hg, wsum_app, wsum_one]
  have wl : wt rl ≤ 2 * b2 (lf k p) := by
    by_cases f : lf k p
    · rw [b2_t f]
      exact (hl.on f).2.2
    · rw [b2_f f, (hl.off f).1]
      exact Nat.le_refl _
  have wr : wt rr ≤ 2 * b2 (rf S P.length k p) := by
    by_cases f : rf S P.length k p ∧ e < p.hi
    · rw [b2_t f.1]
      exact (hr.on f.1 f.2).2.2
    · rw [(hr.off f).1]
      exact Nat.zero_le _
  -- something is taken
  have took : 1 ≤ (unr rl).length + (unr rr).length := by
    by_cases f : lf k p
    · have := List.length_pos_iff.mpr (urn (hl.on f).1 hl.one)
      omega
    · have z := hl.off f
      have f2 : rf S P.length k p := by
        rcases W.jj with w | w
        · rcases Nat.lt_or_ge (k + 1) P.length with y | y
          · exact .inl y
          · exact absurd (.inl (by omega)) f
        · rcases w p (List.mem_of_getElem? hp) with w | w
          · exact absurd (.inr w) f
          · exact .inr w
      have := List.length_pos_iff.mpr (urn (hr.on f2 (by rw [z.2]; exact q.lt)).1 hr.one)
      omega
  have hflat : (ms.take (k + 1)).flatten.length = (ms.take k).flatten.length + m0.length := by rw [take_succ' hm]; simp
  -- where there was a gap ahead, it isn't empty
  have gne : lp ≠ [] ∨ rl ≠ [] → unr (g ++ rl) ≠ [] := by
    intro h
    rw [unr_app]
    by_cases z : rl = []
    · have := L.ne (h.resolve_right fun y => y z) kl
      simp [this]
    · have := urn z hl.one
      simp [this]
  have lpms : lp = [] ↔ ms' = [] := by
    constructor
    · intro z
      have := L.pm.len
      rw [z] at this
      exact List.length_eq_zero_iff.mp this.symm
    · intro z
      have := L.pm.len
      rw [z] at this
      exact List.length_eq_zero_iff.mp this
  have bd1 : Bd S t (gs.map unr) ms' (unr (g ++ rl)) := by
    rw [unr_app]
    refine L.bd.ext _ ?_
    by_cases z : lp = []
    · exact .inr (lpms.mp z)
    · exact .inl (L.ne z kl)
  have f0 : ¬ lf k p → k = 0 ∧ p.lo = 0 := fun f => ⟨by by_cases y : k = 0; exact y; exact absurd (.inl (by omega)) f, by by_cases y : p.lo = 0; exact y; exact absurd (.inr (by omega)) f⟩
  have P0 : k = 0 → ∃ r, P = p :: r := fun z => by
    subst z
    cases P with
    | nil => simp at hp
    | cons a r =>
      have : a = p := by simpa using hp
      subst this
      exact ⟨r, rfl⟩
  constructor
  · intro heb
    obtain ⟨m', s4⟩ := seg_of ok q.top (hl.up (Nat.lt_of_lt_of_le heb hr.le)) (hr.up heb) hr.ge
    have e4 : flat S t m' = mid := seg_eq ok q.top (seg_down ok q.top s4 (Nat.le_succ t)) s2
    have m'ne := seg_ne ok q.top s4 heb
    have midne := seg_ne ok q.top s2 heb
    have m'lt := seg_lt ok q.top s4
    have hmid : hd mid = fst S t (hd m') := by rw [← e4]; exact flat_hd ok m'ne fun x hx => (m'lt x hx).1
    have lmid : ls mid = lst S t (ls m') := by rw [← e4]; exact flat_ls ok m'ne fun x hx => (m'lt x hx).1
    -- not taken from the right: the last stretch, up to its text's end
    have noR : ¬ (rf S P.length k p ∧ e < p.hi) → k + 1 = P.length ∧ p.hi = S.size p.top ∧ g2 = [] := fun f => by
      have e1 : e < p.hi := Nat.lt_of_lt_of_le heb hr.le
      have n1 : ¬ rf S P.length k p := fun y => f ⟨y, e1⟩
      have a1 : k + 1 = P.length := by
        rcases Nat.lt_or_ge (k + 1) P.length with y | y
        · exact absurd (.inl y) n1
        · omega
      have a2 : p.hi = S.size p.top := by
        rcases Nat.lt_or_ge p.hi (S.size p.top) with y | y
        · exact absurd (.inr y) n1
        · have := q.le
          omega
      refine ⟨a1, a2, ?_⟩
      have hP : P = P.take k ++ [p] := by
        rw [← take_succ' hp, a1, List.take_length]
      have := W.right (P.take k) p hP a2
      rw [← a1, hg] at this
      exact Option.some.inj this
    have hone : ∀ l ∈ (gs ++ [g ++ rl]) ++ [rr ++ g2], ∀ r ∈ l, 1 ≤ r.2 ∧ (t % 2 = 1 → r.2 = 1) := fun l hm2 r hr2 => by
      rcases List.mem_append.mp hm2 with y | y
      · rcases List.mem_append.mp y with y | y
        · exact L.one l (by simp [y]) r hr2
        · have : l = g ++ rl := by simpa using y
          subst this
          rcases List.mem_append.mp hr2 with z | z
          · exact L.one g (by simp) r z
          · exact hl.one r z
      · have : l = rr ++ g2 := by simpa using y
        subst this
        rcases List.mem_append.mp hr2 with z | z
        · exact hr.one r z
        · exact g2one r z
    refine ⟨m', L.pm.snoc ⟨q.top, heb, Nat.le_trans hr.le q.le, s4⟩, ?_, ?_, fun _ kl2 => ?_, hone, ?_, ?_, fun z => by omega, fun p' r e5 h0 => ?_, fun p' r e5 => ?_, fun r p' e5 => ?_, fun p' hp' => ?_, ?_⟩
    · rw [List.map_append]
      refine .snoc bd1 m'ne m'lt (seg_ch ok q.top s4) (fun hg1 => ?_) (fun y => gne (.inl fun z => y (lpms.mp z))) fun hg2 => ?_
      · by_cases f : lf k p
        · have rne := urn (hl.on f).1 hl.one
          have := bdry ok q.top s1 s2 rne midne (hl.up (Nat.lt_of_lt_of_le heb hr.le))
          rw [unr_app, ls_app rne, ← hmid]
          exact this
        · obtain ⟨k0, l0⟩ := f0 f
          obtain ⟨r, eP⟩ := P0 k0
          have z := W.first p r eP l0
          obtain ⟨_, _, gz⟩ := L.zero k0
          rw [(hl.off f).1, List.append_nil, gz, List.getD_eq_getElem?_getD, z] at hg1
          exact absurd rfl hg1
      · by_cases f : rf S P.length k p ∧ e < p.hi
        · have rne := urn (hr.on f.1 f.2).1 hr.one
          have := bdry ok q.top s2 s3 midne rne (hr.up heb)
          rw [unr_app, hd_app rne, ← lmid]
          exact this
        · rw [(hr.off f).1, (noR f).2.2] at hg2
          exact absurd rfl hg2
    · rw [hmix, List.map_append, List.map_append]
      show mix (gs.map unr ++ [unr (g ++ rl)]) (ms'.map (flat S t) ++ [flat S t m']) (unr (rr ++ g2)) = _
      rw [mix_snoc (by have := L.bd.len; simpa using this), e4, unr_app, mix_ext, L.eq, em, unr_app]
      simp
    · rw [unr_app]
      have f : rf S P.length k p ∧ e < p.hi := ⟨.inl kl2, Nat.lt_of_lt_of_le heb hr.le⟩
      have := urn (hr.on f.1 f.2).1 hr.one
      simp [this]
    · have := L.wts
      rw [hfs, hG, wsum_app, wsum_app, wsum_one, wsum_one, wt_app, wt_app]
      rw [wsum_app, wsum_one] at this
      omega
    · rw [hfs, dsum_snoc]
      have := L.ds
      have a : b2 (0 < e) ≤ b2 (lf k p) := by
        by_cases f : lf k p
        · rw [b2_t f]
          exact b2_le _
        · obtain ⟨_, l0⟩ := f0 f
          rw [(hl.off f).2, l0, b2_f (by omega)]
          exact Nat.zero_le _
      have c : b2 (b < S.size p.top) ≤ b2 (rf S P.length k p) := by
        by_cases f : rf S P.length k p
        · rw [b2_t f]
          exact b2_le _
        · have n1 : ¬ (rf S P.length k p ∧ e < p.hi) := fun y => f y.1
          have := noR n1
          rw [(hr.off n1).2, this.2.1, b2_f (by omega)]
          exact Nat.zero_le _
      show dsum S lp + (b2 (0 < e) + b2 (b < S.size p.top)) ≤ _
      omega
    · cases hlp : lp with
      | nil =>
        rw [hlp] at e5
        have : (⟨p.top, e, b⟩ : Part) = p' := by simpa using (List.cons.inj e5).1
        subst this
        have z : e = 0 := h0
        have f : ¬ lf k p := fun f => by
          have := (hl.on f).2.1
          omega
        obtain ⟨k0, l0⟩ := f0 f
        obtain ⟨r, eP⟩ := P0 k0
        have w := W.first p r eP l0
        obtain ⟨_, gz2, gz⟩ := L.zero k0
        rw [gz2, gz, (hl.off f).1, List.append_nil, List.getD_eq_getElem?_getD, w]
        rfl
      | cons a r1 =>
        rw [hlp] at e5
        have : a = p' := (List.cons.inj e5).1
        subst this
        have w := L.first a r1 hlp h0
        have gsne : gs ≠ [] := by
          intro y
          have := L.bd.len
          rw [y] at this
          have : ms' = [] := List.length_eq_zero_iff.mp (by simpa using this.symm)
          rw [lpms.mpr this] at hlp
          cases hlp
        cases hgs : gs with
        | nil => exact absurd hgs gsne
        | cons g0 gr =>
          rw [hgs] at w
          exact w
    · cases hlp : lp with
      | nil =>
        rw [hlp] at e5
        have : r = [] := by simpa using (List.cons.inj e5).2.symm
        subst this
        intro x hx
        cases hx
      | cons a r1 =>
        rw [hlp] at e5
        have e6 : r1 ++ [(⟨p.top, e, b⟩ : Part)] = r := (List.cons.inj e5).2
        subst e6
        intro x hx
        rcases List.mem_append.mp hx with y | y
        · exact L.later a r1 hlp x y
        · have : x = ⟨p.top, e, b⟩ := by simpa using y
          subst this
          show 0 < e
          have f : lf k p := by
            by_cases f : lf k p
            · exact f
            · obtain ⟨k0, _⟩ := f0 f
              have := (L.zero k0).1
              rw [this] at hlp
              cases hlp
          have := (hl.on f).2.1
          omega
    · obtain ⟨e6, e7⟩ := List.append_inj' e5 rfl
      have e8 : (⟨p.top, e, b⟩ : Part) = p' := by simpa using e7
      subst e8
      subst e6
      refine ⟨fun x hx => ?_, ?_⟩
      · obtain ⟨r1, z, e9⟩ : ∃ r1 z, lp = r1 ++ [z] := by
          rcases List.eq_nil_or_concat lp with y | ⟨r1, z, y⟩
          · rw [y] at hx
            cases hx
          · exact ⟨r1, z, by simpa using y⟩
        have w := L.right r1 z e9
        rw [e9] at hx
        rcases List.mem_append.mp hx with y | y
        · exact w.1 x y
        · have : x = z := by simpa using y
          subst this
          rcases w.2 with w | w
          · exact w
          · omega
      · show b < S.size p.top ∨ _
        by_cases f : rf S P.length k p ∧ e < p.hi
        · have := (hr.on f.1 f.2).2.1
          have := q.le
          exact .inl (by omega)
        · have w := noR f
          exact .inr ⟨w.1, by rw [(hr.off f).1, w.2.2]; rfl⟩
    · rcases List.mem_append.mp hp' with y | y
      · exact L.jj p' y
      · have : p' = ⟨p.top, e, b⟩ := by simpa using y
        subst this
        show 0 < e ∨ b < S.size p.top
        by_cases f : lf k p
        · have := (hl.on f).2.1
          exact .inl (by omega)
        · have z := hl.off f
          have f2 : rf S P.length k p := by
            rcases W.jj with w | w
            · rcases Nat.lt_or_ge (k + 1) P.length with y | y
              · exact .inl y
              · exact absurd (.inl (by omega)) f
            · rcases w p (List.mem_of_getElem? hp) with w | w
              · exact absurd (.inr w) f
              · exact .inr w
          have := (hr.on f2 (by rw [z.2]; exact q.lt)).2.1
          have := q.le
          exact .inr (by omega)
    · have := L.cnt
      have l1 : 1 ≤ mid.length := List.length_pos_iff.mpr midne
      rw [hflat, em, List.length_append, List.length_append, List.length_append, List.length_singleton]
      omega
  · intro heb
    have eb : e = b := by
      have := hr.ge
      omega
    have mid0 : mid = [] := by
      have z : szs S mid = 0 := by
        obtain ⟨A, B, _, _, z⟩ := s2
        omega
      exact szs0 ok (fun x hx => (seg_lt ok q.top s2 x hx).1) z
    subst mid0
    have hone : ∀ l ∈ gs ++ [(g ++ rl) ++ (rr ++ g2)], ∀ r ∈ l, 1 ≤ r.2 ∧ (t % 2 = 1 → r.2 = 1) := fun l hm2 r hr2 => by
      rcases List.mem_append.mp hm2 with y | y
      · exact L.one l (by simp [y]) r hr2
      · have : l = (g ++ rl) ++ (rr ++ g2) := by simpa using y
        subst this
        rcases List.mem_append.mp hr2 with z | z
        · rcases List.mem_append.mp z with z | z
          · exact L.one g (by simp) r z
          · exact hl.one r z
        · rcases List.mem_append.mp z with z | z
          · exact hr.one r z
          · exact g2one r z
    -- a stretch that went away from behind another one left its pieces in the gap
    have rlne : 0 < k → rl ≠ [] := fun y => (hl.on (.inl y)).1
    have kpos : lp ≠ [] → 0 < k := fun y => by
      rcases Nat.eq_zero_or_pos k with z | z
      · exact absurd (L.zero z).1 y
      · exact z
    refine ⟨L.pm, ?_, ?_, fun y _ => ?_, hone, ?_, ?_, fun z => by omega, fun p' r e5 h0 => ?_, L.later, fun r p' e5 => ?_, L.jj, ?_⟩
    · rw [unr_app]
      refine bd1.ext _ ?_
      by_cases z : lp = []
      · exact .inr (lpms.mp z)
      · exact .inl (gne (.inl z))
    · rw [hmix, unr_app, unr_app, mix_ext, mix_ext, L.eq, em, unr_app]
      simp
    · rw [unr_app]
      have := gne (.inl y)
      simp [this]
    · have := L.wts
      rw [hfs, hG, wsum_app, wsum_one, wt_app, wt_app, wt_app]
      rw [wsum_app, wsum_one] at this
      omega
    · rw [hfs]
      have := L.ds
      omega
    · have w := L.first p' r e5 h0
      have gsne : gs ≠ [] := by
        intro y
        have := L.bd.len
        rw [y] at this
        have : ms' = [] := List.length_eq_zero_iff.mp (by simpa using this.symm)
        rw [lpms.mpr this] at e5
        cases e5
      cases hgs : gs with
      | nil => exact absurd hgs gsne
      | cons g0 gr =>
        rw [hgs] at w
        exact w
    · have w := L.right r p' e5
      refine ⟨w.1, ?_⟩
      rcases w.2 with w | w
      · exact .inl w
      · omega
    · have := L.cnt
      rw [hflat, em, List.nil_append, List.length_append]
      omega
end
end VW
set_option maxHeartbeats 400000
set_option maxRecDepth 100000
set_option linter.all false
/-! Part G: woven from its beginning to its end. -/
namespace VW
def on1 (o : List Nat) : List Rn := o.map fun x => (x, 1)
theorem unr_on1 : ∀ (o : List Nat), unr (on1 o) = o
  | [] => rfl
  | x :: o => by
    show List.replicate 1 x ++ unr (on1 o) = x :: o
    rw [unr_on1 o]
    rfl
theorem wt_on1 : ∀ (o : List Nat), wt (on1 o) = o.length
  | [] => rfl
  | x :: o => by
    show (if 1 < 1 then 2 else 1) + wt (on1 o) = o.length + 1
    rw [wt_on1 o]
    simp
    omega
theorem map_unr_on1 : ∀ (l : List (List Nat)), (l.map on1).map unr = l
  | [] => rfl
  | o :: l => by
    rw [List.map_cons, List.map_cons, unr_on1, map_unr_on1 l]
def tot (l : List (List Nat)) : Nat := (l.map List.length).sum
theorem wsum_on1 : ∀ (l : List (List Nat)), wsum (l.map on1) = tot l
  | [] => rfl
  | o :: l => by
    have := wsum_on1 l
    simp only [wsum, tot, List.map_cons, List.sum_cons] at this ⊢
    rw [this, wt_on1]
theorem mix_len : ∀ {gs ms : List (List Nat)} {g : List Nat}, ms.length ≤ gs.length → ms.flatten.length ≤ (mix gs ms g).length
  | gs, [], g, _ => by simp
  | [], m :: ms, g, h => by simp at h
  | a :: gs, m :: ms, g, h => by
    have := mix_len (gs := gs) (ms := ms) (g := g) (by simpa using h)
    unfold mix at this ⊢
    simp at this ⊢
    omega
theorem F2.pm_top {S : Sto} {t : Nat} {P : List Part} {ms : List (List Nat)} (h : F2 (PM S t) P ms) : ∀ p ∈ P, p.top < S.len ∧ p.lo < p.hi ∧ p.hi ≤ S.size p.top := by
  intro p hp
  obtain ⟨i, hi⟩ := List.getElem?_of_mem hp
  obtain ⟨m, _, q⟩ := h.get i p hi
  exact ⟨q.top, q.lt, q.le⟩
theorem fsum_dsum {S : Sto} {n : Nat} : ∀ {l : List Part} {i : Nat}, (0 < i → ∀ p ∈ l, 0 < p.lo) → (∀ p r, l = p :: r → ∀ q ∈ r, 0 < q.lo) → (∀ r p, l = r ++ [p] → ∀ q ∈ r, q.hi < S.size q.top) → i + l.length = n → fsum S n i l ≤ dsum S l
  | [], i, _, _, _, _ => Nat.le_refl _
  | p :: r, i, h1, h2, h3, hn => by
    have ih := fsum_dsum (S := S) (n := n) (l := r) (i := i + 1) (fun _ q hq => h2 p r rfl q hq) (fun a b e q hq => h2 p r rfl q (by rw [e]; exact List.mem_cons_of_mem _ hq))
      (fun b a e q hq => h3 (p :: b) a (by rw [e]; rfl) q (List.mem_cons_of_mem _ hq)) (by rw [List.length_cons] at hn; omega)
    show b2 (lf i p) + b2 (rf S n i p) + fsum S n (i + 1) r ≤ b2 (0 < p.lo) + b2 (p.hi < S.size p.top) + dsum S r
    have a : b2 (lf i p) ≤ b2 (0 < p.lo) := by
      by_cases f : lf i p
      · have : 0 < p.lo := by
          rcases f with f | f
          · exact h1 f p (by simp)
          · exact f
        rw [b2_t this]
        exact b2_le _
      · rw [b2_f f]
        exact Nat.zero_le _
    have b : b2 (rf S n i p) ≤ b2 (p.hi < S.size p.top) := by
      by_cases f : rf S n i p
      · have : p.hi < S.size p.top := by
          rcases f with f | f
          · have : r ≠ [] := by
              intro z
              subst z
              simp at hn
              omega
            obtain ⟨c, x, e⟩ : ∃ c x, r = c ++ [x] := by
              rcases List.eq_nil_or_concat r with y | ⟨c, x, y⟩
              · exact absurd y this
              · exact ⟨c, x, by simpa using y⟩
            exact h3 (p :: c) x (by rw [e]; rfl) p (by simp)
          · exact f
        rw [b2_t this]
        exact b2_le _
      · rw [b2_f f]
        exact Nat.zero_le _
    omega
theorem fsum_le {S S' : Sto} (le : Le S S') {n : Nat} : ∀ {l : List Part} {i : Nat}, (∀ p ∈ l, p.top < S.len) → fsum S' n i l = fsum S n i l
  | [], _, _ => rfl
  | p :: r, i, h => by
    show b2 (lf i p) + b2 (rf S' n i p) + fsum S' n (i + 1) r = b2 (lf i p) + b2 (rf S n i p) + fsum S n (i + 1) r
    rw [fsum_le le (l := r) fun q hq => h q (List.mem_cons_of_mem _ hq)]
    have e : S'.size p.top = S.size p.top := le.size _ (h p (by simp))
    have key : rf S' n i p ↔ rf S n i p := by
      unfold rf
      rw [e]
    have : b2 (rf S' n i p) = b2 (rf S n i p) := by
      by_cases f : rf S n i p
      · rw [b2_t f, b2_t (key.mpr f)]
      · rw [b2_f f, b2_f fun y => f (key.mp y)]
    rw [this]
/-- the next turn's state -/
theorem ws_next {S S' : Sto} {t : Nat} {P : List Part} {ms : List (List Nat)} {G : List (List Rn)} {X : List Nat} (ok : Ok S) (ok' : Ok S') (le : Le S S') (W : WS S t P ms G X) {lp : List Part} {gs : List (List Rn)} {g : List Rn} {ms' : List (List Nat)}
    (L : LI S t P ms G P.length lp gs g ms') {outs : List (List Nat)} (F : F2 (Mgd S' t) ((gs ++ [g]).map unr) outs) :
    ∃ X', WS S' (t + 1) lp ms' (outs.map on1) X' ∧ cts S' X' = cts S X ∧ fsum S' lp.length 0 lp ≤ fsum S P.length 0 P ∧ lp.length + P.length ≤ X.length := by
  rw [List.map_append] at F
  obtain ⟨o1, o2, rfl, F1, F2'⟩ := F.unsnoc
  have hl1 : o1.length = lp.length := by
    have a := F1.len
    have b := L.bd.len
    have c := L.pm.len
    omega
  obtain ⟨c1, c2, c3⟩ := bd_merge ok' (L.bd.le le) F1 F2'
  have hXl : ∀ x ∈ X, x < S.len := fun x hx => (W.lt x hx).1
  have htop := L.pm.pm_top
  have ems : ms'.map (flat S' t) = ms'.map (flat S t) := by
    apply List.map_congr_left
    intro m hm
    obtain ⟨i, hi⟩ := List.getElem?_of_mem hm
    obtain ⟨p, _, q⟩ := L.pm.get' i m hi
    exact le.flat fun x hx => (seg_lt ok q.top q.seg x hx).1
  have eX : flat S' t (mix o1 ms' o2) = X := by
    have z : ms.take P.length = ms := List.take_of_length_le (by rw [← W.pm.len]; exact Nat.le_refl _)
    rw [c2, ems, L.eq, W.eq, z]
  have hch : Ch (Sep S' (t + 1)) (mix o1 ms' o2) := by
    refine sep_up ok' c3 ?_ c1
    rw [eX]
    exact ch_mono W.ch fun x hx y hy q => le.sep (hXl x hx) (hXl y hy) q
  have et : ((o1 ++ [o2]).map on1) = o1.map on1 ++ [on1 o2] := by simp
  have e1 : (((o1 ++ [o2]).map on1).take lp.length).map unr = o1 := by
    rw [et, ← hl1]
    have : (o1.map on1 ++ [on1 o2]).take o1.length = o1.map on1 := by
      rw [List.take_append_of_le_length (by simp)]
      exact List.take_of_length_le (by simp)
    rw [this, map_unr_on1]
  have e2 : ((o1 ++ [o2]).map on1).getD lp.length [] = on1 o2 := by
    rw [et, ← hl1, List.getD_eq_getElem?_getD, List.getElem?_append_right (by simp)]
    simp
  refine ⟨mix o1 ms' o2, ⟨?_, ?_, fun l hl r hr => ?_, ?_, c3, hch, fun p r e5 h0 => ?_, fun r p e5 h0 => ?_, .inr fun p hp => ?_⟩, ?_, ?_, ?_⟩
  · refine L.pm.mono fun p m q => q.le_ le ok
  · simp [hl1]
  · obtain ⟨o, _, rfl⟩ := List.mem_map.mp hl
    obtain ⟨x, _, rfl⟩ := List.mem_map.mp hr
    rfl
  · rw [e1, e2, unr_on1]
  · have w := L.first p r e5 h0
    have m1 : ((gs.map unr ++ [unr g]))[0]? = some [] := by
      have : (gs.map unr ++ [unr g]) = (gs ++ [g]).map unr := by simp
      rw [this, List.getElem?_map, w]
      rfl
    obtain ⟨y, h1, h2⟩ := (F1.snoc F2').get 0 [] m1
    have := h2.nil_of ok'
    subst this
    rw [List.getElem?_map, h1]
    rfl
  · have w := (L.right r p e5).2
    have hs : S'.size p.top = S.size p.top := le.size _ (htop p (by rw [e5]; simp)).1
    have gz : g = [] := by
      rcases w with w | w
      · omega
      · exact w.2
    subst gz
    have := F2'.nil_of ok'
    subst this
    rw [et, ← hl1, List.getElem?_append_right (by simp)]
    simp [on1]
  · rw [le.size _ (htop p hp).1]
    exact L.jj p hp
  · rw [← flat_cts ok' (s := t) fun x hx => (c3 x hx).1, eX]
    exact le.cts hXl
  · rw [fsum_le le fun p hp => (htop p hp).1]
    have d := L.ds
    rw [List.take_of_length_le (Nat.le_refl _)] at d
    exact Nat.le_trans (fsum_dsum (fun z => by omega) L.later (fun r p e => (L.right r p e).1) (by omega)) d
  · have c := L.cnt
    have : ms.take P.length = ms := List.take_of_length_le (by rw [← W.pm.len]; exact Nat.le_refl _)
    rw [this] at c
    refine Nat.le_trans c ?_
    rw [W.eq]
    refine mix_len ?_
    rw [List.length_map, List.length_take, W.len, ← W.pm.len]
    omega
/-- a letter's parse: all places are places of the parse of turn 0 -/
theorem al_any {S : Sto} (ok : Ok S) {top p : Nat} (ht : top < S.len) (hp : p ≤ S.size top) : Al S top 0 p := by
  have one : ∀ x ∈ S.exp top 0, S.size x = 1 := fun x hx => by
    have b := (exp_mem ok ht 0 x hx).2
    rcases view ok (exp_lt ok ht 0 x hx) with ⟨a, _, _, e, _⟩ | ⟨t, ks, c⟩
    · exact e
    · have := c.birth
      omega
  have all : ∀ l : List Nat, (∀ x ∈ l, S.size x = 1) → szs S l = l.length := by
    intro l
    induction l with
    | nil => intro _; rfl
    | cons x r ih =>
      intro h
      rw [szs_cons, h x (by simp), ih fun y hy => h y (List.mem_cons_of_mem _ hy), List.length_cons]
      omega
  refine ⟨(S.exp top 0).take p, (S.exp top 0).drop p, (List.take_append_drop _ _).symm, ?_⟩
  rw [all _ fun x hx => one x (List.mem_of_mem_take hx), List.length_take, ← all _ one, exp_szs ok ht]
  omega
/-- the letters of a stretch -/
def sub (S : Sto) (p : Part) : List Nat := ((S.cont p.top).take p.hi).drop p.lo
theorem seg_cts {S : Sto} (ok : Ok S) {top t lo hi : Nat} {M : List Nat} (ht : top < S.len) (h : Seg S top t lo hi M) : cts S M = sub S ⟨top, lo, hi⟩ := by
  obtain ⟨A, B, e, a1, a2⟩ := h
  have hA : (cts S A).length = lo := by
    rw [len_cts fun x hx => cont_len ok (exp_lt ok ht t x (by rw [e]; simp [hx]))]
    exact a1
  have hM : (cts S M).length = hi - lo := by
    rw [len_cts fun x hx => cont_len ok (exp_lt ok ht t x (by rw [e]; simp [hx]))]
    omega
  unfold sub
  show cts S M = ((S.cont top).take hi).drop lo
  rw [← exp_cts ok ht t, e, cts_app, cts_app, ← List.append_assoc, List.take_append_of_le_length (by rw [List.length_append]; omega)]
  rw [List.take_of_length_le (by rw [List.length_append]; omega), ← hA, List.drop_left]
theorem cts_mix {S : Sto} : ∀ {gs ms : List (List Nat)} {g : List Nat}, gs.length = ms.length → (∀ x ∈ gs, x = []) → g = [] → cts S (mix gs ms g) = ms.flatMap (cts S)
  | [], [], g, _, _, hg => by subst hg; rfl
  | a :: gs, m :: ms, g, h, h1, hg => by
    have := cts_mix (S := S) (gs := gs) (ms := ms) (g := g) (by simpa using h) (fun x hx => h1 x (List.mem_cons_of_mem _ hx)) hg
    have ha := h1 a (by simp)
    subst ha
    unfold mix at this ⊢
    rw [List.zipWith_cons_cons, List.flatten_cons, List.nil_append, List.append_assoc, cts_app, this, List.flatMap_cons]
theorem ws_start {S : Sto} (ok : Ok S) {P : List Part} (hP : ∀ p ∈ P, p.top < S.len ∧ p.lo < p.hi ∧ p.hi ≤ S.size p.top) (hj : 2 ≤ P.length ∨ ∀ p ∈ P, 0 < p.lo ∨ p.hi < S.size p.top) :
    ∃ ms X, WS S 0 P ms (List.replicate (P.length + 1) []) X ∧ cts S X = P.flatMap (sub S) := by
  obtain ⟨ms, f, ec⟩ : ∃ ms, F2 (PM S 0) P ms ∧ ms.flatMap (cts S) = P.flatMap (sub S) := by
    clear hj
    induction P with
    | nil => exact ⟨[], .nil, rfl⟩
    | cons p r ih =>
      obtain ⟨ms, f, ec⟩ := ih fun q hq => hP q (List.mem_cons_of_mem _ hq)
      obtain ⟨h1, h2, h3⟩ := hP p (by simp)
      obtain ⟨M, hM⟩ := seg_of ok h1 (al_any ok h1 (by omega : p.lo ≤ S.size p.top)) (al_any ok h1 h3) (Nat.le_of_lt h2)
      refine ⟨M :: ms, .cons ⟨h1, h2, h3, hM⟩ f, ?_⟩
      rw [List.flatMap_cons, List.flatMap_cons, ec, seg_cts ok h1 hM]
  have hlen := f.len
  have hg : (List.replicate (P.length + 1) ([] : List Rn)).getD P.length [] = [] := by
    rw [List.getD_eq_getElem?_getD, List.getElem?_replicate]
    simp
  have hgs : ∀ x ∈ ((List.replicate (P.length + 1) ([] : List Rn)).take P.length).map unr, x = [] := fun x hx => by
    obtain ⟨y, hy, rfl⟩ := List.mem_map.mp hx
    rw [List.eq_of_mem_replicate (List.mem_of_mem_take hy)]
    rfl
  have hgl : (((List.replicate (P.length + 1) ([] : List Rn)).take P.length).map unr).length = ms.length := by
    rw [List.length_map, List.length_take, List.length_replicate, ← hlen]
    omega
  have hm : ∀ m ∈ ms, ∀ x ∈ m, x < S.len ∧ S.birth x ≤ 0 := fun m hm x hx => by
    obtain ⟨i, hi⟩ := List.getElem?_of_mem hm
    obtain ⟨p, _, q⟩ := f.get' i m hi
    exact seg_lt ok q.top q.seg x hx
  have hX : ∀ x ∈ mix (((List.replicate (P.length + 1) ([] : List Rn)).take P.length).map unr) ms (unr ((List.replicate (P.length + 1) ([] : List Rn)).getD P.length [])), x < S.len ∧ S.birth x ≤ 0 := fun x hx => by
    rw [hg] at hx
    unfold mix at hx
    rw [show unr [] = [] from rfl, List.append_nil] at hx
    obtain ⟨l, hl, hx⟩ := List.mem_flatten.mp hx
    obtain ⟨i, hi⟩ := List.getElem?_of_mem hl
    rw [List.getElem?_zipWith] at hi
    cases h1 : (((List.replicate (P.length + 1) ([] : List Rn)).take P.length).map unr)[i]? with
    | none => rw [h1] at hi; simp at hi
    | some a =>
      cases h2 : ms[i]? with
      | none => rw [h1, h2] at hi; simp at hi
      | some m =>
        rw [h1, h2] at hi
        have ea := hgs a (List.mem_of_getElem? h1)
        subst ea
        have : m = l := by simpa using hi
        subst this
        exact hm m (List.mem_of_getElem? h2) x hx
  refine ⟨ms, _, ⟨f, by simp, fun l hl r hr => ?_, rfl, hX, ?_, fun p r e h0 => ?_, fun r p e h0 => ?_, hj⟩, ?_⟩
  · rw [List.eq_of_mem_replicate hl] at hr
    cases hr
  · have any : ∀ l : List Nat, Ch (Sep S 0) l := by
      intro l
      induction l with
      | nil => trivial
      | cons x r ih =>
        cases r with
        | nil => trivial
        | cons y r => exact ⟨fun s hs => by omega, ih⟩
    exact any _
  · rw [List.getElem?_replicate]
    simp
  · rw [List.getElem?_replicate]
    simp
  · rw [hg, show unr [] = [] from rfl, cts_mix hgl hgs rfl]
    exact ec
/-- at the end of woven one piece is left -/
theorem ws_end {S : Sto} {t : Nat} {ms : List (List Nat)} {G : List (List Rn)} {X : List Nat} (W : WS S t [] ms G X) : ∃ g, G = [g] ∧ X = unr g ∧ ms = [] := by
  have hl : G.length = 1 := W.len
  have hm : ms = [] := List.length_eq_zero_iff.mp W.pm.len.symm
  match G, hl with
  | [g], _ =>
    refine ⟨g, rfl, ?_, hm⟩
    have := W.eq
    subst hm
    rw [this]
    rfl
theorem ws_szs {S : Sto} (ok : Ok S) {t : Nat} {P : List Part} {ms : List (List Nat)} {G : List (List Rn)} {X : List Nat} (W : WS S t P ms G X) : szs S X = (cts S X).length :=
  (len_cts fun x hx => cont_len ok (W.lt x hx).1).symm
theorem ws_one {S : Sto} (ok : Ok S) (cap : S.len ≤ 16777216) {t : Nat} {P : List Part} {ms : List (List Nat)} {G : List (List Rn)} {X : List Nat} (W : WS S t P ms G X) (ht : 9888 ≤ t) (hz : (cts S X).length ≤ 10 ^ 18) : X.length ≤ 1 :=
  one_left ok cap ht (fun x hx => (W.lt x hx).1) W.ch (by rw [ws_szs ok W]; exact hz)
end VW
set_option maxHeartbeats 400000
set_option maxRecDepth 100000
set_option linter.all false
/-! Part H: going down to a piece. -/
namespace VW
structure Pc (S : Sto) (top t at_ nm st : Nat) : Prop where
  lt : nm < S.len
  ex : ∃ A B, S.exp top t = A ++ (S.exp nm t ++ B) ∧ szs S A = st
  le : st ≤ at_
  in_ : at_ < st + S.size nm
section
variable {S : Sto} (ok : Ok S) {top t at_ nm st : Nat}
theorem pc_start (ht : top < S.len) (h : at_ < S.size top) : Pc S top t at_ top 0 := ⟨ht, ⟨[], [], by simp, rfl⟩, Nat.zero_le _, by omega⟩
include ok
theorem pc_end (p : Pc S top t at_ nm st) (h : S.birth nm ≤ t) : Loc S top t nm st at_ := by
  obtain ⟨A, B, e, s⟩ := p.ex
  refine ⟨A, B, ?_, s, p.le, p.in_⟩
  rw [exp_self ok p.lt h] at e
  exact e
theorem node_P {l r : Nat} (h : nm < S.len) (e : S.node nm = .P l r) : ∃ u, u % 2 = 1 ∧ Comp S nm u [l, r] := by
  have k := ok.nodes nm h
  unfold NOk at k
  rw [e] at k
  obtain ⟨u, o, _, c⟩ := k
  exact ⟨u, o, c⟩
theorem node_B {l m : Nat} (h : nm < S.len) (e : S.node nm = .B l m) : ∃ u, u % 2 = 0 ∧ Comp S nm u (List.replicate m l) := by
  have k := ok.nodes nm h
  unfold NOk at k
  rw [e] at k
  obtain ⟨u, o, c⟩ := k
  exact ⟨u, o, c⟩
theorem node_L {a : Nat} (h : nm < S.len) (e : S.node nm = .L a) : a < 8 ∧ S.size nm = 1 ∧ S.birth nm = 0 ∧ S.cont nm = [a] := by
  have k := ok.nodes nm h
  unfold NOk at k
  rw [e] at k
  exact ⟨k.1, k.2.1, k.2.2.1, k.2.2.2.1⟩
theorem node_P' {l r : Nat} (h : nm < S.len) (e : S.node nm = .P l r) : l < nm ∧ r < nm ∧ S.size nm = S.size l + S.size r ∧ S.cont nm = S.cont l ++ S.cont r := by
  obtain ⟨u, o, c⟩ := node_P ok h e
  exact ⟨(c.lt l (by simp)).1, (c.lt r (by simp)).1, by rw [c.size]; simp [szs], by rw [c.cont]; simp [cts]⟩
theorem node_B' {l m : Nat} (h : nm < S.len) (e : S.node nm = .B l m) : l < nm ∧ 2 ≤ m ∧ S.size nm = m * S.size l ∧ S.cont nm = (List.replicate m (S.cont l)).flatten := by
  obtain ⟨u, o, c⟩ := node_B ok h e
  have two := c.two
  rw [List.length_replicate] at two
  exact ⟨(c.lt l (by simp; omega)).1, two, by rw [c.size, szs_rep], by rw [c.cont]; simp [cts, List.flatMap_replicate]⟩
theorem pc_not_letter (p : Pc S top t at_ nm st) (h : t < S.birth nm) {a : Nat} (e : S.node nm = .L a) : False := by
  have := (node_L ok p.lt e).2.2.1
  omega
theorem pc_left {l r : Nat} (p : Pc S top t at_ nm st) (h : t < S.birth nm) (e : S.node nm = .P l r) (hl : at_ < st + S.size l) : Pc S top t at_ l st := by
  obtain ⟨u, o, c⟩ := node_P ok p.lt e
  obtain ⟨A, B, e1, s⟩ := p.ex
  have := c.birth
  refine ⟨Nat.lt_trans (c.lt l (by simp)).1 p.lt, ⟨A, S.exp r t ++ B, ?_, s⟩, p.le, hl⟩
  rw [e1, c.exp, if_neg (by omega)]
  simp [flat]
theorem pc_right {l r : Nat} (p : Pc S top t at_ nm st) (h : t < S.birth nm) (e : S.node nm = .P l r) (hl : ¬ at_ < st + S.size l) : Pc S top t at_ r (st + S.size l) := by
  obtain ⟨u, o, c⟩ := node_P ok p.lt e
  obtain ⟨A, B, e1, s⟩ := p.ex
  have := c.birth
  have ll := Nat.lt_trans (c.lt l (by simp)).1 p.lt
  have hs := c.size
  have hin := p.in_
  simp [szs] at hs
  refine ⟨Nat.lt_trans (c.lt r (by simp)).1 p.lt, ⟨A ++ S.exp l t, B, ?_, ?_⟩, by omega, by omega⟩
  · rw [e1, c.exp, if_neg (by omega)]
    simp [flat]
  · rw [szs_app, exp_szs ok ll, s]
theorem pc_block {l m : Nat} (p : Pc S top t at_ nm st) (h : t < S.birth nm) (e : S.node nm = .B l m) : Pc S top t at_ l (st + (at_ - st) / S.size l * S.size l) := by
  obtain ⟨u, o, c⟩ := node_B ok p.lt e
  obtain ⟨A, B, e1, s⟩ := p.ex
  have hb := c.birth
  obtain ⟨hlm, two, hs, _⟩ := node_B' ok p.lt e
  have ll := Nat.lt_trans hlm p.lt
  have sp := size_pos ok ll
  have hin := p.in_
  have hle := p.le
  have hj : (at_ - st) / S.size l < m := by
    rw [Nat.div_lt_iff_lt_mul sp]
    omega
  obtain ⟨k, hk⟩ : ∃ k, m = (at_ - st) / S.size l + (1 + k) := ⟨m - (at_ - st) / S.size l - 1, by omega⟩
  refine ⟨ll, ⟨A ++ flat S t (List.replicate ((at_ - st) / S.size l) l), flat S t (List.replicate k l) ++ B, ?_, ?_⟩, ?_, ?_⟩
  · rw [e1, c.exp, if_neg (by omega)]
    conv => lhs; rw [hk]
    rw [← List.replicate_append_replicate, flat_app, ← List.replicate_append_replicate, flat_app]
    simp [flat]
  · rw [szs_app, flat_szs ok (fun x hx => by rw [List.eq_of_mem_replicate hx]; exact ll), szs_rep, s]
  · have := Nat.div_mul_le_self (at_ - st) (S.size l)
    omega
  · have := Nat.lt_div_mul_add (a := at_ - st) sp
    omega
end
end VW
set_option maxHeartbeats 400000
set_option maxRecDepth 100000
set_option linter.all false
/-! Part I: standings of a word of two letters. -/
namespace VW
def cnt (p q : Nat) : List Nat → Nat
  | x :: y :: r => (if x = p ∧ y = q then 1 else 0) + cnt p q (y :: r)
  | _ => 0
def f1 (T : List Nat) : List Nat := T.take 1
def l1 (T : List Nat) : List Nat := T.drop (T.length - 1)
theorem l1_cons {x y : Nat} {r : List Nat} : l1 (x :: y :: r) = l1 (y :: r) := by
  unfold l1
  simp
theorem l1_ne {A B : List Nat} (h : B ≠ []) : l1 (A ++ B) = l1 B := by
  unfold l1
  have : 1 ≤ B.length := List.length_pos_iff.mpr h
  rw [List.length_append, show A.length + B.length - 1 = A.length + (B.length - 1) by omega, ← List.drop_drop, List.drop_left]
theorem cnt_app {p q : Nat} : ∀ {A B : List Nat}, cnt p q (A ++ B) = cnt p q A + cnt p q B + cnt p q (l1 A ++ f1 B)
  | [], B => by
    have : cnt p q (l1 [] ++ f1 B) = 0 := by
      cases B with
      | nil => rfl
      | cons y r => simp [l1, f1, cnt]
    rw [this]
    simp [cnt]
  | [x], [] => by simp [l1, f1, cnt]
  | [x], y :: r => by
    simp [l1, f1, cnt]
    omega
  | x :: y :: r, B => by
    have ih := cnt_app (p := p) (q := q) (A := y :: r) (B := B)
    rw [l1_cons]
    show (if x = p ∧ y = q then 1 else 0) + cnt p q (y :: r ++ B) = (if x = p ∧ y = q then 1 else 0) + cnt p q (y :: r) + cnt p q B + _
    rw [ih]
    omega
theorem cnt_few {p q : Nat} : ∀ {l : List Nat}, l.length ≤ 2 → ((List.range l.length).filter fun i => decide ((l.drop i).take 2 = [p, q])).length = cnt p q l
  | [], _ => rfl
  | [x], _ => by simp [cnt, List.range_succ]
  | [x, y], _ => by
    by_cases h : x = p ∧ y = q
    · simp [cnt, List.range_succ, h.1, h.2]
    · have h' : x = p → ¬ y = q := fun a b => h ⟨a, b⟩
      simp [cnt, List.range_succ, h]
  | x :: y :: z :: r, h => by simp at h
theorem f1_len {A : List Nat} : (f1 A).length ≤ 1 := by
  unfold f1
  rw [List.length_take]
  omega
theorem l1_len {A : List Nat} : (l1 A).length ≤ 1 := by
  unfold l1
  rw [List.length_drop]
  omega
theorem cnt_one {p q : Nat} {A : List Nat} (h : A.length ≤ 1) : cnt p q A = 0 := by
  match A, h with
  | [], _ => rfl
  | [x], _ => rfl
  | _ :: _ :: _, h => simp at h
/-- how often in a^n -/
theorem cnt_rep {p q x : Nat} (h : p ≠ q) : ∀ n, cnt p q (List.replicate n x) = 0
  | 0 => rfl
  | 1 => rfl
  | n + 2 => by
    show (if x = p ∧ x = q then 1 else 0) + cnt p q (List.replicate (n + 1) x) = 0
    rw [cnt_rep h (n + 1), if_neg fun z => h (z.1.symm.trans z.2)]
theorem cnt_take_mono {p q : Nat} {T : List Nat} {a b : Nat} (h : a ≤ b) : cnt p q (T.take a) ≤ cnt p q (T.take b) := by
  have : T.take b = T.take a ++ (T.take b).drop a := by
    have := List.take_append_drop a (T.take b)
    rw [List.take_take, Nat.min_eq_left h] at this
    exact this.symm
  rw [this, cnt_app]
  omega
/-! runs -/
def runsOf (l : List (Nat × Nat)) : List Nat := l.flatMap fun r => List.replicate r.2 r.1
/-- runs, no two neighbours of one letter -/
def Apart : List (Nat × Nat) → Prop
  | r :: s :: l => r.1 ≠ s.1 ∧ Apart (s :: l)
  | _ => True
theorem runs_uniq : ∀ {l m : List (Nat × Nat)}, (∀ r ∈ l, 1 ≤ r.2) → (∀ r ∈ m, 1 ≤ r.2) → Apart l → Apart m → runsOf l = runsOf m → l = m
  | [], [], _, _, _, _, _ => rfl
  | [], (x, 0) :: m, _, h, _, _, _ => absurd (show 1 ≤ 0 from h (x, 0) (by simp)) (by decide)
  | [], (x, c + 1) :: m, _, _, _, _, e => by simp [runsOf, List.replicate_succ] at e
  | (x, 0) :: m, [], h, _, _, _, _ => absurd (show 1 ≤ 0 from h (x, 0) (by simp)) (by decide)
  | (x, c + 1) :: m, [], _, _, _, _, e => by simp [runsOf, List.replicate_succ] at e
  | (x, 0) :: l, _ :: _, h, _, _, _, _ => absurd (show 1 ≤ 0 from h (x, 0) (by simp)) (by decide)
  | _ :: _, (x, 0) :: l, _, h, _, _, _ => absurd (show 1 ≤ 0 from h (x, 0) (by simp)) (by decide)
  | (x, c + 1) :: l, (y, d + 1) :: m, hl, hm, al, am, e => by
    have e' : x :: (List.replicate c x ++ runsOf l) = y :: (List.replicate d y ++ runsOf m) := by
      have : runsOf ((x, c + 1) :: l) = x :: (List.replicate c x ++ runsOf l) := by simp [runsOf, List.replicate_succ]
      rw [← this, e]
      simp [runsOf, List.replicate_succ]
    injection e' with e1 e2
    subst e1
    -- the heads of what follows differ
    have hd : ∀ {k : List (Nat × Nat)} {n : Nat}, (∀ r ∈ (x, n) :: k, 1 ≤ r.2) → Apart ((x, n) :: k) → ∀ z r, runsOf k = z :: r → z ≠ x := by
      intro k n hk ak z r hz
      cases k with
      | nil => cases hz
      | cons s k =>
        obtain ⟨s1, s2⟩ := s
        have : 1 ≤ s2 := hk (s1, s2) (by simp)
        have z2 : runsOf ((s1, s2) :: k) = s1 :: (List.replicate (s2 - 1) s1 ++ runsOf k) := by
          have : s2 = (s2 - 1) + 1 := by omega
          rw [this]
          simp [runsOf, List.replicate_succ]
        rw [z2] at hz
        injection hz with h1 _
        rw [← h1]
        exact fun q => ak.1 q.symm
    have key : ∀ {c d : Nat} {A B : List Nat}, List.replicate c x ++ A = List.replicate d x ++ B → (∀ z r, A = z :: r → z ≠ x) → (∀ z r, B = z :: r → z ≠ x) → c = d ∧ A = B := by
      intro c
      induction c with
      | zero =>
        intro d A B h hA hB
        cases d with
        | zero => exact ⟨rfl, by simpa using h⟩
        | succ d =>
          rw [List.replicate_succ] at h
          exact absurd rfl (hA x _ (by simpa using h))
      | succ c ih =>
        intro d A B h hA hB
        cases d with
        | zero =>
          rw [List.replicate_succ] at h
          exact absurd rfl (hB x _ (by simpa using h.symm))
        | succ d =>
          rw [List.replicate_succ, List.replicate_succ] at h
          obtain ⟨h1, h2⟩ := ih (by simpa using h) hA hB
          exact ⟨by rw [h1], h2⟩
    obtain ⟨k1, k2⟩ := key e2 (hd hl al) (hd hm am)
    subst k1
    have ap : ∀ {r : Nat × Nat} {k : List (Nat × Nat)}, Apart (r :: k) → Apart k := by
      intro r k h
      cases k with
      | nil => trivial
      | cons s k => exact h.2
    rw [runs_uniq (l := l) (m := m) (fun r hr => hl r (List.mem_cons_of_mem _ hr)) (fun r hr => hm r (List.mem_cons_of_mem _ hr)) (ap al) (ap am) k2]
/-- the pieces of turn 1 are runs -/
theorem run_of {S : Sto} (ok : Ok S) {x : Nat} (hx : x < S.len) (hb : S.birth x ≤ 1) : ∃ c a, 1 ≤ c ∧ S.cont x = List.replicate c a ∧ S.size x = c ∧ ∃ l, S.node l = .L a ∧ l < S.len ∧ fst S 0 x = l ∧ lst S 0 x = l := by
  rcases view ok hx with ⟨a, e1, e2, e3, e4, e5, e6⟩ | ⟨t, ks, c⟩
  · exact ⟨1, a, Nat.le_refl _, e5, e3, x, e1, hx, by unfold fst; rw [e6]; rfl, by unfold lst; rw [e6]; rfl⟩
  · have := c.birth
    have t0 : t = 0 := by omega
    subst t0
    have k := ok.nodes x hx
    unfold NOk at k
    cases en : S.node x with
    | L a => rw [en] at k; omega
    | P l r =>
      rw [en] at k
      obtain ⟨u, u1, _, cu⟩ := k
      have := cu.birth
      omega
    | B l m =>
      rw [en] at k
      obtain ⟨u, u1, cu⟩ := k
      have hu : u = 0 := by have := cu.birth; omega
      subst hu
      have m2 := cu.two
      rw [List.length_replicate] at m2
      obtain ⟨hl1, hl2⟩ := cu.lt l (by simp; omega)
      have hl : l < S.len := by omega
      rcases view ok hl with ⟨a, e1, e2, e3, e4, e5, e6⟩ | ⟨t, ks', c'⟩
      · have ex := cu.exp 0
        rw [if_neg (by omega)] at ex
        have fl : ∀ m, flat S 0 (List.replicate m l) = List.replicate m l := by
          intro m
          induction m with
          | zero => rfl
          | succ m ih => rw [List.replicate_succ, flat_cons, ih, e6]; rfl
        rw [fl m] at ex
        refine ⟨m, a, by omega, ?_, ?_, l, e1, hl, ?_, ?_⟩
        · rw [cu.cont]
          have : ∀ m, cts S (List.replicate m l) = List.replicate m a := by
           intro m
           induction m with
           | zero => rfl
           | succ m ih =>
            rw [List.replicate_succ, List.replicate_succ]
            show S.cont l ++ cts S (List.replicate m l) = _
            rw [ih, e5]
            rfl
          exact this m
        · rw [cu.size]
          have : ∀ m, szs S (List.replicate m l) = m := by
           intro m
           induction m with
           | zero => rfl
           | succ m ih => rw [List.replicate_succ, szs_cons, ih, e3]; omega
          exact this m
        · unfold fst
          rw [ex]
          match m, m2 with
          | m + 1, _ => rfl
        · unfold lst
          rw [ex]
          match m, m2 with
          | m + 1, _ =>
            rw [List.replicate_succ']
            exact ls_snoc _ _
      · have := c'.birth
        omega
theorem runs_of_exp {S : Sto} (ok : Ok S) : ∀ {l : List Nat}, (∀ x ∈ l, x < S.len ∧ S.birth x ≤ 1) → Ch (Sep S 1) l → ∃ rs : List (Nat × Nat), rs.length = l.length ∧ (∀ r ∈ rs, 1 ≤ r.2) ∧ Apart rs ∧ runsOf rs = cts S l ∧ (∀ (i : Nat) (x : Nat), l[i]? = some x → ∃ r : Nat × Nat, rs[i]? = some r ∧ S.size x = r.2 ∧ S.cont x = List.replicate r.2 r.1) ∧
      ∀ x r, l = x :: r → ∃ a c rs', rs = (a, c) :: rs' ∧ S.cont x = List.replicate c a
  | [], _, _ => ⟨[], rfl, fun r hr => (nomatch hr), trivial, rfl, fun i x h => by simp at h, fun x r e => (nomatch e)⟩
  | x :: l, hl, hc => by
    obtain ⟨c, a, c1, cx, sx, lx, n1, n2, n3, n4⟩ := run_of ok (hl x (by simp)).1 (hl x (by simp)).2
    have ch := ch_cons.mp hc
    obtain ⟨rs, r1, r2, r3, r4, r5, r6⟩ := runs_of_exp ok (l := l) (fun y hy => hl y (List.mem_cons_of_mem _ hy)) ch.2
    refine ⟨(a, c) :: rs, by simp [r1], fun r hr => ?_, ?_, ?_, fun i y h => ?_, fun y r e => ?_⟩
    · rcases List.mem_cons.mp hr with q | q
      · rw [q]; exact c1
      · exact r2 r q
    · cases l with
      | nil =>
        have : rs = [] := List.length_eq_zero_iff.mp r1
        rw [this]
        trivial
      | cons y l =>
        obtain ⟨b, d, rs', e1, e2⟩ := r6 y l rfl
        subst e1
        refine ⟨?_, r3⟩
        intro e
        have hy := hl y (by simp)
        obtain ⟨d', b', d1, cy, sy, ly, m1, m2, m3, m4⟩ := run_of ok hy.1 hy.2
        have d1' : 1 ≤ d := r2 (b, d) (by simp)
        have : b' = b := by
          rw [cy] at e2
          match d', d, d1, d1', e2 with
          | d' + 1, d + 1, _, _, e2 =>
            rw [List.replicate_succ, List.replicate_succ] at e2
            injection e2
        subst this
        have e : a = b' := e
        subst e
        have ll : lx = ly := ok.inj lx ly n2 m2 (n1.trans m1.symm)
        have := (ch.1 (by simp)) 0 (by omega)
        have := this.1 rfl
        rw [hd_cons, n4, m3] at this
        exact this ll
    · have : runsOf ((a, c) :: rs) = List.replicate c a ++ runsOf rs := by simp [runsOf]
      rw [this, r4, ← cx]
      rfl
    · cases i with
      | zero =>
        have : x = y := by simpa using h
        subst this
        exact ⟨(a, c), rfl, sx, cx⟩
      | succ i =>
        obtain ⟨r, q1, q2⟩ := r5 i y (by simpa using h)
        exact ⟨r, by simpa using q1, q2⟩
    · injection e with e1 e2
      subst e1
      exact ⟨a, c, rs, rfl, cx⟩
end VW
set_option Elab.async false
set_option linter.all false
set_option maxRecDepth 100000
set_option maxHeartbeats 4000000
/-! The text by its places; what the top has written, by names. Printed by gen_head.py. -/
namespace VT
open PySem PySem.Spec PyProof.Rows L2
def top (i : Nat) : Stmt := PySem.Challenge.pw_vastword_k31_whole_walks_over_vast_texts.main.body.getD i (.Pass ⟨0, 0, 0, 0⟩)
abbrev s_side : Stmt := top 23
abbrev s_places_in : Stmt := top 28
abbrev s_word_fold : Stmt := top 30
abbrev s_ahead_of : Stmt := top 31
abbrev s_nth : Stmt := top 32
abbrev s_next_standing : Stmt := top 33
abbrev s_run : Stmt := top 35
abbrev s_off_left : Stmt := top 39
abbrev s_off_right : Stmt := top 40
abbrev s_blocks : Stmt := top 41
abbrev s_pairs : Stmt := top 42
abbrev s_loosened : Stmt := top 43
abbrev s_woven : Stmt := top 44
abbrev s_whole : Stmt := top 45
abbrev s_laid : Stmt := top 46
abbrev s_repeated : Stmt := top 47
abbrev s_spelled : Stmt := top 48
abbrev s_bounded : Stmt := top 51
abbrev s_law_bag : Stmt := top 54
abbrev s_law_pull : Stmt := top 55
abbrev s_law_same : Stmt := top 56
abbrev s_law_word : Stmt := top 57
abbrev s_law_segments : Stmt := top 58
abbrev s_law_vast : Stmt := top 59
abbrev s_law_vast_size : Stmt := top 60
abbrev s_law_vast_letter : Stmt := top 61
abbrev s_law_spot : Stmt := top 62
abbrev s_law : Stmt := top 63
abbrev s_Store_init : Stmt := inClass (top 24) 0
abbrev s_Store_keep : Stmt := inClass (top 24) 1
abbrev s_Store_measured : Stmt := inClass (top 24) 2
abbrev s_Store_meet : Stmt := inClass (top 24) 3
abbrev s_Store_piece : Stmt := inClass (top 24) 4
abbrev s_Store_below : Stmt := inClass (top 24) 7
abbrev s_Fold_init : Stmt := inClass (top 26) 0
abbrev s_Fold_summed : Stmt := inClass (top 26) 1
abbrev s_Fold_power : Stmt := inClass (top 26) 2
abbrev s_Fold_until : Stmt := inClass (top 26) 3
abbrev s_WordRule_init : Stmt := inClass (top 29) 0
abbrev s_WordRule_none : Stmt := inClass (top 29) 1
abbrev s_WordRule_unit : Stmt := inClass (top 29) 2
abbrev s_WordRule_join : Stmt := inClass (top 29) 3
abbrev s_Walk_init : Stmt := inClass (top 37) 0
abbrev s_Walk_place : Stmt := inClass (top 37) 1
abbrev s_Walk_step : Stmt := inClass (top 37) 2
abbrev s_Walk_rest_of_run : Stmt := inClass (top 37) 3
abbrev s_Walk_go : Stmt := inClass (top 37) 4
abbrev s_Walk_seek : Stmt := inClass (top 37) 5
abbrev s_Loom_init : Stmt := inClass (top 50) 0
abbrev s_Loom_text : Stmt := inClass (top 50) 1
abbrev s_Text_init : Stmt := inClass (top 52) 0
abbrev s_Text_size : Stmt := inClass (top 52) 3
abbrev s_Text_letter : Stmt := inClass (top 52) 4
abbrev s_Text_stretch : Stmt := inClass (top 52) 6
abbrev s_Text_cut : Stmt := inClass (top 52) 7
abbrev s_Text_akin : Stmt := inClass (top 52) 9
abbrev s_Text_joined : Stmt := inClass (top 52) 10
abbrev s_Text_times : Stmt := inClass (top 52) 12
def d_side : He.DefD := ⟨("side", none), "side", "side", defArgs s_side, defBody s_side, defScope s_side, [], []⟩
def d_places_in : He.DefD := ⟨("places_in", none), "places_in", "places_in", defArgs s_places_in, defBody s_places_in, defScope s_places_in, [], []⟩
def d_word_fold : He.DefD := ⟨("word_fold", none), "word_fold", "word_fold", defArgs s_word_fold, defBody s_word_fold, defScope s_word_fold, [], []⟩
def d_ahead_of : He.DefD := ⟨("ahead_of", none), "ahead_of", "ahead_of", defArgs s_ahead_of, defBody s_ahead_of, defScope s_ahead_of, [], []⟩
def d_nth : He.DefD := ⟨("nth", none), "nth", "nth", defArgs s_nth, defBody s_nth, defScope s_nth, [], []⟩
def d_next_standing : He.DefD := ⟨("next_standing", none), "next_standing", "next_standing", defArgs s_next_standing, defBody s_next_standing, defScope s_next_standing, [], [("at", .int 0)]⟩
def d_run : He.DefD := ⟨("run", none), "run", "run", defArgs s_run, defBody s_run, defScope s_run, [], []⟩
def d_off_left : He.DefD := ⟨("off_left", none), "off_left", "off_left", defArgs s_off_left, defBody s_off_left, defScope s_off_left, [], []⟩
def d_off_right : He.DefD := ⟨("off_right", none), "off_right", "off_right", defArgs s_off_right, defBody s_off_right, defScope s_off_right, [], []⟩
def d_blocks : He.DefD := ⟨("blocks", none), "blocks", "blocks", defArgs s_blocks, defBody s_blocks, defScope s_blocks, [], []⟩
def d_pairs : He.DefD := ⟨("pairs", none), "pairs", "pairs", defArgs s_pairs, defBody s_pairs, defScope s_pairs, [], []⟩
def d_loosened : He.DefD := ⟨("loosened", none), "loosened", "loosened", defArgs s_loosened, defBody s_loosened, defScope s_loosened, [], []⟩
def d_woven : He.DefD := ⟨("woven", none), "woven", "woven", defArgs s_woven, defBody s_woven, defScope s_woven, [], []⟩
def d_whole : He.DefD := ⟨("whole", none), "whole", "whole", defArgs s_whole, defBody s_whole, defScope s_whole, [], []⟩
def d_laid : He.DefD := ⟨("laid", none), "laid", "laid", defArgs s_laid, defBody s_laid, defScope s_laid, [], []⟩
def d_repeated : He.DefD := ⟨("repeated", none), "repeated", "repeated", defArgs s_repeated, defBody s_repeated, defScope s_repeated, [], []⟩
def d_spelled : He.DefD := ⟨("spelled", none), "spelled", "spelled", defArgs s_spelled, defBody s_spelled, defScope s_spelled, [], []⟩
def d_bounded : He.DefD := ⟨("bounded", none), "bounded", "bounded", defArgs s_bounded, defBody s_bounded, defScope s_bounded, [], []⟩
def d_law_bag : He.DefD := ⟨("_law_bag", none), "_law_bag", "_law_bag", defArgs s_law_bag, defBody s_law_bag, defScope s_law_bag, [], []⟩
def d_law_pull : He.DefD := ⟨("_law_pull", none), "_law_pull", "_law_pull", defArgs s_law_pull, defBody s_law_pull, defScope s_law_pull, [], []⟩
def d_law_same : He.DefD := ⟨("_law_same", none), "_law_same", "_law_same", defArgs s_law_same, defBody s_law_same, defScope s_law_same, [], []⟩
def d_law_word : He.DefD := ⟨("_law_word", none), "_law_word", "_law_word", defArgs s_law_word, defBody s_law_word, defScope s_law_word, [], []⟩
def d_law_segments : He.DefD := ⟨("_law_segments", none), "_law_segments", "_law_segments", defArgs s_law_segments, defBody s_law_segments, defScope s_law_segments, [], []⟩
def d_law_vast : He.DefD := ⟨("_law_vast", none), "_law_vast", "_law_vast", defArgs s_law_vast, defBody s_law_vast, defScope s_law_vast, [], []⟩
def d_law_vast_size : He.DefD := ⟨("_law_vast_size", none), "_law_vast_size", "_law_vast_size", defArgs s_law_vast_size, defBody s_law_vast_size, defScope s_law_vast_size, [], []⟩
def d_law_vast_letter : He.DefD := ⟨("_law_vast_letter", none), "_law_vast_letter", "_law_vast_letter", defArgs s_law_vast_letter, defBody s_law_vast_letter, defScope s_law_vast_letter, [], []⟩
def d_law_spot : He.DefD := ⟨("_law_spot", none), "_law_spot", "_law_spot", defArgs s_law_spot, defBody s_law_spot, defScope s_law_spot, [], []⟩
def d_law : He.DefD := ⟨("law", none), "law", "law", defArgs s_law, defBody s_law, defScope s_law, [], []⟩
def d_Store_init : He.DefD := ⟨("Store", some "__init__"), "__init__", "Store.__init__", defArgs s_Store_init, defBody s_Store_init, defScope s_Store_init, [], []⟩
def d_Store_keep : He.DefD := ⟨("Store", some "keep"), "keep", "Store.keep", defArgs s_Store_keep, defBody s_Store_keep, defScope s_Store_keep, [], []⟩
def d_Store_measured : He.DefD := ⟨("Store", some "measured"), "measured", "Store.measured", defArgs s_Store_measured, defBody s_Store_measured, defScope s_Store_measured, [], []⟩
def d_Store_meet : He.DefD := ⟨("Store", some "meet"), "meet", "Store.meet", defArgs s_Store_meet, defBody s_Store_meet, defScope s_Store_meet, [], []⟩
def d_Store_piece : He.DefD := ⟨("Store", some "piece"), "piece", "Store.piece", defArgs s_Store_piece, defBody s_Store_piece, defScope s_Store_piece, [], []⟩
def d_Store_below : He.DefD := ⟨("Store", some "below"), "below", "Store.below", defArgs s_Store_below, defBody s_Store_below, defScope s_Store_below, [], []⟩
def d_Fold_init : He.DefD := ⟨("Fold", some "__init__"), "__init__", "Fold.__init__", defArgs s_Fold_init, defBody s_Fold_init, defScope s_Fold_init, [], []⟩
def d_Fold_summed : He.DefD := ⟨("Fold", some "summed"), "summed", "Fold.summed", defArgs s_Fold_summed, defBody s_Fold_summed, defScope s_Fold_summed, [], []⟩
def d_Fold_power : He.DefD := ⟨("Fold", some "power"), "power", "Fold.power", defArgs s_Fold_power, defBody s_Fold_power, defScope s_Fold_power, [], []⟩
def d_Fold_until : He.DefD := ⟨("Fold", some "until"), "until", "Fold.until", defArgs s_Fold_until, defBody s_Fold_until, defScope s_Fold_until, [], []⟩
def d_WordRule_init : He.DefD := ⟨("WordRule", some "__init__"), "__init__", "WordRule.__init__", defArgs s_WordRule_init, defBody s_WordRule_init, defScope s_WordRule_init, [], []⟩
def d_WordRule_none : He.DefD := ⟨("WordRule", some "none"), "none", "WordRule.none", defArgs s_WordRule_none, defBody s_WordRule_none, defScope s_WordRule_none, [], []⟩
def d_WordRule_unit : He.DefD := ⟨("WordRule", some "unit"), "unit", "WordRule.unit", defArgs s_WordRule_unit, defBody s_WordRule_unit, defScope s_WordRule_unit, [], []⟩
def d_WordRule_join : He.DefD := ⟨("WordRule", some "join"), "join", "WordRule.join", defArgs s_WordRule_join, defBody s_WordRule_join, defScope s_WordRule_join, [], []⟩
def d_Walk_init : He.DefD := ⟨("Walk", some "__init__"), "__init__", "Walk.__init__", defArgs s_Walk_init, defBody s_Walk_init, defScope s_Walk_init, [], [("at", .int 0)]⟩
def d_Walk_place : He.DefD := ⟨("Walk", some "place"), "place", "Walk.place", defArgs s_Walk_place, defBody s_Walk_place, defScope s_Walk_place, [], []⟩
def d_Walk_step : He.DefD := ⟨("Walk", some "step"), "step", "Walk.step", defArgs s_Walk_step, defBody s_Walk_step, defScope s_Walk_step, [.int 1], []⟩
def d_Walk_rest_of_run : He.DefD := ⟨("Walk", some "rest_of_run"), "rest_of_run", "Walk.rest_of_run", defArgs s_Walk_rest_of_run, defBody s_Walk_rest_of_run, defScope s_Walk_rest_of_run, [], []⟩
def d_Walk_go : He.DefD := ⟨("Walk", some "go"), "go", "Walk.go", defArgs s_Walk_go, defBody s_Walk_go, defScope s_Walk_go, [], []⟩
def d_Walk_seek : He.DefD := ⟨("Walk", some "seek"), "seek", "Walk.seek", defArgs s_Walk_seek, defBody s_Walk_seek, defScope s_Walk_seek, [], []⟩
def d_Loom_init : He.DefD := ⟨("Loom", some "__init__"), "__init__", "Loom.__init__", defArgs s_Loom_init, defBody s_Loom_init, defScope s_Loom_init, [], []⟩
def d_Loom_text : He.DefD := ⟨("Loom", some "text"), "text", "Loom.text", defArgs s_Loom_text, defBody s_Loom_text, defScope s_Loom_text, [.str ""], []⟩
def d_Text_init : He.DefD := ⟨("Text", some "__init__"), "__init__", "Text.__init__", defArgs s_Text_init, defBody s_Text_init, defScope s_Text_init, [], []⟩
def d_Text_size : He.DefD := ⟨("Text", some "size"), "size", "Text.size", defArgs s_Text_size, defBody s_Text_size, defScope s_Text_size, [], []⟩
def d_Text_letter : He.DefD := ⟨("Text", some "letter"), "letter", "Text.letter", defArgs s_Text_letter, defBody s_Text_letter, defScope s_Text_letter, [], []⟩
def d_Text_stretch : He.DefD := ⟨("Text", some "stretch"), "stretch", "Text.stretch", defArgs s_Text_stretch, defBody s_Text_stretch, defScope s_Text_stretch, [], []⟩
def d_Text_cut : He.DefD := ⟨("Text", some "cut"), "cut", "Text.cut", defArgs s_Text_cut, defBody s_Text_cut, defScope s_Text_cut, [], [("start", .int 0), ("end", .non)]⟩
def d_Text_akin : He.DefD := ⟨("Text", some "akin"), "akin", "Text.akin", defArgs s_Text_akin, defBody s_Text_akin, defScope s_Text_akin, [], []⟩
def d_Text_joined : He.DefD := ⟨("Text", some "joined"), "joined", "Text.joined", defArgs s_Text_joined, defBody s_Text_joined, defScope s_Text_joined, [], []⟩
def d_Text_times : He.DefD := ⟨("Text", some "times"), "times", "Text.times", defArgs s_Text_times, defBody s_Text_times, defScope s_Text_times, [], []⟩
def fn : List He.DefD := [d_side, d_places_in, d_word_fold, d_ahead_of, d_nth, d_next_standing, d_run, d_off_left, d_off_right, d_blocks, d_pairs, d_loosened, d_woven, d_whole, d_laid, d_repeated, d_spelled, d_bounded, d_law_bag, d_law_pull, d_law_same, d_law_word, d_law_segments, d_law_vast, d_law_vast_size, d_law_vast_letter, d_law_spot, d_law, d_Store_init, d_Store_keep, d_Store_measured, d_Store_meet, d_Store_piece, d_Store_below, d_Fold_init, d_Fold_summed, d_Fold_power, d_Fold_until, d_WordRule_init, d_WordRule_none, d_WordRule_unit, d_WordRule_join, d_Walk_init, d_Walk_place, d_Walk_step, d_Walk_rest_of_run, d_Walk_go, d_Walk_seek, d_Loom_init, d_Loom_text, d_Text_init, d_Text_size, d_Text_letter, d_Text_stretch, d_Text_cut, d_Text_akin, d_Text_joined, d_Text_times]
def fa0 : List He.Fa := [.glo "side", .glo "places_in", .glo "word_fold", .glo "ahead_of", .glo "nth", .glo "next_standing", .glo "run", .glo "off_left", .glo "off_right", .glo "blocks", .glo "pairs", .glo "loosened", .glo "woven", .glo "whole", .glo "laid", .glo "repeated", .glo "spelled", .glo "bounded", .glo "_law_bag", .glo "_law_pull", .glo "_law_same", .glo "_law_word", .glo "_law_segments", .glo "_law_vast", .glo "_law_vast_size", .glo "_law_vast_letter", .glo "_law_spot", .glo "law", .glo "Store", .glo "Fold"]
def fa1 : List He.Fa := [.glo "WordRule", .glo "Walk", .glo "Loom", .glo "Text", .free "len", .free "all", .free "max", .free "min", .free "range", .free "sorted", .free "int", .free "list", .free "tuple", .free "isinstance", .free "zip", .free "enumerate", .free "sum", .free "abs", .free "str", .free "bool", .int "MOST" (1000000000000000000), .int "WRITTEN" (400), .int "WORD" (40), .int "STEP" (200), .int "NONE" (-1), .int "LETTER" (0), .int "PAIR" (1), .int "BLOCK" (2), .int "SIDES" (24), .int "SPREAD" (10368889)]
def fa2 : List He.Fa := [.int "ROOM" (16777216), .str "LETTERS" "abcdefgh", .cls "Store", .mkr "Store", .noat "Store" "kinds", .noat "Store" "lefts", .noat "Store" "rights", .noat "Store" "sizes", .noat "Store" "births", .noat "Store" "known", .meth "Store" "keep", .meth "Store" "measured", .meth "Store" "meet", .meth "Store" "piece", .meth "Store" "below", .cls "Fold", .mkr "Fold", .noat "Fold" "store", .noat "Fold" "top", .noat "Fold" "rule", .noat "Fold" "known", .meth "Fold" "summed", .meth "Fold" "power", .meth "Fold" "until", .cls "WordRule", .mkr "WordRule", .noat "WordRule" "sought", .noat "WordRule" "most", .meth "WordRule" "none", .meth "WordRule" "unit"]
def fa3 : List He.Fa := [.meth "WordRule" "join", .cls "Walk", .mkr "Walk", .noat "Walk" "over", .noat "Walk" "here", .meth "Walk" "place", .meth "Walk" "step", .meth "Walk" "rest_of_run", .meth "Walk" "go", .meth "Walk" "seek", .cls "Loom", .mkr "Loom", .noat "Loom" "store", .meth "Loom" "text", .cls "Text", .mkr "Text", .noat "Text" "loom", .noat "Text" "top", .meth "Text" "size", .meth "Text" "letter", .meth "Text" "stretch", .meth "Text" "cut", .meth "Text" "akin", .meth "Text" "joined", .meth "Text" "times"]
def fa : List He.Fa := fa0 ++ fa1 ++ fa2 ++ fa3
/-- the class's own == and != are object's -/
def plainEq (K : PySem.W.Frag) : Bool := decide (PySem.W.findIn K (.ref (He.ga K "Loom")) "__eq__" = some (some (.builtin "object.__eq__"))) && (decide (PySem.W.findIn K (.ref (He.ga K "Loom")) "__ne__" = some (some (.builtin "object.__ne__"))) && decide (PySem.W.mroIn K (He.ga K "Loom") (.type "object") = some true))
/-- what the top has written (K), where the module's names stand (mg) -/
structure Txt (K : PySem.W.Frag) (mg : Str → Option Value) : Prop where
  c : He.SaysD fa fn K
  x : ∃ h : Heap, K.In h ∧ h.Ns mainGlobals mg
  eq : plainEq K = true
section
variable {K : PySem.W.Frag} {mg : Str → Option Value} (T : Txt K mg)
include T
theorem Txt.g_side : mg "side" = some (.ref (He.ga K "side")) := let ⟨_, X, G⟩ := T.x; He.glo_ok X G (T.c.fact 0 (f := .glo "side") rfl)
theorem Txt.g_places_in : mg "places_in" = some (.ref (He.ga K "places_in")) := let ⟨_, X, G⟩ := T.x; He.glo_ok X G (T.c.fact 1 (f := .glo "places_in") rfl)
theorem Txt.g_word_fold : mg "word_fold" = some (.ref (He.ga K "word_fold")) := let ⟨_, X, G⟩ := T.x; He.glo_ok X G (T.c.fact 2 (f := .glo "word_fold") rfl)
theorem Txt.g_ahead_of : mg "ahead_of" = some (.ref (He.ga K "ahead_of")) := let ⟨_, X, G⟩ := T.x; He.glo_ok X G (T.c.fact 3 (f := .glo "ahead_of") rfl)
theorem Txt.g_nth : mg "nth" = some (.ref (He.ga K "nth")) := let ⟨_, X, G⟩ := T.x; He.glo_ok X G (T.c.fact 4 (f := .glo "nth") rfl)
theorem Txt.g_next_standing : mg "next_standing" = some (.ref (He.ga K "next_standing")) := let ⟨_, X, G⟩ := T.x; He.glo_ok X G (T.c.fact 5 (f := .glo "next_standing") rfl)
theorem Txt.g_run : mg "run" = some (.ref (He.ga K "run")) := let ⟨_, X, G⟩ := T.x; He.glo_ok X G (T.c.fact 6 (f := .glo "run") rfl)
theorem Txt.g_off_left : mg "off_left" = some (.ref (He.ga K "off_left")) := let ⟨_, X, G⟩ := T.x; He.glo_ok X G (T.c.fact 7 (f := .glo "off_left") rfl)
theorem Txt.g_off_right : mg "off_right" = some (.ref (He.ga K "off_right")) := let ⟨_, X, G⟩ := T.x; He.glo_ok X G (T.c.fact 8 (f := .glo "off_right") rfl)
theorem Txt.g_blocks : mg "blocks" = some (.ref (He.ga K "blocks")) := let ⟨_, X, G⟩ := T.x; He.glo_ok X G (T.c.fact 9 (f := .glo "blocks") rfl)
theorem Txt.g_pairs : mg "pairs" = some (.ref (He.ga K "pairs")) := let ⟨_, X, G⟩ := T.x; He.glo_ok X G (T.c.fact 10 (f := .glo "pairs") rfl)
theorem Txt.g_loosened : mg "loosened" = some (.ref (He.ga K "loosened")) := let ⟨_, X, G⟩ := T.x; He.glo_ok X G (T.c.fact 11 (f := .glo "loosened") rfl)
theorem Txt.g_woven : mg "woven" = some (.ref (He.ga K "woven")) := let ⟨_, X, G⟩ := T.x; He.glo_ok X G (T.c.fact 12 (f := .glo "woven") rfl)
theorem Txt.g_whole : mg "whole" = some (.ref (He.ga K "whole")) := let ⟨_, X, G⟩ := T.x; He.glo_ok X G (T.c.fact 13 (f := .glo "whole") rfl)
theorem Txt.g_laid : mg "laid" = some (.ref (He.ga K "laid")) := let ⟨_, X, G⟩ := T.x; He.glo_ok X G (T.c.fact 14 (f := .glo "laid") rfl)
theorem Txt.g_repeated : mg "repeated" = some (.ref (He.ga K "repeated")) := let ⟨_, X, G⟩ := T.x; He.glo_ok X G (T.c.fact 15 (f := .glo "repeated") rfl)
theorem Txt.g_spelled : mg "spelled" = some (.ref (He.ga K "spelled")) := let ⟨_, X, G⟩ := T.x; He.glo_ok X G (T.c.fact 16 (f := .glo "spelled") rfl)
theorem Txt.g_bounded : mg "bounded" = some (.ref (He.ga K "bounded")) := let ⟨_, X, G⟩ := T.x; He.glo_ok X G (T.c.fact 17 (f := .glo "bounded") rfl)
theorem Txt.g_law_bag : mg "_law_bag" = some (.ref (He.ga K "_law_bag")) := let ⟨_, X, G⟩ := T.x; He.glo_ok X G (T.c.fact 18 (f := .glo "_law_bag") rfl)
theorem Txt.g_law_pull : mg "_law_pull" = some (.ref (He.ga K "_law_pull")) := let ⟨_, X, G⟩ := T.x; He.glo_ok X G (T.c.fact 19 (f := .glo "_law_pull") rfl)
theorem Txt.g_law_same : mg "_law_same" = some (.ref (He.ga K "_law_same")) := let ⟨_, X, G⟩ := T.x; He.glo_ok X G (T.c.fact 20 (f := .glo "_law_same") rfl)
theorem Txt.g_law_word : mg "_law_word" = some (.ref (He.ga K "_law_word")) := let ⟨_, X, G⟩ := T.x; He.glo_ok X G (T.c.fact 21 (f := .glo "_law_word") rfl)
theorem Txt.g_law_segments : mg "_law_segments" = some (.ref (He.ga K "_law_segments")) := let ⟨_, X, G⟩ := T.x; He.glo_ok X G (T.c.fact 22 (f := .glo "_law_segments") rfl)
theorem Txt.g_law_vast : mg "_law_vast" = some (.ref (He.ga K "_law_vast")) := let ⟨_, X, G⟩ := T.x; He.glo_ok X G (T.c.fact 23 (f := .glo "_law_vast") rfl)
theorem Txt.g_law_vast_size : mg "_law_vast_size" = some (.ref (He.ga K "_law_vast_size")) := let ⟨_, X, G⟩ := T.x; He.glo_ok X G (T.c.fact 24 (f := .glo "_law_vast_size") rfl)
theorem Txt.g_law_vast_letter : mg "_law_vast_letter" = some (.ref (He.ga K "_law_vast_letter")) := let ⟨_, X, G⟩ := T.x; He.glo_ok X G (T.c.fact 25 (f := .glo "_law_vast_letter") rfl)
theorem Txt.g_law_spot : mg "_law_spot" = some (.ref (He.ga K "_law_spot")) := let ⟨_, X, G⟩ := T.x; He.glo_ok X G (T.c.fact 26 (f := .glo "_law_spot") rfl)
theorem Txt.g_law : mg "law" = some (.ref (He.ga K "law")) := let ⟨_, X, G⟩ := T.x; He.glo_ok X G (T.c.fact 27 (f := .glo "law") rfl)
theorem Txt.g_Store : mg "Store" = some (.ref (He.ga K "Store")) := let ⟨_, X, G⟩ := T.x; He.glo_ok X G (T.c.fact 28 (f := .glo "Store") rfl)
theorem Txt.g_Fold : mg "Fold" = some (.ref (He.ga K "Fold")) := let ⟨_, X, G⟩ := T.x; He.glo_ok X G (T.c.fact 29 (f := .glo "Fold") rfl)
theorem Txt.g_WordRule : mg "WordRule" = some (.ref (He.ga K "WordRule")) := let ⟨_, X, G⟩ := T.x; He.glo_ok X G (T.c.fact 30 (f := .glo "WordRule") rfl)
theorem Txt.g_Walk : mg "Walk" = some (.ref (He.ga K "Walk")) := let ⟨_, X, G⟩ := T.x; He.glo_ok X G (T.c.fact 31 (f := .glo "Walk") rfl)
theorem Txt.g_Loom : mg "Loom" = some (.ref (He.ga K "Loom")) := let ⟨_, X, G⟩ := T.x; He.glo_ok X G (T.c.fact 32 (f := .glo "Loom") rfl)
theorem Txt.g_Text : mg "Text" = some (.ref (He.ga K "Text")) := let ⟨_, X, G⟩ := T.x; He.glo_ok X G (T.c.fact 33 (f := .glo "Text") rfl)
theorem Txt.b_len : mg "len" = none := let ⟨_, X, G⟩ := T.x; He.free_ok X G (T.c.fact 34 (f := .free "len") rfl)
theorem Txt.b_all : mg "all" = none := let ⟨_, X, G⟩ := T.x; He.free_ok X G (T.c.fact 35 (f := .free "all") rfl)
theorem Txt.b_max : mg "max" = none := let ⟨_, X, G⟩ := T.x; He.free_ok X G (T.c.fact 36 (f := .free "max") rfl)
theorem Txt.b_min : mg "min" = none := let ⟨_, X, G⟩ := T.x; He.free_ok X G (T.c.fact 37 (f := .free "min") rfl)
theorem Txt.b_range : mg "range" = none := let ⟨_, X, G⟩ := T.x; He.free_ok X G (T.c.fact 38 (f := .free "range") rfl)
theorem Txt.b_sorted : mg "sorted" = none := let ⟨_, X, G⟩ := T.x; He.free_ok X G (T.c.fact 39 (f := .free "sorted") rfl)
theorem Txt.b_int : mg "int" = none := let ⟨_, X, G⟩ := T.x; He.free_ok X G (T.c.fact 40 (f := .free "int") rfl)
theorem Txt.b_list : mg "list" = none := let ⟨_, X, G⟩ := T.x; He.free_ok X G (T.c.fact 41 (f := .free "list") rfl)
theorem Txt.b_tuple : mg "tuple" = none := let ⟨_, X, G⟩ := T.x; He.free_ok X G (T.c.fact 42 (f := .free "tuple") rfl)
theorem Txt.b_isinstance : mg "isinstance" = none := let ⟨_, X, G⟩ := T.x; He.free_ok X G (T.c.fact 43 (f := .free "isinstance") rfl)
theorem Txt.b_zip : mg "zip" = none := let ⟨_, X, G⟩ := T.x; He.free_ok X G (T.c.fact 44 (f := .free "zip") rfl)
theorem Txt.b_enumerate : mg "enumerate" = none := let ⟨_, X, G⟩ := T.x; He.free_ok X G (T.c.fact 45 (f := .free "enumerate") rfl)
theorem Txt.b_sum : mg "sum" = none := let ⟨_, X, G⟩ := T.x; He.free_ok X G (T.c.fact 46 (f := .free "sum") rfl)
theorem Txt.b_abs : mg "abs" = none := let ⟨_, X, G⟩ := T.x; He.free_ok X G (T.c.fact 47 (f := .free "abs") rfl)
theorem Txt.b_str : mg "str" = none := let ⟨_, X, G⟩ := T.x; He.free_ok X G (T.c.fact 48 (f := .free "str") rfl)
theorem Txt.b_bool : mg "bool" = none := let ⟨_, X, G⟩ := T.x; He.free_ok X G (T.c.fact 49 (f := .free "bool") rfl)
theorem Txt.i_MOST : ∃ t, mg "MOST" = some (.int (1000000000000000000) t) := let ⟨_, X, G⟩ := T.x; He.int_ok X G (T.c.fact 50 (f := .int "MOST" (1000000000000000000)) rfl)
theorem Txt.i_WRITTEN : ∃ t, mg "WRITTEN" = some (.int (400) t) := let ⟨_, X, G⟩ := T.x; He.int_ok X G (T.c.fact 51 (f := .int "WRITTEN" (400)) rfl)
theorem Txt.i_WORD : ∃ t, mg "WORD" = some (.int (40) t) := let ⟨_, X, G⟩ := T.x; He.int_ok X G (T.c.fact 52 (f := .int "WORD" (40)) rfl)
theorem Txt.i_STEP : ∃ t, mg "STEP" = some (.int (200) t) := let ⟨_, X, G⟩ := T.x; He.int_ok X G (T.c.fact 53 (f := .int "STEP" (200)) rfl)
theorem Txt.i_NONE : ∃ t, mg "NONE" = some (.int (-1) t) := let ⟨_, X, G⟩ := T.x; He.int_ok X G (T.c.fact 54 (f := .int "NONE" (-1)) rfl)
theorem Txt.i_LETTER : ∃ t, mg "LETTER" = some (.int (0) t) := let ⟨_, X, G⟩ := T.x; He.int_ok X G (T.c.fact 55 (f := .int "LETTER" (0)) rfl)
theorem Txt.i_PAIR : ∃ t, mg "PAIR" = some (.int (1) t) := let ⟨_, X, G⟩ := T.x; He.int_ok X G (T.c.fact 56 (f := .int "PAIR" (1)) rfl)
theorem Txt.i_BLOCK : ∃ t, mg "BLOCK" = some (.int (2) t) := let ⟨_, X, G⟩ := T.x; He.int_ok X G (T.c.fact 57 (f := .int "BLOCK" (2)) rfl)
theorem Txt.i_SIDES : ∃ t, mg "SIDES" = some (.int (24) t) := let ⟨_, X, G⟩ := T.x; He.int_ok X G (T.c.fact 58 (f := .int "SIDES" (24)) rfl)
theorem Txt.i_SPREAD : ∃ t, mg "SPREAD" = some (.int (10368889) t) := let ⟨_, X, G⟩ := T.x; He.int_ok X G (T.c.fact 59 (f := .int "SPREAD" (10368889)) rfl)
theorem Txt.i_ROOM : ∃ t, mg "ROOM" = some (.int (16777216) t) := let ⟨_, X, G⟩ := T.x; He.int_ok X G (T.c.fact 60 (f := .int "ROOM" (16777216)) rfl)
theorem Txt.s_LETTERS : ∃ t, mg "LETTERS" = some (.str "abcdefgh" t) := let ⟨_, X, G⟩ := T.x; He.str_ok X G (T.c.fact 61 (f := .str "LETTERS" "abcdefgh") rfl)
theorem Txt.c_Store : Cls K (He.ga K "Store") := He.cls_ok (T.c.fact 62 (f := .cls "Store") rfl)
theorem Txt.k_Store : L2.Mk K (He.ga K "Store") (He.ma K (He.ga K "Store") "__init__") := He.mkr_ok (T.c.fact 63 (f := .mkr "Store") rfl)
theorem Txt.n_Store_kinds : NoAttr K (He.ga K "Store") "kinds" := He.noat_ok (T.c.fact 64 (f := .noat "Store" "kinds") rfl)
theorem Txt.n_Store_lefts : NoAttr K (He.ga K "Store") "lefts" := He.noat_ok (T.c.fact 65 (f := .noat "Store" "lefts") rfl)
theorem Txt.n_Store_rights : NoAttr K (He.ga K "Store") "rights" := He.noat_ok (T.c.fact 66 (f := .noat "Store" "rights") rfl)
theorem Txt.n_Store_sizes : NoAttr K (He.ga K "Store") "sizes" := He.noat_ok (T.c.fact 67 (f := .noat "Store" "sizes") rfl)
theorem Txt.n_Store_births : NoAttr K (He.ga K "Store") "births" := He.noat_ok (T.c.fact 68 (f := .noat "Store" "births") rfl)
theorem Txt.n_Store_known : NoAttr K (He.ga K "Store") "known" := He.noat_ok (T.c.fact 69 (f := .noat "Store" "known") rfl)
theorem Txt.m_Store_keep : Meth K (He.ga K "Store") "keep" (He.ma K (He.ga K "Store") "keep") := He.meth_ok (T.c.fact 70 (f := .meth "Store" "keep") rfl)
theorem Txt.m_Store_measured : Meth K (He.ga K "Store") "measured" (He.ma K (He.ga K "Store") "measured") := He.meth_ok (T.c.fact 71 (f := .meth "Store" "measured") rfl)
theorem Txt.m_Store_meet : Meth K (He.ga K "Store") "meet" (He.ma K (He.ga K "Store") "meet") := He.meth_ok (T.c.fact 72 (f := .meth "Store" "meet") rfl)
theorem Txt.m_Store_piece : Meth K (He.ga K "Store") "piece" (He.ma K (He.ga K "Store") "piece") := He.meth_ok (T.c.fact 73 (f := .meth "Store" "piece") rfl)
theorem Txt.m_Store_below : Meth K (He.ga K "Store") "below" (He.ma K (He.ga K "Store") "below") := He.meth_ok (T.c.fact 74 (f := .meth "Store" "below") rfl)
theorem Txt.c_Fold : Cls K (He.ga K "Fold") := He.cls_ok (T.c.fact 75 (f := .cls "Fold") rfl)
theorem Txt.k_Fold : L2.Mk K (He.ga K "Fold") (He.ma K (He.ga K "Fold") "__init__") := He.mkr_ok (T.c.fact 76 (f := .mkr "Fold") rfl)
theorem Txt.n_Fold_store : NoAttr K (He.ga K "Fold") "store" := He.noat_ok (T.c.fact 77 (f := .noat "Fold" "store") rfl)
theorem Txt.n_Fold_top : NoAttr K (He.ga K "Fold") "top" := He.noat_ok (T.c.fact 78 (f := .noat "Fold" "top") rfl)
theorem Txt.n_Fold_rule : NoAttr K (He.ga K "Fold") "rule" := He.noat_ok (T.c.fact 79 (f := .noat "Fold" "rule") rfl)
theorem Txt.n_Fold_known : NoAttr K (He.ga K "Fold") "known" := He.noat_ok (T.c.fact 80 (f := .noat "Fold" "known") rfl)
theorem Txt.m_Fold_summed : Meth K (He.ga K "Fold") "summed" (He.ma K (He.ga K "Fold") "summed") := He.meth_ok (T.c.fact 81 (f := .meth "Fold" "summed") rfl)
theorem Txt.m_Fold_power : Meth K (He.ga K "Fold") "power" (He.ma K (He.ga K "Fold") "power") := He.meth_ok (T.c.fact 82 (f := .meth "Fold" "power") rfl)
theorem Txt.m_Fold_until : Meth K (He.ga K "Fold") "until" (He.ma K (He.ga K "Fold") "until") := He.meth_ok (T.c.fact 83 (f := .meth "Fold" "until") rfl)
theorem Txt.c_WordRule : Cls K (He.ga K "WordRule") := He.cls_ok (T.c.fact 84 (f := .cls "WordRule") rfl)
theorem Txt.k_WordRule : L2.Mk K (He.ga K "WordRule") (He.ma K (He.ga K "WordRule") "__init__") := He.mkr_ok (T.c.fact 85 (f := .mkr "WordRule") rfl)
theorem Txt.n_WordRule_sought : NoAttr K (He.ga K "WordRule") "sought" := He.noat_ok (T.c.fact 86 (f := .noat "WordRule" "sought") rfl)
theorem Txt.n_WordRule_most : NoAttr K (He.ga K "WordRule") "most" := He.noat_ok (T.c.fact 87 (f := .noat "WordRule" "most") rfl)
theorem Txt.m_WordRule_none : Meth K (He.ga K "WordRule") "none" (He.ma K (He.ga K "WordRule") "none") := He.meth_ok (T.c.fact 88 (f := .meth "WordRule" "none") rfl)
theorem Txt.m_WordRule_unit : Meth K (He.ga K "WordRule") "unit" (He.ma K (He.ga K "WordRule") "unit") := He.meth_ok (T.c.fact 89 (f := .meth "WordRule" "unit") rfl)
theorem Txt.m_WordRule_join : Meth K (He.ga K "WordRule") "join" (He.ma K (He.ga K "WordRule") "join") := He.meth_ok (T.c.fact 90 (f := .meth "WordRule" "join") rfl)
theorem Txt.c_Walk : Cls K (He.ga K "Walk") := He.cls_ok (T.c.fact 91 (f := .cls "Walk") rfl)
theorem Txt.k_Walk : L2.Mk K (He.ga K "Walk") (He.ma K (He.ga K "Walk") "__init__") := He.mkr_ok (T.c.fact 92 (f := .mkr "Walk") rfl)
theorem Txt.n_Walk_over : NoAttr K (He.ga K "Walk") "over" := He.noat_ok (T.c.fact 93 (f := .noat "Walk" "over") rfl)
theorem Txt.n_Walk_here : NoAttr K (He.ga K "Walk") "here" := He.noat_ok (T.c.fact 94 (f := .noat "Walk" "here") rfl)
theorem Txt.m_Walk_place : Meth K (He.ga K "Walk") "place" (He.ma K (He.ga K "Walk") "place") := He.meth_ok (T.c.fact 95 (f := .meth "Walk" "place") rfl)
theorem Txt.m_Walk_step : Meth K (He.ga K "Walk") "step" (He.ma K (He.ga K "Walk") "step") := He.meth_ok (T.c.fact 96 (f := .meth "Walk" "step") rfl)
theorem Txt.m_Walk_rest_of_run : Meth K (He.ga K "Walk") "rest_of_run" (He.ma K (He.ga K "Walk") "rest_of_run") := He.meth_ok (T.c.fact 97 (f := .meth "Walk" "rest_of_run") rfl)
theorem Txt.m_Walk_go : Meth K (He.ga K "Walk") "go" (He.ma K (He.ga K "Walk") "go") := He.meth_ok (T.c.fact 98 (f := .meth "Walk" "go") rfl)
theorem Txt.m_Walk_seek : Meth K (He.ga K "Walk") "seek" (He.ma K (He.ga K "Walk") "seek") := He.meth_ok (T.c.fact 99 (f := .meth "Walk" "seek") rfl)
theorem Txt.c_Loom : Cls K (He.ga K "Loom") := He.cls_ok (T.c.fact 100 (f := .cls "Loom") rfl)
theorem Txt.k_Loom : L2.Mk K (He.ga K "Loom") (He.ma K (He.ga K "Loom") "__init__") := He.mkr_ok (T.c.fact 101 (f := .mkr "Loom") rfl)
theorem Txt.n_Loom_store : NoAttr K (He.ga K "Loom") "store" := He.noat_ok (T.c.fact 102 (f := .noat "Loom" "store") rfl)
theorem Txt.m_Loom_text : Meth K (He.ga K "Loom") "text" (He.ma K (He.ga K "Loom") "text") := He.meth_ok (T.c.fact 103 (f := .meth "Loom" "text") rfl)
theorem Txt.c_Text : Cls K (He.ga K "Text") := He.cls_ok (T.c.fact 104 (f := .cls "Text") rfl)
theorem Txt.k_Text : L2.Mk K (He.ga K "Text") (He.ma K (He.ga K "Text") "__init__") := He.mkr_ok (T.c.fact 105 (f := .mkr "Text") rfl)
theorem Txt.n_Text_loom : NoAttr K (He.ga K "Text") "loom" := He.noat_ok (T.c.fact 106 (f := .noat "Text" "loom") rfl)
theorem Txt.n_Text_top : NoAttr K (He.ga K "Text") "top" := He.noat_ok (T.c.fact 107 (f := .noat "Text" "top") rfl)
theorem Txt.m_Text_size : Meth K (He.ga K "Text") "size" (He.ma K (He.ga K "Text") "size") := He.meth_ok (T.c.fact 108 (f := .meth "Text" "size") rfl)
theorem Txt.m_Text_letter : Meth K (He.ga K "Text") "letter" (He.ma K (He.ga K "Text") "letter") := He.meth_ok (T.c.fact 109 (f := .meth "Text" "letter") rfl)
theorem Txt.m_Text_stretch : Meth K (He.ga K "Text") "stretch" (He.ma K (He.ga K "Text") "stretch") := He.meth_ok (T.c.fact 110 (f := .meth "Text" "stretch") rfl)
theorem Txt.m_Text_cut : Meth K (He.ga K "Text") "cut" (He.ma K (He.ga K "Text") "cut") := He.meth_ok (T.c.fact 111 (f := .meth "Text" "cut") rfl)
theorem Txt.m_Text_akin : Meth K (He.ga K "Text") "akin" (He.ma K (He.ga K "Text") "akin") := He.meth_ok (T.c.fact 112 (f := .meth "Text" "akin") rfl)
theorem Txt.m_Text_joined : Meth K (He.ga K "Text") "joined" (He.ma K (He.ga K "Text") "joined") := He.meth_ok (T.c.fact 113 (f := .meth "Text" "joined") rfl)
theorem Txt.m_Text_times : Meth K (He.ga K "Text") "times" (He.ma K (He.ga K "Text") "times") := He.meth_ok (T.c.fact 114 (f := .meth "Text" "times") rfl)
theorem Txt.f_side : ∃ fd, FunD K d_side.name d_side.qual (defArgs s_side) (defBody s_side) (defScope s_side) (d_side.dvs K) (d_side.kws K) (He.fAd K d_side.at_) fd := T.c.def_ 0 (d := d_side) rfl
theorem Txt.f_places_in : ∃ fd, FunD K d_places_in.name d_places_in.qual (defArgs s_places_in) (defBody s_places_in) (defScope s_places_in) (d_places_in.dvs K) (d_places_in.kws K) (He.fAd K d_places_in.at_) fd := T.c.def_ 1 (d := d_places_in) rfl
theorem Txt.f_word_fold : ∃ fd, FunD K d_word_fold.name d_word_fold.qual (defArgs s_word_fold) (defBody s_word_fold) (defScope s_word_fold) (d_word_fold.dvs K) (d_word_fold.kws K) (He.fAd K d_word_fold.at_) fd := T.c.def_ 2 (d := d_word_fold) rfl
theorem Txt.f_ahead_of : ∃ fd, FunD K d_ahead_of.name d_ahead_of.qual (defArgs s_ahead_of) (defBody s_ahead_of) (defScope s_ahead_of) (d_ahead_of.dvs K) (d_ahead_of.kws K) (He.fAd K d_ahead_of.at_) fd := T.c.def_ 3 (d := d_ahead_of) rfl
theorem Txt.f_nth : ∃ fd, FunD K d_nth.name d_nth.qual (defArgs s_nth) (defBody s_nth) (defScope s_nth) (d_nth.dvs K) (d_nth.kws K) (He.fAd K d_nth.at_) fd := T.c.def_ 4 (d := d_nth) rfl
theorem Txt.f_next_standing : ∃ fd, FunD K d_next_standing.name d_next_standing.qual (defArgs s_next_standing) (defBody s_next_standing) (defScope s_next_standing) (d_next_standing.dvs K) (d_next_standing.kws K) (He.fAd K d_next_standing.at_) fd := T.c.def_ 5 (d := d_next_standing) rfl
theorem Txt.f_run : ∃ fd, FunD K d_run.name d_run.qual (defArgs s_run) (defBody s_run) (defScope s_run) (d_run.dvs K) (d_run.kws K) (He.fAd K d_run.at_) fd := T.c.def_ 6 (d := d_run) rfl
theorem Txt.f_off_left : ∃ fd, FunD K d_off_left.name d_off_left.qual (defArgs s_off_left) (defBody s_off_left) (defScope s_off_left) (d_off_left.dvs K) (d_off_left.kws K) (He.fAd K d_off_left.at_) fd := T.c.def_ 7 (d := d_off_left) rfl
theorem Txt.f_off_right : ∃ fd, FunD K d_off_right.name d_off_right.qual (defArgs s_off_right) (defBody s_off_right) (defScope s_off_right) (d_off_right.dvs K) (d_off_right.kws K) (He.fAd K d_off_right.at_) fd := T.c.def_ 8 (d := d_off_right) rfl
theorem Txt.f_blocks : ∃ fd, FunD K d_blocks.name d_blocks.qual (defArgs s_blocks) (defBody s_blocks) (defScope s_blocks) (d_blocks.dvs K) (d_blocks.kws K) (He.fAd K d_blocks.at_) fd := T.c.def_ 9 (d := d_blocks) rfl
theorem Txt.f_pairs : ∃ fd, FunD K d_pairs.name d_pairs.qual (defArgs s_pairs) (defBody s_pairs) (defScope s_pairs) (d_pairs.dvs K) (d_pairs.kws K) (He.fAd K d_pairs.at_) fd := T.c.def_ 10 (d := d_pairs) rfl
theorem Txt.f_loosened : ∃ fd, FunD K d_loosened.name d_loosened.qual (defArgs s_loosened) (defBody s_loosened) (defScope s_loosened) (d_loosened.dvs K) (d_loosened.kws K) (He.fAd K d_loosened.at_) fd := T.c.def_ 11 (d := d_loosened) rfl
theorem Txt.f_woven : ∃ fd, FunD K d_woven.name d_woven.qual (defArgs s_woven) (defBody s_woven) (defScope s_woven) (d_woven.dvs K) (d_woven.kws K) (He.fAd K d_woven.at_) fd := T.c.def_ 12 (d := d_woven) rfl
theorem Txt.f_whole : ∃ fd, FunD K d_whole.name d_whole.qual (defArgs s_whole) (defBody s_whole) (defScope s_whole) (d_whole.dvs K) (d_whole.kws K) (He.fAd K d_whole.at_) fd := T.c.def_ 13 (d := d_whole) rfl
theorem Txt.f_laid : ∃ fd, FunD K d_laid.name d_laid.qual (defArgs s_laid) (defBody s_laid) (defScope s_laid) (d_laid.dvs K) (d_laid.kws K) (He.fAd K d_laid.at_) fd := T.c.def_ 14 (d := d_laid) rfl
theorem Txt.f_repeated : ∃ fd, FunD K d_repeated.name d_repeated.qual (defArgs s_repeated) (defBody s_repeated) (defScope s_repeated) (d_repeated.dvs K) (d_repeated.kws K) (He.fAd K d_repeated.at_) fd := T.c.def_ 15 (d := d_repeated) rfl
theorem Txt.f_spelled : ∃ fd, FunD K d_spelled.name d_spelled.qual (defArgs s_spelled) (defBody s_spelled) (defScope s_spelled) (d_spelled.dvs K) (d_spelled.kws K) (He.fAd K d_spelled.at_) fd := T.c.def_ 16 (d := d_spelled) rfl
theorem Txt.f_bounded : ∃ fd, FunD K d_bounded.name d_bounded.qual (defArgs s_bounded) (defBody s_bounded) (defScope s_bounded) (d_bounded.dvs K) (d_bounded.kws K) (He.fAd K d_bounded.at_) fd := T.c.def_ 17 (d := d_bounded) rfl
theorem Txt.f_law_bag : ∃ fd, FunD K d_law_bag.name d_law_bag.qual (defArgs s_law_bag) (defBody s_law_bag) (defScope s_law_bag) (d_law_bag.dvs K) (d_law_bag.kws K) (He.fAd K d_law_bag.at_) fd := T.c.def_ 18 (d := d_law_bag) rfl
theorem Txt.f_law_pull : ∃ fd, FunD K d_law_pull.name d_law_pull.qual (defArgs s_law_pull) (defBody s_law_pull) (defScope s_law_pull) (d_law_pull.dvs K) (d_law_pull.kws K) (He.fAd K d_law_pull.at_) fd := T.c.def_ 19 (d := d_law_pull) rfl
theorem Txt.f_law_same : ∃ fd, FunD K d_law_same.name d_law_same.qual (defArgs s_law_same) (defBody s_law_same) (defScope s_law_same) (d_law_same.dvs K) (d_law_same.kws K) (He.fAd K d_law_same.at_) fd := T.c.def_ 20 (d := d_law_same) rfl
theorem Txt.f_law_word : ∃ fd, FunD K d_law_word.name d_law_word.qual (defArgs s_law_word) (defBody s_law_word) (defScope s_law_word) (d_law_word.dvs K) (d_law_word.kws K) (He.fAd K d_law_word.at_) fd := T.c.def_ 21 (d := d_law_word) rfl
theorem Txt.f_law_segments : ∃ fd, FunD K d_law_segments.name d_law_segments.qual (defArgs s_law_segments) (defBody s_law_segments) (defScope s_law_segments) (d_law_segments.dvs K) (d_law_segments.kws K) (He.fAd K d_law_segments.at_) fd := T.c.def_ 22 (d := d_law_segments) rfl
theorem Txt.f_law_vast : ∃ fd, FunD K d_law_vast.name d_law_vast.qual (defArgs s_law_vast) (defBody s_law_vast) (defScope s_law_vast) (d_law_vast.dvs K) (d_law_vast.kws K) (He.fAd K d_law_vast.at_) fd := T.c.def_ 23 (d := d_law_vast) rfl
theorem Txt.f_law_vast_size : ∃ fd, FunD K d_law_vast_size.name d_law_vast_size.qual (defArgs s_law_vast_size) (defBody s_law_vast_size) (defScope s_law_vast_size) (d_law_vast_size.dvs K) (d_law_vast_size.kws K) (He.fAd K d_law_vast_size.at_) fd := T.c.def_ 24 (d := d_law_vast_size) rfl
theorem Txt.f_law_vast_letter : ∃ fd, FunD K d_law_vast_letter.name d_law_vast_letter.qual (defArgs s_law_vast_letter) (defBody s_law_vast_letter) (defScope s_law_vast_letter) (d_law_vast_letter.dvs K) (d_law_vast_letter.kws K) (He.fAd K d_law_vast_letter.at_) fd := T.c.def_ 25 (d := d_law_vast_letter) rfl
theorem Txt.f_law_spot : ∃ fd, FunD K d_law_spot.name d_law_spot.qual (defArgs s_law_spot) (defBody s_law_spot) (defScope s_law_spot) (d_law_spot.dvs K) (d_law_spot.kws K) (He.fAd K d_law_spot.at_) fd := T.c.def_ 26 (d := d_law_spot) rfl
theorem Txt.f_law : ∃ fd, FunD K d_law.name d_law.qual (defArgs s_law) (defBody s_law) (defScope s_law) (d_law.dvs K) (d_law.kws K) (He.fAd K d_law.at_) fd := T.c.def_ 27 (d := d_law) rfl
theorem Txt.f_Store_init : ∃ fd, FunD K d_Store_init.name d_Store_init.qual (defArgs s_Store_init) (defBody s_Store_init) (defScope s_Store_init) (d_Store_init.dvs K) (d_Store_init.kws K) (He.fAd K d_Store_init.at_) fd := T.c.def_ 28 (d := d_Store_init) rfl
theorem Txt.f_Store_keep : ∃ fd, FunD K d_Store_keep.name d_Store_keep.qual (defArgs s_Store_keep) (defBody s_Store_keep) (defScope s_Store_keep) (d_Store_keep.dvs K) (d_Store_keep.kws K) (He.fAd K d_Store_keep.at_) fd := T.c.def_ 29 (d := d_Store_keep) rfl
theorem Txt.f_Store_measured : ∃ fd, FunD K d_Store_measured.name d_Store_measured.qual (defArgs s_Store_measured) (defBody s_Store_measured) (defScope s_Store_measured) (d_Store_measured.dvs K) (d_Store_measured.kws K) (He.fAd K d_Store_measured.at_) fd := T.c.def_ 30 (d := d_Store_measured) rfl
theorem Txt.f_Store_meet : ∃ fd, FunD K d_Store_meet.name d_Store_meet.qual (defArgs s_Store_meet) (defBody s_Store_meet) (defScope s_Store_meet) (d_Store_meet.dvs K) (d_Store_meet.kws K) (He.fAd K d_Store_meet.at_) fd := T.c.def_ 31 (d := d_Store_meet) rfl
theorem Txt.f_Store_piece : ∃ fd, FunD K d_Store_piece.name d_Store_piece.qual (defArgs s_Store_piece) (defBody s_Store_piece) (defScope s_Store_piece) (d_Store_piece.dvs K) (d_Store_piece.kws K) (He.fAd K d_Store_piece.at_) fd := T.c.def_ 32 (d := d_Store_piece) rfl
theorem Txt.f_Store_below : ∃ fd, FunD K d_Store_below.name d_Store_below.qual (defArgs s_Store_below) (defBody s_Store_below) (defScope s_Store_below) (d_Store_below.dvs K) (d_Store_below.kws K) (He.fAd K d_Store_below.at_) fd := T.c.def_ 33 (d := d_Store_below) rfl
theorem Txt.f_Fold_init : ∃ fd, FunD K d_Fold_init.name d_Fold_init.qual (defArgs s_Fold_init) (defBody s_Fold_init) (defScope s_Fold_init) (d_Fold_init.dvs K) (d_Fold_init.kws K) (He.fAd K d_Fold_init.at_) fd := T.c.def_ 34 (d := d_Fold_init) rfl
theorem Txt.f_Fold_summed : ∃ fd, FunD K d_Fold_summed.name d_Fold_summed.qual (defArgs s_Fold_summed) (defBody s_Fold_summed) (defScope s_Fold_summed) (d_Fold_summed.dvs K) (d_Fold_summed.kws K) (He.fAd K d_Fold_summed.at_) fd := T.c.def_ 35 (d := d_Fold_summed) rfl
theorem Txt.f_Fold_power : ∃ fd, FunD K d_Fold_power.name d_Fold_power.qual (defArgs s_Fold_power) (defBody s_Fold_power) (defScope s_Fold_power) (d_Fold_power.dvs K) (d_Fold_power.kws K) (He.fAd K d_Fold_power.at_) fd := T.c.def_ 36 (d := d_Fold_power) rfl
theorem Txt.f_Fold_until : ∃ fd, FunD K d_Fold_until.name d_Fold_until.qual (defArgs s_Fold_until) (defBody s_Fold_until) (defScope s_Fold_until) (d_Fold_until.dvs K) (d_Fold_until.kws K) (He.fAd K d_Fold_until.at_) fd := T.c.def_ 37 (d := d_Fold_until) rfl
theorem Txt.f_WordRule_init : ∃ fd, FunD K d_WordRule_init.name d_WordRule_init.qual (defArgs s_WordRule_init) (defBody s_WordRule_init) (defScope s_WordRule_init) (d_WordRule_init.dvs K) (d_WordRule_init.kws K) (He.fAd K d_WordRule_init.at_) fd := T.c.def_ 38 (d := d_WordRule_init) rfl
theorem Txt.f_WordRule_none : ∃ fd, FunD K d_WordRule_none.name d_WordRule_none.qual (defArgs s_WordRule_none) (defBody s_WordRule_none) (defScope s_WordRule_none) (d_WordRule_none.dvs K) (d_WordRule_none.kws K) (He.fAd K d_WordRule_none.at_) fd := T.c.def_ 39 (d := d_WordRule_none) rfl
theorem Txt.f_WordRule_unit : ∃ fd, FunD K d_WordRule_unit.name d_WordRule_unit.qual (defArgs s_WordRule_unit) (defBody s_WordRule_unit) (defScope s_WordRule_unit) (d_WordRule_unit.dvs K) (d_WordRule_unit.kws K) (He.fAd K d_WordRule_unit.at_) fd := T.c.def_ 40 (d := d_WordRule_unit) rfl
theorem Txt.f_WordRule_join : ∃ fd, FunD K d_WordRule_join.name d_WordRule_join.qual (defArgs s_WordRule_join) (defBody s_WordRule_join) (defScope s_WordRule_join) (d_WordRule_join.dvs K) (d_WordRule_join.kws K) (He.fAd K d_WordRule_join.at_) fd := T.c.def_ 41 (d := d_WordRule_join) rfl
theorem Txt.f_Walk_init : ∃ fd, FunD K d_Walk_init.name d_Walk_init.qual (defArgs s_Walk_init) (defBody s_Walk_init) (defScope s_Walk_init) (d_Walk_init.dvs K) (d_Walk_init.kws K) (He.fAd K d_Walk_init.at_) fd := T.c.def_ 42 (d := d_Walk_init) rfl
theorem Txt.f_Walk_place : ∃ fd, FunD K d_Walk_place.name d_Walk_place.qual (defArgs s_Walk_place) (defBody s_Walk_place) (defScope s_Walk_place) (d_Walk_place.dvs K) (d_Walk_place.kws K) (He.fAd K d_Walk_place.at_) fd := T.c.def_ 43 (d := d_Walk_place) rfl
theorem Txt.f_Walk_step : ∃ fd, FunD K d_Walk_step.name d_Walk_step.qual (defArgs s_Walk_step) (defBody s_Walk_step) (defScope s_Walk_step) (d_Walk_step.dvs K) (d_Walk_step.kws K) (He.fAd K d_Walk_step.at_) fd := T.c.def_ 44 (d := d_Walk_step) rfl
theorem Txt.f_Walk_rest_of_run : ∃ fd, FunD K d_Walk_rest_of_run.name d_Walk_rest_of_run.qual (defArgs s_Walk_rest_of_run) (defBody s_Walk_rest_of_run) (defScope s_Walk_rest_of_run) (d_Walk_rest_of_run.dvs K) (d_Walk_rest_of_run.kws K) (He.fAd K d_Walk_rest_of_run.at_) fd := T.c.def_ 45 (d := d_Walk_rest_of_run) rfl
theorem Txt.f_Walk_go : ∃ fd, FunD K d_Walk_go.name d_Walk_go.qual (defArgs s_Walk_go) (defBody s_Walk_go) (defScope s_Walk_go) (d_Walk_go.dvs K) (d_Walk_go.kws K) (He.fAd K d_Walk_go.at_) fd := T.c.def_ 46 (d := d_Walk_go) rfl
theorem Txt.f_Walk_seek : ∃ fd, FunD K d_Walk_seek.name d_Walk_seek.qual (defArgs s_Walk_seek) (defBody s_Walk_seek) (defScope s_Walk_seek) (d_Walk_seek.dvs K) (d_Walk_seek.kws K) (He.fAd K d_Walk_seek.at_) fd := T.c.def_ 47 (d := d_Walk_seek) rfl
theorem Txt.f_Loom_init : ∃ fd, FunD K d_Loom_init.name d_Loom_init.qual (defArgs s_Loom_init) (defBody s_Loom_init) (defScope s_Loom_init) (d_Loom_init.dvs K) (d_Loom_init.kws K) (He.fAd K d_Loom_init.at_) fd := T.c.def_ 48 (d := d_Loom_init) rfl
theorem Txt.f_Loom_text : ∃ fd, FunD K d_Loom_text.name d_Loom_text.qual (defArgs s_Loom_text) (defBody s_Loom_text) (defScope s_Loom_text) (d_Loom_text.dvs K) (d_Loom_text.kws K) (He.fAd K d_Loom_text.at_) fd := T.c.def_ 49 (d := d_Loom_text) rfl
theorem Txt.f_Text_init : ∃ fd, FunD K d_Text_init.name d_Text_init.qual (defArgs s_Text_init) (defBody s_Text_init) (defScope s_Text_init) (d_Text_init.dvs K) (d_Text_init.kws K) (He.fAd K d_Text_init.at_) fd := T.c.def_ 50 (d := d_Text_init) rfl
theorem Txt.f_Text_size : ∃ fd, FunD K d_Text_size.name d_Text_size.qual (defArgs s_Text_size) (defBody s_Text_size) (defScope s_Text_size) (d_Text_size.dvs K) (d_Text_size.kws K) (He.fAd K d_Text_size.at_) fd := T.c.def_ 51 (d := d_Text_size) rfl
theorem Txt.f_Text_letter : ∃ fd, FunD K d_Text_letter.name d_Text_letter.qual (defArgs s_Text_letter) (defBody s_Text_letter) (defScope s_Text_letter) (d_Text_letter.dvs K) (d_Text_letter.kws K) (He.fAd K d_Text_letter.at_) fd := T.c.def_ 52 (d := d_Text_letter) rfl
theorem Txt.f_Text_stretch : ∃ fd, FunD K d_Text_stretch.name d_Text_stretch.qual (defArgs s_Text_stretch) (defBody s_Text_stretch) (defScope s_Text_stretch) (d_Text_stretch.dvs K) (d_Text_stretch.kws K) (He.fAd K d_Text_stretch.at_) fd := T.c.def_ 53 (d := d_Text_stretch) rfl
theorem Txt.f_Text_cut : ∃ fd, FunD K d_Text_cut.name d_Text_cut.qual (defArgs s_Text_cut) (defBody s_Text_cut) (defScope s_Text_cut) (d_Text_cut.dvs K) (d_Text_cut.kws K) (He.fAd K d_Text_cut.at_) fd := T.c.def_ 54 (d := d_Text_cut) rfl
theorem Txt.f_Text_akin : ∃ fd, FunD K d_Text_akin.name d_Text_akin.qual (defArgs s_Text_akin) (defBody s_Text_akin) (defScope s_Text_akin) (d_Text_akin.dvs K) (d_Text_akin.kws K) (He.fAd K d_Text_akin.at_) fd := T.c.def_ 55 (d := d_Text_akin) rfl
theorem Txt.f_Text_joined : ∃ fd, FunD K d_Text_joined.name d_Text_joined.qual (defArgs s_Text_joined) (defBody s_Text_joined) (defScope s_Text_joined) (d_Text_joined.dvs K) (d_Text_joined.kws K) (He.fAd K d_Text_joined.at_) fd := T.c.def_ 56 (d := d_Text_joined) rfl
theorem Txt.f_Text_times : ∃ fd, FunD K d_Text_times.name d_Text_times.qual (defArgs s_Text_times) (defBody s_Text_times) (defScope s_Text_times) (d_Text_times.dvs K) (d_Text_times.kws K) (He.fAd K d_Text_times.at_) fd := T.c.def_ 57 (d := d_Text_times) rfl
theorem Txt.e_eq : PySem.W.findIn K (.ref (He.ga K "Loom")) "__eq__" = some (some (.builtin "object.__eq__")) := of_decide_eq_true (He.ba T.eq).1
theorem Txt.e_ne : PySem.W.findIn K (.ref (He.ga K "Loom")) "__ne__" = some (some (.builtin "object.__ne__")) := of_decide_eq_true (He.ba (He.ba T.eq).2).1
theorem Txt.e_mro : PySem.W.mroIn K (He.ga K "Loom") (.type "object") = some true := of_decide_eq_true (He.ba (He.ba T.eq).2).2
end
end VT
set_option Elab.async false
set_option linter.all false
set_option maxRecDepth 100000
set_option maxHeartbeats 0
/-! The head: the top's run in the kernel. Printed by gen_head.py. -/
namespace VT
open PySem PySem.Spec PyProof.Rows L2
abbrev R : PySem.W.OpenRow := PySem.W.OpenLaw.row PySem.Challenge.rw_vastword_k31_whole_walks_over_vast_texts
def names1 : List Str := ["_wall", "VastError", "BadLetters", "BadPlace", "BadTimes", "Strange", "BadWord", "BadStep", "TooLong", "LETTERS", "MOST", "WRITTEN", "WORD", "STEP", "NONE", "LETTER", "PAIR", "BLOCK", "SIDES", "SPREAD", "ROOM", "side", "Store", "Fold", "places_in", "WordRule", "word_fold", "ahead_of", "nth", "next_standing"]
def names2 : List Str := ["run", "Walk", "off_left", "off_right", "blocks", "pairs", "loosened", "woven", "whole", "laid", "repeated", "spelled", "Loom", "bounded", "Text", "_law_bag", "_law_pull", "_law_same", "_law_word", "_law_segments", "_law_vast", "_law_vast_size", "_law_vast_letter", "_law_spot"]
def names : List Str := names1 ++ names2
abbrev qv : Program := PySem.W.view R.prog [63]
abbrev AlX : Type := He.AlD × Bool
def obsX (g : Addr → Option Obj) : AlX := (He.obsD fa fn (He.frG g (He.asD g 5)), plainEq (He.frG g (He.asD g 5)))
def hk : PySem.W.Hook where
  α := AlX
  obs := fun s => obsX s.heap.get?
  val := fun _ => (He.valD fn, true)
  says := fun _ h => ∃ K : PySem.W.Frag, K.In h ∧ He.SaysD fa fn K ∧ plainEq K = true
  of := fun _ _ e => ⟨_, He.frG_in, congrArg Prod.fst e, congrArg Prod.snd e⟩
  keeps := fun _ _ _ ⟨K, hK, c⟩ k => ⟨K, PySem.W.Frag.In.keeps hK k, c⟩
def ob (s : PySem.W.SharedT) : AlX := obsX (HandSHeadRun.getT s)
theorem ob_eq (s : PySem.W.SharedT) : ob s = hk.obs s.abs := by
  have e : HandSHeadRun.getT s = s.abs.heap.get? := funext (HandSHeadRun.getT_eq s)
  show obsX (HandSHeadRun.getT s) = obsX s.abs.heap.get?
  rw [e]
theorem run (w : World) : HandSHeadRun.RunEq R qv hk ob 6000 names w := by
  intro os
  kernel_rfl
end VT
set_option Elab.async false
set_option linter.all false
set_option maxRecDepth 100000
set_option maxHeartbeats 4000000
/-! How defs are called; the store in the heap; side, meet, piece. -/
namespace VT
open PySem PySem.Spec PyProof.Rows L2
open VW (Sto Node Ok Le Loc Al Seg Rn unr wt F2 OffL OffR side Meet)
/-! ### defs that keep a promise -/
structure FX (P : Program) (w : World) (K : PySem.W.Frag) (mg : Str → Option Value) (base : Heap) (k : Nat) (x : Str) (sp : Sp) (dvs : List V) : Prop where
  ex : ∃ (f : Addr) (fd : FuncData) (ps : List Str) (ds : List Value), FnOk P w K mg base CX0 k f fd ps sp ∧ mg x = some (.ref f) ∧ PySem.W.keepIn K (.ref f) = true ∧ Binds K fd ps ds ∧ Vals dvs ds
structure MX (P : Program) (w : World) (K : PySem.W.Frag) (mg : Str → Option Value) (base : Heap) (k : Nat) (C : Addr) (m : Str) (sp : Sp) (dvs : List V) : Prop where
  ex : ∃ (f : Addr) (fd : FuncData) (ps : List Str) (ds : List Value), Cls K C ∧ Meth K C m f ∧ FnOk P w K mg base CX0 k f fd ps sp ∧ Binds K fd ps ds ∧ Vals dvs ds
structure KX (P : Program) (w : World) (K : PySem.W.Frag) (mg : Str → Option Value) (base : Heap) (k : Nat) (x : Str) (C : Addr) (sp : Sp) (dvs : List V) : Prop where
  ex : ∃ (f : Addr) (fd : FuncData) (ps : List Str) (ds : List Value), L2.Mk K C f ∧ FnOk P w K mg base CX0 k f fd ps sp ∧ mg x = some (.ref C) ∧ Binds K fd ps ds ∧ Vals dvs ds
section
variable {X : Cx} {k j : Nat} {C : Addr} {x m : Str} {sp : Sp} {dvs : List V} {p pos apos : Pos} {e o : Expr} {es : List Expr} {ta : TE} {t : TA}
theorem pe_f (c : FX X.prog X.w X.K X.mg X.base k x sp dvs) (hr : Room j X.A) (ha : PA X (e :: es) t) (hk : k ≤ j := by decide) (hg : Gl X x := by rfl)
    (hdb : (x == ("__debug__" : Str)) = false := by decide) (he : starEach (e :: es) X.env = (false, eval e X.env) :: starEach es X.env := by rfl) (hpl : (backTo pos (starEach es X.env)).any (·.1) = false := by rfl) :
    PE X (.Call (.Name x p) (e :: es) [] pos) (tCall sp dvs E0 t) := by
  obtain ⟨f, fd, ps, ds, F, hm, kp, b, d⟩ := c.ex
  exact pe_call F (hr.mono hk) hg hm kp b d pass0 ha hdb he hpl
theorem pe_k (c : KX X.prog X.w X.K X.mg X.base k x C sp dvs) (hr : Room j X.A) (ha : PA X (e :: es) t) (hk : k + 1 ≤ j := by decide) (hg : Gl X x := by rfl)
    (hdb : (x == ("__debug__" : Str)) = false := by decide) (he : starEach (e :: es) X.env = (false, eval e X.env) :: starEach es X.env := by rfl) (hpl : (backTo pos (starEach es X.env)).any (·.1) = false := by rfl) :
    PE X (.Call (.Name x p) (e :: es) [] pos) (tMake C sp dvs E0 t) := by
  obtain ⟨f, fd, ps, ds, M, F, hm, b, d⟩ := c.ex
  exact pe_make M F (hr.mono hk) hg hm b d pass0 ha hdb he hpl
theorem pe_k0 (c : KX X.prog X.w X.K X.mg X.base k x C sp dvs) (hr : Room j X.A) (hk : k + 1 ≤ j := by decide) (hg : Gl X x := by rfl)
    (hdb : (x == ("__debug__" : Str)) = false := by decide) : PE X (.Call (.Name x p) [] [] pos) (tMake C sp dvs E0 tNil) := by
  obtain ⟨f, fd, ps, ds, M, F, hm, b, d⟩ := c.ex
  exact pe_make0 M F (hr.mono hk) hg hm b d pass0 hdb
theorem pe_m {pl : Sem Bool} (c : MX X.prog X.w X.K X.mg X.base k C m sp dvs) (hr : Room j X.A) (he : PE X o ta) (ha : PA X (e :: es) t) (hk : k ≤ j := by decide)
    (hst : starEach (e :: es) X.env = (false, eval e X.env) :: starEach es X.env := by rfl) (hpl : (backTo pos (starEach es X.env)).any (·.1) = false := by rfl)
    (ht : eval (.Call (.Attribute o m apos) (e :: es) [] pos) X.env = (do
      let ov ← eval o X.env
      standAt apos.atName
      let (f, first) ← holding [ov] (getMethod ov m pl)
      callWith pos f first (backTo pos (starEach (e :: es) X.env)) (backToKw pos (keywordEach [] X.env))) := by rfl) :
    PE X (.Call (.Attribute o m apos) (e :: es) [] pos) (tMeth C m sp dvs E0 ta t) := by
  obtain ⟨f, fd, ps, ds, hc, hm, F, b, d⟩ := c.ex
  exact pe_meth (pl := pl) he hc hm F (hr.mono hk) b d pass0 ha hst hpl ht
theorem pe_m0 {pl : Sem Bool} (c : MX X.prog X.w X.K X.mg X.base k C m sp dvs) (hr : Room j X.A) (he : PE X o ta) (hk : k ≤ j := by decide)
    (ht : eval (.Call (.Attribute o m apos) [] [] pos) X.env = (do
      let ov ← eval o X.env
      standAt apos.atName
      let (f, first) ← holding [ov] (getMethod ov m pl)
      callWith pos f first (backTo pos (starEach [] X.env)) (backToKw pos (keywordEach [] X.env))) := by rfl) :
    PE X (.Call (.Attribute o m apos) [] [] pos) (tMeth C m sp dvs E0 ta tNil) := by
  obtain ⟨f, fd, ps, ds, hc, hm, F, b, d⟩ := c.ex
  exact pe_meth0 (pl := pl) he hc hm F (hr.mono hk) b d pass0 ht
end
section
variable {P : Program} {w : World} {K : PySem.W.Frag} {mg : Str → Option Value} {base : Heap}
/-- the body of a def: its term and its reading -/
abbrev Body (P : Program) (w : World) (K : PySem.W.Frag) (mg : Str → Option Value) (base : Heap) (N : List Str) (qual : Str) (body : List Stmt) (scope : Scope) (f : Addr) (k : Nat) (sp : Sp) : Prop :=
  ∀ (cdv : Value) (A : Around) (outer : List Env) (s : Shared) (H : Hp) (vs : List V) (Q : VK) (E : XK), Room k (A.deeper (envOfC qual scope s.heap.objs.size f cdv)) → sp vs H Q E →
      ∃ t, PSs (cxOf CX0 P w K mg base N qual scope f cdv A outer s H E).nox body t ∧ t { nx := fun _ H' => Q .non H', rt := Q } (start N vs) H
theorem fn_mk {x qual : Str} {params : Arguments} {body : List Stmt} {scope : Scope} {dvs : List V} {kws : List (Str × V)} {f : Addr} {fd : FuncData} {N ps : List Str} {k : Nat} {sp : Sp} (F : FunD K x qual params body scope dvs kws f fd) (S : FnScope N ps scope)
    (len : ∀ vs H Q E, sp vs H Q E → vs.length = ps.length) (hbody : Body P w K mg base N qual body scope f k sp) : FnOk P w K mg base CX0 (k + 1) f fd ps sp :=
  F.ok S len fun cdv A outer s H vs Q E hr h => by
    obtain ⟨t, h1, h2⟩ := hbody cdv A outer s H vs Q E hr h
    exact ⟨t, h1.nox, h2⟩
abbrev BindsRfl (x qual : Str) (params : Arguments) (body : List Stmt) (scope : Scope) (ps : List Str) : Prop :=
  ∀ (kV doc pm : Value) (an : Option Addr) (cdv ct : Value) (us : List Value), us.length = ps.length → bindArgs (PySem.W.fnOf x qual params body scope .none kV doc pm an cdv ct) ⟨us, []⟩ = pure (ps.zip us)
theorem fx_mk {x qual : Str} {params : Arguments} {body : List Stmt} {scope : Scope} {kws : List (Str × V)} {f : Addr} {N ps : List Str} {k : Nat} {sp : Sp} (F : ∃ fd, FunD K x qual params body scope [] kws f fd) (g : mg x = some (.ref f)) (S : FnScope N ps scope)
    (b : BindsRfl x qual params body scope ps) (len : ∀ vs H Q E, sp vs H Q E → vs.length = ps.length) (hbody : Body P w K mg base N qual body scope f k sp) : FX P w K mg base (k + 1) x sp [] := by
  obtain ⟨fd, F⟩ := F
  exact ⟨f, fd, ps, [], fn_mk F S len hbody, g, F.kp, F.bindsN b, .nil⟩
theorem mx_mk {x qual : Str} {params : Arguments} {body : List Stmt} {scope : Scope} {kws : List (Str × V)} {f C : Addr} {N ps : List Str} {k : Nat} {sp : Sp} (F : ∃ fd, FunD K x qual params body scope [] kws f fd) (c : Cls K C) (m : Meth K C x f) (S : FnScope N ps scope)
    (b : BindsRfl x qual params body scope ps) (len : ∀ vs H Q E, sp vs H Q E → vs.length = ps.length) (hbody : Body P w K mg base N qual body scope f k sp) : MX P w K mg base (k + 1) C x sp [] := by
  obtain ⟨fd, F⟩ := F
  exact ⟨f, fd, ps, [], c, m, fn_mk F S len hbody, F.bindsN b, .nil⟩
theorem kx_mk {y x qual : Str} {params : Arguments} {body : List Stmt} {scope : Scope} {kws : List (Str × V)} {f C : Addr} {N ps : List Str} {k : Nat} {sp : Sp} (F : ∃ fd, FunD K x qual params body scope [] kws f fd) (M : L2.Mk K C f) (g : mg y = some (.ref C)) (S : FnScope N ps scope)
    (b : BindsRfl x qual params body scope ps) (len : ∀ vs H Q E, sp vs H Q E → vs.length = ps.length) (hbody : Body P w K mg base N qual body scope f k sp) : KX P w K mg base (k + 1) y C sp [] := by
  obtain ⟨fd, F⟩ := F
  exact ⟨f, fd, ps, [], M, fn_mk F S len hbody, g, F.bindsN b, .nil⟩
end

/-! ### the store in the heap -/
structure SA where
  s : Addr
  dx : Addr
  kd : Addr
  lf : Addr
  rt : Addr
  sz : Addr
  bt : Addr
  kn : Addr
def kdN : Node → Nat
  | .L _ => 0
  | .P _ _ => 1
  | .B _ _ => 2
def lfN : Node → Nat
  | .L a => a
  | .P l _ => l
  | .B l _ => l
def rtN : Node → Nat
  | .L _ => 0
  | .P _ r => r
  | .B _ m => m
theorem node_inj {a b : Node} (h1 : kdN a = kdN b) (h2 : lfN a = lfN b) (h3 : rtN a = rtN b) : a = b := by
  cases a <;> cases b <;> simp_all [kdN, lfN, rtN]
def iV (n : Nat) : V := .int (n : Int)
def col (f : Nat → Nat) (n : Nat) : List V := (List.range n).map fun i => iV (f i)
def keyN (nd : Node) : List Key := [.inl (kdN nd : Int), .inl (lfN nd : Int), .inl (rtN nd : Int)]
def knL (S : Sto) : List (List Key × V) := (List.range S.len).map fun i => (keyN (S.node i), iV i)
theorem col_len {f : Nat → Nat} {n : Nat} : (col f n).length = n := by simp [col]
theorem col_at {f : Nat → Nat} {n i : Nat} (h : i < n) : (col f n)[i]? = some (iV (f i)) := by simp [col, h]
theorem col_atI {f : Nat → Nat} {n i : Nat} (h : i < n) : atI (col f n) (i : Int) = some (iV (f i)) := atI_nat (col_at h)
theorem col_more {f g : Nat → Nat} {n : Nat} (h : ∀ i, i < n → g i = f i) : col g (n + 1) = col f n ++ [iV (g n)] := by
  unfold col
  rw [List.range_succ, List.map_append]
  congr 1
  exact List.map_congr_left fun i hi => by rw [h i (List.mem_range.mp hi)]
/-! ### attributes: names and values side by side -/
def keyAt (x : Str) : List Str → Option Nat
  | [] => none
  | k :: r => if x = k then some 0 else (keyAt x r).map (· + 1)
theorem zip_look {x : Str} : ∀ {ks : List Str} {vs : List V} {i : Nat} {v : V}, keyAt x ks = some i → vs[i]? = some v → (ks.zip vs).lookup x = some v
  | [], vs, i, v, h, _ => by simp [keyAt] at h
  | k :: r, [], i, v, _, hv => by simp at hv
  | k :: r, u :: vs, i, v, h, hv => by
    unfold keyAt at h
    rw [List.zip_cons_cons, List.lookup_cons]
    by_cases e : x = k
    · rw [if_pos e] at h
      have : i = 0 := (Option.some.inj h).symm
      subst this
      have e2 : (x == k) = true := by simpa using e
      rw [e2]
      simpa using hv
    · rw [if_neg e] at h
      have e2 : (x == k) = false := by simpa using e
      rw [e2]
      cases q : keyAt x r with
      | none => rw [q] at h; simp at h
      | some j =>
        rw [q] at h
        have : i = j + 1 := by simpa using h.symm
        subst this
        exact zip_look q (by simpa using hv)
theorem zip_none {x : Str} : ∀ {ks : List Str} {vs : List V}, keyAt x ks = none → (ks.zip vs).lookup x = none
  | [], vs, _ => by simp
  | k :: r, [], _ => by simp
  | k :: r, u :: vs, h => by
    unfold keyAt at h
    rw [List.zip_cons_cons, List.lookup_cons]
    by_cases e : x = k
    · rw [if_pos e] at h; cases h
    · rw [if_neg e] at h
      have e2 : (x == k) = false := by simpa using e
      rw [e2]
      refine zip_none ?_
      cases q : keyAt x r with
      | none => rfl
      | some j => rw [q] at h; cases h
theorem zip_put {x : Str} {v : V} : ∀ {ks : List Str} {vs : List V} {i : Nat}, keyAt x ks = some i → i < vs.length → putF x v (ks.zip vs) = ks.zip (vs.set i v)
  | [], vs, i, h, _ => by simp [keyAt] at h
  | k :: r, [], i, _, hv => by simp at hv
  | k :: r, u :: vs, i, h, hv => by
    unfold keyAt at h
    show (if k = x then (k, v) :: r.zip vs else (k, u) :: putF x v (r.zip vs)) = _
    by_cases e : x = k
    · rw [if_pos e] at h
      have : i = 0 := (Option.some.inj h).symm
      subst this
      rw [if_pos e.symm]
      rfl
    · rw [if_neg e] at h
      rw [if_neg fun y => e y.symm]
      cases q : keyAt x r with
      | none => rw [q] at h; simp at h
      | some j =>
        rw [q] at h
        have : i = j + 1 := by simpa using h.symm
        subst this
        rw [zip_put q (by simpa using hv)]
        rfl
theorem zip_new {x : Str} {v : V} : ∀ {ks : List Str} {vs : List V}, keyAt x ks = none → ks.length = vs.length → putF x v (ks.zip vs) = (ks ++ [x]).zip (vs ++ [v])
  | [], [], _, _ => rfl
  | [], _ :: _, _, h => by simp at h
  | _ :: _, [], _, h => by simp at h
  | k :: r, u :: vs, h, hl => by
    unfold keyAt at h
    show (if k = x then (k, v) :: r.zip vs else (k, u) :: putF x v (r.zip vs)) = _
    by_cases e : x = k
    · rw [if_pos e] at h; cases h
    · rw [if_neg e] at h
      rw [if_neg fun y => e y.symm, zip_new (ks := r) (vs := vs) ?_ (by simpa using hl)]
      · rfl
      · cases q : keyAt x r with
        | none => rfl
        | some j => rw [q] at h; cases h
theorem zip_few {ks : List Str} {vs : List V} {n : Nat} (h : vs.length ≤ n) (hn : n < 1000) : (ks.zip vs).length < 1000 := by
  rw [List.length_zip]
  omega
abbrev cSt (K : PySem.W.Frag) : Addr := He.ga K "Store"
def kSt : List Str := ["kinds", "lefts", "rights", "sizes", "births", "known"]
def vSt (a : SA) : List V := [.ref a.kd, .ref a.lf, .ref a.rt, .ref a.sz, .ref a.bt, .ref a.kn]
def six (a : SA) : List Addr := [a.kd, a.lf, a.rt, a.sz, a.bt, a.kn]
/-- a store with these pieces stands at a -/
structure StoreAt (K : PySem.W.Frag) (H : Hp) (a : SA) (S : Sto) : Prop where
  ob : H a.s = some (.ins (cSt K) a.dx (kSt.zip (vSt a)))
  kd : H a.kd = some (.lst (col (fun i => kdN (S.node i)) S.len))
  lf : H a.lf = some (.lst (col (fun i => lfN (S.node i)) S.len))
  rt : H a.rt = some (.lst (col (fun i => rtN (S.node i)) S.len))
  sz : H a.sz = some (.lst (col S.size S.len))
  bt : H a.bt = some (.lst (col S.birth S.len))
  kn : H a.kn = some (.dT (knL S))
  nd : [a.kd, a.lf, a.rt, a.sz, a.bt].Nodup
  ok : Ok S
  cap : S.len ≤ 16777216
  small : ∀ n, n < S.len → S.size n ≤ 10 ^ 18
/-- all that was tracked stands, but the store's own lists -/
def Kp (a : SA) (H H' : Hp) : Prop := ∀ b o, H b = some o → b ∉ six a → H' b = some o
theorem Kp.refl (a : SA) (H : Hp) : Kp a H H := fun _ _ h _ => h
theorem Kp.trans {a : SA} {H H1 H2 : Hp} (x : Kp a H H1) (y : Kp a H1 H2) : Kp a H H2 := fun b o h n => y b o (x b o h n) n
theorem Kp.same {a : SA} {H H' : Hp} (x : Same H H') : Kp a H H' := fun b o h _ => x b o h
theorem same_upd {H : Hp} {p : Addr} {o : HO} (h : H p = none) : Same H (upd H p o) := fun b u e => by rw [upd_ne (ne_of_none e h)]; exact e
section
variable {K : PySem.W.Frag} {H H' : Hp} {a : SA} {S : Sto}
theorem StoreAt.six_some (h : StoreAt K H a S) {b : Addr} (hb : b ∈ six a) : (∃ xs, H b = some (.lst xs)) ∨ ∃ kvs, H b = some (.dT kvs) := by
  have : b = a.kd ∨ b = a.lf ∨ b = a.rt ∨ b = a.sz ∨ b = a.bt ∨ b = a.kn := by simpa [six] using hb
  rcases this with e | e | e | e | e | e <;> subst e
  · exact .inl ⟨_, h.kd⟩
  · exact .inl ⟨_, h.lf⟩
  · exact .inl ⟨_, h.rt⟩
  · exact .inl ⟨_, h.sz⟩
  · exact .inl ⟨_, h.bt⟩
  · exact .inr ⟨_, h.kn⟩
theorem StoreAt.out_tup (h : StoreAt K H a S) {b : Addr} {xs : List V} (e : H b = some (.tup xs)) : b ∉ six a := fun hb => by
  rcases h.six_some hb with ⟨ys, e'⟩ | ⟨ys, e'⟩ <;> rw [e] at e' <;> cases e'
theorem StoreAt.out_ins (h : StoreAt K H a S) {b C dx : Addr} {fs : List (Str × V)} (e : H b = some (.ins C dx fs)) : b ∉ six a := fun hb => by
  rcases h.six_some hb with ⟨ys, e'⟩ | ⟨ys, e'⟩ <;> rw [e] at e' <;> cases e'
theorem StoreAt.out_new (h : StoreAt K H a S) {b : Addr} (e : H b = none) : b ∉ six a := fun hb => by
  rcases h.six_some hb with ⟨ys, e'⟩ | ⟨ys, e'⟩ <;> rw [e] at e' <;> cases e'
theorem StoreAt.same (h : StoreAt K H a S) (x : Same H H') : StoreAt K H' a S :=
  ⟨x _ _ h.ob, x _ _ h.kd, x _ _ h.lf, x _ _ h.rt, x _ _ h.sz, x _ _ h.bt, x _ _ h.kn, h.nd, h.ok, h.cap, h.small⟩
theorem StoreAt.tup (h : StoreAt K H a S) (k : Kp a H H') {b : Addr} {xs : List V} (e : H b = some (.tup xs)) : H' b = some (.tup xs) := k _ _ e (h.out_tup e)
theorem StoreAt.ins (h : StoreAt K H a S) (k : Kp a H H') {b C dx : Addr} {fs : List (Str × V)} (e : H b = some (.ins C dx fs)) : H' b = some (.ins C dx fs) := k _ _ e (h.out_ins e)
end
/-! ### reading an attribute of the store: the places -/
section
variable {K : PySem.W.Frag} {mg : Str → Option Value} {H : Hp} {a : SA} {S : Sto}
theorem lk_kinds : (kSt.zip (vSt a)).lookup ("kinds" : Str) = some (V.ref a.kd) := zip_look (i := 0) (by decide +kernel) rfl
theorem lk_lefts : (kSt.zip (vSt a)).lookup ("lefts" : Str) = some (V.ref a.lf) := zip_look (i := 1) (by decide +kernel) rfl
theorem lk_rights : (kSt.zip (vSt a)).lookup ("rights" : Str) = some (V.ref a.rt) := zip_look (i := 2) (by decide +kernel) rfl
theorem lk_sizes : (kSt.zip (vSt a)).lookup ("sizes" : Str) = some (V.ref a.sz) := zip_look (i := 3) (by decide +kernel) rfl
theorem lk_births : (kSt.zip (vSt a)).lookup ("births" : Str) = some (V.ref a.bt) := zip_look (i := 4) (by decide +kernel) rfl
theorem lk_known : (kSt.zip (vSt a)).lookup ("known" : Str) = some (V.ref a.kn) := zip_look (i := 5) (by decide +kernel) rfl
theorem lk_no {m : Str} (h : keyAt m kSt = none) : (kSt.zip (vSt a)).lookup m = none := zip_none h
end
theorem V_int {m n : Nat} (h : m = n) : V.int (m : Int) = V.int (n : Int) := by rw [h]

theorem iV_eq {n : Nat} {m : Int} : (iV n = V.int m) ↔ (n : Int) = m := ⟨fun z => by injection z, fun z => by unfold iV; rw [z]⟩
theorem iV_inj {n m : Nat} : (iV n = iV m) ↔ n = m := ⟨fun z => by injection z with z; omega, fun z => by rw [z]⟩
theorem dec_iV {n m : Nat} : decide (iV n = iV m) = decide (n = m) := decide_eq_decide.mpr iV_inj
theorem dec_iVi {n : Nat} {m : Int} : decide (iV n = V.int m) = decide ((n : Int) = m) := decide_eq_decide.mpr iV_eq
section
variable {X : Cx} {x : Str} {pos : Pos}
theorem pe_gi {i : Int} (hm : ∃ t, X.mg x = some (.int i t)) (hg : Gl X x := by rfl) (hd : (x == ("__debug__" : Str)) = false := by decide) : PE X (.Name x pos) (tC (.int i)) := by
  obtain ⟨t, hm⟩ := hm
  exact pe_glob (v := .int i) hg hm ⟨t, rfl⟩ hd
theorem pe_gs {z : Str} (hm : ∃ t, X.mg x = some (.str z t)) (hg : Gl X x := by rfl) (hd : (x == ("__debug__" : Str)) = false := by decide) : PE X (.Name x pos) (tC (.str z)) := by
  obtain ⟨t, hm⟩ := hm
  exact pe_glob (v := .str z) hg hm ⟨t, rfl⟩ hd
end
theorem big18 : (10 : Nat) ^ 18 = 1000000000000000000 := by decide
theorem natAbs_lt {n : Nat} (h : n ≤ 10 ^ 18) : ((n : Int)).natAbs < 2 ^ 64 := by
  rw [big18] at h
  omega
theorem div_ok {i : Int} {n : Nat} (h : 1 ≤ n) (h2 : n ≤ 10 ^ 18) : CDivW i (n : Int) := wide_div (by omega) (b := 64) (natAbs_lt h2) (by decide) (by decide)
theorem toV {F : V → Hp → Prop} {x y : V} {H : Hp} (e : x = y) (h : F y H) : F x H := by rw [e]; exact h
/-! ### side, meet -/
theorem side_eq (n t : Nat) : Builtin.bitXor (Builtin.bitAnd ((n : Int) * 10368889 % 16777216 / 2 ^ ((((t : Int) / 2) / 2 % 24).toNat)) 1) (Builtin.bitAnd ((t : Int) / 2) 1) = ((side n t : Nat) : Int) := by
  rw [bitAnd_m1, bitAnd_m1]
  have e1 : ((t : Int) / 2 / 2 % 24).toNat = t / 2 / 2 % 24 := by omega
  rw [e1]
  have e2 : (n : Int) * 10368889 % 16777216 / 2 ^ (t / 2 / 2 % 24) % 2 = ((n * 10368889 % 16777216 / 2 ^ (t / 2 / 2 % 24) % 2 : Nat) : Int) := by
    simp
  have e3 : (t : Int) / 2 % 2 = ((t / 2 % 2 : Nat) : Int) := by simp
  rw [e2, e3]
  unfold side
  have h1 : n * 10368889 % 16777216 / 2 ^ (t / 2 / 2 % 24) % 2 < 2 := Nat.mod_lt _ (by decide)
  have h2 : t / 2 % 2 < 2 := Nat.mod_lt _ (by decide)
  generalize n * 10368889 % 16777216 / 2 ^ (t / 2 / 2 % 24) % 2 = x at h1
  generalize t / 2 % 2 = y at h2
  have : (x = 0 ∨ x = 1) ∧ (y = 0 ∨ y = 1) := ⟨by omega, by omega⟩
  rcases this with ⟨rfl | rfl, rfl | rfl⟩ <;> decide
def spSide : Sp := fun vs H Q _ => ∃ n t : Nat, vs = [iV n, iV t] ∧ n < 16777216 ∧ Q (iV (side n t)) H
def spMeet : Sp := fun vs H Q _ => ∃ (p l r : V) (l' r' t : Nat), vs = [p, l, r, iV t] ∧ l = iV l' ∧ r = iV r' ∧ l' < 16777216 ∧ r' < 16777216 ∧ Q (.bl (decide (Meet l' r' t))) H
section
variable {P : Program} {w : World} {K : PySem.W.Frag} {mg : Str → Option Value} {base : Heap}
theorem scSide : FnScope ["number", "turn", "at"] ["number", "turn"] (defScope s_side) := ⟨rfl, rfl, rfl, by decide +kernel, rfl, by decide +kernel, by decide +kernel⟩
theorem ok_side (T : Txt K mg) : FX P w K mg base 1 "side" spSide [] := by
  refine fx_mk T.f_side T.g_side scSide (fun _ _ _ _ _ _ us hl => match us, hl with | [_, _], _ => rfl) (fun vs H Q E h => ?_) (fun cdv A outer s H vs Q E hr h => ?_)
  · obtain ⟨n, t, rfl, _⟩ := h
    rfl
  · obtain ⟨n, t, rfl, hn, k⟩ := h
    refine ⟨_, pss_cons (ps_set (i := 2) scSide.nd rfl (Or.inl rfl) (pe_op op_fdiv (pv 1) pe_int))
      (pss_one (ps_ret (pe_op op_xor
        (pe_op op_and (pe_op op_shr (pe_op op_mod (pe_op op_mul (pv 0) (pe_gi T.i_SPREAD)) (pe_gi T.i_ROOM)) (pe_op op_mod (pe_op op_fdiv (pv 2) pe_int) (pe_gi T.i_SIDES))) pe_int)
        (pe_op op_and (pv 2) pe_int)))), ?_⟩
    refine ⟨_, rfl, _, _, rfl, rfl, ⟨by decide, by decide⟩, ?_⟩
    refine ⟨_, rfl, _, _, rfl, rfl, .inl ⟨by omega, by omega⟩, _, _, rfl, rfl, (by decide : (0 : Int) < 16777216), _, rfl, _, _, rfl, rfl, ⟨by decide, by decide⟩, _, _, rfl, rfl, (by decide : (0 : Int) < 24), _, _, rfl, rfl, by omega, _, _, rfl, rfl, _, rfl, _, _, rfl, rfl, _, _, rfl, rfl, ?_⟩
    have e := side_eq n t
    show Q (V.int _) H
    rw [e]
    exact k
theorem scMeet : FnScope ["self", "left", "right", "turn"] ["self", "left", "right", "turn"] (defScope s_Store_meet) := ⟨rfl, rfl, rfl, by decide +kernel, rfl, by decide +kernel, by decide +kernel⟩
theorem ok_meet (T : Txt K mg) : MX P w K mg base 2 (cSt K) "meet" spMeet [] := by
  refine mx_mk T.f_Store_meet T.c_Store T.m_Store_meet scMeet (fun _ _ _ _ _ _ us hl => match us, hl with | [_, _, _, _], _ => rfl) (fun vs H Q E h => ?_) (fun cdv A outer s H vs Q E hr h => ?_)
  · obtain ⟨_, _, _, _, _, _, rfl, _⟩ := h
    rfl
  · obtain ⟨p, _, _, l, r, t, rfl, rfl, rfl, hl, hr', k⟩ := h
    refine ⟨_, pss_one (ps_ret (pe_and (pe_cmpR op_eq (pe_f (ok_side T) hr (pa_cons (pv 1) (pa_cons (pv 3) pa_nil))) pe_int (nomark _))
      (pe_one (pe_cmpR op_eq (pe_f (ok_side T) hr (pa_cons (pv 2) (pa_cons (pv 3) pa_nil))) pe_int (nomark _))))), ?_⟩
    refine ⟨_, rfl, _, rfl, l, t, rfl, hl, rfl, _, rfl, ?_⟩
    by_cases e1 : side l t = 0
    · have d1 : decide (iV (side l t) = V.int 0) = true := decide_eq_true (by rw [e1]; rfl)
      rw [d1]
      refine iteT ?_
      refine ⟨_, rfl, _, rfl, r, t, rfl, hr', rfl, ?_⟩
      have : decide (iV (side r t) = V.int 1) = decide (Meet l r t) := by
        by_cases e2 : side r t = 1
        · rw [decide_eq_true (show Meet l r t from ⟨e1, e2⟩)]
          exact decide_eq_true (iV_eq.mpr (by omega))
        · rw [decide_eq_false (show ¬ Meet l r t from fun z => e2 z.2)]
          exact decide_eq_false fun z => e2 (by have := iV_eq.mp z; omega)
      show Q (V.bl (decide (iV (side r t) = V.int 1))) H
      rw [this]
      exact k
    · have d1 : decide (iV (side l t) = V.int 0) = false := decide_eq_false fun z => e1 (by have := iV_eq.mp z; omega)
      rw [d1]
      refine iteF ?_
      rw [← decide_eq_false (show ¬ Meet l r t from fun z => e1 z.1)]
      exact k
end
end VT
set_option Elab.async false
set_option linter.all false
set_option maxRecDepth 100000
set_option maxHeartbeats 4000000
/-! piece. -/
namespace VT
open PySem PySem.Spec PyProof.Rows L2
open VW (Sto Node Ok Le Loc Al Seg Rn unr wt F2 OffL OffR side Meet Pc)
def spPiece (K : PySem.W.Frag) : Sp := fun vs H Q _ => ∃ (a : SA) (S : Sto) (top at_ t : Nat), vs = [.ref a.s, iV top, iV at_, iV t] ∧ StoreAt K H a S ∧ top < S.len ∧ at_ < S.size top ∧
  ∀ p nm st, H p = none → Loc S top t nm st at_ → Q (.ref p) (upd H p (.tup [iV nm, iV st]))
theorem node_cases (nd : Node) : (∃ x, nd = .L x) ∨ (∃ l r, nd = .P l r) ∨ ∃ l m, nd = .B l m := by
  cases nd with
  | L x => exact .inl ⟨x, rfl⟩
  | P l r => exact .inr (.inl ⟨l, r, rfl⟩)
  | B l m => exact .inr (.inr ⟨l, m, rfl⟩)
section
variable {P : Program} {w : World} {K : PySem.W.Frag} {mg : Str → Option Value} {base : Heap}
theorem pieceStep {a b c : Nat} (h : b ≤ a) : (b : Int) + ((a : Int) - (b : Int)) / (c : Int) * (c : Int) = ((b + (a - b) / c * c : Nat) : Int) := by
  have e : (a : Int) - (b : Int) = ((a - b : Nat) : Int) := by omega
  rw [e]
  simp
theorem scPiece : FnScope ["self", "top", "at", "turn", "name", "start", "left", "size"] ["self", "top", "at", "turn"] (defScope s_Store_piece) := ⟨rfl, rfl, rfl, by decide +kernel, rfl, by decide +kernel, by decide +kernel⟩
theorem ok_piece (T : Txt K mg) : MX P w K mg base 1 (cSt K) "piece" (spPiece K) [] := by
  refine mx_mk T.f_Store_piece T.c_Store T.m_Store_piece scPiece (fun _ _ _ _ _ _ us hl => match us, hl with | [_, _, _, _], _ => rfl) (fun vs H Q E h => ?_) (fun cdv A outer s H vs Q E hr h => ?_)
  · obtain ⟨_, _, _, _, _, rfl, _⟩ := h
    rfl
  · obtain ⟨a, S, top, at_, t, rfl, D, ht, hat, k⟩ := h
    refine ⟨_, pss_cons (ps_par (i := 4) (j := 5) rfl scPiece.nd rfl rfl (by decide) rfl rfl (pa_cons (pv 1) (pa_cons pe_int pa_nil)) (by rfl))
      (pss_cons (ps_while PassesOwn.never (pt_cmpR op_gt (pe_ix ix_list (pe_fld (pv 0) rfl) (pv 4) (fun _ _ => rfl)) (pv 3) (nomark _))
        (pss_cons (ps_set (i := 6) scPiece.nd rfl (Or.inl rfl) (pe_ix ix_list (pe_fld (pv 0) rfl) (pv 4) (fun _ _ => rfl)))
        (pss_cons (ps_set (i := 7) scPiece.nd rfl (Or.inl rfl) (pe_ix ix_list (pe_fld (pv 0) rfl) (pv 6) (fun _ _ => rfl)))
        (pss_one (ps_if (pt_cmpR op_eq (pe_ix ix_list (pe_fld (pv 0) rfl) (pv 4) (fun _ _ => rfl)) (pe_gi T.i_BLOCK) (nomark _))
          (pss_cons (ps_aug (i := 5) scPiece.nd rfl (Or.inl rfl) (pe_op op_mul (pe_op op_fdivW (pe_op op_sub (pv 2) (pv 5)) (pv 7)) (pv 7)) ip_add) (pss_one (ps_set (i := 4) scPiece.nd rfl (Or.inl rfl) (pv 6))))
          (pss_one (ps_if (pt_cmpR op_lt (pv 2) (pe_op op_add (pv 5) (pv 7)) (nomark _))
            (pss_one (ps_set (i := 4) scPiece.nd rfl (Or.inl rfl) (pv 6)))
            (pss_cons (ps_aug (i := 5) scPiece.nd rfl (Or.inl rfl) (pv 7) ip_add) (pss_one (ps_set (i := 4) scPiece.nd rfl (Or.inl rfl) (pe_ix ix_list (pe_fld (pv 0) rfl) (pv 4) (fun _ _ => rfl))))))))))))
      (pss_one (ps_ret (pe_tup (pa_cons (pv 4) (pa_cons (pv 5) pa_nil)))))), ?_⟩
    refine ⟨_, rfl, _, _, rfl, ?_⟩
    refine ⟨fun m σ H' => H' = H ∧ ∃ (nm st : Nat) (z : Int) (v6 v7 : Option V), m = nm ∧ z = (st : Int) ∧ σ = [some (.ref a.s), some (iV top), some (iV at_), some (iV t), some (iV nm), some (.int z), v6, v7] ∧ Pc S top t at_ nm st, ⟨top, rfl, top, 0, 0, none, none, rfl, rfl, rfl, VW.pc_start ht hat⟩, ?_⟩
    rintro m σ H' ⟨rfl, nm, st, _, v6, v7, rfl, rfl, rfl, pc⟩
    -- self.births[name] > turn
    refine ⟨_, rfl, a.s, cSt K, a.dx, _, _, rfl, D.ob, T.c_Store, T.n_Store_births, lk_births, _, rfl, a.bt, _, _, _, rfl, rfl, SqL.of D.bt, col_atI pc.lt, _, rfl, _, _, rfl, rfl, _, rfl, ?_⟩
    refine ite2 (fun hb => ?_) (fun hb => ?_)
    · have hb : t < S.birth m := by
        have := of_decide_eq_true hb
        omega
      refine ⟨_, fun σ' H' z => z, ?_⟩
      refine ⟨_, rfl, a.s, cSt K, a.dx, _, _, rfl, D.ob, T.c_Store, T.n_Store_lefts, lk_lefts, _, rfl, a.lf, _, _, _, rfl, rfl, SqL.of D.lf, col_atI pc.lt, ?_⟩
      rcases node_cases (S.node m) with ⟨x, e⟩ | ⟨l, r, e⟩ | ⟨l, n, e⟩
      · exact (VW.pc_not_letter D.ok pc hb e).elim
      · obtain ⟨ll, lr, _, _⟩ := VW.node_P' D.ok pc.lt e
        rw [show iV (lfN (S.node m)) = iV l by rw [e]; rfl]
        refine ⟨_, rfl, a.s, cSt K, a.dx, _, _, rfl, D.ob, T.c_Store, T.n_Store_sizes, lk_sizes, _, rfl, a.sz, _, _, _, rfl, rfl, SqL.of D.sz, col_atI (Nat.lt_trans ll pc.lt), ?_⟩
        refine ⟨_, rfl, a.s, cSt K, a.dx, _, _, rfl, D.ob, T.c_Store, T.n_Store_kinds, lk_kinds, _, rfl, a.kd, _, _, _, rfl, rfl, SqL.of D.kd, col_atI pc.lt, rfl, _, rfl, ?_⟩
        have d1 : decide (iV (kdN (S.node m)) = V.int 2) = false := decide_eq_false fun z => by rw [e] at z; have := iV_eq.mp z; simp [kdN] at this
        rw [d1]
        refine iteF ?_
        refine ⟨_, rfl, _, rfl, _, rfl, _, _, rfl, rfl, _, _, rfl, rfl, _, rfl, ?_⟩
        refine ite2 (fun hl => ?_) (fun hl => ?_)
        · have hl : at_ < st + S.size l := by
            have := of_decide_eq_true hl
            omega
          refine ⟨_, rfl, ?_⟩
          exact ⟨l, ll, rfl, l, st, _, _, _, rfl, rfl, rfl, VW.pc_left D.ok pc hb e hl⟩
        · have hl : ¬ at_ < st + S.size l := fun z => hl (decide_eq_true (by omega))
          refine ⟨_, rfl, _, rfl, _, _, rfl, rfl, ?_⟩
          refine ⟨_, rfl, a.s, cSt K, a.dx, _, _, rfl, D.ob, T.c_Store, T.n_Store_rights, lk_rights, _, rfl, a.rt, _, _, _, rfl, rfl, SqL.of D.rt, col_atI pc.lt, ?_⟩
          rw [show iV (rtN (S.node m)) = iV r by rw [e]; rfl]
          exact ⟨r, lr, rfl, r, st + S.size l, _, _, _, rfl, rfl, rfl, VW.pc_right D.ok pc hb e hl⟩
      · obtain ⟨ll, _, hs, _⟩ := VW.node_B' D.ok pc.lt e
        have lln := Nat.lt_trans ll pc.lt
        have sp := VW.size_pos D.ok lln
        rw [show iV (lfN (S.node m)) = iV l by rw [e]; rfl]
        refine ⟨_, rfl, a.s, cSt K, a.dx, _, _, rfl, D.ob, T.c_Store, T.n_Store_sizes, lk_sizes, _, rfl, a.sz, _, _, _, rfl, rfl, SqL.of D.sz, col_atI lln, ?_⟩
        refine ⟨_, rfl, a.s, cSt K, a.dx, _, _, rfl, D.ob, T.c_Store, T.n_Store_kinds, lk_kinds, _, rfl, a.kd, _, _, _, rfl, rfl, SqL.of D.kd, col_atI pc.lt, rfl, _, rfl, ?_⟩
        have d1 : decide (iV (kdN (S.node m)) = V.int 2) = true := decide_eq_true (by rw [e]; rfl)
        rw [d1]
        refine iteT ?_
        have hq : (at_ : Int) - (st : Int) = ((at_ - st : Nat) : Int) := by
          have := pc.le
          omega
        have hd : ((at_ : Int) - (st : Int)) / (S.size l : Int) = (((at_ - st) / S.size l : Nat) : Int) := by rw [hq, Int.natCast_ediv]
        have hm : (-(2 ^ 64) < ((at_ : Int) - (st : Int)) / (S.size l : Int) ∧ ((at_ : Int) - (st : Int)) / (S.size l : Int) < 2 ^ 64) := by
          have h1 := D.small top ht
          have h2 := Nat.div_le_self (at_ - st) (S.size l)
          rw [big18] at h1
          rw [hd]
          generalize (at_ - st) / S.size l = q at h2
          omega
        refine ⟨_, rfl, _, rfl, _, rfl, _, _, rfl, rfl, _, rfl, _, _, rfl, rfl, div_ok sp (D.small l lln), _, rfl, _, _, rfl, rfl, .inl hm, _, _, rfl, rfl, ?_⟩
        refine ⟨_, rfl, ?_⟩
        exact ⟨l, ll, rfl, l, _, _, _, _, rfl, pieceStep pc.le, rfl, VW.pc_block D.ok pc hb e⟩
    · have hb : S.birth m ≤ t := by
        have : ¬ ((t : Int) < (S.birth m : Int)) := fun z => hb (decide_eq_true z)
        omega
      refine ⟨_, rfl, _, rfl, (by show 2 ≤ sizeLine; decide), fun p hp => ?_⟩
      exact k p m st hp (VW.pc_end D.ok pc hb)
end
end VT
set_option Elab.async false
set_option linter.all false
set_option maxRecDepth 100000
set_option maxHeartbeats 4000000
/-! measured, keep. -/
namespace VT
open PySem PySem.Spec PyProof.Rows L2
open VW (Sto Node Ok Le Loc Al Seg Rn unr wt F2 OffL OffR side Meet Pc szs Kept)
/-- what is asked of a piece that is to be kept -/
def Ask (S : Sto) (nd : Node) (t : Nat) (ks : List Nat) : Prop := (∃ x, nd = .L x ∧ x < 8) ∨ (VW.Mk S t nd ks ∧ szs S ks ≤ 10 ^ 18)
def askZ (S : Sto) (ks : List Nat) : Node → Nat
  | .L _ => 1
  | _ => szs S ks
def askB (t : Nat) : Node → Nat
  | .L _ => 0
  | _ => t + 1
def spMeasured (K : PySem.W.Frag) : Sp := fun vs H Q _ => ∃ (a : SA) (S : Sto) (nd : Node) (t : Nat) (ks : List Nat), vs = [.ref a.s, iV (kdN nd), iV (lfN nd), iV (rtN nd)] ∧ StoreAt K H a S ∧ Ask S nd t ks ∧
  ∀ p, H p = none → Q (.ref p) (upd H p (.tup [iV (askZ S ks nd), iV (askB t nd)]))
section
variable {P : Program} {w : World} {K : PySem.W.Frag} {mg : Str → Option Value} {base : Heap}
theorem szs_two {S : Sto} {l r : Nat} : szs S [l, r] = S.size l + S.size r := by simp [szs]
theorem scMeasured : FnScope ["self", "kind", "left", "right", "turn"] ["self", "kind", "left", "right"] (defScope s_Store_measured) := ⟨rfl, rfl, rfl, by decide +kernel, rfl, by decide +kernel, by decide +kernel⟩
theorem ok_measured (T : Txt K mg) : MX P w K mg base 3 (cSt K) "measured" (spMeasured K) [] := by
  refine mx_mk T.f_Store_measured T.c_Store T.m_Store_measured scMeasured (fun _ _ _ _ _ _ us hl => match us, hl with | [_, _, _, _], _ => rfl) (fun vs H Q E h => ?_) (fun cdv A outer s H vs Q E hr h => ?_)
  · obtain ⟨_, _, _, _, _, rfl, _⟩ := h
    rfl
  · obtain ⟨a, S, nd, t, ks, rfl, D, ask, k⟩ := h
    refine ⟨_, pss_cons (ps_if (pt_cmpR op_eq (pv 1) (pe_gi T.i_LETTER) (nomark _)) (pss_one (ps_ret (pe_tup (pa_cons pe_int (pa_cons pe_int pa_nil))))) pss_nil)
      (pss_cons (ps_if (pt_cmpR op_eq (pv 1) (pe_gi T.i_BLOCK) (nomark _))
        (pss_cons (ps_set (i := 4) scMeasured.nd rfl (Or.inl rfl) (pe_ix ix_list (pe_fld (pv 0) rfl) (pv 2) (fun _ _ => rfl)))
          (pss_one (ps_ret (pe_tup (pa_cons (pe_op op_mul (pe_ix ix_list (pe_fld (pv 0) rfl) (pv 2) (fun _ _ => rfl)) (pv 3)) (pa_cons (pe_op op_add (pe_op op_add (pv 4) (pe_op op_mod (pv 4) pe_int)) pe_int) pa_nil)))))) pss_nil)
      (pss_cons (ps_set (i := 4) scMeasured.nd rfl (Or.inl rfl) (pe_callB (call_max2 rfl) (by rfl) T.b_max (by decide +kernel) (pa_cons (pe_ix ix_list (pe_fld (pv 0) rfl) (pv 2) (fun _ _ => rfl)) (pa_cons (pe_ix ix_list (pe_fld (pv 0) rfl) (pv 3) (fun _ _ => rfl)) pa_nil))))
      (pss_cons (ps_aug (i := 4) scMeasured.nd rfl (Or.inl rfl) (pe_op op_sub pe_int (pe_op op_mod (pv 4) pe_int)) ip_add)
      (pss_cons (ps_while PassesOwn.never (pt_not (pt_val (pe_m (ok_meet T) hr (pv 0) (pa_cons (pv 2) (pa_cons (pv 3) (pa_cons (pv 4) pa_nil))))))
        (pss_one (ps_aug (i := 4) scMeasured.nd rfl (Or.inl rfl) pe_int ip_add)))
      (pss_one (ps_ret (pe_tup (pa_cons (pe_op op_add (pe_ix ix_list (pe_fld (pv 0) rfl) (pv 2) (fun _ _ => rfl)) (pe_ix ix_list (pe_fld (pv 0) rfl) (pv 3) (fun _ _ => rfl))) (pa_cons (pe_op op_add (pv 4) pe_int) pa_nil))))))))), ?_⟩
    have z2 : ([1, 2] : List Nat).length ≤ sizeLine := by show 2 ≤ sizeLine; decide
    rcases ask with ⟨x, rfl, hx⟩ | ⟨mk, hz⟩
    · refine ⟨_, rfl, rfl, _, rfl, iteT ?_⟩
      refine ⟨z2, fun p hp => ?_⟩
      exact k p hp
    · cases mk with
      | P l r odd hl hr' bl br m sep =>
        have mk : VW.Mk S t (.P l r) [l, r] := .P l r odd hl hr' bl br m sep
        have ll := Nat.lt_of_lt_of_le hl D.cap
        have lr := Nat.lt_of_lt_of_le hr' D.cap
        refine ⟨_, rfl, rfl, _, rfl, iteF ?_⟩
        refine ⟨_, rfl, rfl, _, rfl, iteF ?_⟩
        refine ⟨_, rfl, a.s, cSt K, a.dx, _, _, rfl, D.ob, T.c_Store, T.n_Store_births, lk_births, _, rfl, a.bt, _, _, _, rfl, rfl, SqL.of D.bt, col_atI hl, ?_⟩
        refine ⟨_, rfl, a.s, cSt K, a.dx, _, _, rfl, D.ob, T.c_Store, T.n_Store_births, lk_births, _, rfl, a.bt, _, _, _, rfl, rfl, SqL.of D.bt, col_atI hr', ?_⟩
        refine ⟨_, _, rfl, ?_⟩
        refine ⟨_, rfl, _, rfl, _, _, rfl, rfl, (by decide : (0 : Int) < 2), _, _, rfl, rfl, _, _, rfl, rfl, ?_⟩
        have hmx : (if (S.birth r : Int) > (S.birth l : Int) then (S.birth r : Int) else (S.birth l : Int)) = ((max (S.birth l) (S.birth r) : Nat) : Int) := by
          split <;> omega
        refine ⟨fun n σ H' => H' = H ∧ ∃ (u : Nat) (z : Int), n = t - u ∧ z = (u : Int) ∧ σ = [some (.ref a.s), some (iV 1), some (iV l), some (iV r), some (.int z)] ∧ u ≤ t ∧ u % 2 = 1 ∧ S.birth l ≤ u ∧ S.birth r ≤ u, ⟨_, rfl, max (S.birth l) (S.birth r) + (1 - max (S.birth l) (S.birth r) % 2), _, rfl, ?_, rfl, ?_, ?_, ?_, ?_⟩, ?_⟩
        · have go : ∀ (y : Int) (n : Nat), y = (n : Int) → y + (1 - y % 2) = ((n + (1 - n % 2) : Nat) : Int) := fun y n e => by omega
          exact go _ _ hmx
        · omega
        · omega
        · omega
        · omega
        · rintro n σ H' ⟨rfl, u, _, rfl, rfl, rfl, hu, uo, ul, ur⟩
          refine ⟨_, rfl, a.s, a.dx, _, rfl, D.ob, lk_no (by decide +kernel), _, rfl, _, rfl, _, rfl, _, _, _, l, r, u, rfl, rfl, rfl, ll, lr, _, rfl, ?_⟩
          by_cases e : Meet l r u
          · rw [decide_eq_true e]
            refine iteF ?_
            have : u = t := by
              by_cases q : u = t
              · exact q
              · exact absurd e (VW.first_meet D.ok mk ul ur uo (by omega))
            subst this
            refine ⟨_, rfl, a.s, cSt K, a.dx, _, _, rfl, D.ob, T.c_Store, T.n_Store_sizes, lk_sizes, _, rfl, a.sz, _, _, _, rfl, rfl, SqL.of D.sz, col_atI hl, ?_⟩
            refine ⟨_, rfl, a.s, cSt K, a.dx, _, _, rfl, D.ob, T.c_Store, T.n_Store_sizes, lk_sizes, _, rfl, a.sz, _, _, _, rfl, rfl, SqL.of D.sz, col_atI hr', ?_⟩
            refine ⟨_, _, rfl, rfl, _, rfl, _, _, rfl, rfl, z2, fun p hp => ?_⟩
            have := k p hp
            rw [show askZ S [l, r] (.P l r) = S.size l + S.size r from szs_two] at this
            exact this
          · rw [decide_eq_false e]
            refine iteT ⟨_, fun σ' H' z => z, ?_⟩
            have : u ≠ t := fun q => e (by rw [q]; exact m)
            refine ⟨_, rfl, _, _, rfl, rfl, ?_⟩
            exact ⟨t - (u + 2), by omega, rfl, u + 2, _, rfl, rfl, rfl, by omega, by omega, by omega, by omega⟩
      | B l m even hl bl two sep =>
        have mk : VW.Mk S t (.B l m) (List.replicate m l) := .B l m even hl bl two sep
        have tt := VW.block_turn D.ok mk
        refine ⟨_, rfl, rfl, _, rfl, iteF ?_⟩
        refine ⟨_, rfl, rfl, _, rfl, iteT ?_⟩
        refine ⟨_, rfl, a.s, cSt K, a.dx, _, _, rfl, D.ob, T.c_Store, T.n_Store_births, lk_births, _, rfl, a.bt, _, _, _, rfl, rfl, SqL.of D.bt, col_atI hl, ?_⟩
        have hm : (-(2 ^ 64) < (S.size l : Int) ∧ (S.size l : Int) < 2 ^ 64) := by
          have := D.small l hl
          rw [big18] at this
          omega
        refine ⟨_, rfl, a.s, cSt K, a.dx, _, _, rfl, D.ob, T.c_Store, T.n_Store_sizes, lk_sizes, _, rfl, a.sz, _, _, _, rfl, rfl, SqL.of D.sz, col_atI hl, _, rfl, _, _, rfl, rfl, .inl hm, ?_⟩
        refine ⟨_, rfl, _, rfl, _, _, rfl, rfl, (by decide : (0 : Int) < 2), _, _, rfl, rfl, _, _, rfl, rfl, z2, fun p hp => ?_⟩
        have := k p hp
        rw [show askZ S (List.replicate m l) (.B l m) = S.size l * m by show szs S (List.replicate m l) = _; rw [VW.szs_rep, Nat.mul_comm], show askB t (.B l m) = S.birth l + S.birth l % 2 + 1 by show t + 1 = _; omega] at this
        exact this
end
end VT
set_option Elab.async false
set_option linter.all false
set_option maxRecDepth 100000
set_option maxHeartbeats 4000000
/-! keep. -/
namespace VT
open PySem PySem.Spec PyProof.Rows L2
open VW (Sto Node Ok Le Loc Al Seg Rn unr wt F2 OffL OffR side Meet Pc szs Kept)
theorem keyN_inj {a b : Node} (h : keyN a = keyN b) : a = b := by
  unfold keyN at h
  injection h with h1 h
  injection h with h2 h
  injection h with h3 h
  injection h1 with h1
  injection h2 with h2
  injection h3 with h3
  exact node_inj (by omega) (by omega) (by omega)
theorem knL_none {S : Sto} {nd : Node} (h : ∀ n, n < S.len → S.node n ≠ nd) : valV (knL S) (keyN nd) = none := by
  have : (knL S).find? (fun kv => decide (kv.1 = keyN nd)) = none := by
    rw [List.find?_eq_none]
    intro p hp
    obtain ⟨i, hi, rfl⟩ := List.mem_map.mp hp
    have := h i (List.mem_range.mp hi)
    simp only [decide_eq_true_eq]
    exact fun e => this (keyN_inj e)
  unfold valV
  rw [this] <;> rfl
theorem knL_some {S : Sto} (ok : Ok S) {n : Nat} {nd : Node} (h : n < S.len) (e : S.node n = nd) : valV (knL S) (keyN nd) = some (iV n) := by
  unfold valV
  cases q : (knL S).find? (fun kv => decide (kv.1 = keyN nd)) with
  | none =>
    rw [List.find?_eq_none] at q
    have := q (keyN (S.node n), iV n) (List.mem_map.mpr ⟨n, List.mem_range.mpr h, rfl⟩)
    simp [e] at this
  | some p =>
    have h1 := List.mem_of_find?_eq_some q
    have h2 := List.find?_some q
    obtain ⟨i, hi, rfl⟩ := List.mem_map.mp h1
    have h3 : S.node i = nd := keyN_inj (of_decide_eq_true h2)
    have : i = n := ok.inj i n (List.mem_range.mp hi) h (h3.trans e.symm)
    subst this
    rfl
theorem knL_len {S : Sto} : (knL S).length = S.len := by simp [knL]
theorem knL_more {S S' : Sto} (le : Le S S') (hl : S'.len = S.len + 1) : knL S' = knL S ++ [(keyN (S'.node S.len), iV S.len)] := by
  unfold knL
  rw [hl, List.range_succ, List.map_append]
  congr 1
  exact List.map_congr_left fun i hi => by rw [le.node i (List.mem_range.mp hi)]
/-- the store's lists behind a piece more -/
def growH (H : Hp) (a : SA) (S S' : Sto) : Hp :=
  upd (upd (upd (upd (upd (upd H a.kn (.dT (knL S ++ [(keyN (S'.node S.len), iV S.len)]))) a.kd (.lst (col (fun i => kdN (S.node i)) S.len ++ [iV (kdN (S'.node S.len))])))
    a.lf (.lst (col (fun i => lfN (S.node i)) S.len ++ [iV (lfN (S'.node S.len))]))) a.rt (.lst (col (fun i => rtN (S.node i)) S.len ++ [iV (rtN (S'.node S.len))])))
    a.sz (.lst (col S.size S.len ++ [iV (S'.size S.len)]))) a.bt (.lst (col S.birth S.len ++ [iV (S'.birth S.len)]))
structure Six (a : SA) : Prop where
  kl : a.kd ≠ a.lf
  kr : a.kd ≠ a.rt
  kz : a.kd ≠ a.sz
  kb : a.kd ≠ a.bt
  lr : a.lf ≠ a.rt
  lz : a.lf ≠ a.sz
  lb : a.lf ≠ a.bt
  rz : a.rt ≠ a.sz
  rb : a.rt ≠ a.bt
  zb : a.sz ≠ a.bt
  nk : a.kn ≠ a.kd
  nl : a.kn ≠ a.lf
  nr : a.kn ≠ a.rt
  nz : a.kn ≠ a.sz
  nb : a.kn ≠ a.bt
  out : a.s ∉ six a
theorem StoreAt.six {K : PySem.W.Frag} {H : Hp} {a : SA} {S : Sto} (h : StoreAt K H a S) : Six a := by
  have nd := h.nd
  simp only [List.nodup_cons, List.mem_cons, List.not_mem_nil, or_false, not_or] at nd
  obtain ⟨⟨h1, h2, h3, h4⟩, ⟨h5, h6, h7⟩, ⟨h8, h9⟩, h10, _⟩ := nd
  exact ⟨h1, h2, h3, h4, h5, h6, h7, h8, h9, h10, ne_of h.kn h.kd (by intro z; cases z), ne_of h.kn h.lf (by intro z; cases z), ne_of h.kn h.rt (by intro z; cases z), ne_of h.kn h.sz (by intro z; cases z), ne_of h.kn h.bt (by intro z; cases z), h.out_ins h.ob⟩
theorem grow_at {K : PySem.W.Frag} {H : Hp} {a : SA} {S S' : Sto} (h : StoreAt K H a S) (le : Le S S') (ok : Ok S') (hl : S'.len = S.len + 1) (cap : S.len < 16777216) (hz : S'.size S.len ≤ 10 ^ 18) : StoreAt K (growH H a S S') a S' ∧ Kp a H (growH H a S S') := by
  have x := h.six
  have kp : Kp a H (growH H a S S') := fun b o e hb => by
    have hb' : b ≠ a.kd ∧ b ≠ a.lf ∧ b ≠ a.rt ∧ b ≠ a.sz ∧ b ≠ a.bt ∧ b ≠ a.kn := by simpa [VT.six] using hb
    obtain ⟨h1, h2, h3, h4, h5, h6⟩ := hb'
    unfold growH
    rw [upd_ne h5, upd_ne h4, upd_ne h3, upd_ne h2, upd_ne h1, upd_ne h6]
    exact e
  refine ⟨⟨kp _ _ h.ob x.out, ?_, ?_, ?_, ?_, ?_, ?_, h.nd, ok, by omega, fun n hn => ?_⟩, kp⟩
  · unfold growH
    rw [upd_ne x.kb, upd_ne x.kz, upd_ne x.kr, upd_ne x.kl, upd_same, hl, col_more fun i hi => by rw [le.node i hi]]
  · unfold growH
    rw [upd_ne x.lb, upd_ne x.lz, upd_ne x.lr, upd_same, hl, col_more fun i hi => by rw [le.node i hi]]
  · unfold growH
    rw [upd_ne x.rb, upd_ne x.rz, upd_same, hl, col_more fun i hi => by rw [le.node i hi]]
  · unfold growH
    rw [upd_ne x.zb, upd_same, hl, col_more fun i hi => by rw [le.size i hi]]
  · unfold growH
    rw [upd_same, hl, col_more fun i hi => by rw [le.birth i hi]]
  · unfold growH
    rw [upd_ne x.nb, upd_ne x.nz, upd_ne x.nr, upd_ne x.nl, upd_ne x.nk, upd_same, knL_more le hl]
  · by_cases q : n < S.len
    · rw [le.size n q]
      exact h.small n q
    · have : n = S.len := by omega
      subst this
      exact hz
def spKeep (K : PySem.W.Frag) : Sp := fun vs H Q _ => ∃ (a : SA) (S : Sto) (nd : Node) (t : Nat) (ks : List Nat), vs = [.ref a.s, iV (kdN nd), iV (lfN nd), iV (rtN nd)] ∧ StoreAt K H a S ∧ Ask S nd t ks ∧ S.len < 16777216 ∧
  ∀ S' n H', Kept S nd S' n → StoreAt K H' a S' → Kp a H H' → Q (iV n) H'
section
variable {P : Program} {w : World} {K : PySem.W.Frag} {mg : Str → Option Value} {base : Heap}
theorem scKeep : FnScope ["self", "kind", "left", "right", "key", "size", "birth"] ["self", "kind", "left", "right"] (defScope s_Store_keep) := ⟨rfl, rfl, rfl, by decide +kernel, rfl, by decide +kernel, by decide +kernel⟩
theorem ok_keep (T : Txt K mg) : MX P w K mg base 4 (cSt K) "keep" (spKeep K) [] := by
  refine mx_mk T.f_Store_keep T.c_Store T.m_Store_keep scKeep (fun _ _ _ _ _ _ us hl => match us, hl with | [_, _, _, _], _ => rfl) (fun vs H Q E h => ?_) (fun cdv A outer s H vs Q E hr h => ?_)
  · obtain ⟨_, _, _, _, _, rfl, _⟩ := h
    rfl
  · obtain ⟨a, S, nd, t, ks, rfl, D, ask, cap, k⟩ := h
    have hu := hu_of hr
    refine ⟨_, pss_cons (ps_set (i := 4) scKeep.nd rfl (Or.inl rfl) (pe_tup (pa_cons (pv 1) (pa_cons (pv 2) (pa_cons (pv 3) pa_nil)))))
      (pss_cons (ps_if (pt_cmp (pc_dnotin hu (pv 4) (pe_fld (pv 0) rfl)))
        (pss_cons (ps_asg (pe_m (ok_measured T) hr (pv 0) (pa_cons (pv 1) (pa_cons (pv 2) (pa_cons (pv 3) pa_nil)))) (pg_tup rfl (pgs_cons (pg_name (i := 5) scKeep.nd rfl (Or.inl rfl)) (pgs_cons (pg_name (i := 6) scKeep.nd rfl (Or.inl rfl)) pgs_nil))))
        (pss_cons (ps_dput hu (pe_fld (pv 0) rfl) (pv 4) (pe_callB call_len_seq (by rfl) T.b_len PySem.boot_len (pa_cons (pe_fld (pv 0) rfl) pa_nil)) rfl)
        (pss_cons (ps_expr (pe_bm PySem.F.plainAttrs_list PySem.F.slot_list_append PySem.F.type_list_append mt_append (pe_fld (pv 0) rfl) (pa_cons (pv 1) pa_nil)))
        (pss_cons (ps_expr (pe_bm PySem.F.plainAttrs_list PySem.F.slot_list_append PySem.F.type_list_append mt_append (pe_fld (pv 0) rfl) (pa_cons (pv 2) pa_nil)))
        (pss_cons (ps_expr (pe_bm PySem.F.plainAttrs_list PySem.F.slot_list_append PySem.F.type_list_append mt_append (pe_fld (pv 0) rfl) (pa_cons (pv 3) pa_nil)))
        (pss_cons (ps_expr (pe_bm PySem.F.plainAttrs_list PySem.F.slot_list_append PySem.F.type_list_append mt_append (pe_fld (pv 0) rfl) (pa_cons (pv 5) pa_nil)))
        (pss_one (ps_expr (pe_bm PySem.F.plainAttrs_list PySem.F.slot_list_append PySem.F.type_list_append mt_append (pe_fld (pv 0) rfl) (pa_cons (pv 6) pa_nil)))))))))) pss_nil)
      (pss_one (ps_ret (pe_dget hu (pe_fld (pv 0) rfl) (pv 4) (fun _ _ => rfl))))), ?_⟩
    refine ⟨_, rfl, _, rfl, _, rfl, (by show 3 ≤ sizeLine; decide), fun p hp => ?_⟩
    have sp := same_upd (o := .tup [iV (kdN nd), iV (lfN nd), iV (rtN nd)]) hp
    have D1 := D.same sp
    have hkey : (upd H p (.tup [iV (kdN nd), iV (lfN nd), iV (rtN nd)])) p = some (.tup ((keyN nd).map kV)) := upd_same
    generalize hH1 : upd H p (.tup [iV (kdN nd), iV (lfN nd), iV (rtN nd)]) = H1 at D1 hkey sp
    refine ⟨_, rfl, _, rfl, a.s, cSt K, a.dx, _, _, rfl, D1.ob, T.c_Store, T.n_Store_known, lk_known, a.kn, _, rfl, DGet.t D1.kn hkey, _, rfl, ?_⟩
    by_cases there : ∃ n, n < S.len ∧ S.node n = nd
    · obtain ⟨n, hn, e⟩ := there
      rw [knL_some D.ok hn e]
      refine iteF ?_
      refine ⟨_, rfl, a.s, cSt K, a.dx, _, _, rfl, D1.ob, T.c_Store, T.n_Store_known, lk_known, _, rfl, a.kn, _, rfl, ?_, k S n H1 (VW.kept_old D.ok hn e) D1 (Kp.same sp)⟩
      have := DGet.t D1.kn hkey
      rw [knL_some D.ok hn e] at this
      exact this
    · have new : ∀ n, n < S.len → S.node n ≠ nd := fun n hn e => there ⟨n, hn, e⟩
      rw [knL_none new]
      refine iteT ?_
      -- size, birth = self.measured(..)
      refine ⟨_, rfl, a.s, a.dx, _, rfl, D1.ob, lk_no (by decide +kernel), _, rfl, _, rfl, _, rfl, a, S, nd, t, ks, rfl, D1, ask, fun q hq => ?_⟩
      have sq := same_upd (o := .tup [iV (askZ S ks nd), iV (askB t nd)]) hq
      have D2 := D1.same sq
      refine ⟨q, _, rfl, SqT.of upd_same, rfl, _, _, rfl, _, _, rfl, rfl, ?_⟩
      have hkey2 := sq _ _ hkey
      generalize hH2 : upd H1 q (.tup [iV (askZ S ks nd), iV (askB t nd)]) = H2 at D2 hkey2 sq
      have x := D2.six
      have lz : ∀ {f : Nat → Nat}, (col f S.len).length < sizeLine := fun {f} => by rw [col_len, sizeLine_eq]; exact cap
      -- the new store
      obtain ⟨S', kept, hl, hz, hb⟩ : ∃ S', Kept S nd S' S.len ∧ S'.len = S.len + 1 ∧ S'.size S.len = askZ S ks nd ∧ S'.birth S.len = askB t nd := by
        rcases ask with ⟨x, rfl, hx⟩ | ⟨mk, hz⟩
        · exact ⟨VW.addL S x, VW.kept_newL D.ok hx new, rfl, VW.put_same, VW.put_same⟩
        · refine ⟨VW.addC S nd t ks, VW.kept_new D.ok mk new, rfl, ?_, ?_⟩
          · cases mk <;> exact VW.put_same
          · cases mk <;> exact VW.put_same
      have hz18 : S'.size S.len ≤ 10 ^ 18 := by
        rw [hz]
        clear hz
        rcases ask with ⟨x, rfl, hx⟩ | ⟨mk, hz⟩
        · show 1 ≤ 10 ^ 18
          decide
        · cases mk <;> exact hz
      have G := grow_at D2 kept.le kept.ok hl cap hz18
      have en := kept.node
      unfold growH at G
      rw [en, hz, hb] at G
      -- self.known[key] = len(self.kinds)
      refine ⟨_, rfl, a.s, cSt K, a.dx, _, _, rfl, D2.ob, T.c_Store, T.n_Store_kinds, lk_kinds, a.kd, _, rfl, .inl (SqL.of D2.kd), _, rfl, a.s, cSt K, a.dx, _, _, rfl, D2.ob, T.c_Store, T.n_Store_known, lk_known, _, rfl, a.kn, _, rfl, DPut.t D2.kn hkey2 (by rw [knL_len, sizeLine_eq]; exact cap), ?_⟩
      rw [putK_new _ (knL_none new), col_len]
      have o1 : ∀ o, (upd H2 a.kn o) a.s = some (.ins (cSt K) a.dx (kSt.zip (vSt a))) := fun o => by rw [upd_ne (ne_of D2.ob D2.kn (by intro z; cases z))]; exact D2.ob
      -- self.kinds.append(kind) ..
      have e1 : a.s ≠ a.kd := ne_of D2.ob D2.kd (by intro z; cases z)
      have e2 : a.s ≠ a.lf := ne_of D2.ob D2.lf (by intro z; cases z)
      have e3 : a.s ≠ a.rt := ne_of D2.ob D2.rt (by intro z; cases z)
      have e4 : a.s ≠ a.sz := ne_of D2.ob D2.sz (by intro z; cases z)
      have f1 := Eq.trans (upd_ne (o := .dT (knL S ++ [(keyN nd, iV S.len)])) x.nk.symm) D2.kd
      refine ⟨_, rfl, a.s, cSt K, a.dx, _, _, rfl, o1 _, T.c_Store, T.n_Store_kinds, lk_kinds, .inl ⟨rfl, _, SqL.of f1⟩, _, rfl, a.kd, _, _, rfl, rfl, f1, lz, ?_⟩
      have o2 := Eq.trans (upd_ne (o := .lst (col (fun i => kdN (S.node i)) S.len ++ [iV (kdN nd)])) e1) (o1 (.dT (knL S ++ [(keyN nd, iV S.len)])))
      have f2 := Eq.trans (upd_ne (o := .lst (col (fun i => kdN (S.node i)) S.len ++ [iV (kdN nd)])) x.kl.symm) (Eq.trans (upd_ne (o := .dT (knL S ++ [(keyN nd, iV S.len)])) x.nl.symm) D2.lf)
      refine ⟨_, rfl, a.s, cSt K, a.dx, _, _, rfl, o2, T.c_Store, T.n_Store_lefts, lk_lefts, .inl ⟨rfl, _, SqL.of f2⟩, _, rfl, a.lf, _, _, rfl, rfl, f2, lz, ?_⟩
      have o3 := Eq.trans (upd_ne (o := .lst (col (fun i => lfN (S.node i)) S.len ++ [iV (lfN nd)])) e2) o2
      have f3 := Eq.trans (upd_ne (o := .lst (col (fun i => lfN (S.node i)) S.len ++ [iV (lfN nd)])) x.lr.symm) (Eq.trans (upd_ne (o := .lst (col (fun i => kdN (S.node i)) S.len ++ [iV (kdN nd)])) x.kr.symm) (Eq.trans (upd_ne (o := .dT (knL S ++ [(keyN nd, iV S.len)])) x.nr.symm) D2.rt))
      refine ⟨_, rfl, a.s, cSt K, a.dx, _, _, rfl, o3, T.c_Store, T.n_Store_rights, lk_rights, .inl ⟨rfl, _, SqL.of f3⟩, _, rfl, a.rt, _, _, rfl, rfl, f3, lz, ?_⟩
      have o4 := Eq.trans (upd_ne (o := .lst (col (fun i => rtN (S.node i)) S.len ++ [iV (rtN nd)])) e3) o3
      have f4 := Eq.trans (upd_ne (o := .lst (col (fun i => rtN (S.node i)) S.len ++ [iV (rtN nd)])) x.rz.symm) (Eq.trans (upd_ne (o := .lst (col (fun i => lfN (S.node i)) S.len ++ [iV (lfN nd)])) x.lz.symm) (Eq.trans (upd_ne (o := .lst (col (fun i => kdN (S.node i)) S.len ++ [iV (kdN nd)])) x.kz.symm) (Eq.trans (upd_ne (o := .dT (knL S ++ [(keyN nd, iV S.len)])) x.nz.symm) D2.sz)))
      refine ⟨_, rfl, a.s, cSt K, a.dx, _, _, rfl, o4, T.c_Store, T.n_Store_sizes, lk_sizes, .inl ⟨rfl, _, SqL.of f4⟩, _, rfl, a.sz, _, _, rfl, rfl, f4, lz, ?_⟩
      have o5 := Eq.trans (upd_ne (o := .lst (col S.size S.len ++ [iV (askZ S ks nd)])) e4) o4
      have f5 := Eq.trans (upd_ne (o := .lst (col S.size S.len ++ [iV (askZ S ks nd)])) x.zb.symm) (Eq.trans (upd_ne (o := .lst (col (fun i => rtN (S.node i)) S.len ++ [iV (rtN nd)])) x.rb.symm) (Eq.trans (upd_ne (o := .lst (col (fun i => lfN (S.node i)) S.len ++ [iV (lfN nd)])) x.lb.symm) (Eq.trans (upd_ne (o := .lst (col (fun i => kdN (S.node i)) S.len ++ [iV (kdN nd)])) x.kb.symm) (Eq.trans (upd_ne (o := .dT (knL S ++ [(keyN nd, iV S.len)])) x.nb.symm) D2.bt))))
      refine ⟨_, rfl, a.s, cSt K, a.dx, _, _, rfl, o5, T.c_Store, T.n_Store_births, lk_births, .inl ⟨rfl, _, SqL.of f5⟩, _, rfl, a.bt, _, _, rfl, rfl, f5, lz, ?_⟩
      obtain ⟨G1, G2⟩ := G
      have hkey3 := D2.tup G2 hkey2
      have hg := DGet.t G1.kn hkey3
      rw [knL_some kept.ok kept.lt en] at hg
      refine ⟨_, rfl, a.s, cSt K, a.dx, _, _, rfl, G1.ob, T.c_Store, T.n_Store_known, lk_known, _, rfl, a.kn, _, rfl, hg, ?_⟩
      exact k S' S.len _ kept G1 (((Kp.same sp).trans (Kp.same sq)).trans G2)
end
end VT
set_option Elab.async false
set_option linter.all false
set_option maxRecDepth 100000
set_option maxHeartbeats 4000000
/-! off_left, off_right. -/
namespace VT
open PySem PySem.Spec PyProof.Rows L2
open VW (Sto Node Ok Le Loc Al Seg Rn unr wt F2 OffL OffR side Meet Pc szs Kept)
/-- a list of runs stands at l -/
def RunsAt (H : Hp) (l : Addr) (rs : List Rn) : Prop := ∃ as : List Addr, H l = some (.lst (as.map V.ref)) ∧ F2 (fun x r => H x = some (.tup [iV r.1, iV r.2])) as rs
theorem RunsAt.kp {K : PySem.W.Frag} {H H' : Hp} {a : SA} {S : Sto} {l : Addr} {rs : List Rn} (r : RunsAt H l rs) (D : StoreAt K H a S) (k : Kp a H H') (hl : l ∉ six a) : RunsAt H' l rs := by
  obtain ⟨as, h1, h2⟩ := r
  exact ⟨as, k _ _ h1 hl, h2.mono fun x r e => D.tup k e⟩
theorem RunsAt.same {H H' : Hp} {l : Addr} {rs : List Rn} (r : RunsAt H l rs) (k : Same H H') : RunsAt H' l rs := by
  obtain ⟨as, h1, h2⟩ := r
  exact ⟨as, k _ _ h1, h2.mono fun x r e => k _ _ e⟩
def PartAt (H : Hp) (p : Addr) (top lo hi : Nat) : Prop := H p = some (.tup [iV top, iV lo, iV hi])
def spOffL (K : PySem.W.Frag) : Sp := fun vs H Q _ => ∃ (a : SA) (S : Sto) (part : Addr) (top lo hi t : Nat), vs = [.ref a.s, .ref part, iV t] ∧ StoreAt K H a S ∧ PartAt H part top lo hi ∧ top < S.len ∧ Al S top t lo ∧ Al S top t hi ∧ lo < hi ∧ hi ≤ S.size top ∧
  ∀ H' p q l e rs, OffL S t top lo hi e rs → Same H H' → H l = none → H' p = some (.tup [.ref q, .ref l]) → PartAt H' q top e hi → RunsAt H' l rs → Q (.ref p) H'
def spOffR (K : PySem.W.Frag) : Sp := fun vs H Q _ => ∃ (a : SA) (S : Sto) (part : Addr) (top lo hi t : Nat), vs = [.ref a.s, .ref part, iV t] ∧ StoreAt K H a S ∧ PartAt H part top lo hi ∧ top < S.len ∧ Al S top t lo ∧ Al S top t hi ∧ lo < hi ∧ hi ≤ S.size top ∧
  ∀ H' p q l b rs, OffR S t top lo hi b rs → Same H H' → H l = none → H' p = some (.tup [.ref q, .ref l]) → PartAt H' q top lo b → RunsAt H' l rs → Q (.ref p) H'
theorem z1 {v : V} : ([v] : List V).length ≤ sizeLine := by show 1 ≤ sizeLine; decide
theorem z2 {v u : V} : ([v, u] : List V).length ≤ sizeLine := by show 2 ≤ sizeLine; decide
theorem z3 {v u w : V} : ([v, u, w] : List V).length ≤ sizeLine := by show 3 ≤ sizeLine; decide
theorem ne_new {H H' : Hp} {x y : Addr} {o : HO} (h : H x = some o) (k : Same H H') (n : H' y = none) : x ≠ y := ne_of_none (k _ _ h) n
/-- what is handed back: ((top, x, y), found), made behind all else -/
theorem offEnd {H H3 : Hp} {l q p : Addr} {top x y : V} {rs : List Rn} {lo hi : Nat} (k3 : Same H H3) (hl : H l = none) (R : RunsAt H3 l rs) (hq : H3 q = none) (hp : upd H3 q (.tup [top, x, y]) p = none) :
    let H5 := upd (upd H3 q (.tup [top, x, y])) p (.tup [.ref q, .ref l])
    Same H H5 ∧ H5 p = some (.tup [.ref q, .ref l]) ∧ H5 q = some (.tup [top, x, y]) ∧ RunsAt H5 l rs := by
  have s1 := same_upd (o := .tup [top, x, y]) hq
  have s2 := same_upd (o := .tup [.ref q, .ref l]) hp
  exact ⟨(k3.trans s1).trans s2, upd_same, s2 _ _ upd_same, (R.same s1).same s2⟩
/-- [(nm, c)] -/
theorem runs_one {H : Hp} {p l : Addr} {nm c : Nat} {x : V} (e : x = iV c) (hp : H p = none) (hl : upd H p (.tup [iV nm, x]) l = none) :
    Same H (upd (upd H p (.tup [iV nm, x])) l (.lst [.ref p])) ∧ RunsAt (upd (upd H p (.tup [iV nm, x])) l (.lst [.ref p])) l [(nm, c)] := by
  subst e
  have s1 := same_upd (o := .tup [iV nm, iV c]) hp
  have s2 := same_upd (o := .lst [.ref p]) hl
  exact ⟨s1.trans s2, [p], upd_same, .cons (s2 _ _ upd_same) .nil⟩
section
variable {P : Program} {w : World} {K : PySem.W.Frag} {mg : Str → Option Value} {base : Heap}
theorem even_iff {t : Nat} : decide (V.int ((t : Int) % 2) = V.int 0) = decide (t % 2 = 0) := by
  by_cases h : t % 2 = 0
  · rw [decide_eq_true h]
    exact decide_eq_true (congrArg V.int (by omega))
  · rw [decide_eq_false h]
    exact decide_eq_false fun z => h (by injection z with z; omega)
theorem scOffL : FnScope ["store", "part", "turn", "top", "low", "high", "name", "end", "found", "over", "begun", "after"] ["store", "part", "turn"] (defScope s_off_left) := ⟨rfl, rfl, rfl, by decide +kernel, rfl, by decide +kernel, by decide +kernel⟩
theorem ok_offL (T : Txt K mg) : FX P w K mg base 4 "off_left" (spOffL K) [] := by
  refine fx_mk T.f_off_left T.g_off_left scOffL (fun _ _ _ _ _ _ us hl => match us, hl with | [_, _, _], _ => rfl) (fun vs H Q E h => ?_) (fun cdv A outer s H vs Q E hr h => ?_)
  · obtain ⟨_, _, _, _, _, _, _, rfl, _⟩ := h
    rfl
  · obtain ⟨a, S, part, top, lo, hi, t, rfl, D, hp, ht, alo, ahi, hlt, hle, k⟩ := h
    refine ⟨_, (pss_cons (ps_asg (pv 1) (pg_tup rfl (pgs_cons (pg_name (i := 3) scOffL.nd rfl (Or.inl rfl)) (pgs_cons (pg_name (i := 4) scOffL.nd rfl (Or.inl rfl)) (pgs_cons (pg_name (i := 5) scOffL.nd rfl (Or.inl rfl)) pgs_nil)))))
       (pss_cons (ps_set (i := 6) scOffL.nd rfl (Or.inl rfl) (pe_ix ix_tup (pe_m (ok_piece T) hr (pv 0) (pa_cons (pv 3) (pa_cons (pv 4) (pa_cons (pv 2) pa_nil)))) pe_int (fun _ _ => rfl)))
       (pss_cons (ps_set (i := 7) scOffL.nd rfl (Or.inl rfl) (pe_op op_add (pv 4) (pe_ix ix_list (pe_fld (pv 0) rfl) (pv 6) (fun _ _ => rfl))))
       (pss_cons (ps_set (i := 8) scOffL.nd rfl (Or.inl rfl) (pe_lst (pa_cons (pe_tup (pa_cons (pv 6) (pa_cons pe_int pa_nil))) pa_nil)))
       (pss_cons (ps_if (pt_cmpR op_eq (pe_op op_mod (pv 2) pe_int) pe_int (nomark _))
       (pss_cons (ps_asg (pe_m (ok_piece T) hr (pv 0) (pa_cons (pv 3) (pa_cons (pv 4) (pa_cons (pe_op op_add (pv 2) pe_int) pa_nil)))) (pg_tup rfl (pgs_cons (pg_name (i := 9) scOffL.nd rfl (Or.inl rfl)) (pgs_cons (pg_name (i := 10) scOffL.nd rfl (Or.inl rfl)) pgs_nil))))
       (pss_cons (ps_if (pt_cmpR op_ne (pv 9) (pv 6) (nomark _))
       (pss_one (ps_set (i := 7) scOffL.nd rfl (Or.inl rfl) (pe_callB (call_min2 rfl) (by rfl) T.b_min (by decide +kernel) (pa_cons (pe_op op_add (pv 10) (pe_ix ix_list (pe_fld (pv 0) rfl) (pv 9) (fun _ _ => rfl))) (pa_cons (pv 5) pa_nil)))))
       pss_nil)
       (pss_one (ps_set (i := 8) scOffL.nd rfl (Or.inl rfl) (pe_lst (pa_cons (pe_tup (pa_cons (pv 6) (pa_cons (pe_op op_fdivW (pe_op op_sub (pv 7) (pv 4)) (pe_ix ix_list (pe_fld (pv 0) rfl) (pv 6) (fun _ _ => rfl))) pa_nil))) pa_nil))))))
       (pss_one (ps_if (pt_cmpR op_lt (pv 7) (pv 5) (nomark _))
       (pss_cons (ps_set (i := 11) scOffL.nd rfl (Or.inl rfl) (pe_ix ix_tup (pe_m (ok_piece T) hr (pv 0) (pa_cons (pv 3) (pa_cons (pv 7) (pa_cons (pv 2) pa_nil)))) pe_int (fun _ _ => rfl)))
       (pss_one (ps_if (pt_val (pe_m (ok_meet T) hr (pv 0) (pa_cons (pv 6) (pa_cons (pv 11) (pa_cons (pv 2) pa_nil)))))
       (pss_cons (ps_aug (i := 7) scOffL.nd rfl (Or.inl rfl) (pe_ix ix_list (pe_fld (pv 0) rfl) (pv 11) (fun _ _ => rfl)) ip_add)
       (pss_one (ps_expr (pe_bm PySem.F.plainAttrs_list PySem.F.slot_list_append PySem.F.type_list_append mt_append (pv 8) (pa_cons (pe_tup (pa_cons (pv 11) (pa_cons pe_int pa_nil))) pa_nil)))))
       pss_nil)))
       pss_nil)))
       (pss_one (ps_ret (pe_tup (pa_cons (pe_tup (pa_cons (pv 3) (pa_cons (pv 7) (pa_cons (pv 5) pa_nil)))) (pa_cons (pv 8) pa_nil)))))))))), ?_⟩
    dsimp only [L2.start, List.map, List.map_cons, List.map_nil, List.append_eq, List.append, List.length_cons, List.length_nil, Nat.reduceAdd, Nat.reduceSub, List.replicate_succ, List.replicate_zero, List.cons_append, List.nil_append, cxOf]
    refine ⟨_, rfl, part, _, rfl, SqT.of hp, rfl, _, _, rfl, _, _, rfl, _, _, rfl, rfl, ?_⟩
    -- name = store.piece(top, low, turn)[0]
    refine ⟨_, rfl, a.s, a.dx, _, rfl, D.ob, lk_no (by decide +kernel), _, rfl, _, rfl, _, rfl, a, S, top, lo, t, rfl, D, ht, by omega, fun p1 nm st h1 lc => ?_⟩
    have s1 := same_upd (o := .tup [iV nm, iV st]) h1
    have D1 := D.same s1
    refine ⟨p1, _, _, iV nm, rfl, rfl, SqT.of upd_same, rfl, ?_⟩
    generalize upd H p1 (.tup [iV nm, iV st]) = H1 at s1 D1
    dsimp only [gName, wipe, List.set_cons_succ, List.set_cons_zero]
    have hn := VW.loc_lt D.ok ht lc
    have sp := VW.size_pos D.ok hn.1
    -- end = low + store.sizes[name]
    refine ⟨_, rfl, _, rfl, a.s, cSt K, a.dx, _, _, rfl, D1.ob, T.c_Store, T.n_Store_sizes, lk_sizes, _, rfl, a.sz, _, _, _, rfl, rfl, SqL.of D1.sz, col_atI hn.1, _, _, rfl, rfl, ?_⟩
    -- found = [(name, 1)]
    refine ⟨_, rfl, z2, fun p2 h2 => ⟨z1, fun l2 hl2 => ?_⟩⟩
    obtain ⟨s2, R2⟩ := runs_one (nm := nm) (c := 1) (x := V.int 1) rfl h2 hl2
    have D2 := D1.same s2
    have nl2 : H l2 = none := s1.free ((same_upd h2).free hl2)
    have hl2' : (upd (upd H1 p2 (.tup [iV nm, V.int 1])) l2 (.lst [V.ref p2])) l2 = some (.lst [V.ref p2]) := upd_same
    have hp2' : (upd (upd H1 p2 (.tup [iV nm, V.int 1])) l2 (.lst [V.ref p2])) p2 = some (.tup [iV nm, iV 1]) := (same_upd hl2) _ _ upd_same
    have s2' := s1.trans s2
    generalize upd (upd H1 p2 (.tup [iV nm, V.int 1])) l2 (.lst [V.ref p2]) = H2 at s2 R2 D2 hl2' s2' hp2'
    dsimp only [gName, wipe, List.set_cons_succ, List.set_cons_zero]
    -- if turn % 2 == 0
    refine ⟨_, rfl, _, _, rfl, rfl, (by decide : (0 : Int) < 2), rfl, _, rfl, ?_⟩
    rw [even_iff]
    refine ite2 (fun he => ?_) (fun he => ?_)
    · have he := of_decide_eq_true he
      refine ⟨_, rfl, a.s, a.dx, _, rfl, D2.ob, lk_no (by decide +kernel), _, rfl, _, rfl, _, rfl, _, _, rfl, rfl, a, S, top, lo, t + 1, rfl, D2, ht, by omega, fun p3 ov bg h3 lc3 => ?_⟩
      have s3 := same_upd (o := .tup [iV ov, iV bg]) h3
      have D3 := D2.same s3
      refine ⟨p3, _, rfl, SqT.of upd_same, rfl, _, _, rfl, _, _, rfl, rfl, ?_⟩
      have s3' := s2'.trans s3
      generalize upd H2 p3 (.tup [iV ov, iV bg]) = H3 at s3 D3 s3'
      dsimp only [gName, wipe, List.set_cons_succ, List.set_cons_zero]
      have hov := (VW.loc_lt D.ok ht lc3).1
      refine ⟨_, rfl, _, rfl, rfl, _, rfl, ?_⟩
      by_cases e : ov = nm
      · subst e
        refine iteNS rfl ?_
        obtain ⟨o, _⟩ := VW.offL_alone D.ok ht alo ahi hlt lc lc3
        have ez : ((lo : Int) + (S.size ov : Int) - (lo : Int)) / (S.size ov : Int) = (((lo + S.size ov - lo) / S.size ov : Nat) : Int) := by
          rw [show (lo : Int) + (S.size ov : Int) - (lo : Int) = ((lo + S.size ov - lo : Nat) : Int) by omega, Int.natCast_ediv]
        refine ⟨_, rfl, _, rfl, _, rfl, _, _, rfl, rfl, _, rfl, a.s, cSt K, a.dx, _, _, rfl, D3.ob, T.c_Store, T.n_Store_sizes, lk_sizes, _, rfl, a.sz, _, _, _, rfl, rfl, SqL.of D3.sz, col_atI hn.1, _, _, rfl, rfl, div_ok sp (D.small _ hn.1), z2, fun p4 h4 => ⟨z1, fun l4 hl4 => ?_⟩⟩
        obtain ⟨s4, R4⟩ := runs_one (congrArg V.int ez) h4 hl4
        refine ⟨_, rfl, _, rfl, _, rfl, z3, fun q hq => ⟨_, rfl, z2, fun p hp => ?_⟩⟩
        obtain ⟨f1, f2, f3, f4⟩ := offEnd (lo := lo) (hi := hi) (s3'.trans s4) (s3'.free ((same_upd h4).free hl4)) R4 hq hp
        exact k _ p q l4 _ _ o f1 (s3'.free ((same_upd h4).free hl4)) f2 f3 f4
      · have hne : (!decide (iV ov = iV nm)) = true := by rw [dec_iV, decide_eq_false e]; rfl
        rw [hne]
        refine iteT ?_
        obtain ⟨o, _⟩ := VW.offL_block D.ok ht alo ahi hlt he lc lc3 e
        refine ⟨_, rfl, _, rfl, a.s, cSt K, a.dx, _, _, rfl, D3.ob, T.c_Store, T.n_Store_sizes, lk_sizes, _, rfl, a.sz, _, _, _, rfl, rfl, SqL.of D3.sz, col_atI hov, _, _, rfl, rfl, _, rfl, _, _, rfl, ?_⟩
        have em : (if (hi : Int) < (bg : Int) + (S.size ov : Int) then (hi : Int) else (bg : Int) + (S.size ov : Int)) = ((min (bg + S.size ov) hi : Nat) : Int) := by
          split <;> omega
        have go : ∀ z : Int, z = ((min (bg + S.size ov) hi : Nat) : Int) → (z - (lo : Int)) / (S.size nm : Int) = (((min (bg + S.size ov) hi - lo) / S.size nm : Nat) : Int) := fun z ez => by
          rw [ez, show ((min (bg + S.size ov) hi : Nat) : Int) - (lo : Int) = ((min (bg + S.size ov) hi - lo : Nat) : Int) by have := o.lt; omega, Int.natCast_ediv]
        refine ⟨_, rfl, _, rfl, _, rfl, _, _, rfl, rfl, _, rfl, a.s, cSt K, a.dx, _, _, rfl, D3.ob, T.c_Store, T.n_Store_sizes, lk_sizes, _, rfl, a.sz, _, _, _, rfl, rfl, SqL.of D3.sz, col_atI hn.1, _, _, rfl, rfl, div_ok sp (D.small _ hn.1), z2, fun p4 h4 => ⟨z1, fun l4 hl4 => ?_⟩⟩
        obtain ⟨s4, R4⟩ := runs_one (congrArg V.int (go _ em)) h4 hl4
        refine ⟨_, rfl, _, rfl, _, rfl, z3, fun q hq => ⟨_, rfl, z2, fun p hp => ?_⟩⟩
        obtain ⟨f1, f2, f3, f4⟩ := offEnd (lo := lo) (hi := hi) (s3'.trans s4) (s3'.free ((same_upd h4).free hl4)) R4 hq hp
        exact k _ p q l4 _ _ o f1 (s3'.free ((same_upd h4).free hl4)) f2 (f3.trans (congrArg (fun z => some (HO.tup [iV top, V.int z, iV hi])) em)) f4
    · have he : t % 2 = 1 := by
        have : ¬ t % 2 = 0 := fun z => he (decide_eq_true z)
        omega
      refine ⟨_, rfl, _, rfl, _, _, rfl, rfl, _, rfl, ?_⟩
      refine ite2 (fun hin => ?_) (fun hin => ?_)
      · have hin : lo + S.size nm < hi := by
          have := of_decide_eq_true hin
          omega
        refine ⟨_, rfl, a.s, a.dx, _, rfl, D2.ob, lk_no (by decide +kernel), _, rfl, _, rfl, _, rfl, a, S, top, lo + S.size nm, t, rfl, D2, ht, by omega, fun p3 af ast h3 lc3 => ?_⟩
        have s3 := same_upd (o := .tup [iV af, iV ast]) h3
        have D3 := D2.same s3
        refine ⟨p3, _, _, iV af, rfl, rfl, SqT.of upd_same, rfl, ?_⟩
        have s3' := s2'.trans s3
        have hl3' := s3 _ _ hl2'
        have hp3' := s3 _ _ hp2'
        have R3 := R2.same s3
        generalize upd H2 p3 (.tup [iV af, iV ast]) = H3 at s3 D3 s3' hl3' R3 hp3'
        dsimp only [gName, wipe, List.set_cons_succ, List.set_cons_zero]
        have haf := (VW.loc_lt D.ok ht lc3).1
        refine ⟨_, rfl, a.s, a.dx, _, rfl, D3.ob, lk_no (by decide +kernel), _, rfl, _, rfl, _, rfl, _, _, _, nm, af, t, rfl, rfl, rfl, Nat.lt_of_lt_of_le hn.1 D.cap, Nat.lt_of_lt_of_le haf D.cap, _, rfl, ?_⟩
        by_cases m : Meet nm af t
        · rw [decide_eq_true m]
          refine iteT ?_
          have o := VW.offL_pair D.ok ht alo ahi hlt he lc hin lc3 m
          refine ⟨_, rfl, _, rfl, a.s, cSt K, a.dx, _, _, rfl, D3.ob, T.c_Store, T.n_Store_sizes, lk_sizes, _, rfl, a.sz, _, _, _, rfl, rfl, SqL.of D3.sz, col_atI haf, _, _, rfl, rfl, ?_⟩
          refine ⟨_, rfl, .inl ⟨rfl, _, SqL.of hl3'⟩, _, rfl, z2, fun p4 h4 => ?_⟩
          have s4 := same_upd (o := .tup [iV af, V.int 1]) h4
          have hl4 := s4 _ _ hl3'
          refine ⟨l2, _, _, rfl, rfl, hl4, by show 1 < sizeLine; decide, ?_⟩
          have nl4 : l2 ∉ six a := D.out_new nl2
          have s5 : Same H (upd (upd H3 p4 (.tup [iV af, V.int 1])) l2 (.lst ([V.ref p2] ++ [V.ref p4]))) := fun b o e => by
            rw [upd_ne (ne_of_none e nl2)]
            exact (s3'.trans s4) b o e
          have n24 : p2 ≠ p4 := ne_of_none hp3' h4
          have R5 : RunsAt (upd (upd H3 p4 (.tup [iV af, V.int 1])) l2 (.lst ([V.ref p2] ++ [V.ref p4]))) l2 [(nm, 1), (af, 1)] := by
            refine ⟨[p2, p4], upd_same, .cons ?_ (.cons ?_ .nil)⟩
            · rw [upd_ne (ne_of (s4 _ _ hp3') hl4 (by intro z; cases z))]
              exact s4 _ _ hp3'
            · rw [upd_ne (ne_of (upd_same (H := H3) (a := p4) (o := .tup [iV af, V.int 1])) hl4 (by intro z; cases z)), upd_same]
              rfl
          generalize upd (upd H3 p4 (.tup [iV af, V.int 1])) l2 (.lst ([V.ref p2] ++ [V.ref p4])) = H5 at s5 R5
          dsimp only [gName, wipe, List.set_cons_succ, List.set_cons_zero]
          refine ⟨_, rfl, _, rfl, _, rfl, z3, fun q hq => ⟨_, rfl, z2, fun p hp => ?_⟩⟩
          obtain ⟨f1, f2, f3, f4⟩ := offEnd (lo := lo) (hi := hi) s5 nl2 R5 hq hp
          exact k _ p q l2 _ _ o f1 nl2 f2 f3 f4
        · rw [decide_eq_false m]
          refine iteF ?_
          have o := VW.offL_apart D.ok ht alo ahi hlt he lc hin lc3 m
          refine ⟨_, rfl, _, rfl, _, rfl, z3, fun q hq => ⟨_, rfl, z2, fun p hp => ?_⟩⟩
          obtain ⟨f1, f2, f3, f4⟩ := offEnd (lo := lo) (hi := hi) s3' nl2 R3 hq hp
          exact k _ p q l2 _ _ o f1 nl2 f2 f3 f4
      · have hin : ¬ lo + S.size nm < hi := fun z => hin (decide_eq_true (by omega))
        have o := VW.offL_only D.ok ht alo ahi hlt he lc hin
        refine ⟨_, rfl, _, rfl, _, rfl, z3, fun q hq => ⟨_, rfl, z2, fun p hp => ?_⟩⟩
        obtain ⟨f1, f2, f3, f4⟩ := offEnd (lo := lo) (hi := hi) s2' nl2 R2 hq hp
        exact k _ p q l2 _ _ o f1 nl2 f2 f3 f4
theorem scOffR : FnScope ["store", "part", "turn", "top", "low", "high", "name", "start", "found", "over", "begun", "before"] ["store", "part", "turn"] (defScope s_off_right) := ⟨rfl, rfl, rfl, by decide +kernel, rfl, by decide +kernel, by decide +kernel⟩
theorem ok_offR (T : Txt K mg) : FX P w K mg base 4 "off_right" (spOffR K) [] := by
  refine fx_mk T.f_off_right T.g_off_right scOffR (fun _ _ _ _ _ _ us hl => match us, hl with | [_, _, _], _ => rfl) (fun vs H Q E h => ?_) (fun cdv A outer s H vs Q E hr h => ?_)
  · obtain ⟨_, _, _, _, _, _, _, rfl, _⟩ := h
    rfl
  · obtain ⟨a, S, part, top, lo, hi, t, rfl, D, hp, ht, alo, ahi, hlt, hle, k⟩ := h
    refine ⟨_, (pss_cons (ps_asg (pv 1) (pg_tup rfl (pgs_cons (pg_name (i := 3) scOffR.nd rfl (Or.inl rfl)) (pgs_cons (pg_name (i := 4) scOffR.nd rfl (Or.inl rfl)) (pgs_cons (pg_name (i := 5) scOffR.nd rfl (Or.inl rfl)) pgs_nil)))))
       (pss_cons (ps_asg (pe_m (ok_piece T) hr (pv 0) (pa_cons (pv 3) (pa_cons (pe_op op_sub (pv 5) pe_int) (pa_cons (pv 2) pa_nil)))) (pg_tup rfl (pgs_cons (pg_name (i := 6) scOffR.nd rfl (Or.inl rfl)) (pgs_cons (pg_name (i := 7) scOffR.nd rfl (Or.inl rfl)) pgs_nil))))
       (pss_cons (ps_set (i := 8) scOffR.nd rfl (Or.inl rfl) (pe_lst (pa_cons (pe_tup (pa_cons (pv 6) (pa_cons pe_int pa_nil))) pa_nil)))
       (pss_cons (ps_if (pt_cmpR op_eq (pe_op op_mod (pv 2) pe_int) pe_int (nomark _))
       (pss_cons (ps_asg (pe_m (ok_piece T) hr (pv 0) (pa_cons (pv 3) (pa_cons (pe_op op_sub (pv 5) pe_int) (pa_cons (pe_op op_add (pv 2) pe_int) pa_nil)))) (pg_tup rfl (pgs_cons (pg_name (i := 9) scOffR.nd rfl (Or.inl rfl)) (pgs_cons (pg_name (i := 10) scOffR.nd rfl (Or.inl rfl)) pgs_nil))))
       (pss_cons (ps_if (pt_cmpR op_ne (pv 9) (pv 6) (nomark _))
       (pss_one (ps_set (i := 7) scOffR.nd rfl (Or.inl rfl) (pe_callB (call_max2 rfl) (by rfl) T.b_max (by decide +kernel) (pa_cons (pv 10) (pa_cons (pv 4) pa_nil)))))
       pss_nil)
       (pss_one (ps_set (i := 8) scOffR.nd rfl (Or.inl rfl) (pe_lst (pa_cons (pe_tup (pa_cons (pv 6) (pa_cons (pe_op op_fdivW (pe_op op_sub (pv 5) (pv 7)) (pe_ix ix_list (pe_fld (pv 0) rfl) (pv 6) (fun _ _ => rfl))) pa_nil))) pa_nil))))))
       (pss_one (ps_if (pt_cmpR op_lt (pv 4) (pv 7) (nomark _))
       (pss_cons (ps_asg (pe_m (ok_piece T) hr (pv 0) (pa_cons (pv 3) (pa_cons (pe_op op_sub (pv 7) pe_int) (pa_cons (pv 2) pa_nil)))) (pg_tup rfl (pgs_cons (pg_name (i := 11) scOffR.nd rfl (Or.inl rfl)) (pgs_cons (pg_name (i := 10) scOffR.nd rfl (Or.inl rfl)) pgs_nil))))
       (pss_one (ps_if (pt_val (pe_m (ok_meet T) hr (pv 0) (pa_cons (pv 11) (pa_cons (pv 6) (pa_cons (pv 2) pa_nil)))))
       (pss_cons (ps_set (i := 7) scOffR.nd rfl (Or.inl rfl) (pv 10))
       (pss_one (ps_set (i := 8) scOffR.nd rfl (Or.inl rfl) (pe_lst (pa_cons (pe_tup (pa_cons (pv 11) (pa_cons pe_int pa_nil))) (pa_cons (pe_tup (pa_cons (pv 6) (pa_cons pe_int pa_nil))) pa_nil))))))
       pss_nil)))
       pss_nil)))
       (pss_one (ps_ret (pe_tup (pa_cons (pe_tup (pa_cons (pv 3) (pa_cons (pv 4) (pa_cons (pv 7) pa_nil)))) (pa_cons (pv 8) pa_nil))))))))), ?_⟩
    dsimp only [L2.start, List.map, List.map_cons, List.map_nil, List.append_eq, List.append, List.length_cons, List.length_nil, Nat.reduceAdd, Nat.reduceSub, List.replicate_succ, List.replicate_zero, List.cons_append, List.nil_append, cxOf]
    refine ⟨_, rfl, part, _, rfl, SqT.of hp, rfl, _, _, rfl, _, _, rfl, _, _, rfl, rfl, ?_⟩
    dsimp only [gName, wipe, List.set_cons_succ, List.set_cons_zero]
    have hq1 : (hi : Int) - 1 = ((hi - 1 : Nat) : Int) := by omega
    -- name, start = store.piece(top, high - 1, turn)
    refine ⟨_, rfl, a.s, a.dx, _, rfl, D.ob, lk_no (by decide +kernel), _, rfl, _, rfl, _, _, rfl, rfl, _, rfl, a, S, top, hi - 1, t, (by show [V.ref a.s, iV top, V.int ((hi : Int) - 1), iV t] = _; rw [hq1]; rfl), D, ht, by omega, fun p1 nm st h1 lc => ?_⟩
    have s1 := same_upd (o := .tup [iV nm, iV st]) h1
    have D1 := D.same s1
    refine ⟨p1, _, rfl, SqT.of upd_same, rfl, _, _, rfl, _, _, rfl, rfl, ?_⟩
    generalize upd H p1 (.tup [iV nm, iV st]) = H1 at s1 D1
    dsimp only [gName, wipe, List.set_cons_succ, List.set_cons_zero]
    have hn := VW.loc_lt D.ok ht lc
    have sp := VW.size_pos D.ok hn.1
    have hend := VW.loc_end D.ok ht lc (by omega) ahi
    -- found = [(name, 1)]
    refine ⟨_, rfl, z2, fun p2 h2 => ⟨z1, fun l2 hl2 => ?_⟩⟩
    obtain ⟨s2, R2⟩ := runs_one (nm := nm) (c := 1) (x := V.int 1) rfl h2 hl2
    have D2 := D1.same s2
    have nl2 : H l2 = none := s1.free ((same_upd h2).free hl2)
    have s2' := s1.trans s2
    generalize upd (upd H1 p2 (.tup [iV nm, V.int 1])) l2 (.lst [V.ref p2]) = H2 at s2 R2 D2 s2'
    dsimp only [gName, wipe, List.set_cons_succ, List.set_cons_zero]
    -- if turn % 2 == 0
    refine ⟨_, rfl, _, _, rfl, rfl, (by decide : (0 : Int) < 2), rfl, _, rfl, ?_⟩
    rw [even_iff]
    refine ite2 (fun he => ?_) (fun he => ?_)
    · have he := of_decide_eq_true he
      refine ⟨_, rfl, a.s, a.dx, _, rfl, D2.ob, lk_no (by decide +kernel), _, rfl, _, rfl, _, _, rfl, rfl, _, rfl, _, _, rfl, rfl, a, S, top, hi - 1, t + 1, (by show [V.ref a.s, iV top, V.int ((hi : Int) - 1), V.int ((t : Int) + 1)] = _; rw [hq1]; rfl), D2, ht, by omega, fun p3 ov bg h3 lc3 => ?_⟩
      have s3 := same_upd (o := .tup [iV ov, iV bg]) h3
      have D3 := D2.same s3
      refine ⟨p3, _, rfl, SqT.of upd_same, rfl, _, _, rfl, _, _, rfl, rfl, ?_⟩
      have s3' := s2'.trans s3
      generalize upd H2 p3 (.tup [iV ov, iV bg]) = H3 at s3 D3 s3'
      dsimp only [gName, wipe, List.set_cons_succ, List.set_cons_zero]
      have hov := (VW.loc_lt D.ok ht lc3).1
      refine ⟨_, rfl, _, rfl, rfl, _, rfl, ?_⟩
      by_cases e : ov = nm
      · subst e
        refine iteNS rfl ?_
        have o := VW.offR_alone D.ok ht alo ahi hlt lc lc3
        have ez : ((hi : Int) - (st : Int)) / (S.size ov : Int) = (((hi - st) / S.size ov : Nat) : Int) := by
          rw [show (hi : Int) - (st : Int) = ((hi - st : Nat) : Int) by omega, Int.natCast_ediv]
        refine ⟨_, rfl, _, rfl, _, rfl, _, _, rfl, rfl, _, rfl, a.s, cSt K, a.dx, _, _, rfl, D3.ob, T.c_Store, T.n_Store_sizes, lk_sizes, _, rfl, a.sz, _, _, _, rfl, rfl, SqL.of D3.sz, col_atI hn.1, _, _, rfl, rfl, div_ok sp (D.small _ hn.1), z2, fun p4 h4 => ⟨z1, fun l4 hl4 => ?_⟩⟩
        obtain ⟨s4, R4⟩ := runs_one (congrArg V.int ez) h4 hl4
        dsimp only [gName, wipe, List.set_cons_succ, List.set_cons_zero]
        refine ⟨_, rfl, _, rfl, _, rfl, z3, fun q hq => ⟨_, rfl, z2, fun p hp => ?_⟩⟩
        obtain ⟨f1, f2, f3, f4⟩ := offEnd (lo := lo) (hi := hi) (s3'.trans s4) (s3'.free ((same_upd h4).free hl4)) R4 hq hp
        exact k _ p q l4 _ _ o f1 (s3'.free ((same_upd h4).free hl4)) f2 f3 f4
      · have hne : (!decide (iV ov = iV nm)) = true := by rw [dec_iV, decide_eq_false e]; rfl
        rw [hne]
        refine iteT ?_
        have o := VW.offR_block D.ok ht alo ahi hlt he lc lc3 e
        refine ⟨_, rfl, _, rfl, _, _, rfl, ?_⟩
        have em : (if (lo : Int) > (bg : Int) then (lo : Int) else (bg : Int)) = ((max bg lo : Nat) : Int) := by
          split <;> omega
        have go : ∀ z : Int, z = ((max bg lo : Nat) : Int) → ((hi : Int) - z) / (S.size nm : Int) = (((hi - max bg lo) / S.size nm : Nat) : Int) := fun z ez => by
          rw [ez, show (hi : Int) - ((max bg lo : Nat) : Int) = ((hi - max bg lo : Nat) : Int) by have := o.lt; omega, Int.natCast_ediv]
        dsimp only [gName, wipe, List.set_cons_succ, List.set_cons_zero]
        refine ⟨_, rfl, _, rfl, _, rfl, _, _, rfl, rfl, _, rfl, a.s, cSt K, a.dx, _, _, rfl, D3.ob, T.c_Store, T.n_Store_sizes, lk_sizes, _, rfl, a.sz, _, _, _, rfl, rfl, SqL.of D3.sz, col_atI hn.1, _, _, rfl, rfl, div_ok sp (D.small _ hn.1), z2, fun p4 h4 => ⟨z1, fun l4 hl4 => ?_⟩⟩
        obtain ⟨s4, R4⟩ := runs_one (congrArg V.int (go _ em)) h4 hl4
        dsimp only [gName, wipe, List.set_cons_succ, List.set_cons_zero]
        refine ⟨_, rfl, _, rfl, _, rfl, z3, fun q hq => ⟨_, rfl, z2, fun p hp => ?_⟩⟩
        obtain ⟨f1, f2, f3, f4⟩ := offEnd (lo := lo) (hi := hi) (s3'.trans s4) (s3'.free ((same_upd h4).free hl4)) R4 hq hp
        exact k _ p q l4 _ _ o f1 (s3'.free ((same_upd h4).free hl4)) f2 (f3.trans (congrArg (fun z => some (HO.tup [iV top, iV lo, V.int z])) em)) f4
    · have he : t % 2 = 1 := by
        have : ¬ t % 2 = 0 := fun z => he (decide_eq_true z)
        omega
      refine ⟨_, rfl, _, rfl, _, _, rfl, rfl, _, rfl, ?_⟩
      refine ite2 (fun hin => ?_) (fun hin => ?_)
      · have hin : lo < st := by
          have := of_decide_eq_true hin
          omega
        have hq2 : (st : Int) - 1 = ((st - 1 : Nat) : Int) := by omega
        refine ⟨_, rfl, a.s, a.dx, _, rfl, D2.ob, lk_no (by decide +kernel), _, rfl, _, rfl, _, _, rfl, rfl, _, rfl, a, S, top, st - 1, t, (by show [V.ref a.s, iV top, V.int ((st : Int) - 1), iV t] = _; rw [hq2]; rfl), D2, ht, by omega, fun p3 bf bst h3 lc3 => ?_⟩
        have s3 := same_upd (o := .tup [iV bf, iV bst]) h3
        have D3 := D2.same s3
        refine ⟨p3, _, rfl, SqT.of upd_same, rfl, _, _, rfl, _, _, rfl, rfl, ?_⟩
        have s3' := s2'.trans s3
        have R3 := R2.same s3
        generalize upd H2 p3 (.tup [iV bf, iV bst]) = H3 at s3 D3 s3' R3
        dsimp only [gName, wipe, List.set_cons_succ, List.set_cons_zero]
        have hbf := (VW.loc_lt D.ok ht lc3).1
        refine ⟨_, rfl, a.s, a.dx, _, rfl, D3.ob, lk_no (by decide +kernel), _, rfl, _, rfl, _, rfl, _, _, _, bf, nm, t, rfl, rfl, rfl, Nat.lt_of_lt_of_le hbf D.cap, Nat.lt_of_lt_of_le hn.1 D.cap, _, rfl, ?_⟩
        by_cases m : Meet bf nm t
        · rw [decide_eq_true m]
          refine iteT ?_
          have o := VW.offR_pair D.ok ht alo ahi hlt he lc hin lc3 m
          refine ⟨_, rfl, _, rfl, z2, fun p4 h4 => ⟨_, rfl, z2, fun p5 h5 => ⟨z2, fun l5 hl5 => ?_⟩⟩⟩
          have s4 := same_upd (o := .tup [iV bf, V.int 1]) h4
          have s5 := same_upd (o := .tup [iV nm, V.int 1]) h5
          have s6 := same_upd (o := .lst [V.ref p4, V.ref p5]) hl5
          have R6 : RunsAt (upd (upd (upd H3 p4 (.tup [iV bf, V.int 1])) p5 (.tup [iV nm, V.int 1])) l5 (.lst [V.ref p4, V.ref p5])) l5 [(bf, 1), (nm, 1)] :=
            ⟨[p4, p5], upd_same, .cons (s6 _ _ (s5 _ _ upd_same)) (.cons (s6 _ _ upd_same) .nil)⟩
          have s6' := (s4.trans s5).trans s6
          have nl5 : H l5 = none := s3'.free ((s4.trans s5).free hl5)
          generalize upd (upd (upd H3 p4 (.tup [iV bf, V.int 1])) p5 (.tup [iV nm, V.int 1])) l5 (.lst [V.ref p4, V.ref p5]) = H6 at s6' R6
          dsimp only [gName, wipe, List.set_cons_succ, List.set_cons_zero]
          refine ⟨_, rfl, _, rfl, _, rfl, z3, fun q hq => ⟨_, rfl, z2, fun p hp => ?_⟩⟩
          obtain ⟨f1, f2, f3, f4⟩ := offEnd (lo := lo) (hi := hi) (s3'.trans s6') nl5 R6 hq hp
          exact k _ p q l5 _ _ o f1 nl5 f2 f3 f4
        · rw [decide_eq_false m]
          refine iteF ?_
          have o := VW.offR_apart D.ok ht alo ahi hlt he lc hin lc3 m
          refine ⟨_, rfl, _, rfl, _, rfl, z3, fun q hq => ⟨_, rfl, z2, fun p hp => ?_⟩⟩
          obtain ⟨f1, f2, f3, f4⟩ := offEnd (lo := lo) (hi := hi) s3' nl2 R3 hq hp
          exact k _ p q l2 _ _ o f1 nl2 f2 f3 f4
      · have hin : ¬ lo < st := fun z => hin (decide_eq_true (by omega))
        have o := VW.offR_only D.ok ht alo ahi hlt he lc hin
        refine ⟨_, rfl, _, rfl, _, rfl, z3, fun q hq => ⟨_, rfl, z2, fun p hp => ?_⟩⟩
        obtain ⟨f1, f2, f3, f4⟩ := offEnd (lo := lo) (hi := hi) s2' nl2 R2 hq hp
        exact k _ p q l2 _ _ o f1 nl2 f2 f3 f4
end
end VT
set_option Elab.async false
set_option linter.all false
set_option maxRecDepth 100000
set_option maxHeartbeats 4000000
/-! blocks, pairs. -/
namespace VT
open PySem PySem.Spec PyProof.Rows L2
open VW (Sto Node Ok Le Loc Al Seg Rn unr wt F2 OffL OffR side Meet Pc szs Kept Mgd Jn Ch Sep on1)
theorem F2_unsnoc' {α β : Type} {R : α → β → Prop} {y : β} : ∀ {a : List α} {b : List β}, F2 R a (b ++ [y]) → ∃ a' x, a = a' ++ [x] ∧ F2 R a' b ∧ R x y
  | _, [], .cons r .nil => ⟨[], _, rfl, .nil, r⟩
  | _, _ :: b, .cons r t => by
    obtain ⟨a', x, e, h1, h2⟩ := F2_unsnoc' (b := b) t
    exact ⟨_ :: a', x, by rw [e]; rfl, .cons r h1, h2⟩
theorem runs_app {H : Hp} {f p : Addr} {rs : List Rn} {xs : List V} {n c : Nat} {x y : V} (R : RunsAt H f rs) (hx : H f = some (.lst xs)) (ex : x = iV n) (ey : y = iV c) (hp : H p = none) :
    RunsAt (upd (upd H p (.tup [x, y])) f (.lst (xs ++ [.ref p]))) f (rs ++ [(n, c)]) := by
  subst ex
  subst ey
  obtain ⟨as, h1, h2⟩ := R
  rw [h1] at hx
  have : as.map V.ref = xs := by injection hx with hx; injection hx
  subst this
  have s1 := same_upd (o := .tup [iV n, iV c]) hp
  have fp : f ≠ p := ne_of_none h1 hp
  have keep : ∀ b ys, upd H p (.tup [iV n, iV c]) b = some (.tup ys) → upd (upd H p (.tup [iV n, iV c])) f (.lst (as.map V.ref ++ [.ref p])) b = some (.tup ys) := fun b ys e => by
    rw [upd_ne (ne_of e (s1 _ _ h1) (by intro z; cases z))]
    exact e
  refine ⟨as ++ [p], by rw [upd_same, List.map_append]; rfl, (h2.mono fun z r e => keep _ _ (s1 _ _ e)).snoc (keep _ _ upd_same)⟩
/-- what stood ahead of f stands -/
theorem kp_app {a : SA} {H0 H : Hp} {f p : Addr} {o u : HO} (k : Kp a H0 H) (hf : H0 f = none) (hp : H p = none) : Kp a H0 (upd (upd H p o) f u) := fun b v e n => by
  rw [upd_ne (ne_of_none e hf)]
  exact same_upd hp _ _ (k b v e n)
theorem store_app {K : PySem.W.Frag} {a : SA} {S : Sto} {H : Hp} {f p : Addr} {o u : HO} (D : StoreAt K H a S) (hf : f ∉ six a) (hfs : f ≠ a.s) (hp : H p = none) : StoreAt K (upd (upd H p o) f u) a S := by
  have D1 := D.same (same_upd (o := o) hp)
  have m : ∀ b, b ∈ six a → b ≠ f := fun b hb e => hf (by rw [← e]; exact hb)
  exact ⟨by rw [upd_ne hfs.symm]; exact D1.ob, by rw [upd_ne (m _ (by simp [six]))]; exact D1.kd, by rw [upd_ne (m _ (by simp [six]))]; exact D1.lf, by rw [upd_ne (m _ (by simp [six]))]; exact D1.rt, by rw [upd_ne (m _ (by simp [six]))]; exact D1.sz,
    by rw [upd_ne (m _ (by simp [six]))]; exact D1.bt, by rw [upd_ne (m _ (by simp [six]))]; exact D1.kn, D1.nd, D1.ok, D1.cap, D1.small⟩
theorem runs_keep {H : Hp} {f g p : Addr} {rs : List Rn} {o : HO} {ys : List V} {zs : List V} (R : RunsAt H g rs) (hf : H f = some (.lst ys)) (fg : g ≠ f) (hp : H p = none) : RunsAt (upd (upd H p o) f (.lst zs)) g rs := by
  obtain ⟨as, h1, h2⟩ := R
  have s1 := same_upd (o := o) hp
  refine ⟨as, by rw [upd_ne fg]; exact s1 _ _ h1, h2.mono fun x r e => ?_⟩
  rw [upd_ne (ne_of (s1 _ _ e) (s1 _ _ hf) (by intro z; cases z))]
  exact s1 _ _ e
theorem ixN_last {α : Type} (xs : List α) (v : α) : ixN (xs ++ [v]).length (-1) = some xs.length := by
  unfold ixN
  rw [List.length_append, List.length_singleton, if_neg (by decide), if_pos (by omega)]
  congr 1
  omega
theorem set_last {α : Type} (v w : α) : ∀ xs : List α, (xs ++ [v]).set xs.length w = xs ++ [w]
  | [] => rfl
  | x :: xs => by
    show x :: (xs ++ [v]).set xs.length w = x :: (xs ++ [w])
    rw [set_last v w xs]
theorem on1_snoc {o : List Nat} {x : Nat} : on1 (o ++ [x]) = on1 o ++ [(x, 1)] := by simp [on1]
theorem take_snoc {α : Type} {l : List α} {k : Nat} {x : α} (h : l[k]? = some x) : l.take (k + 1) = l.take k ++ [x] := VW.take_succ' h
theorem wt_pos : ∀ (rs : List Rn), rs.length ≤ wt rs
  | [] => Nat.le_refl _
  | r :: rs => by
    have := wt_pos rs
    rw [VW.wt_cons, List.length_cons]
    split <;> omega
theorem wt_take {rs : List Rn} (i : Nat) : wt (rs.take i) ≤ wt rs := by
  have := VW.wt_app (a := rs.take i) (b := rs.drop i)
  rw [List.take_append_drop] at this
  omega
/-- what is asked of the runs of a gap, in turn t -/
structure GapOk (S : Sto) (t : Nat) (rs : List Rn) : Prop where
  lt : ∀ r ∈ rs, r.1 < S.len ∧ S.birth r.1 ≤ t
  one : ∀ r ∈ rs, 1 ≤ r.2 ∧ (t % 2 = 1 → r.2 = 1)
  ch : Ch (Sep S t) (unr rs)
  small : szs S (unr rs) ≤ 10 ^ 18
def spMerge (K : PySem.W.Frag) (par : Nat) (tail : Nat → List V) : Sp := fun vs H Q _ => ∃ (a : SA) (S : Sto) (l : Addr) (rs : List Rn) (t : Nat), vs = [.ref a.s, .ref l] ++ tail t ∧ t % 2 = par ∧ StoreAt K H a S ∧ l ∉ six a ∧ RunsAt H l rs ∧ GapOk S t rs ∧ S.len + wt rs ≤ 16777216 ∧
  ∀ S' H' f out, Le S S' → StoreAt K H' a S' → Kp a H H' → Mgd S' t (unr rs) out → S'.len + out.length ≤ S.len + wt rs → H f = none → RunsAt H' f (on1 out) → Q (.ref f) H'
abbrev spBlocks (K : PySem.W.Frag) : Sp := spMerge K 0 fun _ => []
abbrev spPairs (K : PySem.W.Frag) : Sp := spMerge K 1 fun t => [iV t]
section
variable {P : Program} {w : World} {K : PySem.W.Frag} {mg : Str → Option Value} {base : Heap}
theorem scBlocks : FnScope ["store", "runs", "joined", "name", "many", "found"] ["store", "runs"] (defScope s_blocks) := ⟨rfl, rfl, rfl, by decide +kernel, rfl, by decide +kernel, by decide +kernel⟩
theorem ok_blocks (T : Txt K mg) : FX P w K mg base 5 "blocks" (spBlocks K) [] := by
  refine fx_mk T.f_blocks T.g_blocks scBlocks (fun _ _ _ _ _ _ us hl => match us, hl with | [_, _], _ => rfl) (fun vs H Q E h => ?_) (fun cdv A outer s H vs Q E hr h => ?_)
  · obtain ⟨_, _, _, _, _, rfl, _⟩ := h
    rfl
  · obtain ⟨a, S, l, rs, t, rfl, he, D, hl, R, go, cap, k⟩ := h
    have hnl : (([V.ref a.s, V.ref l] : List V) ++ []) = [V.ref a.s, V.ref l] := rfl
    refine ⟨_, (pss_cons (ps_set (i := 2) scBlocks.nd rfl (Or.inl rfl) (pe_lst pa_nil))
       (pss_cons (ps_for PassesOwn.never rfl (pi_list (pv 1)) (pg_tup rfl (pgs_cons (pg_name (i := 3) scBlocks.nd rfl (Or.inl rfl)) (pgs_cons (pg_name (i := 4) scBlocks.nd rfl (Or.inl rfl)) pgs_nil)))
       (pss_one (ps_if (PW.pt (pw_and (pt_truth (pv 2) (by intro _; rfl)) (pw_and1 (pt_cmpR op_eq (pe_ix ix_tup (pe_ix ix_list (pv 2) (pe_un un_neg pe_int) (fun _ _ => rfl)) pe_int (fun _ _ => rfl)) (pv 3) (nomark _)))))
       (pss_one (ps_asg (pe_tup (pa_cons (pv 3) (pa_cons (pe_op op_add (pe_ix ix_tup (pe_ix ix_list (pv 2) (pe_un un_neg pe_int) (fun _ _ => rfl)) pe_int (fun _ _ => rfl)) (pv 4)) pa_nil))) (pg_sub (pv 2) (pe_un un_neg pe_int) set_list)))
       (pss_one (ps_expr (pe_bm PySem.F.plainAttrs_list PySem.F.slot_list_append PySem.F.type_list_append mt_append (pv 2) (pa_cons (pe_tup (pa_cons (pv 3) (pa_cons (pv 4) pa_nil))) pa_nil)))))))
       (pss_cons (ps_set (i := 5) scBlocks.nd rfl (Or.inl rfl) (pe_lst pa_nil))
       (pss_cons (ps_for PassesOwn.never rfl (pi_list (pv 2)) (pg_tup rfl (pgs_cons (pg_name (i := 3) scBlocks.nd rfl (Or.inl rfl)) (pgs_cons (pg_name (i := 4) scBlocks.nd rfl (Or.inl rfl)) pgs_nil)))
       (pss_cons (ps_if (pt_cmpR op_gt (pv 4) pe_int (nomark _))
       (pss_one (ps_set (i := 3) scBlocks.nd rfl (Or.inl rfl) (pe_m (ok_keep T) hr (pv 0) (pa_cons (pe_gi T.i_BLOCK) (pa_cons (pv 3) (pa_cons (pv 4) pa_nil))))))
       pss_nil)
       (pss_one (ps_expr (pe_bm PySem.F.plainAttrs_list PySem.F.slot_list_append PySem.F.type_list_append mt_append (pv 5) (pa_cons (pe_tup (pa_cons (pv 3) (pa_cons pe_int pa_nil))) pa_nil))))))
       (pss_one (ps_ret (pv 5))))))), ?_⟩
    dsimp only [L2.start, List.map, List.map_cons, List.map_nil, List.append_eq, List.append, List.length_cons, List.length_nil, Nat.reduceAdd, Nat.reduceSub, List.replicate_succ, List.replicate_zero, List.cons_append, List.nil_append, cxOf]
    refine ⟨Nat.zero_le _, fun j hj => ?_⟩
    have sj := same_upd (o := .lst []) hj
    obtain ⟨as, hla, hF⟩ := id R
    have hlen : as.length = rs.length := hF.len
    have hwt := wt_pos rs
    dsimp only [gName, wipe, List.set_cons_succ, List.set_cons_zero]
    -- for name, many in runs
    refine ⟨_, rfl, l, rfl, ⟨_, SqL.of (sj _ _ hla)⟩, for_list (K := K) (a := l) (xs := as.map V.ref) (fun i σ H' => ∃ (js : List Rn) (v3 v4 : Option V), σ = [some (.ref a.s), some (.ref l), some (.ref j), v3, v4, none] ∧ Same H H' ∧ RunsAt H' j js ∧ Jn (rs.take i) js)
      ⟨[], none, none, rfl, sj, ⟨[], upd_same, .nil⟩, Jn.nil⟩ (fun i σ H' _ ⟨_, _, _, _, s1, _⟩ => SqL.of (s1 _ _ hla)) ?_ ?_⟩
    · rintro i y σ H' hi ⟨js, v3, v4, rfl, s1, Rj, J⟩
      obtain ⟨x, hx, rfl⟩ : ∃ x, as[i]? = some x ∧ y = V.ref x := by
        rw [List.getElem?_map] at hi
        cases e : as[i]? with
        | none => rw [e] at hi; cases hi
        | some x => rw [e] at hi; exact ⟨x, rfl, (Option.some.inj hi).symm⟩
      obtain ⟨r, hr1, hxr⟩ := hF.get i x hx
      have r1 := (go.one r (List.mem_of_getElem? hr1)).1
      refine ⟨x, _, rfl, SqT.of (s1 _ _ hxr), rfl, _, _, rfl, _, _, rfl, rfl, ?_⟩
      dsimp only [gName, wipe, List.set_cons_succ, List.set_cons_zero]
      obtain ⟨bs, hjl, hJF⟩ := id Rj
      refine ⟨_, rfl, !(bs.map V.ref).isEmpty, .inl ⟨_, SqL.of hjl, rfl⟩, ?_⟩
      have newJ : (js ≠ [] → VW.ls (js.map (·.1)) ≠ r.1) → ∀ p, H' p = none → ∃ (js' : List Rn) (v3 v4 : Option V), [some (.ref a.s), some (.ref l), some (.ref j), some (iV r.1), some (iV r.2), none] = [some (V.ref a.s), some (.ref l), some (.ref j), v3, v4, none] ∧ Same H (upd (upd H' p (.tup [iV r.1, iV r.2])) j (.lst (bs.map V.ref ++ [.ref p]))) ∧ RunsAt (upd (upd H' p (.tup [iV r.1, iV r.2])) j (.lst (bs.map V.ref ++ [.ref p]))) j js' ∧ Jn (rs.take (i + 1)) js' := fun hne p hp => by
        refine ⟨js ++ [(r.1, r.2)], _, _, rfl, fun b o e => ?_, runs_app Rj hjl rfl rfl hp, ?_⟩
        · rw [upd_ne (ne_of_none e hj)]
          exact same_upd hp _ _ (s1 b o e)
        · rw [take_snoc hr1]
          exact J.new r1 hne
      have hjlen : bs.length < sizeLine := by
        have a1 := J.wt
        have a2 := wt_pos js
        have a3 := wt_take (rs := rs) (i + 1)
        rw [take_snoc hr1, VW.wt_app, VW.wt_cons] at a3
        have a4 : 1 ≤ (if 1 < r.2 then 2 else 1) := by split <;> omega
        rw [hJF.len, sizeLine_eq]
        omega
      have hjlen' : (bs.map V.ref).length < sizeLine := by rw [List.length_map]; exact hjlen
      rcases List.eq_nil_or_concat js with ejs | ⟨js', rl, ejs⟩
      · subst ejs
        cases hJF
        refine iteF ?_
        refine iteF ?_
        refine ⟨_, rfl, .inl ⟨rfl, _, SqL.of hjl⟩, _, rfl, _, rfl, z2, fun p hp => ?_⟩
        refine ⟨j, _, _, rfl, rfl, same_upd hp _ _ hjl, hjlen', ?_⟩
        exact newJ (fun h => absurd rfl h) p hp
      · have ejs : js = js' ++ [rl] := by simpa using ejs
        subst ejs
        obtain ⟨bs', b, rfl, hJ1, hb⟩ := F2_unsnoc' hJF
        rw [List.map_append] at hjl
        have e1 : (!(List.map V.ref (bs' ++ [b])).isEmpty) = true := by simp
        rw [e1]
        refine iteT ?_
        refine ⟨_, rfl, _, rfl, j, _, _, V.ref b, rfl, rfl, SqL.of hjl, atI_last _ _, b, _, _, iV rl.1, rfl, rfl, SqT.of hb, rfl, _, rfl, rfl, _, rfl, ?_⟩
        by_cases e : rl.1 = r.1
        · rw [dec_iV, decide_eq_true e]
          refine iteT ?_
          refine ⟨_, rfl, _, rfl, _, rfl, j, _, _, V.ref b, rfl, rfl, SqL.of hjl, atI_last _ _, b, _, _, iV rl.2, rfl, rfl, SqT.of hb, rfl, _, rfl, _, _, rfl, rfl, z2, fun p hp => ?_⟩
          have s2 := same_upd (o := .tup [iV r.1, V.int ((rl.2 : Int) + (r.2 : Int))]) hp
          refine ⟨_, rfl, _, rfl, j, _, _, _, rfl, rfl, s2 _ _ hjl, ixN_last (bs'.map V.ref) (V.ref b), ?_⟩
          · have hset : (List.map V.ref bs' ++ List.map V.ref [b]).set (bs'.map V.ref).length (V.ref p) = (bs' ++ [p]).map V.ref := by
              rw [List.map_append]
              exact set_last (V.ref b) (V.ref p) (bs'.map V.ref)
            rw [hset]
            have stay : ∀ q ys, H' q = some (.tup ys) → upd (upd H' p (.tup [iV r.1, V.int ((rl.2 : Int) + (r.2 : Int))])) j (.lst ((bs' ++ [p]).map V.ref)) q = some (.tup ys) := fun q ys eq => by
              rw [upd_ne (ne_of (s2 _ _ eq) (s2 _ _ hjl) (by intro z; cases z))]
              exact s2 _ _ eq
            refine ⟨js' ++ [(rl.1, rl.2 + r.2)], _, _, rfl, fun q o eq => ?_, ⟨bs' ++ [p], upd_same, (hJ1.mono fun x r' eq => stay _ _ eq).snoc ?_⟩, ?_⟩
            · rw [upd_ne (ne_of_none eq hj)]
              exact s2 _ _ (s1 q o eq)
            · rw [upd_ne (ne_of (upd_same (H := H') (a := p) (o := .tup [iV r.1, V.int ((rl.2 : Int) + (r.2 : Int))])) (s2 _ _ hjl) (by intro z; cases z)), upd_same, ← e]
              rfl
            · rw [take_snoc hr1]
              exact J.more r1 e.symm
        · rw [dec_iV, decide_eq_false e]
          refine iteF ?_
          refine ⟨_, rfl, .inl ⟨rfl, _, SqL.of hjl⟩, _, rfl, _, rfl, z2, fun p hp => ?_⟩
          refine ⟨j, _, _, rfl, rfl, same_upd hp _ _ hjl, by rw [List.map_append] at hjlen'; exact hjlen', ?_⟩
          have := newJ (fun _ => by rw [List.map_append, List.map_cons, List.map_nil, VW.ls_snoc]; exact e) p hp
          rw [List.map_append] at this
          exact this
    · rintro σ H1 ⟨js, v3, v4, rfl, s1, Rj, J⟩
      have ef : rs.take (as.map V.ref).length = rs := by
        rw [List.length_map, hlen]
        exact List.take_length
      rw [ef] at J
      have D1 := D.same s1
      obtain ⟨bs, hjl, hJF⟩ := id Rj
      have hbl : bs.length = js.length := hJF.len
      have hjo : j ∉ six a := D.out_new hj
      refine ⟨Nat.zero_le _, fun f hf => ?_⟩
      have nf : H f = none := s1.free hf
      have fo : f ∉ six a := D1.out_new hf
      have fs : f ≠ a.s := fun e => by rw [e, D1.ob] at hf; cases hf
      have fj : j ≠ f := ne_of_none hjl hf
      have sf := same_upd (o := .lst []) hf
      have jlt : ∀ r ∈ js, r.1 < S.len ∧ S.birth r.1 ≤ t := fun r hr' => by
        have hm : r.1 ∈ unr js := List.mem_flatMap.mpr ⟨r, hr', by
          have := J.one r hr'
          simp
          omega⟩
        rw [J.unr] at hm
        obtain ⟨q, hq, hm⟩ := List.mem_flatMap.mp hm
        rw [List.eq_of_mem_replicate hm]
        exact go.lt q hq
      have hws := wt_pos js
      have hwj := J.wt
      dsimp only [gName, wipe, List.set_cons_succ, List.set_cons_zero]
      refine ⟨_, rfl, j, rfl, ⟨_, SqL.of (sf _ _ hjl)⟩, for_list (K := K) (a := j) (xs := bs.map V.ref) (fun i σ H' => ∃ (Si : Sto) (out : List Nat) (v3 v4 : Option V), σ = [some (.ref a.s), some (.ref l), some (.ref j), v3, v4, some (.ref f)] ∧ Le S Si ∧ StoreAt K H' a Si ∧ Kp a H1 H' ∧ RunsAt H' f (on1 out) ∧ Mgd Si t (unr (js.take i)) out ∧ Si.len + out.length ≤ S.len + wt (js.take i))
        ⟨S, [], _, _, rfl, Le.refl S, D1.same sf, Kp.same sf, ⟨[], upd_same, .nil⟩, Mgd.nil, Nat.le_refl _⟩ (fun i σ H' _ ⟨_, _, _, _, _, _, _, k1, _⟩ => SqL.of (k1 _ _ hjl hjo)) ?_ ?_⟩
      · rintro i y σ H' hi ⟨Si, out, v3, v4, rfl, le, Di, k1, Rf, M, few⟩
        obtain ⟨x, hx, rfl⟩ : ∃ x, bs[i]? = some x ∧ y = V.ref x := by
          rw [List.getElem?_map] at hi
          cases e : bs[i]? with
          | none => rw [e] at hi; cases hi
          | some x => rw [e] at hi; exact ⟨x, rfl, (Option.some.inj hi).symm⟩
        obtain ⟨r, hr1, hxr⟩ := hJF.get i x hx
        have hrm := List.mem_of_getElem? hr1
        have r1 := J.one r hrm
        have hxr' := D1.tup k1 hxr
        have hri := le.lt (jlt r hrm).1
        have hrb : Si.birth r.1 ≤ t := by rw [le.birth _ (jlt r hrm).1]; exact (jlt r hrm).2
        have etk := take_snoc hr1
        have ew := VW.wt_app (a := js.take i) (b := [r])
        rw [← etk, VW.wt_cons] at ew
        have ew2 := wt_take (rs := js) (i + 1)
        have onei : ∀ q ∈ js.take i, 1 ≤ q.2 := fun q hq => J.one q (List.mem_of_mem_take hq)
        have hch : js.take i ≠ [] → VW.ls ((js.take i).map (·.1)) ≠ r.1 := fun hne => by
          have c := J.ch
          rw [← List.take_append_drop (i + 1) js, etk, List.map_append, List.map_append] at c
          exact (VW.ch_app.mp (VW.ch_app.mp c).1).2.2 (fun z => hne (List.map_eq_nil_iff.mp z)) (by simp)
        refine ⟨x, _, rfl, SqT.of hxr', rfl, _, _, rfl, _, _, rfl, rfl, ?_⟩
        dsimp only [gName, wipe, List.set_cons_succ, List.set_cons_zero]
        refine ⟨_, rfl, _, _, rfl, rfl, _, rfl, ?_⟩
        -- what the list found gets
        have fin : ∀ (S2 : Sto) (H2 : Hp) (x2 : Nat) (v3 v4 : Option V), Le Si S2 → StoreAt K H2 a S2 → Kp a H' H2 → (r.2 = 1 ∧ x2 = r.1 ∨ VW.Comp S2 x2 t (List.replicate r.2 r.1)) → x2 < S2.len → S2.len ≤ Si.len + (if 1 < r.2 then 1 else 0) → ∀ p, H2 p = none → ∀ xs, H2 f = some (.lst xs) →
            xs.length < sizeLine ∧ ∃ (Sj : Sto) (out' : List Nat) (u3 u4 : Option V), [some (V.ref a.s), some (.ref l), some (.ref j), v3, v4, some (.ref f)] = [some (V.ref a.s), some (.ref l), some (.ref j), u3, u4, some (.ref f)] ∧ Le S Sj ∧ StoreAt K (upd (upd H2 p (.tup [iV x2, iV 1])) f (.lst (xs ++ [.ref p]))) a Sj ∧ Kp a H1 (upd (upd H2 p (.tup [iV x2, iV 1])) f (.lst (xs ++ [.ref p]))) ∧ RunsAt (upd (upd H2 p (.tup [iV x2, iV 1])) f (.lst (xs ++ [.ref p]))) f (on1 out') ∧ Mgd Sj t (unr (js.take (i + 1))) out' ∧ Sj.len + out'.length ≤ S.len + wt (js.take (i + 1)) := by
          intro S2 H2 x2 v3 v4 le2 D2 k2 hc hx2 few2 p hp xs hxs
          have Rf2 := Rf.kp Di k2 fo
          obtain ⟨fa, hfa, hfF⟩ := id Rf2
          have hlx : xs.length = out.length := by
            rw [hfa] at hxs
            have : fa.map V.ref = xs := by injection hxs with hxs; injection hxs
            rw [← this, List.length_map, hfF.len]
            simp [on1]
          refine ⟨?_, S2, out ++ [x2], _, _, rfl, le.trans le2, store_app D2 fo fs hp, kp_app (k1.trans k2) hf hp, by rw [on1_snoc]; exact runs_app Rf2 hxs rfl rfl hp, ?_, ?_⟩
          · rw [hlx, sizeLine_eq]
            split at ew <;> omega
          · rw [etk]
            exact VW.blk_step D2.ok he (M.le le2) (le2.lt hri) (by rw [le2.birth _ hri]; exact hrb) hx2 onei hch r1 hc
          · rw [List.length_append, List.length_singleton]
            split at ew <;> split at few2 <;> omega
        refine ite2 (fun hm => ?_) (fun hm => ?_)
        · have hm : 1 < r.2 := by
            have := of_decide_eq_true hm
            omega
          have mk : VW.Mk Si t (.B r.1 r.2) (List.replicate r.2 r.1) := by
            have c := go.ch
            rw [← J.unr] at c
            have e2 : unr js = unr (js.take i) ++ (List.replicate r.2 r.1 ++ unr (js.drop (i + 1))) := by
              conv => lhs; rw [← List.take_append_drop (i + 1) js, etk]
              rw [VW.unr_app, VW.unr_app, VW.unr_cons, show unr [] = [] from rfl]
              simp
            exact (VW.blk_mk he c e2 (jlt r hrm).1 (jlt r hrm).2 hm).le le
          have small : szs Si (List.replicate r.2 r.1) ≤ 10 ^ 18 := by
            have c := go.small
            rw [← J.unr, ← List.take_append_drop (i + 1) js, etk, VW.unr_app, VW.unr_app, VW.unr_cons, VW.szs_app, VW.szs_app, VW.szs_app] at c
            rw [le.szs fun z hz => by rw [List.eq_of_mem_replicate hz]; exact (jlt r hrm).1]
            omega
          refine ⟨_, rfl, a.s, a.dx, _, rfl, Di.ob, lk_no (by decide +kernel), _, rfl, _, rfl, a, Si, .B r.1 r.2, t, _, rfl, Di, .inr ⟨mk, small⟩, by rw [if_pos hm] at ew; omega, fun S2 x2 H2 kept D2 k2 => ?_⟩
          dsimp only [gName, wipe, List.set_cons_succ, List.set_cons_zero]
          obtain ⟨fa, hfa, _⟩ := Rf.kp Di k2 fo
          refine ⟨_, rfl, .inl ⟨rfl, _, SqL.of hfa⟩, _, rfl, z2, fun p hp => ?_⟩
          obtain ⟨g1, g2⟩ := fin S2 H2 x2 _ _ kept.le D2 k2 (.inr (kept.comp mk)) kept.lt (by rw [if_pos hm]; exact kept.few) p hp _ hfa
          exact ⟨f, _, _, rfl, rfl, same_upd hp _ _ hfa, g1, g2⟩
        · have hm : r.2 = 1 := by
            have : ¬ (1 : Int) < (r.2 : Int) := fun z => hm (decide_eq_true z)
            omega
          obtain ⟨fa, hfa, _⟩ := id Rf
          refine ⟨_, rfl, .inl ⟨rfl, _, SqL.of hfa⟩, _, rfl, z2, fun p hp => ?_⟩
          obtain ⟨g1, g2⟩ := fin Si H' r.1 _ _ (Le.refl _) Di (Kp.refl a H') (.inl ⟨hm, rfl⟩) hri (by omega) p hp _ hfa
          exact ⟨f, _, _, rfl, rfl, same_upd hp _ _ hfa, g1, g2⟩
      · rintro σ H' ⟨Si, out, v3, v4, rfl, le, Di, k1, Rf, M, few⟩
        have ej : js.take (bs.map V.ref).length = js := by
          rw [List.length_map, hbl]
          exact List.take_length
        rw [ej] at M few
        refine ⟨_, rfl, ?_⟩
        exact k Si H' f out le Di ((Kp.same s1).trans k1) (by rw [← J.unr]; exact M) (by omega) nf Rf
theorem unr_ones : ∀ {rs : List Rn}, (∀ r ∈ rs, r.2 = 1) → unr rs = rs.map (·.1)
  | [], _ => rfl
  | r :: rs, h => by
    rw [VW.unr_cons, h r (by simp), unr_ones fun q hq => h q (List.mem_cons_of_mem _ hq)]
    rfl
theorem map_iV {as : List Nat} {i x : Nat} (h : as[i]? = some x) : (as.map iV)[i]? = some (iV x) := by rw [List.getElem?_map, h] <;> rfl
theorem scPairs : FnScope ["store", "runs", "turn", "names", "found", "at", "name", "many"] ["store", "runs", "turn"] (defScope s_pairs) := ⟨rfl, rfl, rfl, by decide +kernel, rfl, by decide +kernel, by decide +kernel⟩
theorem ok_pairs (T : Txt K mg) : FX P w K mg base 5 "pairs" (spPairs K) [] := by
  refine fx_mk T.f_pairs T.g_pairs scPairs (fun _ _ _ _ _ _ us hl => match us, hl with | [_, _, _], _ => rfl) (fun vs H Q E h => ?_) (fun cdv A outer s H vs Q E hr h => ?_)
  · obtain ⟨_, _, _, _, _, rfl, _⟩ := h
    rfl
  · obtain ⟨a, S, l, rs, t, rfl, ho, D, hl, R, go, cap, k⟩ := h
    refine ⟨_, (pss_cons (ps_setLc (i := 3) (own := [("name", 6), ("many", 7)]) (g := (gTup K 2 (gCons (gName 6) (gCons (gName 7) gNil)))) (tt := tYes) rfl scPairs.nd rfl rfl (sw_true rfl rfl rfl (by decide +kernel)) (pi_list (pv 1)) (blkOk_by (N := ["store", "runs", "turn", "names", "found", "at", "name", "many"]) (sc := defScope s_pairs) (by decide +kernel)) (fun _ _ _ _ _ => (pg_tup rfl (pgs_cons (pg_name (i := 6) scPairs.nd rfl (Or.inl rfl)) (pgs_cons (pg_name (i := 7) scPairs.nd rfl (Or.inl rfl)) pgs_nil)))) (fun _ _ _ _ _ => pts_nil) (fun _ _ _ _ _ => (pv 6)))
       (pss_cons (ps_set (i := 4) scPairs.nd rfl (Or.inl rfl) (pe_lst pa_nil))
       (pss_cons (ps_set (i := 5) scPairs.nd rfl (Or.inl rfl) pe_int)
       (pss_cons (ps_while PassesOwn.never (pt_cmpR op_lt (pv 5) (pe_callB call_len_seq (by rfl) T.b_len PySem.boot_len (pa_cons (pv 3) pa_nil)) (nomark _))
       (pss_cons (ps_set (i := 6) scPairs.nd rfl (Or.inl rfl) (pe_ix ix_list (pv 3) (pv 5) (fun _ _ => rfl)))
       (pss_cons (ps_if (PW.pt (pw_and (pt_cmpR op_lt (pe_op op_add (pv 5) pe_int) (pe_callB call_len_seq (by rfl) T.b_len PySem.boot_len (pa_cons (pv 3) pa_nil)) (nomark _)) (pw_and1 (pt_val (pe_m (ok_meet T) hr (pv 0) (pa_cons (pv 6) (pa_cons (pe_ix ix_list (pv 3) (pe_op op_add (pv 5) pe_int) (fun _ _ => rfl)) (pa_cons (pv 2) pa_nil))))))))
       (pss_cons (ps_set (i := 6) scPairs.nd rfl (Or.inl rfl) (pe_m (ok_keep T) hr (pv 0) (pa_cons (pe_gi T.i_PAIR) (pa_cons (pv 6) (pa_cons (pe_ix ix_list (pv 3) (pe_op op_add (pv 5) pe_int) (fun _ _ => rfl)) pa_nil)))))
       (pss_one (ps_aug (i := 5) scPairs.nd rfl (Or.inl rfl) pe_int ip_add)))
       pss_nil)
       (pss_cons (ps_expr (pe_bm PySem.F.plainAttrs_list PySem.F.slot_list_append PySem.F.type_list_append mt_append (pv 4) (pa_cons (pe_tup (pa_cons (pv 6) (pa_cons pe_int pa_nil))) pa_nil)))
       (pss_one (ps_aug (i := 5) scPairs.nd rfl (Or.inl rfl) pe_int ip_add))))))
       (pss_one (ps_ret (pv 4))))))), ?_⟩
    dsimp only [L2.start, List.map, List.map_cons, List.map_nil, List.append_eq, List.append, List.length_cons, List.length_nil, Nat.reduceAdd, Nat.reduceSub, List.replicate_succ, List.replicate_zero, List.cons_append, List.nil_append, cxOf]
    obtain ⟨as, hla, hF⟩ := id R
    have hlen : as.length = rs.length := hF.len
    have hwt := wt_pos rs
    have ones : ∀ r ∈ rs, r.2 = 1 := fun r hr' => (go.one r hr').2 ho
    have hu : unr rs = rs.map (·.1) := unr_ones ones
    obtain ⟨g1, g2, g3, g4⟩ := go
    rw [hu] at g3 g4 k
    have nlt : ∀ z ∈ rs.map (·.1), z < S.len ∧ S.birth z ≤ t := fun z hz => by
      obtain ⟨r, hr', rfl⟩ := List.mem_map.mp hz
      exact g1 r hr'
    have nlen : (rs.map (·.1)).length = rs.length := List.length_map _
    have hnm : ∀ i, i < rs.length → (rs.map (·.1))[i]? ≠ none := fun i hi => by simp [hi]
    generalize hns : rs.map (·.1) = ns at *
    -- names
    refine ⟨_, rfl, l, rfl, ⟨_, SqL.of hla⟩, fun nl hnl => ?_⟩
    have nlo := same_upd (o := .lst []) hnl
    refine lc_list (K := K) (a := l) (xs := as.map V.ref) (fun i H' => H' = upd H nl (.lst ((ns.take i).map iV))) rfl (fun i H' _ e => by rw [e, ]; exact SqL.of (same_upd hnl _ _ hla)) ?_ ?_
    · rintro i y H' hi rfl
      obtain ⟨x, hx, rfl⟩ : ∃ x, as[i]? = some x ∧ y = V.ref x := by
        rw [List.getElem?_map] at hi
        cases e : as[i]? with
        | none => rw [e] at hi; cases hi
        | some x => rw [e] at hi; exact ⟨x, rfl, (Option.some.inj hi).symm⟩
      obtain ⟨r, hr1, hxr⟩ := hF.get i x hx
      refine ⟨x, _, rfl, SqT.of (same_upd hnl _ _ hxr), rfl, _, _, rfl, _, _, rfl, rfl, rfl, ?_⟩
      have hi2 : i < rs.length := (List.getElem?_eq_some_iff.mp hr1).1
      refine ⟨_, rfl, _, upd_same, ?_, ?_⟩
      · rw [List.length_map, List.length_take, sizeLine_eq]
        omega
      · have e : ns[i]? = some r.1 := by rw [← hns, List.getElem?_map, hr1] <;> rfl
        rw [upd_upd, take_snoc e, List.map_append]
        rfl
    · rintro H1 rfl
      have el : ns.take (as.map V.ref).length = ns := List.take_of_length_le (by rw [List.length_map, hlen, ← nlen]; exact Nat.le_refl _)
      rw [el]
      have s1 := same_upd (o := .lst (ns.map iV)) hnl
      have D1 := D.same s1
      have hnls : upd H nl (.lst (ns.map iV)) nl = some (.lst (ns.map iV)) := upd_same
      have nlo : nl ∉ six a := D.out_new hnl
      generalize upd H nl (.lst (ns.map iV)) = H1 at s1 D1 hnls
      dsimp only [gName, wipe, List.set_cons_succ, List.set_cons_zero]
      refine ⟨Nat.zero_le _, fun f hf => ?_⟩
      have nf : H f = none := s1.free hf
      have fo : f ∉ six a := D1.out_new hf
      have fs : f ≠ a.s := fun e => by rw [e, D1.ob] at hf; cases hf
      have sf := same_upd (o := .lst []) hf
      dsimp only [gName, wipe, List.set_cons_succ, List.set_cons_zero]
      refine ⟨fun m σ H' => ∃ (i : Nat) (Si : Sto) (out : List Nat) (v6 : Option V), m = ns.length - i ∧ σ = [some (.ref a.s), some (.ref l), some (iV t), some (.ref nl), some (.ref f), some (iV i), v6, none] ∧ i ≤ ns.length ∧ Le S Si ∧ StoreAt K H' a Si ∧ Kp a H1 H' ∧ RunsAt H' f (on1 out) ∧ Mgd Si t (ns.take i) out ∧ Si.len + out.length ≤ S.len + i ∧
          (∀ (p : Nat), i = p + 1 → ∀ y z, ns[p]? = some y → ns[i]? = some z → ¬ Meet y z t),
        ⟨_, 0, S, [], none, rfl, rfl, Nat.zero_le _, Le.refl S, D1.same sf, Kp.same sf, ⟨[], upd_same, .nil⟩, Mgd.nil, Nat.le_refl _, fun p e => by omega⟩, ?_⟩
      rintro m σ H' ⟨i, Si, out, v6, rfl, rfl, hi, le, Di, k1, Rf, M, few, hb⟩
      have hl' := k1 _ _ hnls nlo
      refine ⟨_, rfl, _, rfl, nl, _, rfl, .inl (SqL.of hl'), _, _, rfl, rfl, _, rfl, ?_⟩
      rw [List.length_map]
      refine ite2 (fun hin => ?_) (fun hin => ?_)
      · have hin : i < ns.length := by
          have := of_decide_eq_true hin
          omega
        refine ⟨_, fun σ' H' z => z, ?_⟩
        obtain ⟨x, hx⟩ : ∃ x, ns[i]? = some x := ⟨_, List.getElem?_eq_getElem hin⟩
        have hxl := nlt x (List.mem_of_getElem? hx)
        have hxi := le.lt hxl.1
        have hxb : Si.birth x ≤ t := by rw [le.birth _ hxl.1]; exact hxl.2
        refine ⟨_, rfl, _, rfl, nl, _, _, iV x, rfl, rfl, SqL.of hl', atI_nat (map_iV hx), ?_⟩
        dsimp only [gName, wipe, List.set_cons_succ, List.set_cons_zero]
        have hcap : out.length < 16777216 := by
          have := le.len
          omega
        -- what the list found gets
        have fin : ∀ (S2 : Sto) (H2 : Hp) (x2 i2 : Nat) (v6 : Option V), Le Si S2 → StoreAt K H2 a S2 → Kp a H' H2 → S2.len + (out.length + 1) ≤ S.len + i2 → Mgd S2 t (ns.take i2) (out ++ [x2]) → i < i2 → i2 ≤ ns.length → (∀ (p : Nat), i2 = p + 1 → ∀ y z, ns[p]? = some y → ns[i2]? = some z → ¬ Meet y z t) → ∀ p, H2 p = none → ∀ xs, H2 f = some (.lst xs) →
            xs.length < sizeLine ∧ ∃ (m' : Nat), m' < ns.length - i ∧ ∃ (j : Nat) (Sj : Sto) (out' : List Nat) (u6 : Option V), m' = ns.length - j ∧ [some (V.ref a.s), some (.ref l), some (iV t), some (.ref nl), some (.ref f), some (iV i2), v6, none] = [some (V.ref a.s), some (.ref l), some (iV t), some (.ref nl), some (.ref f), some (iV j), u6, none] ∧ j ≤ ns.length ∧ Le S Sj ∧ StoreAt K (upd (upd H2 p (.tup [iV x2, iV 1])) f (.lst (xs ++ [.ref p]))) a Sj ∧ Kp a H1 (upd (upd H2 p (.tup [iV x2, iV 1])) f (.lst (xs ++ [.ref p]))) ∧ RunsAt (upd (upd H2 p (.tup [iV x2, iV 1])) f (.lst (xs ++ [.ref p]))) f (on1 out') ∧ Mgd Sj t (ns.take j) out' ∧ Sj.len + out'.length ≤ S.len + j ∧
              (∀ (p : Nat), j = p + 1 → ∀ y z, ns[p]? = some y → ns[j]? = some z → ¬ Meet y z t) := by
          intro S2 H2 x2 i2 v6 le2 D2 k2 few2 M2 hi2 hi3 hb2 p hp xs hxs
          have Rf2 := Rf.kp Di k2 fo
          obtain ⟨fa, hfa, hfF⟩ := id Rf2
          have hlx : xs.length = out.length := by
            rw [hfa] at hxs
            have : fa.map V.ref = xs := by injection hxs with hxs; injection hxs
            rw [← this, List.length_map, hfF.len]
            simp [on1]
          refine ⟨by rw [hlx, sizeLine_eq]; exact hcap, ns.length - i2, by omega, i2, S2, out ++ [x2], _, rfl, rfl, hi3, le.trans le2, store_app D2 fo fs hp, kp_app (k1.trans k2) hf hp, by rw [on1_snoc]; exact runs_app Rf2 hxs rfl rfl hp, M2, by rw [List.length_append]; exact few2, hb2⟩
        have lone : (∀ z, ns[i + 1]? = some z → ¬ Meet x z t) → ∀ p, H' p = none → ∀ xs, H' f = some (.lst xs) → _ := fun hnx p hp xs hxs =>
          fin Si H' x (i + 1) (some (iV x)) (Le.refl _) Di (Kp.refl a H') (by omega) (VW.lone_step Di.ok ho M (fun p e y hy => hb p e y x hy hx) hx ⟨hxi, hxb⟩) (by omega) (by omega) (fun p e y z hy hz => by
            have : p = i := by omega
            subst this
            rw [hx] at hy
            cases hy
            exact hnx z hz) p hp xs hxs
        obtain ⟨fa, hfa, _⟩ := id Rf
        refine ⟨_, rfl, _, _, rfl, rfl, _, rfl, nl, _, rfl, .inl (SqL.of hl'), _, _, rfl, rfl, _, rfl, ?_⟩
        rw [List.length_map]
        refine ite2 (fun hin2 => ?_) (fun hin2 => ?_)
        · have hin2 : i + 1 < ns.length := by
            have := of_decide_eq_true hin2
            omega
          obtain ⟨y, hy⟩ : ∃ y, ns[i + 1]? = some y := ⟨_, List.getElem?_eq_getElem hin2⟩
          have hyl := nlt y (List.mem_of_getElem? hy)
          have hyi := le.lt hyl.1
          have hyb : Si.birth y ≤ t := by rw [le.birth _ hyl.1]; exact hyl.2
          refine ⟨_, rfl, a.s, a.dx, _, rfl, Di.ob, lk_no (by decide +kernel), _, rfl, _, rfl, _, rfl, _, _, rfl, rfl, nl, _, _, iV y, rfl, rfl, SqL.of hl', atI_nat (j := i + 1) (map_iV hy), _, rfl, _, _, _, x, y, t, rfl, rfl, rfl, Nat.lt_of_lt_of_le hxi Di.cap, Nat.lt_of_lt_of_le hyi Di.cap, _, rfl, ?_⟩
          by_cases mt : Meet x y t
          · rw [decide_eq_true mt]
            refine iteT ?_
            have mk : VW.Mk Si t (.P x y) [x, y] := (VW.pair_mk ho g3 nlt hx hy mt).le le
            have small : szs Si [x, y] ≤ 10 ^ 18 := by
              have e1 := take_snoc hx
              have e2 := take_snoc hy
              rw [e1] at e2
              rw [← List.take_append_drop (i + 1 + 1) ns, e2, VW.szs_app, VW.szs_app, VW.szs_app] at g4
              rw [szs_two, le.size _ hxl.1, le.size _ hyl.1]
              simp only [VW.szs_cons, VW.szs_nil] at g4
              omega
            refine ⟨_, rfl, a.s, a.dx, _, rfl, Di.ob, lk_no (by decide +kernel), _, rfl, _, rfl, _, rfl, _, _, rfl, rfl, nl, _, _, iV y, rfl, rfl, SqL.of hl', atI_nat (j := i + 1) (map_iV hy), a, Si, .P x y, t, _, rfl, Di, .inr ⟨mk, small⟩, by omega, fun S2 x2 H2 kept D2 k2 => ?_⟩
            dsimp only [gName, wipe, List.set_cons_succ, List.set_cons_zero]
            have kfew := kept.few
            obtain ⟨fa, hfa, _⟩ := Rf.kp Di k2 fo
            refine ⟨_, rfl, _, _, rfl, rfl, ?_⟩
            dsimp only [gName, wipe, List.set_cons_succ, List.set_cons_zero]
            refine ⟨_, rfl, .inl ⟨rfl, _, SqL.of hfa⟩, _, rfl, z2, fun p hp => ?_⟩
            obtain ⟨q1, q2⟩ := fin S2 H2 x2 (i + 2) _ kept.le D2 k2 (by omega) (VW.pair_step D2.ok ho (M.le kept.le) (fun p e z hz => hb p e z x hz hx) hx hy kept.lt ⟨kept.le.lt hxi, by rw [kept.le.birth _ hxi]; exact hxb⟩ ⟨kept.le.lt hyi, by rw [kept.le.birth _ hyi]; exact hyb⟩ (kept.comp mk)) (by omega) (by omega) (fun p e y' z hy' hz => by
                have : p = i + 1 := by omega
                subst this
                rw [hy] at hy'
                cases hy'
                exact VW.meet_once mt) p hp _ hfa
            exact ⟨f, _, _, rfl, rfl, same_upd hp _ _ hfa, q1, _, rfl, _, _, rfl, rfl, q2⟩
          · rw [decide_eq_false mt]
            refine iteF ?_
            refine ⟨_, rfl, .inl ⟨rfl, _, SqL.of hfa⟩, _, rfl, z2, fun p hp => ?_⟩
            obtain ⟨q1, q2⟩ := lone (fun z hz => by rw [hy] at hz; cases hz; exact mt) p hp _ hfa
            exact ⟨f, _, _, rfl, rfl, same_upd hp _ _ hfa, q1, _, rfl, _, _, rfl, rfl, q2⟩
        · have hin2 : ¬ i + 1 < ns.length := fun z => hin2 (decide_eq_true (by omega))
          refine iteF ?_
          refine ⟨_, rfl, .inl ⟨rfl, _, SqL.of hfa⟩, _, rfl, z2, fun p hp => ?_⟩
          obtain ⟨q1, q2⟩ := lone (fun z hz => absurd (List.getElem?_eq_some_iff.mp hz).1 hin2) p hp _ hfa
          exact ⟨f, _, _, rfl, rfl, same_upd hp _ _ hfa, q1, _, rfl, _, _, rfl, rfl, q2⟩
      · have : i = ns.length := by
          have : ¬ (i : Int) < (ns.length : Int) := fun z => hin (decide_eq_true z)
          omega
        subst this
        rw [List.take_length] at M
        refine ⟨_, rfl, ?_⟩
        exact k Si H' f out le Di ((Kp.same s1).trans k1) M (by omega) nf Rf
end
end VT
set_option Elab.async false
set_option linter.all false
set_option maxRecDepth 100000
set_option maxHeartbeats 4000000
/-! The heap of loosened: the parts left, the loose runs. -/
namespace VT
open PySem PySem.Spec PyProof.Rows L2
open VW (Sto Node Ok Le Loc Al Seg Rn unr wt F2 OffL OffR side Meet Pc szs Kept Mgd Jn Ch Sep on1 Part PM WS LI HL HR wsum fsum lf rf)
def PartAt' (H : Hp) (x : Addr) (p : Part) : Prop := PartAt H x p.top p.lo p.hi
def PartsAt (H : Hp) (l : Addr) (P : List Part) : Prop := ∃ as : List Addr, H l = some (.lst (as.map V.ref)) ∧ F2 (PartAt' H) as P
def GapsAt (H : Hp) (l : Addr) (G : List (List Rn)) : Prop := ∃ gs : List Addr, H l = some (.lst (gs.map V.ref)) ∧ F2 (RunsAt H) gs G
theorem F2_app {α β : Type} {R : α → β → Prop} : ∀ {a a' : List α} {b b' : List β}, F2 R a b → F2 R a' b' → F2 R (a ++ a') (b ++ b')
  | _, _, _, _, .nil, h => h
  | _, _, _, _, .cons r t, h => .cons r (F2_app t h)
theorem F2_imp {α β : Type} {R R' : α → β → Prop} : ∀ {a : List α} {b : List β}, F2 R a b → (∀ x ∈ a, ∀ y ∈ b, R x y → R' x y) → F2 R' a b
  | _, _, .nil, _ => .nil
  | _, _, .cons r t, f => .cons (f _ (by simp) _ (by simp) r) (F2_imp t fun x hx y hy => f x (List.mem_cons_of_mem _ hx) y (List.mem_cons_of_mem _ hy))
theorem PartsAt.same {H H' : Hp} {l : Addr} {P : List Part} (h : PartsAt H l P) (k : Same H H') : PartsAt H' l P := by
  obtain ⟨as, h1, h2⟩ := h
  exact ⟨as, k _ _ h1, h2.mono fun x p e => k _ _ e⟩
theorem GapsAt.same {H H' : Hp} {l : Addr} {G : List (List Rn)} (h : GapsAt H l G) (k : Same H H') : GapsAt H' l G := by
  obtain ⟨as, h1, h2⟩ := h
  exact ⟨as, k _ _ h1, h2.mono fun x p e => e.same k⟩
/-- a runs list stands where nothing but another list is written -/
theorem RunsAt.upd {H : Hp} {c b : Addr} {rs : List Rn} {xs ys : List V} (h : RunsAt H c rs) (hb : H b = some (.lst xs)) (n : c ≠ b) : RunsAt (upd H b (.lst ys)) c rs := by
  obtain ⟨as, h1, h2⟩ := h
  refine ⟨as, by rw [upd_ne n]; exact h1, h2.mono fun x r e => ?_⟩
  rw [upd_ne (ne_of e hb (by intro z; cases z))]
  exact e
theorem RunsAt.lst {H : Hp} {c : Addr} {rs : List Rn} (h : RunsAt H c rs) : ∃ xs, H c = some (.lst xs) ∧ xs.length = rs.length := by
  obtain ⟨as, h1, h2⟩ := h
  exact ⟨_, h1, by rw [List.length_map, h2.len]⟩
theorem runs_ext {H : Hp} {b c : Addr} {rs qs : List Rn} {xs ys : List V} (h : RunsAt H b rs) (h' : RunsAt H c qs) (hx : H b = some (.lst xs)) (hy : H c = some (.lst ys)) : RunsAt (L2.upd H b (.lst (xs ++ ys))) b (rs ++ qs) := by
  obtain ⟨as, h1, h2⟩ := h
  obtain ⟨bs, h3, h4⟩ := h'
  rw [h1] at hx
  rw [h3] at hy
  have e1 : as.map V.ref = xs := by injection hx with hx; injection hx
  have e2 : bs.map V.ref = ys := by injection hy with hy; injection hy
  subst e1
  subst e2
  have keep : ∀ x r, H x = some (.tup r) → L2.upd H b (.lst (as.map V.ref ++ bs.map V.ref)) x = some (.tup r) := fun x r e => by
    rw [upd_ne (ne_of e h1 (by intro z; cases z))]
    exact e
  exact ⟨as ++ bs, by rw [upd_same, List.map_append], F2_app (h2.mono fun x r e => keep _ _ e) (h4.mono fun x r e => keep _ _ e)⟩
theorem runs_cat {H : Hp} {b c p : Addr} {rs qs : List Rn} {xs ys : List V} (h : RunsAt H b rs) (h' : RunsAt H c qs) (hx : H b = some (.lst xs)) (hy : H c = some (.lst ys)) (hp : H p = none) : RunsAt (L2.upd H p (.lst (xs ++ ys))) p (rs ++ qs) := by
  obtain ⟨as, h1, h2⟩ := h
  obtain ⟨bs, h3, h4⟩ := h'
  rw [h1] at hx
  rw [h3] at hy
  have e1 : as.map V.ref = xs := by injection hx with hx; injection hx
  have e2 : bs.map V.ref = ys := by injection hy with hy; injection hy
  subst e1
  subst e2
  have s := same_upd (o := .lst (as.map V.ref ++ bs.map V.ref)) hp
  exact ⟨as ++ bs, by rw [upd_same, List.map_append], F2_app (h2.mono fun x r e => s _ _ e) (h4.mono fun x r e => s _ _ e)⟩
/-- the lists that loosened makes: the parts left at lp, the loose runs at lo, b the last of them -/
structure LoopH (H0 H : Hp) (lpa loa : Addr) (lp : List Part) (gs : List (List Rn)) (g : List Rn) (ps as : List Addr) (b : Addr) : Prop where
  same : Same H0 H
  hl : H lpa = some (.lst (ps.map V.ref))
  hp : F2 (PartAt' H) ps lp
  ho : H loa = some (.lst (as.map V.ref ++ [.ref b]))
  ha : F2 (RunsAt H) as gs
  hb : RunsAt H b g
  n1 : H0 lpa = none
  n2 : H0 loa = none
  n3 : ∀ x ∈ as, H0 x = none
  n4 : H0 b = none
  d1 : lpa ≠ loa
  d2 : lpa ≠ b
  d3 : loa ≠ b
  d4 : ∀ x ∈ as, x ≠ b ∧ x ≠ lpa ∧ x ≠ loa
section
variable {H0 H H1 : Hp} {lpa loa b : Addr} {lp : List Part} {gs : List (List Rn)} {g : List Rn} {ps as : List Addr}
theorem LoopH.grow (L : LoopH H0 H lpa loa lp gs g ps as b) (s : Same H H1) : LoopH H0 H1 lpa loa lp gs g ps as b :=
  ⟨L.same.trans s, s _ _ L.hl, L.hp.mono fun x p e => s _ _ e, s _ _ L.ho, L.ha.mono fun x p e => e.same s, L.hb.same s, L.n1, L.n2, L.n3, L.n4, L.d1, L.d2, L.d3, L.d4⟩
/-- the last loose list is made longer -/
theorem LoopH.ext (L : LoopH H0 H lpa loa lp gs g ps as b) {c : Addr} {r : List Rn} {xs ys : List V} (h : RunsAt H c r) (hx : H b = some (.lst xs)) (hy : H c = some (.lst ys)) : LoopH H0 (L2.upd H b (.lst (xs ++ ys))) lpa loa lp gs (g ++ r) ps as b := by
  refine ⟨fun x o e => ?_, ?_, L.hp.mono fun x p e => ?_, ?_, F2_imp L.ha fun x hx' p hp' e => e.upd hx (L.d4 x hx').1, runs_ext L.hb h hx hy, L.n1, L.n2, L.n3, L.n4, L.d1, L.d2, L.d3, L.d4⟩
  · rw [upd_ne (ne_of_none e L.n4)]
    exact L.same _ _ e
  · rw [upd_ne L.d2]
    exact L.hl
  · show L2.upd H b _ x = _
    rw [upd_ne (ne_of (show H x = _ from e) hx (by intro z; cases z))]
    exact e
  · rw [upd_ne L.d3]
    exact L.ho
/-- a part more is left -/
theorem LoopH.part (L : LoopH H0 H lpa loa lp gs g ps as b) {x : Addr} {p : Part} (h : PartAt' H x p) : LoopH H0 (L2.upd H lpa (.lst (ps.map V.ref ++ [.ref x]))) lpa loa (lp ++ [p]) gs g (ps ++ [x]) as b := by
  have keep : ∀ y r, H y = some (.tup r) → L2.upd H lpa (.lst (ps.map V.ref ++ [.ref x])) y = some (.tup r) := fun y r e => by
    rw [upd_ne (ne_of e L.hl (by intro z; cases z))]
    exact e
  refine ⟨fun y o e => ?_, by rw [upd_same, List.map_append]; rfl, (L.hp.mono fun y q e => keep _ _ e).snoc (keep _ _ h), ?_, F2_imp L.ha fun y hy q hq e => e.upd L.hl (L.d4 y hy).2.1, L.hb.upd L.hl L.d2.symm, L.n1, L.n2, L.n3, L.n4, L.d1, L.d2, L.d3, L.d4⟩
  · rw [upd_ne (ne_of_none e L.n1)]
    exact L.same _ _ e
  · rw [upd_ne L.d1.symm]
    exact L.ho
/-- a loose list more -/
theorem LoopH.gap (L : LoopH H0 H lpa loa lp gs g ps as b) {c : Addr} {r : List Rn} (h : RunsAt H c r) (n : H0 c = none) (c1 : c ≠ lpa) (c2 : c ≠ loa) (c3 : c ≠ b) (c4 : ∀ x ∈ as, x ≠ c) :
    LoopH H0 (L2.upd H loa (.lst ((as.map V.ref ++ [.ref b]) ++ [.ref c]))) lpa loa lp (gs ++ [g]) r ps (as ++ [b]) c := by
  refine ⟨fun y o e => ?_, ?_, L.hp.mono fun y q e => ?_, by rw [upd_same, List.map_append]; rfl, (F2_imp L.ha fun y hy q hq e => e.upd L.ho (L.d4 y hy).2.2).snoc (L.hb.upd L.ho L.d3.symm), h.upd L.ho c2, L.n1, L.n2, ?_, n, L.d1, c1.symm, c2.symm, ?_⟩
  · rw [upd_ne (ne_of_none e L.n2)]
    exact L.same _ _ e
  · rw [upd_ne L.d1]
    exact L.hl
  · show L2.upd H loa _ y = _
    rw [upd_ne (ne_of (show H y = _ from e) L.ho (by intro z; cases z))]
    exact e
  · intro x hx
    rcases List.mem_append.mp hx with q | q
    · exact L.n3 x q
    · have : x = b := by simpa using q
      rw [this]
      exact L.n4
  · intro x hx
    rcases List.mem_append.mp hx with q | q
    · exact ⟨c4 x q, (L.d4 x q).2⟩
    · have : x = b := by simpa using q
      rw [this]
      exact ⟨c3.symm, L.d2.symm, L.d3.symm⟩
theorem LoopH.fresh (L : LoopH H0 H lpa loa lp gs g ps as b) {c : Addr} (hc : H c = none) : c ≠ lpa ∧ c ≠ loa ∧ c ≠ b ∧ ∀ x ∈ as, x ≠ c := by
  refine ⟨(ne_of_none L.hl hc).symm, (ne_of_none L.ho hc).symm, ?_, fun x hx => ?_⟩
  · obtain ⟨xs, h, _⟩ := L.hb.lst
    exact (ne_of_none h hc).symm
  · obtain ⟨i, hi⟩ := List.getElem?_of_mem hx
    obtain ⟨r, _, q⟩ := L.ha.get i x hi
    obtain ⟨xs, h, _⟩ := q.lst
    exact ne_of_none h hc
theorem LoopH.gaps (L : LoopH H0 H lpa loa lp gs g ps as b) : GapsAt H loa (gs ++ [g]) := ⟨as ++ [b], by rw [List.map_append]; exact L.ho, L.ha.snoc L.hb⟩
end
/-! ### tests whose answer is known -/
def An (t : TT) (σ : L2.St) (H : Hp) (b : Bool) : Prop := ∀ Q : Bool → Hp → Prop, Q b H → t σ H Q
section
variable {t u c : TT} {σ : L2.St} {H : Hp} {b1 b2 : Bool} {t1 t2 : TS} {D : Ends}
theorem an_or (h1 : An t σ H b1) (h2 : An u σ H b2) : An (tOr t u) σ H (b1 || b2) := fun Q q => h1 _ (by
  cases b1 with
  | true => exact q
  | false => exact h2 _ q)
theorem an_and (h1 : An t σ H b1) (h2 : b1 = true → An u σ H b2) : An (tAnd t u) σ H (b1 && b2) := fun Q q => h1 _ (by
  cases b1 with
  | true => exact h2 rfl _ q
  | false => exact q)
theorem if_an (h : An c σ H b1) (y : b1 = true → t1 D σ H) (n : b1 = false → t2 D σ H) : tIfS c t1 t2 D σ H := h _ (by
  cases b1 with
  | true => exact y rfl
  | false => exact n rfl)
theorem An.to {b' : Bool} (h : An t σ H b1) (e : b1 = b') : An t σ H b' := e ▸ h
end
theorem wt_le_len {rs : List Rn} : rs.length ≤ wt rs := wt_pos rs
theorem fsum_le {S : Sto} {n : Nat} : ∀ {l : List Part} {i : Nat}, fsum S n i l ≤ 2 * l.length
  | [], _ => Nat.le_refl _
  | p :: r, i => by
    have h1 := VW.b2_le (lf i p)
    have h2 := VW.b2_le (rf S n i p)
    have h3 := fsum_le (S := S) (n := n) (l := r) (i := i + 1)
    show VW.b2 (lf i p) + VW.b2 (rf S n i p) + fsum S n (i + 1) r ≤ _
    rw [List.length_cons]
    omega
theorem wsum_take {G : List (List Rn)} (k : Nat) : wsum (G.take k) ≤ wsum G := by
  have := VW.wsum_app (a := G.take k) (b := G.drop k)
  rw [List.take_append_drop] at this
  omega
end VT
set_option Elab.async false
set_option linter.all false
set_option maxRecDepth 100000
set_option maxHeartbeats 4000000
/-! loosened. -/
namespace VT
open PySem PySem.Spec PyProof.Rows L2
open VW (Sto Node Ok Le Loc Al Seg Rn unr wt F2 OffL OffR side Meet Pc szs Kept Mgd Jn Ch Sep on1 Part PM WS LI HL HR wsum fsum lf rf)
def spLoosened (K : PySem.W.Frag) : Sp := fun vs H Q _ => ∃ (a : SA) (S : Sto) (held gaps : Addr) (t : Nat) (P : List Part) (ms : List (List Nat)) (G : List (List Rn)) (X : List Nat), vs = [.ref a.s, .ref held, .ref gaps, iV t] ∧ StoreAt K H a S ∧ PartsAt H held P ∧ GapsAt H gaps G ∧ WS S t P ms G X ∧ wsum G + 4 * P.length + 8 ≤ 16777216 ∧
  ∀ H' p hl gl lp gs g ms' ps as b, LI S t P ms G P.length lp gs g ms' → LoopH H H' hl gl lp gs g ps as b → H' p = some (.tup [.ref hl, .ref gl]) → Q (.ref p) H'
section
variable {P : Program} {w : World} {K : PySem.W.Frag} {mg : Str → Option Value} {base : Heap}
theorem scLoos : FnScope ["store", "held", "gaps", "turn", "left_parts", "loose", "k", "part", "behind", "found", "inner"] ["store", "held", "gaps", "turn"] (defScope s_loosened) := ⟨rfl, rfl, rfl, by decide +kernel, rfl, by decide +kernel, by decide +kernel⟩
theorem ok_loosened (T : Txt K mg) : FX P w K mg base 5 "loosened" (spLoosened K) [] := by
  refine fx_mk T.f_loosened T.g_loosened scLoos (fun _ _ _ _ _ _ us hl => match us, hl with | [_, _, _, _], _ => rfl) (fun vs H Q E h => ?_) (fun cdv A outer s H vs Q E hr h => ?_)
  · obtain ⟨_, _, _, _, _, _, _, _, _, rfl, _⟩ := h
    rfl
  · obtain ⟨a, S, held, gaps, t, Ps, ms, G, X, rfl, D, hP, hG, W, cap, k⟩ := h
    refine ⟨_, (pss_cons (ps_set (i := 4) scLoos.nd rfl (Or.inl rfl) (pe_lst pa_nil))
       (pss_cons (ps_set (i := 5) scLoos.nd rfl (Or.inl rfl) (pe_lst (pa_cons (pe_callTy call_list_of (by rfl) T.b_list (by decide +kernel) (pa_cons (pe_ix ix_list (pv 2) pe_int (fun _ _ => rfl)) pa_nil)) pa_nil)))
       (pss_cons (ps_for PassesOwn.never rfl (pi_enum (by rfl) T.b_enumerate (pa_cons (pv 1) pa_nil)) (pg_tup rfl (pgs_cons (pg_name (i := 6) scLoos.nd rfl (Or.inl rfl)) (pgs_cons (pg_name (i := 7) scLoos.nd rfl (Or.inl rfl)) pgs_nil)))
       (pss_cons (ps_set (i := 8) scLoos.nd rfl (Or.inl rfl) (pe_callTy call_list_of (by rfl) T.b_list (by decide +kernel) (pa_cons (pe_ix ix_list (pv 2) (pe_op op_add (pv 6) pe_int) (fun _ _ => rfl)) pa_nil)))
       (C8.pss_cut (ps_if (PW.pt (pw_or (pt_cmpR op_gt (pv 6) pe_int (nomark _)) (pw_or1 (pt_cmpR op_gt (pe_ix ix_tup (pv 7) pe_int (fun _ _ => rfl)) pe_int (nomark _)))))
       (pss_cons (ps_asg (pe_f (ok_offL T) hr (pa_cons (pv 0) (pa_cons (pv 7) (pa_cons (pv 3) pa_nil)))) (pg_tup rfl (pgs_cons (pg_name (i := 7) scLoos.nd rfl (Or.inl rfl)) (pgs_cons (pg_name (i := 9) scLoos.nd rfl (Or.inl rfl)) pgs_nil))))
       (pss_one (ps_expr (pe_bm PySem.F.plainAttrs_list PySem.F.slot_list_extend PySem.F.type_list_extend mt_extend (pe_ix ix_list (pv 5) (pe_un un_neg pe_int) (fun _ _ => rfl)) (pa_cons (pv 9) pa_nil)))))
       pss_nil)
       (pss_cons (ps_set (i := 10) scLoos.nd rfl (Or.inl rfl) (pe_cmpR op_lt (pe_ix ix_tup (pv 7) pe_int (fun _ _ => rfl)) (pe_ix ix_tup (pv 7) pe_int (fun _ _ => rfl)) (nomark _)))
       (C8.pss_cut (ps_if (PW.pt (pw_and (pt_val (pv 10)) (pw_and1 (PW.pt (pw_or (pt_cmpR op_lt (pe_op op_add (pv 6) pe_int) (pe_callB call_len_seq (by rfl) T.b_len PySem.boot_len (pa_cons (pv 1) pa_nil)) (nomark _)) (pw_or1 (pt_cmpR op_lt (pe_ix ix_tup (pv 7) pe_int (fun _ _ => rfl)) (pe_ix ix_list (pe_fld (pv 0) rfl) (pe_ix ix_tup (pv 7) pe_int (fun _ _ => rfl)) (fun _ _ => rfl)) (nomark _))))))))
       (pss_cons (ps_asg (pe_f (ok_offR T) hr (pa_cons (pv 0) (pa_cons (pv 7) (pa_cons (pv 3) pa_nil)))) (pg_tup rfl (pgs_cons (pg_name (i := 7) scLoos.nd rfl (Or.inl rfl)) (pgs_cons (pg_name (i := 9) scLoos.nd rfl (Or.inl rfl)) pgs_nil))))
       (pss_one (ps_set (i := 8) scLoos.nd rfl (Or.inl rfl) (pe_op op_cat (pv 9) (pv 8)))))
       pss_nil)
       (pss_one (ps_if (pt_cmpR op_lt (pe_ix ix_tup (pv 7) pe_int (fun _ _ => rfl)) (pe_ix ix_tup (pv 7) pe_int (fun _ _ => rfl)) (nomark _))
       (pss_cons (ps_expr (pe_bm PySem.F.plainAttrs_list PySem.F.slot_list_append PySem.F.type_list_append mt_append (pv 4) (pa_cons (pv 7) pa_nil)))
       (pss_one (ps_expr (pe_bm PySem.F.plainAttrs_list PySem.F.slot_list_append PySem.F.type_list_append mt_append (pv 5) (pa_cons (pv 8) pa_nil)))))
       (pss_one (ps_expr (pe_bm PySem.F.plainAttrs_list PySem.F.slot_list_extend PySem.F.type_list_extend mt_extend (pe_ix ix_list (pv 5) (pe_un un_neg pe_int) (fun _ _ => rfl)) (pa_cons (pv 8) pa_nil)))))))))))
       (pss_one (ps_ret (pe_tup (pa_cons (pv 4) (pa_cons (pv 5) pa_nil)))))))), ?_⟩
    dsimp only [L2.start, List.map, List.map_cons, List.map_nil, List.append_eq, List.append, List.length_cons, List.length_nil, Nat.reduceAdd, Nat.reduceSub, List.replicate_succ, List.replicate_zero, List.cons_append, List.nil_append, cxOf]
    obtain ⟨ha, hgl, hgF⟩ := id hG
    obtain ⟨pa, hpl, hpF⟩ := id hP
    have hglen : ha.length = Ps.length + 1 := hgF.len.trans W.len
    have hplen : pa.length = Ps.length := hpF.len
    have gap : ∀ i, i ≤ Ps.length → ∃ x r, ha[i]? = some x ∧ G[i]? = some r ∧ RunsAt H x r := fun i hi => by
      have h1 : ha[i]? = some (ha[i]'(by omega)) := List.getElem?_eq_getElem _
      obtain ⟨r, h2, h3⟩ := hgF.get i _ h1
      exact ⟨_, r, h1, h2, h3⟩
    -- left_parts = []; loose = [list(gaps[0])]
    refine ⟨Nat.zero_le _, fun lpa hlpa => ?_⟩
    have s1 := same_upd (o := .lst []) hlpa
    have hlp1 : upd H lpa (.lst []) lpa = some (.lst []) := upd_same
    generalize upd H lpa (.lst []) = H1 at s1 hlp1
    dsimp only [gName, wipe, List.set_cons_succ, List.set_cons_zero]
    obtain ⟨x0, r0, hx0, hr0, R0⟩ := gap 0 (Nat.zero_le _)
    obtain ⟨as0, hx0l, hx0F⟩ := id R0
    refine ⟨_, rfl, gaps, _, _, V.ref x0, rfl, rfl, SqL.of (s1 _ _ hgl), atI_nat (j := 0) (by rw [List.getElem?_map, hx0]; rfl), x0, _, rfl, .inl (SqL.of (s1 _ _ hx0l)), fun b0 hb0 => ⟨z1, fun loa hloa => ?_⟩⟩
    have s2 := same_upd (o := .lst (as0.map V.ref)) hb0
    have s3 := same_upd (o := .lst [V.ref b0]) hloa
    have L0 : LoopH H (upd (upd H1 b0 (.lst (as0.map V.ref))) loa (.lst [V.ref b0])) lpa loa [] [] r0 [] [] b0 := by
      have n4 : H b0 = none := s1.free hb0
      have n2 : H loa = none := s1.free (s2.free hloa)
      refine ⟨(s1.trans s2).trans s3, s3 _ _ (s2 _ _ hlp1), .nil, upd_same, .nil, ⟨as0, s3 _ _ upd_same, hx0F.mono fun x r e => s3 _ _ (s2 _ _ (s1 _ _ e))⟩, hlpa, n2, fun x hx => (nomatch hx), n4, ?_, ?_, ?_, fun x hx => (nomatch hx)⟩
      · exact ne_of_none (s2 _ _ hlp1) hloa
      · exact ne_of_none hlp1 hb0
      · exact (ne_of_none (upd_same (H := H1) (a := b0) (o := .lst (as0.map V.ref))) hloa).symm
    generalize upd (upd H1 b0 (.lst (as0.map V.ref))) loa (.lst [V.ref b0]) = H2 at L0
    have hg0 : G.getD 0 [] = r0 := by rw [List.getD_eq_getElem?_getD, hr0] <;> rfl
    dsimp only [gName, wipe, List.set_cons_succ, List.set_cons_zero]
    -- for k, part in enumerate(held)
    refine ⟨_, rfl, held, _, rfl, SqL.of (L0.same _ _ hpl), for_it (walk_enum (K := K) (a := held) (xs := pa.map V.ref)) (fun i σ H' => ∃ (lp : List Part) (gs : List (List Rn)) (g : List Rn) (ms' : List (List Nat)) (ps as : List Addr) (b : Addr) (v6 v7 v8 v9 v10 : Option V), σ = [some (.ref a.s), some (.ref held), some (.ref gaps), some (iV t), some (.ref lpa), some (.ref loa), v6, v7, v8, v9, v10] ∧ LI S t Ps ms G i lp gs g ms' ∧ LoopH H H' lpa loa lp gs g ps as b ∧ ps.length ≤ i)
      ⟨[], [], r0, [], [], [], b0, _, _, _, _, _, rfl, by rw [← hg0]; exact VW.li_zero D.ok W, L0, Nat.le_refl _⟩ (fun i σ H' _ ⟨_, _, _, _, _, _, _, _, _, _, _, _, _, _, L, _⟩ => SqL.of (L.same _ _ hpl)) ?_ ?_⟩
    · rintro i v σ H3 H4 hi ⟨lp, gs, g, ms', ps, as, b, v6, v7, v8, v9, v10, rfl, I, L, hpsi⟩ ⟨Tp, vi, vx, rfl, hT, rfl, hvi, hvx⟩
      cases hvi
      have hvx : (pa.map V.ref)[i]? = some vx := hvx
      have hin : i < Ps.length := by rw [List.length_map, hplen] at hi; exact hi
      obtain ⟨x, hx, rfl⟩ : ∃ x, pa[i]? = some x ∧ vx = V.ref x := by
        rw [List.getElem?_map] at hvx
        cases e : pa[i]? with
        | none => rw [e] at hvx; cases hvx
        | some x => rw [e] at hvx; exact ⟨x, rfl, (Option.some.inj hvx).symm⟩
      obtain ⟨p, hp, hxp⟩ := hpF.get i x hx
      obtain ⟨m, hm, pm⟩ := W.pm.get i p hp
      obtain ⟨x2, g2, hx2, hg2, R2⟩ := gap (i + 1) hin
      obtain ⟨as2, hx2l, hx2F⟩ := id R2
      have L4 := L.grow (same_upd (o := .tup [V.int (i : Nat), V.ref x]) hT)
      refine ⟨Tp, _, rfl, SqT.of upd_same, rfl, _, _, rfl, _, _, rfl, rfl, ?_⟩
      generalize upd H3 Tp (.tup [V.int (i : Nat), V.ref x]) = H4 at L4
      dsimp only [gName, wipe, List.set_cons_succ, List.set_cons_zero]
      -- behind = list(gaps[k + 1])
      refine ⟨_, rfl, _, rfl, _, _, rfl, rfl, gaps, _, _, V.ref x2, rfl, rfl, SqL.of (L4.same _ _ hgl), atI_nat (j := i + 1) (by rw [List.getElem?_map, hx2]; rfl), x2, _, rfl, .inl (SqL.of (L4.same _ _ hx2l)), fun bh hbh => ?_⟩
      have s5 := same_upd (o := .lst (as2.map V.ref)) hbh
      have L5 := L4.grow s5
      obtain ⟨q1, q2, q3, q4⟩ := L4.fresh hbh
      have nbh : H bh = none := L4.same.free hbh
      have R5 : RunsAt (upd H4 bh (.lst (as2.map V.ref))) bh g2 := ⟨as2, upd_same, hx2F.mono fun y r e => s5 _ _ (L4.same _ _ e)⟩
      generalize upd H4 bh (.lst (as2.map V.ref)) = H5 at L5 R5
      dsimp only [gName, wipe, List.set_cons_succ, List.set_cons_zero]
      have wb := I.wts
      have wG := wsum_take (G := G) (i + 1)
      have wF := fsum_le (S := S) (n := Ps.length) (l := Ps.take i) (i := 0)
      have wF2 : (Ps.take i).length ≤ Ps.length := by rw [List.length_take]; omega
      rw [VW.wsum_app, VW.wsum_one] at wb
      have wg2 := take_snoc hg2
      have wG2 := wsum_take (G := G) (i + 1 + 1)
      rw [wg2, VW.wsum_app, VW.wsum_one] at wG2
      have lg := wt_le_len (rs := g)
      have lg2 := wt_le_len (rs := g2)
      have hxp5 : PartAt H5 x p.top p.lo p.hi := L5.same _ _ hxp
      -- if k > 0 or part[1] > 0
      refine ⟨fun σ' H' => ∃ (e : Nat) (rl : List Rn) (p1 : Addr) (v9 : Option V), σ' = [some (.ref a.s), some (.ref held), some (.ref gaps), some (iV t), some (.ref lpa), some (.ref loa), some (iV i), some (.ref p1), some (.ref bh), v9, v10] ∧ HL S t p (lf i p) e rl ∧ PartAt H' p1 p.top e p.hi ∧ LoopH H H' lpa loa lp gs (g ++ rl) ps as b ∧ RunsAt H' bh g2, ?_, ?_⟩
      · refine if_an (an_or (b1 := decide (0 < i)) (b2 := decide (0 < p.lo)) (fun Q q => ⟨_, rfl, _, _, rfl, rfl, _, rfl, ?_⟩) (fun Q q => ⟨_, rfl, x, _, _, iV p.lo, rfl, rfl, SqT.of hxp5, rfl, _, _, rfl, rfl, _, rfl, ?_⟩)) (fun y => ?_) (fun y => ?_)
        · have : decide ((0 : Int) < (i : Int)) = decide (0 < i) := decide_eq_decide.mpr (by omega)
          rw [this]
          exact q
        · have : decide ((0 : Int) < (p.lo : Int)) = decide (0 < p.lo) := decide_eq_decide.mpr (by omega)
          rw [this]
          exact q
        · have f : lf i p := by
            rw [Bool.or_eq_true, decide_eq_true_eq, decide_eq_true_eq] at y
            exact y
          refine ⟨_, rfl, _, rfl, _, rfl, a, S, x, p.top, p.lo, p.hi, t, rfl, D.same L5.same, hxp5, pm.top, VW.seg_al1 pm.seg, VW.seg_al2 pm.seg, pm.lt, pm.le, fun H6 tp q l e rl o s6 nl h1 h2 Rl => ?_⟩
          refine ⟨tp, _, rfl, SqT.of h1, rfl, _, _, rfl, _, _, rfl, rfl, ?_⟩
          have L6 := L5.grow s6
          have R6 := R5.same s6
          dsimp only [gName, wipe, List.set_cons_succ, List.set_cons_zero]
          obtain ⟨xs, hxs, lxs⟩ := L6.hb.lst
          obtain ⟨ys, hys, lys⟩ := Rl.lst
          have lr := wt_le_len (rs := rl)
          have lw := o.wt
          refine ⟨_, rfl, _, rfl, loa, _, _, V.ref b, rfl, rfl, SqL.of L6.ho, atI_last _ _, .inl ⟨rfl, _, SqL.of hxs⟩, _, rfl, b, l, xs, ys, rfl, rfl, hxs, hys, by rw [sizeLine_eq]; omega, ?_⟩
          have q3' := q3
          refine ⟨e, rl, q, _, rfl, HL.of_off D.ok pm o f, ?_, L6.ext Rl hxs hys, R6.upd hxs q3⟩
          show upd H6 b (.lst (xs ++ ys)) q = _
          rw [upd_ne (ne_of (show H6 q = _ from h2) hxs (by intro z; cases z))]
          exact h2
        · rw [Bool.or_eq_false_iff, decide_eq_false_iff_not, decide_eq_false_iff_not] at y
          have f : ¬ lf i p := fun z => z.elim y.1 y.2
          exact ⟨p.lo, [], x, _, rfl, HL.none D.ok pm f (by omega), hxp5, by rw [List.append_nil]; exact L5, R5⟩
      · rintro σ' H6 ⟨e, rl, p1, v9', rfl, hl, hp1, L6, R6⟩
        have lrl : wt rl ≤ 2 := by
          by_cases f : lf i p
          · exact (hl.on f).2.2
          · rw [(hl.off f).1]
            exact Nat.zero_le _
        have lr := wt_le_len (rs := rl)
        -- inner = part[1] < part[2]
        refine ⟨_, rfl, p1, _, _, iV e, rfl, rfl, SqT.of hp1, rfl, _, rfl, p1, _, _, iV p.hi, rfl, rfl, SqT.of hp1, rfl, _, _, rfl, rfl, ?_⟩
        dsimp only [gName, wipe, List.set_cons_succ, List.set_cons_zero]
        have dlt : ∀ m n : Nat, decide ((m : Int) < (n : Int)) = decide (m < n) := fun m n => decide_eq_decide.mpr (by omega)
        rw [dlt]
        refine ⟨fun σ' H' => ∃ (b2 : Nat) (rr : List Rn) (p2 bh2 : Addr) (v9 v10 : Option V), σ' = [some (.ref a.s), some (.ref held), some (.ref gaps), some (iV t), some (.ref lpa), some (.ref loa), some (iV i), some (.ref p2), some (.ref bh2), v9, v10] ∧ HR S t p e (rf S Ps.length i p) b2 rr ∧ PartAt H' p2 p.top e b2 ∧ LoopH H H' lpa loa lp gs (g ++ rl) ps as b ∧ RunsAt H' bh2 (rr ++ g2) ∧ H bh2 = none ∧ bh2 ≠ lpa ∧ bh2 ≠ loa ∧ bh2 ≠ b ∧ ∀ x ∈ as, x ≠ bh2, ?_, ?_⟩
        · have D6 := D.same L6.same
          refine if_an (an_and (b1 := decide (e < p.hi)) (b2 := decide (i + 1 < Ps.length) || decide (p.hi < S.size p.top)) (fun Q q => ⟨_, rfl, _, rfl, q⟩) fun _ => an_or (fun Q q => ⟨_, rfl, _, _, rfl, rfl, _, rfl, held, _, rfl, .inl (SqL.of (L6.same _ _ hpl)), _, _, rfl, rfl, _, rfl, ?_⟩)
            (fun Q q => ⟨_, rfl, p1, _, _, iV p.hi, rfl, rfl, SqT.of hp1, rfl, _, rfl, a.s, cSt K, a.dx, _, _, rfl, D6.ob, T.c_Store, T.n_Store_sizes, lk_sizes, _, rfl, p1, _, _, iV p.top, rfl, rfl, SqT.of hp1, rfl, a.sz, _, _, _, rfl, rfl, SqL.of D6.sz, col_atI pm.top, _, _, rfl, rfl, _, rfl, ?_⟩)) (fun y => ?_) (fun y => ?_)
          · rw [List.length_map, hplen]
            have : decide (((i : Int) + 1) < (Ps.length : Int)) = decide (i + 1 < Ps.length) := decide_eq_decide.mpr (by omega)
            rw [this]
            exact q
          · rw [dlt]
            exact q
          · rw [Bool.and_eq_true, Bool.or_eq_true, decide_eq_true_eq, decide_eq_true_eq, decide_eq_true_eq] at y
            obtain ⟨y1, f⟩ := y
            have al1 : Al S p.top t e := VW.seg_al2 hl.seg
            refine ⟨_, rfl, _, rfl, _, rfl, a, S, p1, p.top, e, p.hi, t, rfl, D6, hp1, pm.top, al1, VW.seg_al2 pm.seg, y1, pm.le, fun H7 tp q l b2 rr o s7 nl h1 h2 Rl => ?_⟩
            refine ⟨tp, _, rfl, SqT.of h1, rfl, _, _, rfl, _, _, rfl, rfl, ?_⟩
            have L7 := L6.grow s7
            have R7 := R6.same s7
            dsimp only [gName, wipe, List.set_cons_succ, List.set_cons_zero]
            obtain ⟨xs, hxs, lxs⟩ := Rl.lst
            obtain ⟨ys, hys, lys⟩ := R7.lst
            have lr2 := wt_le_len (rs := rr)
            have lw := o.wt
            refine ⟨_, rfl, _, rfl, l, bh, xs, ys, rfl, rfl, hxs, hys, by rw [sizeLine_eq]; omega, fun nb hnb => ?_⟩
            have s8 := same_upd (o := .lst (xs ++ ys)) hnb
            obtain ⟨u1, u2, u3, u4⟩ := L7.fresh hnb
            exact ⟨b2, rr, q, nb, _, _, rfl, HR.of_off D.ok pm o f y1, s8 _ _ h2, L7.grow s8, runs_cat Rl R7 hxs hys hnb, L7.same.free hnb, u1, u2, u3, u4⟩
          · have f : ¬ (rf S Ps.length i p ∧ e < p.hi) := fun z => by
              have : (decide (e < p.hi) && (decide (i + 1 < Ps.length) || decide (p.hi < S.size p.top))) = true := by
                rw [Bool.and_eq_true, Bool.or_eq_true, decide_eq_true_eq, decide_eq_true_eq, decide_eq_true_eq]
                exact ⟨z.2, z.1⟩
              rw [this] at y
              cases y
            refine ⟨p.hi, [], p1, bh, _, _, rfl, HR.none D.ok pm hl.le f fun q => ?_, hp1, L6, R6, nbh, q1, q2, q3, q4⟩
            have := pm.le
            by_cases z : p.hi < S.size p.top
            · exact absurd ⟨.inr z, q⟩ f
            · omega
        · rintro σ' H7 ⟨b2, rr, p2, bh2, v9'', v10', rfl, hr', hp2, L7, R7, n1, n2, n3, n4, n5⟩
          have lrr : wt rr ≤ 2 := by
            by_cases f : rf S Ps.length i p ∧ e < p.hi
            · exact (hr'.on f.1 f.2).2.2
            · rw [(hr'.off f).1]
              exact Nat.zero_le _
          have lr2 := wt_le_len (rs := rr)
          obtain ⟨st1, st2⟩ := VW.li_step D.ok W I hp hm hg2 hl hr'
          refine if_an (b1 := decide (e < b2)) (fun Q q => ⟨_, rfl, p2, _, _, iV e, rfl, rfl, SqT.of hp2, rfl, _, rfl, p2, _, _, iV b2, rfl, rfl, SqT.of hp2, rfl, _, _, rfl, rfl, _, rfl, ?_⟩) (fun y => ?_) (fun y => ?_)
          · rw [dlt]
            exact q
          · have y := of_decide_eq_true y
            obtain ⟨m', I'⟩ := st1 y
            have lps := L7.hp.len
            have las := L7.ha.len
            have cn := I.cnt
            have pms := I.pm.len
            have bdl := I.bd.len
            rw [List.length_map] at bdl
            have hps : ps.length ≤ Ps.length := by omega
            refine ⟨_, rfl, .inl ⟨rfl, _, SqL.of L7.hl⟩, _, rfl, lpa, _, _, rfl, rfl, L7.hl, by rw [List.length_map, sizeLine_eq]; omega, ?_⟩
            have L8 := L7.part (x := p2) (p := ⟨p.top, e, b2⟩) hp2
            have R8 : RunsAt (upd H7 lpa (.lst (ps.map V.ref ++ [.ref p2]))) bh2 (rr ++ g2) := R7.upd L7.hl n2
            generalize upd H7 lpa (.lst (ps.map V.ref ++ [.ref p2])) = H8 at L8 R8
            refine ⟨_, rfl, .inl ⟨rfl, _, SqL.of L8.ho⟩, _, rfl, loa, _, _, rfl, rfl, L8.ho, ?_, ?_⟩
            · rw [List.length_append, List.length_map, List.length_singleton, sizeLine_eq]
              omega
            · exact ⟨_, _, _, _, _, _, _, _, _, _, _, _, rfl, I', L8.gap R8 n1 n2 n3 n4 n5, by rw [List.length_append, List.length_singleton]; omega⟩
          · have y := of_decide_eq_false y
            have I' := st2 y
            obtain ⟨xs, hxs, lxs⟩ := L7.hb.lst
            obtain ⟨ys, hys, lys⟩ := R7.lst
            rw [List.length_append] at lxs lys
            refine ⟨_, rfl, _, rfl, loa, _, _, V.ref b, rfl, rfl, SqL.of L7.ho, atI_last _ _, .inl ⟨rfl, _, SqL.of hxs⟩, _, rfl, b, bh2, xs, ys, rfl, rfl, hxs, hys, by rw [sizeLine_eq]; omega, ?_⟩
            exact ⟨_, _, _, _, _, _, _, _, _, _, _, _, rfl, I', L7.ext R7 hxs hys, by omega⟩
    · rintro σ H3 ⟨lp, gs, g, ms', ps, as, b, v6, v7, v8, v9, v10, rfl, I, L, _⟩
      rw [List.length_map, hplen] at I
      refine ⟨_, rfl, _, rfl, z2, fun tp htp => ?_⟩
      exact k _ tp lpa loa lp gs g ms' ps as b I (L.grow (same_upd htp)) upd_same
end
end VT
set_option Elab.async false
set_option linter.all false
set_option maxRecDepth 100000
set_option maxHeartbeats 4000000
/-! woven: the stretches told, the turn that joins. -/
namespace VT
open PySem PySem.Spec PyProof.Rows L2
open VW (Sto Node Ok Le Loc Al Seg Rn unr wt F2 OffL OffR side Meet Pc szs Kept Mgd Jn Ch Sep on1 Part PM WS LI HL HR wsum fsum lf rf mix tot cts sub flat Bd)
abbrev Raw := Int × Nat × Nat
def rawV (r : Raw) : List V := [.int r.1, iV r.2.1, iV r.2.2]
def RawAt (H : Hp) (x : Addr) (r : Raw) : Prop := H x = some (.tup (rawV r))
def RawsAt (H : Hp) (l : Addr) (rs : List Raw) : Prop := ∃ as : List Addr, H l = some (.lst (as.map V.ref)) ∧ F2 (RawAt H) as rs
def act (r : Raw) : Bool := decide (r.2.1 < r.2.2)
def toP (r : Raw) : Part := ⟨r.1.toNat, r.2.1, r.2.2⟩
def actP (rs : List Raw) : List Part := (rs.filter act).map toP
/-- what is asked of a stretch that is not empty -/
def RawOk (S : Sto) (r : Raw) : Prop := act r = true → r.1 = ((toP r).top : Int) ∧ (toP r).top < S.len ∧ r.2.2 ≤ S.size (toP r).top
/-- top is the number of the text T -/
def TopIs (S : Sto) (top : Int) (T : List Nat) : Prop := (T = [] ∧ top = -1) ∨ ∃ n : Nat, top = n ∧ n < S.len ∧ S.cont n = T
theorem actP_take {rs : List Raw} {i : Nat} {r : Raw} (h : rs[i]? = some r) : actP (rs.take (i + 1)) = actP (rs.take i) ++ (if act r = true then [toP r] else []) := by
  unfold actP
  rw [take_snoc h, List.filter_append, List.map_append]
  congr 1
  rw [List.filter_cons]
  split <;> simp
theorem mix_in : ∀ {gs ms : List (List Nat)} {g : List Nat}, gs.length = ms.length → ∀ x ∈ gs ++ [g], ∃ A B, mix gs ms g = A ++ (x ++ B)
  | [], [], g, _, x, hx => by
    have : x = g := by simpa using hx
    subst this
    exact ⟨[], [], by simp [mix]⟩
  | [], m :: ms, g, h, _, _ => by simp at h
  | a :: gs, [], g, h, _, _ => by simp at h
  | a :: gs, m :: ms, g, h, x, hx => by
    have e : mix (a :: gs) (m :: ms) g = a ++ m ++ mix gs ms g := by simp [mix]
    rw [e]
    rcases List.mem_cons.mp (show x ∈ a :: (gs ++ [g]) from hx) with q | q
    · subst q
      exact ⟨[], m ++ mix gs ms g, by simp⟩
    · obtain ⟨A, B, e2⟩ := mix_in (gs := gs) (ms := ms) (g := g) (by simpa using h) x q
      exact ⟨a ++ m ++ A, B, by rw [e2]; simp⟩
theorem GapOk.le {S S' : Sto} (le : Le S S') {t : Nat} {r : List Rn} (g : GapOk S t r) : GapOk S' t r := by
  obtain ⟨h1, h2, h3, h4⟩ := g
  have hu : ∀ x ∈ unr r, x < S.len := fun x hx => by
    obtain ⟨q, hq, hx⟩ := List.mem_flatMap.mp hx
    rw [(List.mem_replicate.mp hx).2]
    exact (h1 q hq).1
  exact ⟨fun q hq => ⟨le.lt (h1 q hq).1, by rw [le.birth _ (h1 q hq).1]; exact (h1 q hq).2⟩, h2, VW.ch_mono h3 fun x hx y hy z => le.sep (hu x hx) (hu y hy) z, by rw [le.szs hu]; exact h4⟩
theorem gaps_ok {S : Sto} (ok : Ok S) {t : Nat} {P : List Part} {ms : List (List Nat)} {G : List (List Rn)} {X : List Nat} (W : WS S t P ms G X) {lp : List Part} {gs : List (List Rn)} {g : List Rn} {ms' : List (List Nat)}
    (L : LI S t P ms G P.length lp gs g ms') (hz : (cts S X).length ≤ 10 ^ 18) : ∀ r ∈ gs ++ [g], GapOk S t r := by
  have eX : mix (gs.map unr) (ms'.map (flat S t)) (unr g) = X := by
    have z : ms.take P.length = ms := List.take_of_length_le (by rw [← W.pm.len]; exact Nat.le_refl _)
    rw [L.eq, W.eq, z]
  have hl : (gs.map unr).length = (ms'.map (flat S t)).length := by rw [L.bd.len, List.length_map]
  intro r hr
  obtain ⟨A, B, e⟩ := mix_in (g := unr g) hl (unr r) (by
    have : gs.map unr ++ [unr g] = (gs ++ [g]).map unr := by simp
    rw [this]
    exact List.mem_map_of_mem hr)
  rw [eX] at e
  have hX : ∀ x ∈ unr r, x < S.len ∧ S.birth x ≤ t := fun x hx => W.lt x (by rw [e]; simp [hx])
  have one := L.one r hr
  refine ⟨fun q hq => hX q.1 (List.mem_flatMap.mpr ⟨q, hq, ?_⟩), one, ?_, ?_⟩
  · have := (one q hq).1
    exact List.mem_replicate.mpr ⟨by omega, rfl⟩
  · have c := W.ch
    rw [e] at c
    exact (VW.ch_app.mp (VW.ch_app.mp c).2.1).1
  · rw [← VW.ws_szs ok W, e, VW.szs_app, VW.szs_app] at hz
    omega
theorem fsum_ge {S : Sto} {n : Nat} : ∀ {l : List Part} {i : Nat}, i + l.length = n → 2 * l.length ≤ fsum S n i l + (if i = 0 then 1 else 0) + 1
  | [], i, _ => Nat.zero_le _
  | p :: r, i, h => by
    rw [List.length_cons] at h ⊢
    have ih := fsum_ge (S := S) (n := n) (l := r) (i := i + 1) (by omega)
    rw [if_neg (by omega)] at ih
    show _ ≤ VW.b2 (lf i p) + VW.b2 (rf S n i p) + fsum S n (i + 1) r + _ + 1
    have hl : 1 ≤ VW.b2 (lf i p) + (if i = 0 then 1 else 0) := by
      by_cases z : i = 0
      · rw [if_pos z]
        omega
      · rw [VW.b2_t (show lf i p from .inl (by omega))]
        omega
    cases r with
    | nil =>
      rw [List.length_nil]
      omega
    | cons q r =>
      have hr : VW.b2 (rf S n i p) = 1 := VW.b2_t (show rf S n i p from .inl (by rw [List.length_cons] at h; omega))
      rw [hr]
      omega
theorem store_upd {K : PySem.W.Frag} {a : SA} {S : Sto} {H : Hp} {f : Addr} {u : HO} (D : StoreAt K H a S) (hf : f ∉ six a) (hfs : f ≠ a.s) : StoreAt K (upd H f u) a S := by
  have m : ∀ b, b ∈ six a → b ≠ f := fun b hb e => hf (by rw [← e]; exact hb)
  exact ⟨by rw [upd_ne hfs.symm]; exact D.ob, by rw [upd_ne (m _ (by simp [six]))]; exact D.kd, by rw [upd_ne (m _ (by simp [six]))]; exact D.lf, by rw [upd_ne (m _ (by simp [six]))]; exact D.rt, by rw [upd_ne (m _ (by simp [six]))]; exact D.sz,
    by rw [upd_ne (m _ (by simp [six]))]; exact D.bt, by rw [upd_ne (m _ (by simp [six]))]; exact D.kn, D.nd, D.ok, D.cap, D.small⟩
theorem merge_lc {K : PySem.W.Frag} {a : SA} {S : Sto} {H : Hp} {gl : Addr} {as : List Addr} {G : List (List Rn)} {t par : Nat} {tail : Nat → List V} {g : TG} {te : TE} {σ : L2.St} {vs : List Nat} {Dl : Addr} {Qd : Hp → Prop}
    (ht : t % 2 = par) (D : StoreAt K H a S) (hgl : H gl = some (.lst (as.map V.ref))) (hF : F2 (RunsAt H) as G) (go : gl ∉ six a) (ao : ∀ x ∈ as, x ∉ six a) (ok : ∀ r ∈ G, GapOk S t r) (cap : S.len + wsum G ≤ 16777216) (hGl : G.length ≤ 16777216) (hD : H Dl = none)
    (hte : ∀ (l : Addr) (H2 : Hp) (Qf : VK) (N : Hp → Prop), spMerge K par tail ([.ref a.s, .ref l] ++ tail t) H2 Qf E0 → g (.ref l) (wipe σ vs) H2 fun σ2 H2 => wipe σ2 vs = wipe σ vs ∧ tYes σ2 H2 fun b H3 => if b = true then te σ2 H3 Qf else N H3)
    (k : ∀ S' H' fs outs, Le S S' → StoreAt K H' a S' → Kp a H H' → H' Dl = some (.lst (fs.map V.ref)) → F2 (RunsAt H') fs (outs.map on1) → F2 (Mgd S' t) (G.map unr) outs → S'.len + tot outs ≤ S.len + wsum G → (∀ x ∈ fs, x ∉ six a) → Qd H') :
    ∃ W : Nat → Nat → Hp → Prop, (∃ m, W 0 m (upd H Dl (.lst []))) ∧ ∀ i m H, W i m H →
      ((Itl K gl).stop i H ∧ Qd H) ∨ ((Itl K gl).go i H ∧ ∃ Nx : Hp → Prop, (∀ H', Nx H' → ∃ m', m' < m ∧ W (i + 1) m' H') ∧ ∀ x H', (Itl K gl).yld i H x H' → g x (wipe σ vs) H' fun σ2 H2 => wipe σ2 vs = wipe σ vs ∧ tYes σ2 H2 fun b H3 =>
        if b = true then te σ2 H3 fun y H4 => ∃ acc, H4 Dl = some (.lst acc) ∧ acc.length < sizeLine ∧ Nx (upd H4 Dl (.lst (acc ++ [y]))) else Nx H3) := by
  have Do : Dl ∉ six a := D.out_new hD
  have Ds : Dl ≠ a.s := fun e => by rw [e, D.ob] at hD; cases hD
  have glD : gl ≠ Dl := ne_of_none hgl hD
  have asD : ∀ x ∈ as, x ≠ Dl := fun x hx => by
    obtain ⟨i, hi⟩ := List.getElem?_of_mem hx
    obtain ⟨r, _, xs, h, _⟩ := hF.get i x hi
    exact ne_of_none h hD
  have hlen : as.length = G.length := hF.len
  refine lc_list (K := K) (a := gl) (xs := as.map V.ref) (fun i H' => ∃ (S' : Sto) (fs : List Addr) (outs : List (List Nat)), Le S S' ∧ StoreAt K H' a S' ∧ Kp a H H' ∧ H' Dl = some (.lst (fs.map V.ref)) ∧ F2 (RunsAt H') fs (outs.map on1) ∧ F2 (Mgd S' t) ((G.take i).map unr) outs ∧ S'.len + tot outs ≤ S.len + wsum (G.take i) ∧ (∀ x ∈ fs, x ∉ six a ∧ x ≠ Dl) ∧ fs.length = i)
    ⟨S, [], [], Le.refl S, D.same (same_upd hD), Kp.same (same_upd hD), upd_same, .nil, .nil, Nat.le_refl _, fun x hx => (nomatch hx), rfl⟩ (fun i H' _ ⟨_, _, _, _, _, k1, _⟩ => SqL.of (k1 _ _ hgl go)) ?_ ?_
  · rintro i y H' hi ⟨S', fs, outs, le, D', k1, hDl, F1, F2', few, hfs, hfl⟩
    obtain ⟨x, hx, rfl⟩ : ∃ x, as[i]? = some x ∧ y = V.ref x := by
      rw [List.getElem?_map] at hi
      cases e : as[i]? with
      | none => rw [e] at hi; cases hi
      | some x => rw [e] at hi; exact ⟨x, rfl, (Option.some.inj hi).symm⟩
    obtain ⟨r, hr, Rx⟩ := hF.get i x hx
    have hxm := List.mem_of_getElem? hx
    have hiG : i < G.length := (List.getElem?_eq_some_iff.mp hr).1
    have w1 := wsum_take (G := G) (i + 1)
    rw [take_snoc hr, VW.wsum_app, VW.wsum_one] at w1
    refine hte x H' _ _ ⟨a, S', x, r, t, rfl, ht, D', ao x hxm, Rx.kp D k1 (ao x hxm), (ok r (List.mem_of_getElem? hr)).le le, by omega, fun S2 H2 f out le2 D2 k2 M few2 nf Rf => ?_⟩
    have nfD : f ≠ Dl := (ne_of_none hDl nf).symm
    have hDl2 := k2 _ _ hDl Do
    refine ⟨_, hDl2, by rw [List.length_map, hfl, sizeLine_eq]; omega, S2, fs ++ [f], outs ++ [out], le.trans le2, store_upd D2 Do Ds, fun b o e n => ?_, by rw [upd_same, List.map_append]; rfl, ?_, ?_, ?_, fun z hz => ?_, by rw [List.length_append, hfl]; rfl⟩
    · rw [upd_ne (ne_of_none e hD)]
      exact k2 _ _ (k1 _ _ e n) n
    · rw [List.map_append]
      refine F2.snoc (F2_imp F1 fun z hz q _ Rz => (Rz.kp D' k2 (hfs z hz).1).upd hDl2 (hfs z hz).2) (Rf.upd hDl2 nfD)
    · rw [take_snoc hr, List.map_append]
      exact (F2'.mono fun u v m => m.le le2).snoc M
    · rw [take_snoc hr, VW.wsum_app, VW.wsum_one]
      have : tot (outs ++ [out]) = tot outs + out.length := by simp [tot]
      omega
    · rcases List.mem_append.mp hz with q | q
      · exact hfs z q
      · have : z = f := by simpa using q
        subst this
        exact ⟨D'.out_new nf, nfD⟩
  · rintro H' ⟨S', fs, outs, le, D', k1, hDl, F1, F2', few, hfs, hfl⟩
    rw [List.length_map, hlen, List.take_length] at F2' few
    exact k S' H' fs outs le D' k1 hDl F1 F2' few fun x hx => (hfs x hx).1
end VT
set_option Elab.async false
set_option linter.all false
set_option maxRecDepth 100000
set_option maxHeartbeats 4000000
/-! woven. -/
namespace VT
open PySem PySem.Spec PyProof.Rows L2
open VW (Sto Node Ok Le Loc Al Seg Rn unr wt F2 OffL OffR side Meet Pc szs Kept Mgd Jn Ch Sep on1 Part PM WS LI HL HR wsum fsum lf rf mix tot cts sub flat Bd)
/-- what woven answers: T the letters -/
def WovenK (K : PySem.W.Frag) (a : SA) (S : Sto) (H : Hp) (T : List Nat) (c : Nat) (Q : VK) : Prop :=
  ∀ S' H' top, Le S S' → StoreAt K H' a S' → Kp a H H' → TopIs S' top T → S'.len ≤ S.len + 2 * c * 9889 → Q (.int top) H'
def spWoven (K : PySem.W.Frag) : Sp := fun vs H Q _ => ∃ (a : SA) (S : Sto) (l : Addr) (rs : List Raw) (c : Nat), vs = [.ref a.s, .ref l] ∧ StoreAt K H a S ∧ RawsAt H l rs ∧ (∀ r ∈ rs, RawOk S r) ∧ rs.length ≤ 1000 ∧
  fsum S (actP rs).length 0 (actP rs) ≤ c ∧ ((actP rs).flatMap (sub S)).length ≤ 10 ^ 18 ∧ S.len + 2 * c * 9890 + 4 * rs.length + 8 ≤ 16777216 ∧ WovenK K a S H ((actP rs).flatMap (sub S)) c Q
section
variable {P : Program} {w : World} {K : PySem.W.Frag} {mg : Str → Option Value} {base : Heap}
/-- woven at the head of turn t -/
def Turn (K : PySem.W.Frag) (a : SA) (l : Addr) (S : Sto) (c : Nat) (T : List Nat) (H0 : Hp) (σ : L2.St) (H : Hp) (t : Nat) : Prop := ∃ (Si : Sto) (P : List Part) (ms : List (List Nat)) (G : List (List Rn)) (X : List Nat) (hd gd : Addr) (pa ga : List Addr),
  σ = [some (.ref a.s), some (.ref l), some (.ref hd), some (.ref gd), some (iV t), none, none, none] ∧ Le S Si ∧ StoreAt K H a Si ∧ Kp a H0 H ∧ H hd = some (.lst (pa.map V.ref)) ∧ F2 (PartAt' H) pa P ∧ H gd = some (.lst (ga.map V.ref)) ∧ F2 (RunsAt H) ga G ∧
  WS Si t P ms G X ∧ cts Si X = T ∧ fsum Si P.length 0 P ≤ c ∧ Si.len + wsum G ≤ S.len + 2 * c * t ∧ t ≤ 9889 ∧ (t = 9889 → P = [])
theorem an_or' {t u : TT} {σ : L2.St} {H : Hp} {b1 b2 : Bool} (h1 : An t σ H b1) (h2 : b1 = false → An u σ H b2) : An (tOr t u) σ H (b1 || b2) := fun Q q => h1 _ (by
  cases b1 with
  | true => exact q
  | false => exact h2 rfl _ q)
theorem dsum_ge {S : Sto} : ∀ {l : List Part}, (∀ p ∈ l, 0 < p.lo ∨ p.hi < S.size p.top) → l.length ≤ VW.dsum S l
  | [], _ => Nat.le_refl _
  | p :: r, h => by
    have ih := dsum_ge (l := r) fun q hq => h q (List.mem_cons_of_mem _ hq)
    show r.length + 1 ≤ VW.b2 (0 < p.lo) + VW.b2 (p.hi < S.size p.top) + VW.dsum S r
    rcases h p (by simp) with q | q
    · rw [VW.b2_t q]
      omega
    · rw [VW.b2_t q]
      omega
theorem dec_i1 {n : Nat} : decide (V.int (n : Int) = V.int 1) = decide (n = 1) := decide_eq_decide.mpr ⟨fun z => by injection z with z; omega, fun z => by rw [z]; rfl⟩
theorem scWoven : FnScope ["store", "parts", "held", "gaps", "turn", "part", "k", "runs"] ["store", "parts"] (defScope s_woven) := ⟨rfl, rfl, rfl, by decide +kernel, rfl, by decide +kernel, by decide +kernel⟩
theorem ok_woven (T : Txt K mg) : FX P w K mg base 6 "woven" (spWoven K) [] := by
  refine fx_mk T.f_woven T.g_woven scWoven (fun _ _ _ _ _ _ us hl => match us, hl with | [_, _], _ => rfl) (fun vs H Q E h => ?_) (fun cdv A outer s H vs Q E hr h => ?_)
  · obtain ⟨_, _, _, _, _, rfl, _⟩ := h
    rfl
  · obtain ⟨a, S, l, rs, c, rfl, D, R, ro, rl, fc, tl, cap, k⟩ := h
    refine ⟨_, (pss_cons (ps_setLc (i := 2) (own := [("part", 5)]) (g := (gName 5)) (tt := (tTest (tOp (rI0 fun i j => .bl (decide (i < j))) (tOp (rIxT K) (tVar 5) (tC (.int 1))) (tOp (rIxT K) (tVar 5) (tC (.int 2)))))) rfl scWoven.nd rfl rfl (sw_true rfl rfl rfl (by decide +kernel)) (pi_list (pv 1)) (blkOk_by (N := ["store", "parts", "held", "gaps", "turn", "part", "k", "runs"]) (sc := defScope s_woven) (by decide +kernel)) (fun _ _ _ _ _ => (pg_name (i := 5) scWoven.nd rfl (Or.inl rfl))) (fun _ _ _ _ _ => (pts_one (pt_cmpR op_lt (pe_ix ix_tup (pv 5) pe_int (fun _ _ => rfl)) (pe_ix ix_tup (pv 5) pe_int (fun _ _ => rfl)) (nomark _)))) (fun _ _ _ _ _ => (pv 5)))
       (pss_cons (ps_if (pt_not (pt_truth (pv 2) (by intro _; rfl)))
       (pss_one (ps_ret (pe_gi T.i_NONE)))
       pss_nil)
       (C8.pss_cut (ps_if (PW.pt (pw_and (pt_cmpR op_eq (pe_callB call_len_seq (by rfl) T.b_len PySem.boot_len (pa_cons (pv 2) pa_nil)) pe_int (nomark _)) (pw_and1 (pt_cmpR (op_eqD hr.units) (pe_slice sl_tup (pe_ix ix_list (pv 2) pe_int (fun _ _ => rfl)) (po_some pe_int) po_none) (pe_tup (pa_cons pe_int (pa_cons (pe_ix ix_list (pe_fld (pv 0) rfl) (pe_ix ix_tup (pe_ix ix_list (pv 2) pe_int (fun _ _ => rfl)) pe_int (fun _ _ => rfl)) (fun _ _ => rfl)) pa_nil))) (nomark _)))))
       (pss_one (ps_ret (pe_ix ix_tup (pe_ix ix_list (pv 2) pe_int (fun _ _ => rfl)) pe_int (fun _ _ => rfl))))
       pss_nil)
       (pss_cons (ps_setLc (i := 3) (own := [("k", 6)]) (g := (gName 6)) (tt := tYes) rfl scWoven.nd rfl rfl (sw_true rfl rfl rfl (by decide +kernel)) (pi_range1 (by rfl) T.b_range (pa_cons (pe_op op_add (pe_callB call_len_seq (by rfl) T.b_len PySem.boot_len (pa_cons (pv 2) pa_nil)) pe_int) pa_nil)) (blkOk_by (N := ["store", "parts", "held", "gaps", "turn", "part", "k", "runs"]) (sc := defScope s_woven) (by decide +kernel)) (fun _ _ _ _ _ => (pg_name (i := 6) scWoven.nd rfl (Or.inl rfl))) (fun _ _ _ _ _ => pts_nil) (fun _ _ _ _ _ => (pe_lst pa_nil)))
       (pss_cons (ps_set (i := 4) scWoven.nd rfl (Or.inr rfl) pe_int)
       (pss_cons (ps_while PassesOwn.never (PW.pt (pw_or (pt_truth (pv 2) (by intro _; rfl)) (pw_or (pt_cmpR op_gt (pe_callB call_len_seq (by rfl) T.b_len PySem.boot_len (pa_cons (pe_ix ix_list (pv 3) pe_int (fun _ _ => rfl)) pa_nil)) pe_int (nomark _)) (pw_or1 (pt_cmpR op_gt (pe_ix ix_tup (pe_ix ix_list (pe_ix ix_list (pv 3) pe_int (fun _ _ => rfl)) pe_int (fun _ _ => rfl)) pe_int (fun _ _ => rfl)) pe_int (nomark _))))))
       (pss_cons (ps_asg (pe_f (ok_loosened T) hr (pa_cons (pv 0) (pa_cons (pv 2) (pa_cons (pv 3) (pa_cons (pv 4) pa_nil))))) (pg_tup rfl (pgs_cons (pg_name (i := 2) scWoven.nd rfl (Or.inl rfl)) (pgs_cons (pg_name (i := 3) scWoven.nd rfl (Or.inl rfl)) pgs_nil))))
       (C8.pss_cut (ps_if (pt_cmpR op_eq (pe_op op_mod (pv 4) pe_int) pe_int (nomark _))
       (pss_one (ps_setLc (i := 3) (own := [("runs", 7)]) (g := (gName 7)) (tt := tYes) rfl scWoven.nd rfl rfl (sw_true rfl rfl rfl (by decide +kernel)) (pi_list (pv 3)) (blkOk_by (N := ["store", "parts", "held", "gaps", "turn", "part", "k", "runs"]) (sc := defScope s_woven) (by decide +kernel)) (fun _ _ _ _ _ => (pg_name (i := 7) scWoven.nd rfl (Or.inl rfl))) (fun _ _ _ _ _ => pts_nil) (fun _ _ _ _ _ => (pe_f (ok_blocks T) hr (pa_cons (pv 0) (pa_cons (pv 7) pa_nil))))))
       (pss_one (ps_setLc (i := 3) (own := [("runs", 7)]) (g := (gName 7)) (tt := tYes) rfl scWoven.nd rfl rfl (sw_true rfl rfl rfl (by decide +kernel)) (pi_list (pv 3)) (blkOk_by (N := ["store", "parts", "held", "gaps", "turn", "part", "k", "runs"]) (sc := defScope s_woven) (by decide +kernel)) (fun _ _ _ _ _ => (pg_name (i := 7) scWoven.nd rfl (Or.inl rfl))) (fun _ _ _ _ _ => pts_nil) (fun _ _ _ _ _ => (pe_f (ok_pairs T) hr (pa_cons (pv 0) (pa_cons (pv 7) (pa_cons (pv 4) pa_nil))))))))
       (pss_one (ps_aug (i := 4) scWoven.nd rfl (Or.inr rfl) pe_int ip_add)))))
       (pss_one (ps_ret (pe_ix ix_tup (pe_ix ix_list (pe_ix ix_list (pv 3) pe_int (fun _ _ => rfl)) pe_int (fun _ _ => rfl)) pe_int (fun _ _ => rfl)))))))))), ?_⟩
    dsimp only [L2.start, List.map, List.map_cons, List.map_nil, List.append_eq, List.append, List.length_cons, List.length_nil, Nat.reduceAdd, Nat.reduceSub, List.replicate_succ, List.replicate_zero, List.cons_append, List.nil_append, cxOf]
    obtain ⟨as, hla, hF⟩ := id R
    have hlen : as.length = rs.length := hF.len
    -- held = [part for part in parts if part[1] < part[2]]
    refine ⟨_, rfl, l, rfl, ⟨_, SqL.of hla⟩, fun hd hhd => ?_⟩
    refine lc_list (K := K) (a := l) (xs := as.map V.ref) (fun i H' => ∃ ps : List Addr, Same H H' ∧ H' hd = some (.lst (ps.map V.ref)) ∧ F2 (PartAt' H) ps (actP (rs.take i)) ∧ ps.length ≤ i) ⟨[], same_upd hhd, upd_same, .nil, Nat.le_refl _⟩ (fun i H' _ ⟨_, s1, _⟩ => SqL.of (s1 _ _ hla)) ?_ ?_
    · rintro i y H' hi ⟨ps, s1, hps, F1, pl⟩
      obtain ⟨x, hx, rfl⟩ : ∃ x, as[i]? = some x ∧ y = V.ref x := by
        rw [List.getElem?_map] at hi
        cases e : as[i]? with
        | none => rw [e] at hi; cases hi
        | some x => rw [e] at hi; exact ⟨x, rfl, (Option.some.inj hi).symm⟩
      obtain ⟨r, hr1, hxr⟩ := hF.get i x hx
      have hxr : H x = some (.tup (rawV r)) := hxr
      have hi2 : i < rs.length := (List.getElem?_eq_some_iff.mp hr1).1
      refine ⟨rfl, _, rfl, x, _, _, iV r.2.1, rfl, rfl, SqT.of (s1 _ _ hxr), rfl, _, rfl, x, _, _, iV r.2.2, rfl, rfl, SqT.of (s1 _ _ hxr), rfl, _, _, rfl, rfl, _, rfl, ?_⟩
      have ed : decide ((r.2.1 : Int) < (r.2.2 : Int)) = act r := decide_eq_decide.mpr (by omega)
      rw [ed, actP_take hr1]
      by_cases ha : act r = true
      · rw [ha]
        refine iteT ?_
        refine ⟨_, rfl, _, hps, by rw [List.length_map, sizeLine_eq]; omega, ps ++ [x], fun b o e => ?_, by rw [upd_same, List.map_append]; rfl, ?_, by rw [List.length_append]; exact Nat.succ_le_succ pl⟩
        · rw [upd_ne (ne_of_none e hhd)]
          exact s1 _ _ e
        · rw [if_pos rfl]
          refine F1.snoc ?_
          obtain ⟨q1, q2, q3⟩ := ro r (List.mem_of_getElem? hr1) ha
          show H x = some (.tup [iV (toP r).top, iV r.2.1, iV r.2.2])
          rw [hxr]
          unfold rawV
          rw [q1]
          rfl
      · have ha : act r = false := by simpa using ha
        rw [ha]
        refine iteF ?_
        rw [if_neg Bool.false_ne_true, List.append_nil]
        exact ⟨ps, s1, hps, F1, Nat.le_succ_of_le pl⟩
    · rintro H1 ⟨ps, s1, hps, F1, pl⟩
      rw [List.length_map, hlen, List.take_length] at F1
      rw [List.length_map, hlen] at pl
      dsimp only [gName, wipe, List.set_cons_succ, List.set_cons_zero]
      have PO : ∀ p ∈ actP rs, p.top < S.len ∧ p.lo < p.hi ∧ p.hi ≤ S.size p.top := fun p hp => by
        obtain ⟨r, hr', rfl⟩ := List.mem_map.mp hp
        obtain ⟨h1, h2⟩ := List.mem_filter.mp hr'
        obtain ⟨q1, q2, q3⟩ := ro r h1 h2
        exact ⟨q2, of_decide_eq_true h2, q3⟩
      generalize hPs : actP rs = Ps at *
      have plen : ps.length = Ps.length := F1.len
      have D1 := D.same s1
      -- if not held
      refine ⟨_, rfl, !(ps.map V.ref).isEmpty, .inl ⟨_, SqL.of hps, rfl⟩, ?_⟩
      rcases List.eq_nil_or_concat Ps with e | ⟨Ps', pz, e⟩
      · subst e
        cases F1
        refine iteT ?_
        exact k S H1 (-1) (Le.refl S) D1 (Kp.same s1) (.inl ⟨rfl, rfl⟩) (by omega)
      · have pne : Ps ≠ [] := by
          rw [e]
          simp
        have rpos : 1 ≤ rs.length := by
          rcases Nat.eq_zero_or_pos rs.length with z | z
          · have : rs = [] := List.length_eq_zero_iff.mp z
            rw [this] at hPs
            exact absurd hPs.symm pne
          · exact z
        have n1 : 1 ≤ ps.length := by rw [plen, e]; simp
        have e1 : (!(ps.map V.ref).isEmpty) = true := by
          cases ps with
          | nil => exact absurd n1 (by simp)
          | cons _ _ => rfl
        rw [e1]
        refine iteF ?_
        dsimp only [gName, wipe, List.set_cons_succ, List.set_cons_zero]
        -- if the one stretch is a whole text
        refine ⟨fun σ' H' => σ' = [some (.ref a.s), some (.ref l), some (.ref hd), none, none, none, none, none] ∧ Same H1 H' ∧ (2 ≤ Ps.length ∨ ∀ p ∈ Ps, 0 < p.lo ∨ p.hi < S.size p.top), ?_, ?_⟩
        · obtain ⟨x, hx⟩ : ∃ x, ps[0]? = some x := ⟨_, List.getElem?_eq_getElem n1⟩
          obtain ⟨p, hp, hxp⟩ := F1.get 0 x hx
          have hxp1 : PartAt H1 x p.top p.lo p.hi := s1 _ _ hxp
          obtain ⟨pt1, pt2, pt3⟩ := PO p (List.mem_of_getElem? hp)
          have hat : atI (ps.map V.ref) 0 = some (V.ref x) := atI_nat (j := 0) (by rw [List.getElem?_map, hx]; rfl)
          refine ⟨_, rfl, hd, _, rfl, .inl (SqL.of hps), rfl, _, rfl, ?_⟩
          rw [List.length_map, dec_i1]
          by_cases one : ps.length = 1
          · rw [decide_eq_true one]
            have hPs1 : Ps = [p] := by
              rw [plen] at one
              match Ps, one, hp with
              | [q], _, hp => rw [Option.some.inj hp]
            refine iteT ?_
            refine ⟨_, rfl, hd, _, _, V.ref x, rfl, rfl, SqL.of hps, hat, _, rfl, x, _, rfl, SqT.of hxp1, (show ¬ (HT.sIx 3 0 (some 1) = 0 ∧ HT.sIx 3 3 none = 3) from by decide), fun q1 hq1 => ?_⟩
            have t1 := same_upd (o := .tup (cutV [iV p.top, iV p.lo, iV p.hi] (some 1) none)) hq1
            have hq1' : upd H1 q1 (.tup (cutV [iV p.top, iV p.lo, iV p.hi] (some 1) none)) q1 = some (.tup [iV p.lo, iV p.hi]) := upd_same
            have D2 := D1.same t1
            generalize upd H1 q1 (.tup (cutV [iV p.top, iV p.lo, iV p.hi] (some 1) none)) = H2 at t1 hq1' D2
            refine ⟨_, rfl, a.s, cSt K, a.dx, _, _, rfl, D2.ob, T.c_Store, T.n_Store_sizes, lk_sizes, _, rfl, hd, _, _, V.ref x, rfl, rfl, SqL.of (t1 _ _ hps), hat, x, _, _, iV p.top, rfl, rfl, SqT.of (t1 _ _ hxp1), rfl, a.sz, _, _, _, rfl, rfl, SqL.of D2.sz, col_atI pt1, z2, fun q2 hq2 => ?_⟩
            have t2 := same_upd (o := .tup [V.int 0, iV (S.size p.top)]) hq2
            have hq2' : upd H2 q2 (.tup [V.int 0, iV (S.size p.top)]) q2 = some (.tup [V.int 0, iV (S.size p.top)]) := upd_same
            have D3 := D2.same t2
            generalize upd H2 q2 (.tup [V.int 0, iV (S.size p.top)]) = H3 at t2 hq2' D3
            refine ⟨.tuple [.int p.lo, .int p.hi], .tuple [.int 0, .int (S.size p.top)], .tup (SqT.of (t2 _ _ hq1')) (.cons (.int _) (.cons (.int _) .nil)), .tup (SqT.of hq2') (.cons (.int _) (.cons (.int _) .nil)), rfl, rfl, _, rfl, ?_⟩
            have ev : PyData.eqv (.tuple [.int p.lo, .int p.hi]) (.tuple [.int 0, .int (S.size p.top)]) = decide (p.lo = 0 ∧ p.hi = S.size p.top) := by
              simp only [PyData.eqv, PyData.eqvAll]
              by_cases z : p.lo = 0 ∧ p.hi = S.size p.top
              · rw [decide_eq_true z, z.1, z.2]
                simp
              · rw [decide_eq_false z]
                by_cases z1 : p.lo = 0
                · have z2 : ¬ p.hi = S.size p.top := fun q => z ⟨z1, q⟩
                  simp
                  intro _
                  omega
                · simp
                  intro q
                  omega
            rw [ev]
            have s3 := (s1.trans t1).trans t2
            by_cases z : p.lo = 0 ∧ p.hi = S.size p.top
            · rw [decide_eq_true z]
              refine iteT ?_
              refine ⟨_, rfl, hd, _, _, V.ref x, rfl, rfl, SqL.of (t2 _ _ (t1 _ _ hps)), hat, x, _, _, iV p.top, rfl, rfl, SqT.of (t2 _ _ (t1 _ _ hxp1)), rfl, ?_⟩
              refine k S H3 p.top (Le.refl S) D3 (Kp.same s3) (.inr ⟨p.top, rfl, pt1, ?_⟩) (by omega)
              rw [hPs1, List.flatMap_cons, List.flatMap_nil, List.append_nil]
              unfold VW.sub
              rw [z.1, z.2, ← VW.cont_len D.ok pt1, List.take_length]
              rfl
            · rw [decide_eq_false z]
              refine iteF ?_
              refine ⟨rfl, t1.trans t2, .inr fun q hq => ?_⟩
              rw [hPs1] at hq
              have : q = p := by simpa using hq
              subst this
              omega
          · rw [decide_eq_false one]
            refine iteF ?_
            exact ⟨rfl, fun _ _ h => h, .inl (by omega)⟩
        · rintro σ' H2 ⟨rfl, s2, jj⟩
          have hps2 := s2 _ _ hps
          have F2_ : F2 (PartAt' H2) ps Ps := F1.mono fun x p e => s2 _ _ (s1 _ _ e)
          have D2 := D1.same s2
          have k2 : Kp a H H2 := Kp.same (s1.trans s2)
          have hdo : hd ∉ six a := D.out_new hhd
          clear hps F1 s1 s2 hla hF hlen hhd
          -- gaps = [[] for k in range(len(held) + 1)]
          refine ⟨_, rfl, hd, _, rfl, .inl (SqL.of hps2), _, _, rfl, rfl, _, rfl, (by rw [List.length_map]; omega), (by rw [List.length_map]; omega), fun gd hgd => ?_⟩
          have en : (((ps.map V.ref).length : Int) + 1).toNat = Ps.length + 1 := by rw [List.length_map, plen]; omega
          rw [en]
          refine lc_range (fun i H' => ∃ gs : List Addr, Same H2 H' ∧ H' gd = some (.lst (gs.map V.ref)) ∧ F2 (RunsAt H') gs (List.replicate i []) ∧ (∀ x ∈ gs, H2 x = none ∧ x ≠ gd) ∧ gs.length = i) ⟨[], same_upd hgd, upd_same, .nil, fun x hx => (nomatch hx), rfl⟩ ?_ ?_
          · rintro i H' hi ⟨gs, s3, hgs, F3, new, glen⟩
            refine ⟨rfl, Nat.zero_le _, fun x hx => ⟨_, same_upd hx _ _ hgs, by rw [List.length_map, glen, sizeLine_eq]; omega, gs ++ [x], fun b o e => ?_, by rw [upd_same, List.map_append]; rfl, ?_, fun z hz => ?_, by rw [List.length_append, glen]; rfl⟩⟩
            · rw [upd_ne (ne_of_none e hgd)]
              exact same_upd hx _ _ (s3 _ _ e)
            · have hg' := same_upd (o := .lst []) hx _ _ hgs
              have hx' : x ≠ gd := (ne_of_none hgs hx).symm
              rw [List.replicate_succ']
              exact F2.snoc (F2_imp F3 fun z hz q _ Rz => (Rz.same (same_upd hx)).upd hg' (new z hz).2) (RunsAt.upd ⟨[], upd_same, .nil⟩ hg' hx')
            · rcases List.mem_append.mp hz with q | q
              · exact new z q
              · have : z = x := by simpa using q
                subst this
                exact ⟨s3.free hx, (ne_of_none hgs hx).symm⟩
          · rintro H3 ⟨gs, s3, hgs, F3, new, glen⟩
            dsimp only [gName, wipe, List.set_cons_succ, List.set_cons_zero]
            obtain ⟨ms, X, W0, cX⟩ := VW.ws_start D2.ok PO jj
            have Tne : Ps.flatMap (sub S) ≠ [] := by
              rw [e]
              intro z
              have hp : pz ∈ Ps := by rw [e]; simp
              obtain ⟨t1, t2, t3⟩ := PO pz hp
              have l0 : sub S pz ≠ [] := by
                intro y
                have : (sub S pz).length = 0 := by rw [y]; rfl
                unfold VW.sub at this
                rw [List.length_drop, List.length_take, VW.cont_len D2.ok t1] at this
                omega
              have : pz ∈ Ps'.concat pz := by simp
              exact l0 (List.flatMap_eq_nil_iff.mp z pz this)
            have k3 : Kp a H H3 := k2.trans (Kp.same s3)
            generalize hT : Ps.flatMap (sub S) = Tx at *
            refine ⟨fun m σ H' => ∃ t, m = 9890 - t ∧ Turn K a l S c Tx H σ H' t, ⟨_, 0, rfl, S, Ps, ms, _, X, hd, gd, ps, gs, rfl, Le.refl S, D2.same s3, k3, s3 _ _ hps2, F2_.mono fun x p e => s3 _ _ e, hgs, F3, W0, cX, fc, ?_, Nat.zero_le _, fun z => by omega⟩, ?_⟩
            · have : ∀ n, wsum (List.replicate n []) = 0 := by
                intro n
                induction n with
                | zero => rfl
                | succ n ih => rw [List.replicate_succ]; show wt [] + wsum (List.replicate n []) = 0; rw [ih]; rfl
              rw [this]
              omega
            · clear W0 cX F3 hgs new glen hgd en hps2 D2 jj F2_ k3 k2 fc s3 hdo
              rintro m σ H4 ⟨t, rfl, Si, P, ms, G, X, hd, gd, pa, ga, rfl, le, Di, k1, hpa, F1, hga, FG, W, cX, fs, bud, t9, tP⟩
              have hz : (cts Si X).length ≤ 10 ^ 18 := by rw [cX]; exact tl
              have fg := fsum_ge (S := Si) (n := P.length) (l := P) (i := 0) (by omega)
              rw [if_pos rfl] at fg
              have Xne : X ≠ [] := fun z => by
                rw [z] at cX
                exact Tne cX.symm
              have bt : 2 * c * t ≤ 2 * c * 9889 := Nat.mul_le_mul_left _ t9
              have galen : ga.length = P.length + 1 := FG.len.trans W.len
              have palen : pa.length = P.length := F1.len
              have hx0 : ga[0]? = some (ga[0]'(by omega)) := List.getElem?_eq_getElem _
              obtain ⟨g0, hg0, R0⟩ := FG.get 0 _ hx0
              generalize ga[0]'(by omega) = x0 at hx0 R0
              obtain ⟨as0, has0, F0⟩ := id R0
              have hat0 : atI (ga.map V.ref) 0 = some (V.ref x0) := atI_nat (j := 0) (by rw [List.getElem?_map, hx0]; rfl)
              have a0len : as0.length = g0.length := F0.len
              have endX : P = [] → g0.length = X.length ∧ X = g0.map (·.1) := fun z => by
                subst z
                obtain ⟨g, eg, ex, _⟩ := VW.ws_end W
                rw [eg] at hg0
                have : g0 = g := (Option.some.inj hg0).symm
                subst this
                have : X = g0.map (·.1) := by rw [ex]; exact unr_ones fun r hr' => W.one g0 (by rw [eg]; simp) r hr'
                exact ⟨by rw [this, List.length_map], this⟩
              have ePa : (!(pa.map V.ref).isEmpty) = decide (P ≠ []) := by
                cases F1 with
                | nil => rfl
                | cons _ _ => rfl
              have dlt1 : ∀ n : Nat, decide ((1 : Int) < (n : Int)) = decide (1 < n) := fun n => decide_eq_decide.mpr (by omega)
              refine (an_or' (b1 := decide (P ≠ [])) (b2 := decide (1 < g0.length) || false) (fun Q q => ⟨_, rfl, _, .inl ⟨_, SqL.of hpa, rfl⟩, by rw [ePa]; exact q⟩) fun b1 => an_or' (fun Q q => ⟨_, rfl, gd, _, _, V.ref x0, rfl, rfl, SqL.of hga, hat0, x0, _, rfl, .inl (SqL.of has0), _, _, rfl, rfl, _, rfl, ?t2⟩) fun b2 Q q => ?t3 :
                An _ _ _ (decide (P ≠ []) || (decide (1 < g0.length) || false))) _ ?tm
              case t2 =>
                rw [List.length_map, a0len, dlt1]
                exact q
              case t3 =>
                have b1 : P = [] := by simpa using b1
                have b2 : ¬ 1 < g0.length := of_decide_eq_false b2
                obtain ⟨q1, q2⟩ := endX b1
                have q3 : 1 ≤ g0.length := by rw [q1]; exact List.length_pos_iff.mpr Xne
                have hy0 : as0[0]? = some (as0[0]'(by omega)) := List.getElem?_eq_getElem _
                obtain ⟨r0, hr0, Y0⟩ := F0.get 0 _ hy0
                generalize as0[0]'(by omega) = y0 at hy0 Y0
                refine ⟨_, rfl, gd, _, _, V.ref x0, rfl, rfl, SqL.of hga, hat0, x0, _, _, V.ref y0, rfl, rfl, SqL.of has0, atI_nat (j := 0) (by rw [List.getElem?_map, hy0]; rfl), y0, _, _, iV r0.2, rfl, rfl, SqT.of Y0, rfl, _, _, rfl, rfl, _, rfl, ?_⟩
                have : r0.2 = 1 := W.one g0 (List.mem_of_getElem? hg0) r0 (List.mem_of_getElem? hr0)
                rw [this]
                exact q
              case tm =>
                refine ite2 (fun go => ?_) (fun stop => ?_)
                · have go : P ≠ [] ∨ 1 < g0.length := by simpa using go
                  have t8 : t ≤ 9888 := by
                    rcases Nat.lt_or_ge t 9889 with z | z
                    · omega
                    · have e9 : t = 9889 := by omega
                      have := tP e9
                      have one := VW.ws_one Di.ok Di.cap W (by omega) hz
                      rcases go with g | g
                      · exact absurd this g
                      · rw [(endX this).1] at g
                        omega
                  refine ⟨fun σ' H' => Turn K a l S c Tx H σ' H' (t + 1), fun σ' H' z => ⟨9890 - (t + 1), by omega, t + 1, rfl, z⟩, ?_⟩
                  refine ⟨_, rfl, _, rfl, _, rfl, _, rfl, a, Si, hd, gd, t, P, ms, G, X, rfl, Di, ⟨pa, hpa, F1⟩, ⟨ga, hga, FG⟩, W, by omega, fun H5 p hl gl lp gs g ms' ps as b I L hp => ?_⟩
                  refine ⟨p, _, rfl, SqT.of hp, rfl, _, _, rfl, _, _, rfl, rfl, ?_⟩
                  have D5 := Di.same L.same
                  have wI := I.wts
                  have w2 := wsum_take (G := G) (P.length + 1)
                  rw [List.take_length] at wI
                  have tc : 2 * c * (t + 1) = 2 * c * t + 2 * c := by rw [Nat.mul_add, Nat.mul_one]
                  have tc9 : 2 * c * (t + 1) ≤ 2 * c * 9889 := Nat.mul_le_mul_left _ (by omega)
                  have gok := gaps_ok Di.ok W I hz
                  have glo : gl ∉ six a := Di.out_new L.n2
                  have hlo : hl ∉ six a := Di.out_new L.n1
                  have GA := L.ha.snoc L.hb
                  have aso : ∀ x ∈ as ++ [b], x ∉ six a := fun x hx => by
                    rcases List.mem_append.mp hx with q | q
                    · exact Di.out_new (L.n3 x q)
                    · have : x = b := by simpa using q
                      rw [this]
                      exact Di.out_new L.n4
                  have hgl : H5 gl = some (.lst ((as ++ [b]).map V.ref)) := by
                    rw [L.ho, List.map_append]
                    rfl
                  have gsl : (gs ++ [g]).length = lp.length + 1 := by
                    have a := I.bd.len
                    have c := I.pm.len
                    rw [List.length_map] at a
                    rw [List.length_append, a, ← c]
                    rfl
                  have gsl2 : (gs ++ [g]).length ≤ 16777216 := by
                    have d1 := I.ds
                    rw [List.take_length] at d1
                    have d2 := dsum_ge I.jj
                    omega
                  dsimp only [gName, wipe, List.set_cons_succ, List.set_cons_zero]
                  refine ⟨fun σ' H6 => ∃ (S6 : Sto) (gl6 : Addr) (fs : List Addr) (outs : List (List Nat)), σ' = [some (.ref a.s), some (.ref l), some (.ref hl), some (.ref gl6), some (iV t), none, none, none] ∧ Le Si S6 ∧ StoreAt K H6 a S6 ∧ Kp a H5 H6 ∧ H6 gl6 = some (.lst (fs.map V.ref)) ∧ F2 (RunsAt H6) fs (outs.map on1) ∧ F2 (Mgd S6 t) ((gs ++ [g]).map unr) outs ∧ S6.len + tot outs ≤ Si.len + wsum (gs ++ [g]), ?_, ?_⟩
                  · refine ⟨_, rfl, _, _, rfl, rfl, (by decide : (0 : Int) < 2), rfl, _, rfl, ?_⟩
                    rw [even_iff]
                    refine ite2 (fun he => ?_) (fun he => ?_)
                    · have he := of_decide_eq_true he
                      refine ⟨_, rfl, gl, rfl, ⟨_, SqL.of hgl⟩, fun D6 hD6 => ?_⟩
                      refine merge_lc (par := 0) (tail := fun _ => []) he D5 hgl GA glo aso gok (by omega) gsl2 hD6 (fun x H2 Qf N h => ⟨rfl, _, rfl, _, rfl, h⟩) fun S6 H6 fs outs le6 Ds6 k6 hfs F6 M6 few6 _ => ?_
                      exact ⟨S6, D6, fs, outs, rfl, le6, Ds6, k6, hfs, F6, M6, few6⟩
                    · have he : t % 2 = 1 := by have := of_decide_eq_false (by simpa using he : decide (t % 2 = 0) = false); omega
                      refine ⟨_, rfl, gl, rfl, ⟨_, SqL.of hgl⟩, fun D6 hD6 => ?_⟩
                      refine merge_lc (par := 1) (tail := fun t => [iV t]) he D5 hgl GA glo aso gok (by omega) gsl2 hD6 (fun x H2 Qf N h => ⟨rfl, _, rfl, _, rfl, _, rfl, h⟩) fun S6 H6 fs outs le6 Ds6 k6 hfs F6 M6 few6 _ => ?_
                      exact ⟨S6, D6, fs, outs, rfl, le6, Ds6, k6, hfs, F6, M6, few6⟩
                  · rintro σ' H6 ⟨S6, gl6, fs6, outs, rfl, le6, Ds6, k6, hfs, F6, M6, few6⟩
                    obtain ⟨X', W', c', f', n'⟩ := VW.ws_next Di.ok Ds6.ok le6 W I M6
                    refine ⟨_, rfl, _, _, rfl, rfl, ?_⟩
                    refine ⟨S6, lp, ms', outs.map on1, X', hl, gl6, ps, fs6, rfl, le.trans le6, Ds6, (k1.trans (Kp.same L.same)).trans k6, k6 _ _ L.hl hlo, L.hp.mono fun x q e => D5.tup k6 e, hfs, F6, W', c'.trans cX, by omega, ?_, by omega, fun z => ?_⟩
                    · rw [VW.wsum_on1]
                      omega
                    · have one := VW.ws_one Di.ok Di.cap W (by omega) hz
                      have : P ≠ [] := by
                        rcases go with g | g
                        · exact g
                        · intro y
                          rw [(endX y).1] at g
                          omega
                      have : 1 ≤ P.length := List.length_pos_iff.mpr this
                      exact List.length_eq_zero_iff.mp (by omega)
                · have stop : P = [] ∧ g0.length ≤ 1 := by simpa using stop
                  obtain ⟨q1, q2⟩ := endX stop.1
                  have q3 : 1 ≤ g0.length := by rw [q1]; exact List.length_pos_iff.mpr Xne
                  have hy0 : as0[0]? = some (as0[0]'(by omega)) := List.getElem?_eq_getElem _
                  obtain ⟨r0, hr0, Y0⟩ := F0.get 0 _ hy0
                  generalize as0[0]'(by omega) = y0 at hy0 Y0
                  refine ⟨_, rfl, gd, _, _, V.ref x0, rfl, rfl, SqL.of hga, hat0, x0, _, _, V.ref y0, rfl, rfl, SqL.of has0, atI_nat (j := 0) (by rw [List.getElem?_map, hy0]; rfl), y0, _, _, iV r0.1, rfl, rfl, SqT.of Y0, rfl, ?_⟩
                  have eg0 : g0 = [r0] := by
                    match g0, q3, stop.2, hr0 with
                    | [z], _, _, hr0 => rw [Option.some.inj hr0]
                  have eX : X = [r0.1] := by rw [q2, eg0]; rfl
                  refine k Si H4 r0.1 le Di k1 (.inr ⟨r0.1, rfl, (W.lt r0.1 (by rw [eX]; simp)).1, ?_⟩) (by omega)
                  rw [← cX, eX]
                  show _ = [r0.1].flatMap Si.cont
                  rw [List.flatMap_cons, List.flatMap_nil, List.append_nil]
end
end VT
set_option Elab.async false
set_option linter.all false
set_option maxRecDepth 100000
set_option maxHeartbeats 4000000
/-! whole, laid. -/
namespace VT
open PySem PySem.Spec PyProof.Rows L2
open VW (Sto Node Ok Le Loc Al Seg Rn unr wt F2 OffL OffR side Meet Pc szs Kept Mgd Jn Ch Sep on1 Part PM WS LI HL HR wsum fsum lf rf mix tot cts sub flat Bd)
def rawOf (S : Sto) (top : Int) : Raw := if top = -1 then (-1, 0, 0) else (top, 0, S.size top.toNat)
def TopOk (S : Sto) (top : Int) : Prop := top = -1 ∨ ∃ n : Nat, top = n ∧ n < S.len
theorem TopIs.ok {S : Sto} {top : Int} {T : List Nat} (h : TopIs S top T) : TopOk S top := by
  rcases h with ⟨_, h⟩ | ⟨n, h1, h2, _⟩
  · exact .inl h
  · exact .inr ⟨n, h1, h2⟩
theorem TopIs.le {S S' : Sto} (le : Le S S') {top : Int} {T : List Nat} (h : TopIs S top T) : TopIs S' top T := by
  rcases h with ⟨h1, h⟩ | ⟨n, h1, h2, h3⟩
  · exact .inl ⟨h1, h⟩
  · exact .inr ⟨n, h1, le.lt h2, by rw [le.cont n h2]; exact h3⟩
theorem rawOf_nat {S : Sto} {n : Nat} : rawOf S n = ((n : Int), 0, S.size n) := by
  unfold rawOf
  rw [if_neg (by omega)]
  rfl
theorem raw_ok {S : Sto} {top : Int} (h : TopOk S top) : RawOk S (rawOf S top) := by
  rcases h with h | ⟨n, rfl, h⟩
  · subst h
    intro z
    cases z
  · rw [rawOf_nat]
    exact fun _ => ⟨rfl, h, Nat.le_refl _⟩
theorem act_cons {r : Raw} {rs : List Raw} : actP (r :: rs) = (if act r = true then [toP r] else []) ++ actP rs := by
  unfold actP
  rw [List.filter_cons]
  split <;> simp
theorem raw_txt {S : Sto} (ok : Ok S) : ∀ {tops : List Int} {Ts : List (List Nat)}, F2 (TopIs S) tops Ts →
    (actP (tops.map (rawOf S))).flatMap (sub S) = Ts.flatten ∧ (∀ p ∈ actP (tops.map (rawOf S)), p.lo = 0 ∧ p.hi = S.size p.top) ∧ (actP (tops.map (rawOf S))).length ≤ tops.length
  | _, _, .nil => ⟨rfl, fun p hp => (nomatch hp), Nat.zero_le _⟩
  | _, _, .cons h t => by
    obtain ⟨i1, i2, i3⟩ := raw_txt ok t
    rw [List.map_cons, act_cons, List.flatten_cons, List.length_cons]
    rcases h with ⟨rfl, rfl⟩ | ⟨n, rfl, hn, rfl⟩
    · rw [if_neg (show ¬ act (rawOf S (-1)) = true from fun z => by cases z)]
      exact ⟨i1, i2, Nat.le_succ_of_le i3⟩
    · have sp := VW.size_pos ok hn
      have ha : act (rawOf S n) = true := by rw [rawOf_nat]; exact decide_eq_true (show 0 < S.size n by omega)
      rw [if_pos ha, rawOf_nat]
      refine ⟨?_, fun p hp => ?_, Nat.succ_le_succ i3⟩
      · rw [List.flatMap_append, i1]
        congr 1
        show sub S ⟨n, 0, S.size n⟩ ++ [] = _
        unfold VW.sub
        show ((S.cont n).take (S.size n)).drop 0 ++ [] = _
        rw [← VW.cont_len ok hn, List.take_length, List.append_nil]
        rfl
      · rcases List.mem_cons.mp hp with q | q
        · subst q
          exact ⟨rfl, rfl⟩
        · exact i2 p q
theorem fsum_whole {S : Sto} {n : Nat} : ∀ {l : List Part} {i : Nat}, (∀ p ∈ l, p.lo = 0 ∧ p.hi = S.size p.top) → i + l.length = n → l ≠ [] → fsum S n i l + (if i = 0 then 1 else 0) + 1 ≤ 2 * l.length
  | [], _, _, _, h => absurd rfl h
  | p :: r, i, h, hn, _ => by
    obtain ⟨h1, h2⟩ := h p (by simp)
    rw [List.length_cons] at hn ⊢
    show VW.b2 (lf i p) + VW.b2 (rf S n i p) + fsum S n (i + 1) r + _ + 1 ≤ _
    have hl : VW.b2 (lf i p) + (if i = 0 then 1 else 0) ≤ 1 := by
      by_cases z : i = 0
      · rw [if_pos z, VW.b2_f (show ¬ lf i p from fun q => by rcases q with q | q <;> omega)]
        exact Nat.le_refl _
      · rw [if_neg z]
        exact VW.b2_le _
    cases r with
    | nil =>
      rw [List.length_nil] at hn ⊢
      have : VW.b2 (rf S n i p) = 0 := VW.b2_f (show ¬ rf S n i p from fun q => by rcases q with q | q <;> omega)
      rw [this]
      show _ + 0 + 0 + _ + 1 ≤ _
      omega
    | cons q r =>
      have ih := fsum_whole (S := S) (n := n) (l := q :: r) (i := i + 1) (fun p hp => h p (List.mem_cons_of_mem _ hp)) (by omega) (by simp)
      rw [if_neg (by omega)] at ih
      have := VW.b2_le (rf S n i p)
      omega
def spWhole (K : PySem.W.Frag) : Sp := fun vs H Q _ => ∃ (a : SA) (S : Sto) (top : Int), vs = [.ref a.s, .int top] ∧ StoreAt K H a S ∧ TopOk S top ∧ ∀ p, H p = none → Q (.ref p) (upd H p (.tup (rawV (rawOf S top))))
def spLaid (K : PySem.W.Frag) : Sp := fun vs H Q _ => ∃ (a : SA) (S : Sto) (l : Addr) (tops : List Int) (Ts : List (List Nat)) (c : Nat), vs = [.ref a.s, .ref l] ∧ StoreAt K H a S ∧ H l = some (.lst (tops.map V.int)) ∧ F2 (TopIs S) tops Ts ∧ tops.length ≤ 1000 ∧ 2 * (tops.length - 1) ≤ c ∧
  Ts.flatten.length ≤ 10 ^ 18 ∧ S.len + 2 * c * 9890 + 4 * tops.length + 8 ≤ 16777216 ∧ WovenK K a S H Ts.flatten c Q
section
variable {P : Program} {w : World} {K : PySem.W.Frag} {mg : Str → Option Value} {base : Heap}
theorem scWhole : FnScope ["store", "top"] ["store", "top"] (defScope s_whole) := ⟨rfl, rfl, rfl, by decide +kernel, rfl, by decide +kernel, by decide +kernel⟩
theorem ok_whole (T : Txt K mg) : FX P w K mg base 1 "whole" (spWhole K) [] := by
  refine fx_mk T.f_whole T.g_whole scWhole (fun _ _ _ _ _ _ us hl => match us, hl with | [_, _], _ => rfl) (fun vs H Q E h => ?_) (fun cdv A outer s H vs Q E hr h => ?_)
  · obtain ⟨_, _, _, rfl, _⟩ := h
    rfl
  · obtain ⟨a, S, top, rfl, D, ht, k⟩ := h
    refine ⟨_, (pss_cons (ps_if (pt_cmpR op_eq (pv 1) (pe_gi T.i_NONE) (nomark _))
       (pss_one (ps_ret (pe_tup (pa_cons (pv 1) (pa_cons pe_int (pa_cons pe_int pa_nil))))))
       pss_nil)
       (pss_one (ps_ret (pe_tup (pa_cons (pv 1) (pa_cons pe_int (pa_cons (pe_ix ix_list (pe_fld (pv 0) rfl) (pv 1) (fun _ _ => rfl)) pa_nil))))))), ?_⟩
    dsimp only [L2.start, List.map, List.map_cons, List.map_nil, List.append_eq, List.append, List.length_cons, List.length_nil, Nat.reduceAdd, Nat.reduceSub, List.replicate_succ, List.replicate_zero, List.cons_append, List.nil_append, cxOf]
    refine ⟨_, rfl, rfl, _, rfl, ?_⟩
    rcases ht with rfl | ⟨n, rfl, hn⟩
    · refine iteT ?_
      exact ⟨_, rfl, z3, fun p hp => k p hp⟩
    · have : decide (V.int (n : Int) = V.int (-1)) = false := decide_eq_false fun z => by injection z with z; omega
      rw [this]
      refine iteF ?_
      refine ⟨_, rfl, _, rfl, a.s, cSt K, a.dx, _, _, rfl, D.ob, T.c_Store, T.n_Store_sizes, lk_sizes, _, rfl, a.sz, _, _, _, rfl, rfl, SqL.of D.sz, col_atI hn, z3, fun p hp => ?_⟩
      have := k p hp
      rw [rawOf_nat] at this
      exact this
theorem scLaid : FnScope ["store", "tops", "top"] ["store", "tops"] (defScope s_laid) := ⟨rfl, rfl, rfl, by decide +kernel, rfl, by decide +kernel, by decide +kernel⟩
theorem ok_laid (T : Txt K mg) : FX P w K mg base 7 "laid" (spLaid K) [] := by
  refine fx_mk T.f_laid T.g_laid scLaid (fun _ _ _ _ _ _ us hl => match us, hl with | [_, _], _ => rfl) (fun vs H Q E h => ?_) (fun cdv A outer s H vs Q E hr h => ?_)
  · obtain ⟨_, _, _, _, _, _, rfl, _⟩ := h
    rfl
  · obtain ⟨a, S, l, tops, Ts, c, rfl, D, hl, hF, tlen, hc, tl, cap, k⟩ := h
    refine ⟨_, (pss_one (ps_ret (pe_f (ok_woven T) hr (pa_cons (pv 0) (pa_cons (pe_lc (own := [("top", 2)]) (g := (gName 2)) (tt := tYes) rfl scLaid.nd (pi_list (pv 1)) (blkOk_by (N := ["store", "tops", "top"]) (sc := defScope s_laid) (by decide +kernel)) (fun _ _ _ _ _ => (pg_name (i := 2) scLaid.nd rfl (Or.inl rfl))) (fun _ _ _ _ _ => pts_nil) (fun _ _ _ _ _ => (pe_f (ok_whole T) hr (pa_cons (pv 0) (pa_cons (pv 2) pa_nil))))) pa_nil))))), ?_⟩
    dsimp only [L2.start, List.map, List.map_cons, List.map_nil, List.append_eq, List.append, List.length_cons, List.length_nil, Nat.reduceAdd, Nat.reduceSub, List.replicate_succ, List.replicate_zero, List.cons_append, List.nil_append, cxOf]
    have tok : ∀ top ∈ tops, TopOk S top := fun top h => by
      obtain ⟨i, hi⟩ := List.getElem?_of_mem h
      obtain ⟨Tz, _, q⟩ := hF.get i top hi
      exact q.ok
    refine ⟨_, rfl, _, rfl, l, rfl, ⟨_, SqL.of hl⟩, fun d hd => ?_⟩
    refine lc_list (K := K) (a := l) (xs := tops.map V.int) (fun i H' => ∃ ps : List Addr, Same H H' ∧ H' d = some (.lst (ps.map V.ref)) ∧ F2 (RawAt H') ps ((tops.take i).map (rawOf S)) ∧ ps.length = i) ⟨[], same_upd hd, upd_same, .nil, rfl⟩ (fun i H' _ ⟨_, s1, _⟩ => SqL.of (s1 _ _ hl)) ?_ ?_
    · rintro i y H' hi ⟨ps, s1, hps, F1, pl⟩
      obtain ⟨top, hx, rfl⟩ : ∃ x, tops[i]? = some x ∧ y = V.int x := by
        rw [List.getElem?_map] at hi
        cases e : tops[i]? with
        | none => rw [e] at hi; cases hi
        | some x => rw [e] at hi; exact ⟨x, rfl, (Option.some.inj hi).symm⟩
      have hi2 : i < tops.length := (List.getElem?_eq_some_iff.mp hx).1
      refine ⟨rfl, _, rfl, _, rfl, a, S, top, rfl, D.same s1, tok top (List.mem_of_getElem? hx), fun p hp => ?_⟩
      have s2 := same_upd (o := .tup (rawV (rawOf S top))) hp
      have hps2 := s2 _ _ hps
      have pd : p ≠ d := (ne_of_none hps hp).symm
      refine ⟨_, hps2, by rw [List.length_map, pl, sizeLine_eq]; omega, ps ++ [p], fun b o e => ?_, by rw [upd_same, List.map_append]; rfl, ?_, by rw [List.length_append, pl]; rfl⟩
      · rw [upd_ne (ne_of_none e hd)]
        exact s2 _ _ (s1 _ _ e)
      · have keep : ∀ x r, RawAt (upd H' p (.tup (rawV (rawOf S top)))) x r → RawAt (upd (upd H' p (.tup (rawV (rawOf S top)))) d (.lst (ps.map V.ref ++ [.ref p]))) x r := fun x r e => by
          show upd _ d _ x = _
          rw [upd_ne (ne_of (show _ = some (HO.tup (rawV r)) from e) hps2 (by intro z; cases z))]
          exact e
        rw [take_snoc hx, List.map_append]
        exact (F1.mono fun x r e => keep x r (s2 _ _ e)).snoc (keep _ _ upd_same)
    · rintro H1 ⟨ps, s1, hps, F1, pl⟩
      rw [List.length_map, List.take_length] at F1
      obtain ⟨q1, q2, q3⟩ := raw_txt D.ok hF
      have fs : fsum S (actP (tops.map (rawOf S))).length 0 (actP (tops.map (rawOf S))) ≤ c := by
        by_cases z : actP (tops.map (rawOf S)) = []
        · rw [z]
          exact Nat.zero_le _
        · have := fsum_whole (S := S) (i := 0) q2 (Nat.zero_add _) z
          rw [if_pos rfl] at this
          omega
      refine ⟨a, S, d, tops.map (rawOf S), c, rfl, D.same s1, ⟨ps, hps, F1⟩, fun r hr' => ?_, by rw [List.length_map]; exact tlen, fs, by rw [q1]; exact tl, by rw [List.length_map]; omega, ?_⟩
      · obtain ⟨top, ht, rfl⟩ := List.mem_map.mp hr'
        exact raw_ok (tok top ht)
      · rw [q1]
        exact fun S' H' top le D' k' ti few => k S' H' top le D' ((Kp.same s1).trans k') ti few
end
end VT
set_option Elab.async false
set_option linter.all false
set_option maxRecDepth 100000
set_option maxHeartbeats 4000000
/-! repeated, spelled. -/
namespace VT
open PySem PySem.Spec PyProof.Rows L2
open VW (Sto Node Ok Le Loc Al Seg Rn unr wt F2 OffL OffR side Meet Pc szs Kept Mgd Jn Ch Sep on1 Part PM WS LI HL HR wsum fsum lf rf mix tot cts sub flat Bd)
def rep (n : Nat) (A : List Nat) : List Nat := (List.replicate n A).flatten
theorem rep_add {m n : Nat} {A : List Nat} : rep (m + n) A = rep m A ++ rep n A := by
  unfold rep
  rw [← List.replicate_append_replicate, List.flatten_append]
theorem rep_add' (m : Nat) {A : List Nat} : rep (m + 1) A = A ++ rep m A := by simp [rep, List.replicate_succ]
theorem rep_one {A : List Nat} : rep 1 A = A := by simp [rep]
theorem rep_len {n : Nat} {A : List Nat} : (rep n A).length = n * A.length := by simp [rep]
theorem rep_le {m n : Nat} {A : List Nat} (h : m ≤ n) : (rep m A).length ≤ (rep n A).length := by
  rw [rep_len, rep_len]
  exact Nat.mul_le_mul_right _ h
def repC (A : List Nat) : Nat := if A.length ≤ 1 then 79112 else 4272048
def spRepeated (K : PySem.W.Frag) : Sp := fun vs H Q _ => ∃ (a : SA) (S : Sto) (top : Int) (A : List Nat) (many : Nat), vs = [.ref a.s, .int top, iV many] ∧ StoreAt K H a S ∧ TopIs S top A ∧ many < 2 ^ 54 ∧ (rep many A).length ≤ 10 ^ 18 ∧ S.len + repC A + 100000 ≤ 16777216 ∧
  ∀ S' H' t2, Le S S' → StoreAt K H' a S' → Kp a H H' → TopIs S' t2 (rep many A) → S'.len ≤ S.len + repC A → Q (.int t2) H'
def spSpelled (K : PySem.W.Frag) : Sp := fun vs H Q _ => ∃ (a : SA) (S : Sto) (l : Addr) (ns : List Nat), vs = [.ref a.s, .ref l] ∧ StoreAt K H a S ∧ H l = some (.lst (ns.map iV)) ∧ l ∉ six a ∧ (∀ x ∈ ns, x < 8) ∧ ns.length ≤ 7 ∧ S.len + 300000 ≤ 16777216 ∧
  ∀ S' H' t2, Le S S' → StoreAt K H' a S' → Kp a H H' → TopIs S' t2 ns → S'.len ≤ S.len + ns.length + 4 * (ns.length - 1) * 9889 → Q (.int t2) H'
section
variable {P : Program} {w : World} {K : PySem.W.Frag} {mg : Str → Option Value} {base : Heap}
theorem scSpelled : FnScope ["store", "numbers", "number"] ["store", "numbers"] (defScope s_spelled) := ⟨rfl, rfl, rfl, by decide +kernel, rfl, by decide +kernel, by decide +kernel⟩
theorem ok_spelled (T : Txt K mg) : FX P w K mg base 8 "spelled" (spSpelled K) [] := by
  refine fx_mk T.f_spelled T.g_spelled scSpelled (fun _ _ _ _ _ _ us hl => match us, hl with | [_, _], _ => rfl) (fun vs H Q E h => ?_) (fun cdv A outer s H vs Q E hr h => ?_)
  · obtain ⟨_, _, _, _, rfl, _⟩ := h
    rfl
  · obtain ⟨a, S, l, ns, rfl, D, hl, lo, n8, nlen, cap, k⟩ := h
    refine ⟨_, (pss_one (ps_ret (pe_f (ok_laid T) hr (pa_cons (pv 0) (pa_cons (pe_lc (own := [("number", 2)]) (g := (gName 2)) (tt := tYes) rfl scSpelled.nd (pi_list (pv 1)) (blkOk_by (N := ["store", "numbers", "number"]) (sc := defScope s_spelled) (by decide +kernel)) (fun _ _ _ _ _ => (pg_name (i := 2) scSpelled.nd rfl (Or.inl rfl))) (fun _ _ _ _ _ => pts_nil) (fun _ _ _ _ _ => (pe_m (ok_keep T) hr (pv 0) (pa_cons (pe_gi T.i_LETTER) (pa_cons (pv 2) (pa_cons pe_int pa_nil)))))) pa_nil))))), ?_⟩
    dsimp only [L2.start, List.map, List.map_cons, List.map_nil, List.append_eq, List.append, List.length_cons, List.length_nil, Nat.reduceAdd, Nat.reduceSub, List.replicate_succ, List.replicate_zero, List.cons_append, List.nil_append, cxOf]
    refine ⟨_, rfl, _, rfl, l, rfl, ⟨_, SqL.of hl⟩, fun d hd => ?_⟩
    have dso : d ∉ six a := D.out_new hd
    have ds : d ≠ a.s := fun e => by rw [e, D.ob] at hd; cases hd
    refine lc_list (K := K) (a := l) (xs := ns.map iV) (fun i H' => ∃ (Si : Sto) (tops : List Int), Le S Si ∧ StoreAt K H' a Si ∧ Kp a H H' ∧ H' d = some (.lst (tops.map V.int)) ∧ F2 (TopIs Si) tops ((ns.take i).map fun x => [x]) ∧ Si.len ≤ S.len + i ∧ tops.length = i)
      ⟨S, [], Le.refl S, D.same (same_upd hd), Kp.same (same_upd hd), upd_same, .nil, Nat.le_refl _, rfl⟩ (fun i H' _ ⟨_, _, _, _, k1, _⟩ => SqL.of (k1 _ _ hl lo)) ?_ ?_
    · rintro i y H' hi ⟨Si, tops, le, Di, k1, hdl, F1, few, tlen⟩
      obtain ⟨x, hx, rfl⟩ : ∃ x, ns[i]? = some x ∧ y = iV x := by
        rw [List.getElem?_map] at hi
        cases e : ns[i]? with
        | none => rw [e] at hi; cases hi
        | some x => rw [e] at hi; exact ⟨x, rfl, (Option.some.inj hi).symm⟩
      have hi2 : i < ns.length := (List.getElem?_eq_some_iff.mp hx).1
      have x8 := n8 x (List.mem_of_getElem? hx)
      refine ⟨rfl, _, rfl, a.s, a.dx, _, rfl, Di.ob, lk_no (by decide +kernel), _, rfl, a, Si, .L x, 0, [], rfl, Di, .inl ⟨x, rfl, x8⟩, by omega, fun S2 n H2 kp D2 k2 => ?_⟩
      have hdl2 := k2 _ _ hdl dso
      refine ⟨_, hdl2, by rw [List.length_map, tlen, sizeLine_eq]; omega, S2, tops ++ [(n : Int)], le.trans kp.le, store_upd D2 dso ds, fun b o e no => ?_, by rw [upd_same, List.map_append]; rfl, ?_, by have := kp.few; omega, by rw [List.length_append, tlen]; rfl⟩
      · rw [upd_ne (ne_of_none e hd)]
        exact k2 _ _ (k1 _ _ e no) no
      · rw [take_snoc hx, List.map_append]
        refine (F1.mono fun t T h => h.le kp.le).snoc (.inr ⟨n, rfl, kp.lt, ?_⟩)
        exact (VW.node_L kp.ok kp.lt kp.node).2.2.2
    · rintro H1 ⟨Si, tops, le, Di, k1, hdl, F1, few, tlen⟩
      rw [List.length_map, List.take_length] at F1
      rw [List.length_map] at few tlen
      have et : (ns.map fun x => [x]).flatten = ns := by
        clear F1 k hl n8 nlen few tlen
        induction ns with
        | nil => rfl
        | cons x r ih => rw [List.map_cons, List.flatten_cons, ih]; rfl
      refine ⟨a, Si, d, tops, _, 2 * (ns.length - 1), rfl, Di, hdl, F1, by omega, by omega, by rw [et, big18]; omega, by omega, ?_⟩
      rw [et]
      exact fun S' H' top le' D' k' ti few' => k S' H' top (le.trans le') D' (k1.trans k') ti (by omega)
theorem scRepeated : FnScope ["store", "top", "many", "found", "twice"] ["store", "top", "many"] (defScope s_repeated) := ⟨rfl, rfl, rfl, by decide +kernel, rfl, by decide +kernel, by decide +kernel⟩
theorem ok_repeated (T : Txt K mg) : FX P w K mg base 8 "repeated" (spRepeated K) [] := by
  refine fx_mk T.f_repeated T.g_repeated scRepeated (fun _ _ _ _ _ _ us hl => match us, hl with | [_, _, _], _ => rfl) (fun vs H Q E h => ?_) (fun cdv A outer s H vs Q E hr h => ?_)
  · obtain ⟨_, _, _, _, _, rfl, _⟩ := h
    rfl
  · obtain ⟨a, S, top, A0, many, rfl, D, ti, m54, tl, cap, k⟩ := h
    refine ⟨_, (pss_cons (ps_if (PW.pt (pw_or (pt_cmpR op_eq (pv 1) (pe_gi T.i_NONE) (nomark _)) (pw_or1 (pt_cmpR op_eq (pv 2) pe_int (nomark _)))))
       (pss_one (ps_ret (pe_gi T.i_NONE)))
       pss_nil)
       (pss_cons (ps_if (PW.pt (pw_and (pt_cmpR op_eq (pe_ix ix_list (pe_fld (pv 0) rfl) (pv 1) (fun _ _ => rfl)) (pe_gi T.i_LETTER) (nomark _)) (pw_and1 (pt_cmpR op_gt (pv 2) pe_int (nomark _)))))
       (pss_one (ps_ret (pe_m (ok_keep T) hr (pv 0) (pa_cons (pe_gi T.i_BLOCK) (pa_cons (pv 1) (pa_cons (pv 2) pa_nil))))))
       pss_nil)
       (pss_cons (ps_set (i := 3) scRepeated.nd rfl (Or.inl rfl) (pe_gi T.i_NONE))
       (pss_cons (ps_set (i := 4) scRepeated.nd rfl (Or.inl rfl) (pv 1))
       (pss_cons (ps_while PassesOwn.never (pt_cmpR op_gt (pv 2) pe_int (nomark _))
       (C8.pss_cut (ps_if (pt_cmpR op_eq (pe_op op_mod (pv 2) pe_int) pe_int (nomark _))
       (pss_one (ps_set (i := 3) scRepeated.nd rfl (Or.inl rfl) (pe_f (ok_laid T) hr (pa_cons (pv 0) (pa_cons (pe_lst (pa_cons (pv 3) (pa_cons (pv 4) pa_nil))) pa_nil)))))
       pss_nil)
       (pss_cons (ps_set (i := 2) scRepeated.nd rfl (Or.inl rfl) (pe_op op_fdiv (pv 2) pe_int))
       (pss_one (ps_if (pt_cmpR op_gt (pv 2) pe_int (nomark _))
       (pss_one (ps_set (i := 4) scRepeated.nd rfl (Or.inl rfl) (pe_f (ok_laid T) hr (pa_cons (pv 0) (pa_cons (pe_lst (pa_cons (pv 4) (pa_cons (pv 4) pa_nil))) pa_nil)))))
       pss_nil)))))
       (pss_one (ps_ret (pv 3)))))))), ?_⟩
    dsimp only [L2.start, List.map, List.map_cons, List.map_nil, List.append_eq, List.append, List.length_cons, List.length_nil, Nat.reduceAdd, Nat.reduceSub, List.replicate_succ, List.replicate_zero, List.cons_append, List.nil_append, cxOf]
    have rc : 79112 ≤ repC A0 := by
      unfold repC
      split <;> omega
    -- if top == NONE or many == 0
    refine if_an (b1 := decide (top = -1) || decide (many = 0)) (an_or (fun Q q => ⟨_, rfl, rfl, _, rfl, ?t1⟩) (fun Q q => ⟨_, rfl, rfl, _, rfl, ?t2⟩)) (fun y => ?y) (fun y => ?n)
    case t1 =>
      have : decide (V.int top = V.int (-1)) = decide (top = -1) := decide_eq_decide.mpr ⟨fun z => by injection z, fun z => by rw [z]⟩
      rw [this]
      exact q
    case t2 =>
      have : decide (iV many = V.int 0) = decide (many = 0) := decide_eq_decide.mpr ⟨fun z => by injection z with z; omega, fun z => by rw [z]; rfl⟩
      rw [this]
      exact q
    case y =>
      have y : top = -1 ∨ many = 0 := by simpa using y
      have e : rep many A0 = [] := by
        rcases y with y | y
        · rcases ti with ⟨z, _⟩ | ⟨n, z, _⟩
          · rw [z]
            simp [rep]
          · omega
        · rw [y]
          rfl
      exact k S H (-1) (Le.refl S) D (Kp.refl a H) (.inl ⟨e, rfl⟩) (by omega)
    case n =>
      have y : top ≠ -1 ∧ many ≠ 0 := by simpa using y
      obtain ⟨n, rfl, hn, hA⟩ : ∃ n : Nat, top = n ∧ n < S.len ∧ S.cont n = A0 := by
        rcases ti with ⟨_, z⟩ | z
        · exact absurd z y.1
        · exact z
      have m1 : 1 ≤ many := by omega
      dsimp only [tNext, gName, wipe, List.set_cons_succ, List.set_cons_zero]
      -- if kinds[top] == LETTER and many > 1
      have kd0 : decide (iV (kdN (S.node n)) = V.int 0) = decide (kdN (S.node n) = 0) := decide_eq_decide.mpr ⟨fun z => by injection z with z; omega, fun z => by rw [z]; rfl⟩
      have dlt1 : decide ((1 : Int) < (many : Int)) = decide (1 < many) := decide_eq_decide.mpr (by omega)
      refine if_an (b1 := decide (kdN (S.node n) = 0) && decide (1 < many)) (an_and (fun Q q => ⟨_, rfl, a.s, cSt K, a.dx, _, _, rfl, D.ob, T.c_Store, T.n_Store_kinds, lk_kinds, _, rfl, a.kd, _, _, _, rfl, rfl, SqL.of D.kd, col_atI hn, rfl, _, rfl, ?t1⟩) (fun _ Q q => ⟨_, rfl, _, _, rfl, rfl, _, rfl, ?t2⟩)) (fun y => ?y) (fun y => ?n)
      case t1 =>
        rw [kd0]
        exact q
      case t2 =>
        rw [dlt1]
        exact q
      case y =>
        have y : kdN (S.node n) = 0 ∧ 1 < many := by simpa using y
        obtain ⟨x, ex⟩ : ∃ x, S.node n = .L x := by
          cases e : S.node n with
          | L x => exact ⟨x, rfl⟩
          | P l r => rw [e] at y; exact absurd (show (1 : Nat) = 0 from y.1) (by decide)
          | B l m => rw [e] at y; exact absurd (show (2 : Nat) = 0 from y.1) (by decide)
        obtain ⟨x8, xs, xb, xc⟩ := VW.node_L D.ok hn ex
        have mk : VW.Mk S 0 (.B n many) (List.replicate many n) := .B n many rfl hn (by omega) (by omega) (fun s hs => by omega)
        have sz : ∀ m, szs S (List.replicate m n) = m := by
          intro m
          induction m with
          | zero => rfl
          | succ m ih =>
            rw [List.replicate_succ, VW.szs_cons, ih, xs]
            omega
        have mz : many ≤ 10 ^ 18 := by
          have : (2 : Nat) ^ 54 ≤ 10 ^ 18 := by decide
          omega
        refine ⟨_, rfl, a.s, a.dx, _, rfl, D.ob, lk_no (by decide +kernel), _, rfl, _, rfl, a, S, .B n many, 0, _, rfl, D, .inr ⟨mk, by rw [sz]; exact mz⟩, by omega, fun S2 n2 H2 kp D2 k2 => ?_⟩
        refine k S2 H2 n2 kp.le D2 k2 (.inr ⟨n2, rfl, kp.lt, ?_⟩) (by have := kp.few; omega)
        rw [(kp.comp mk).cont, ← hA]
        have : ∀ m, cts S2 (List.replicate m n) = rep m (S.cont n) := by
          intro m
          induction m with
          | zero => rfl
          | succ m ih =>
            rw [List.replicate_succ, rep_add' m]
            show S2.cont n ++ cts S2 (List.replicate m n) = _
            rw [ih, kp.le.cont n hn]
        exact this many
      case n =>
        dsimp only [tNext, gName, wipe, List.set_cons_succ, List.set_cons_zero]
        have one : A0.length ≤ 1 → many = 1 := fun z => by
          have y : ¬ (kdN (S.node n) = 0 ∧ 1 < many) := by simpa using y
          have : kdN (S.node n) = 0 := by
            rw [← hA, VW.cont_len D.ok hn] at z
            cases e : S.node n with
            | L x => rfl
            | P l r =>
              obtain ⟨h1, h2, h3, _⟩ := VW.node_P' D.ok hn e
              have := VW.size_pos D.ok (n := l) (by omega)
              have := VW.size_pos D.ok (n := r) (by omega)
              omega
            | B l m =>
              obtain ⟨h1, h2, h3, _⟩ := VW.node_B' D.ok hn e
              have := VW.size_pos D.ok (n := l) (by omega)
              have : 2 * 1 ≤ m * S.size l := Nat.mul_le_mul h2 this
              omega
          omega
        have cost : ∀ j, 2 ^ j ≤ 2 * many → 2 * j * 39556 ≤ repC A0 := fun j hj => by
          unfold repC
          split
          · rename_i z
            rw [one z] at hj
            have : j ≤ 1 := by
              rcases Nat.lt_or_ge 1 j with q | q
              · have : 2 ^ 2 ≤ 2 ^ j := Nat.pow_le_pow_right (by decide) q
                omega
              · exact q
            omega
          · have : j ≤ 54 := by
              rcases Nat.lt_or_ge 54 j with q | q
              · have : 2 ^ 55 ≤ 2 ^ j := Nat.pow_le_pow_right (by decide) q
                omega
              · exact q
            omega
        refine ⟨_, rfl, fun m σ H' => ∃ (j i : Nat) (f tw : Int) (Sj : Sto), σ = [some (.ref a.s), some (V.int n), some (iV m), some (.int f), some (.int tw)] ∧ Le S Sj ∧ StoreAt K H' a Sj ∧ Kp a H H' ∧ TopIs Sj f (rep i A0) ∧ (0 < m → TopIs Sj tw (rep (2 ^ j) A0)) ∧ i + 2 ^ j * m = many ∧ 2 ^ j ≤ 2 * many ∧ Sj.len ≤ S.len + 2 * j * 39556,
          ⟨many, 0, 0, -1, n, S, rfl, Le.refl S, D, Kp.refl a H, .inl ⟨rfl, rfl⟩, fun _ => .inr ⟨n, rfl, hn, by rw [hA, Nat.pow_zero, rep_one]⟩, by omega, by omega, by omega⟩, ?_⟩
        rintro m σ H1 ⟨j, i, f, tw, Sj, rfl, le, Dj, k1, tf, tt, em, ej, few⟩
        have cj := cost j ej
        have dpos : ∀ x : Nat, decide ((0 : Int) < (x : Int)) = decide (0 < x) := fun x => decide_eq_decide.mpr (by omega)
        refine ⟨_, rfl, _, _, rfl, rfl, _, rfl, ?_⟩
        rw [dpos]
        refine ite2 (fun mp => ?_) (fun mp => ?_)
        · have mp : 0 < m := of_decide_eq_true mp
          have ej2 : 2 ^ (j + 1) ≤ 2 * many := by
            rw [Nat.pow_succ]
            have : 2 ^ j * 1 ≤ 2 ^ j * m := Nat.mul_le_mul_left _ mp
            omega
          have cj2 := cost (j + 1) ej2
          refine ⟨_, fun σ' H' z => z, ?_⟩
          -- if many % 2 == 1
          refine ⟨fun σ' H' => ∃ (f2 : Int) (S2 : Sto), σ' = [some (.ref a.s), some (V.int n), some (iV m), some (.int f2), some (.int tw)] ∧ Le S S2 ∧ StoreAt K H' a S2 ∧ Kp a H H' ∧ TopIs S2 f2 (rep (i + 2 ^ j * (m % 2)) A0) ∧ TopIs S2 tw (rep (2 ^ j) A0) ∧ S2.len ≤ S.len + 2 * j * 39556 + 39556, ?_, ?_⟩
          · refine ⟨_, rfl, _, _, rfl, rfl, (by decide : (0 : Int) < 2), rfl, _, rfl, ?_⟩
            have dm : decide (V.int ((m : Int) % 2) = V.int 1) = decide (m % 2 = 1) := decide_eq_decide.mpr ⟨fun z => by injection z with z; omega, fun z => congrArg V.int (by omega)⟩
            rw [dm]
            refine ite2 (fun od => ?_) (fun od => ?_)
            · have od : m % 2 = 1 := of_decide_eq_true od
              refine ⟨_, rfl, _, rfl, _, rfl, z2, fun l hl => ?_⟩
              have s2 := same_upd (o := .lst [V.int f, V.int tw]) hl
              have hb : i + 2 ^ j ≤ many := by
                have : 2 ^ j * 1 ≤ 2 ^ j * m := Nat.mul_le_mul_left _ mp
                omega
              refine ⟨a, Sj, l, [f, tw], [rep i A0, rep (2 ^ j) A0], 2, rfl, Dj.same s2, upd_same, .cons tf (.cons (tt mp) .nil), (show 2 ≤ 1000 by decide), (show 2 * (2 - 1) ≤ 2 by decide), ?_, by show Sj.len + 2 * 2 * 9890 + 4 * 2 + 8 ≤ _; omega, ?_⟩
              · rw [List.flatten_cons, List.flatten_cons, List.flatten_nil, List.append_nil, ← rep_add]
                exact Nat.le_trans (rep_le hb) tl
              · rw [List.flatten_cons, List.flatten_cons, List.flatten_nil, List.append_nil, ← rep_add]
                intro S' H' f2 le2 D2 k2 tf2 few2
                exact ⟨f2, S', rfl, le.trans le2, D2, (k1.trans (Kp.same s2)).trans k2, by rw [od, Nat.mul_one]; exact tf2, (tt mp).le le2, by omega⟩
            · have od : m % 2 = 0 := by
                have : ¬ m % 2 = 1 := by simpa using od
                omega
              exact ⟨f, Sj, rfl, le, Dj, k1, by rw [od, Nat.mul_zero, Nat.add_zero]; exact tf, tt mp, by omega⟩
          · rintro σ' H2 ⟨f2, S2, rfl, le2, D2, k2, tf2, tt2, few2⟩
            refine ⟨_, rfl, _, _, rfl, rfl, ⟨by decide, by decide⟩, ?_⟩
            dsimp only [gName, wipe, List.set_cons_succ, List.set_cons_zero]
            have split : i + 2 ^ j * (m % 2) + 2 ^ (j + 1) * (m / 2) = many := by
              rw [← em, Nat.pow_succ, Nat.mul_assoc, Nat.add_assoc, ← Nat.mul_add, Nat.mod_add_div]
            refine ⟨_, rfl, _, _, rfl, rfl, _, rfl, ?_⟩
            have e2 : decide ((0 : Int) < (m : Int) / 2) = decide (0 < m / 2) := decide_eq_decide.mpr (by omega)
            rw [e2]
            refine ite2 (fun hp => ?_) (fun hp => ?_)
            · have hp : 0 < m / 2 := of_decide_eq_true hp
              refine ⟨_, rfl, _, rfl, _, rfl, z2, fun l hl => ?_⟩
              have s2 := same_upd (o := .lst [V.int tw, V.int tw]) hl
              have hb : 2 ^ j + 2 ^ j ≤ many := by
                have : 2 ^ (j + 1) * 1 ≤ 2 ^ (j + 1) * (m / 2) := Nat.mul_le_mul_left _ hp
                rw [Nat.pow_succ] at this split
                omega
              refine ⟨a, S2, l, [tw, tw], [rep (2 ^ j) A0, rep (2 ^ j) A0], 2, rfl, D2.same s2, upd_same, .cons tt2 (.cons tt2 .nil), (show 2 ≤ 1000 by decide), (show 2 * (2 - 1) ≤ 2 by decide), ?_, by show S2.len + 2 * 2 * 9890 + 4 * 2 + 8 ≤ _; omega, ?_⟩
              · rw [List.flatten_cons, List.flatten_cons, List.flatten_nil, List.append_nil, ← rep_add]
                exact Nat.le_trans (rep_le hb) tl
              · rw [List.flatten_cons, List.flatten_cons, List.flatten_nil, List.append_nil, ← rep_add]
                intro S' H' f3 le3 D3 k3 tf3 few3
                refine ⟨m / 2, by omega, j + 1, i + 2 ^ j * (m % 2), f2, f3, S', rfl, le2.trans le3, D3, (k2.trans (Kp.same s2)).trans k3, tf2.le le3, fun _ => ?_, split, ej2, by omega⟩
                rw [Nat.pow_succ, Nat.mul_two]
                exact tf3
            · have hp : ¬ 0 < m / 2 := by simpa using hp
              exact ⟨m / 2, by omega, j + 1, i + 2 ^ j * (m % 2), f2, tw, S2, rfl, le2, D2, k2, tf2, fun z => absurd z hp, split, ej2, by omega⟩
        · have mp : m = 0 := by
            have : ¬ 0 < m := by simpa using mp
            omega
          subst mp
          have ei : i = many := by rw [← em, Nat.mul_zero]; rfl
          rw [ei] at tf
          exact ⟨_, rfl, k Sj H1 f le Dj k1 tf (by omega)⟩
end
end VT
set_option Elab.async false
set_option linter.all false
set_option maxRecDepth 100000
set_option maxHeartbeats 4000000
/-! Rules: x != x of an instance without its own ==; methods called with keywords; defs with defaults. -/
namespace VT
open PySem PySem.Spec PyProof.Rows L2
section
variable {M : Model} {prog : Program} {w : World} {A : Around} {E : Value → Shared → Prop} {s : Shared} {K : PySem.W.Frag} {x C : Addr} {ox : Obj} {od : Option Obj}
theorem call_same {Q : Value → Shared → Prop} (X : K.In s.heap) (I : PySem.W.InstAt s.heap x ox C od) (hm : PySem.W.mroIn K C (.type "object") = some true) (hq : Q (.bool true) s) :
    wpAny (model prog w) A (call (.builtin "object.__eq__") [.ref x, .ref x]) Q E s :=
  wpAny_call (codeAny_call_builtin F.cmp_object.eq.plain F.cmpEntry_eq (PySem.W.check_slot F.cmpKind_eq F.cmpSplit_eq (I.type.andThen (PySem.W.looks_mroIn X hm)) (F.cmpArgs_eq _ _) (objEq_entry_same hq)))
theorem ifBound_ne {args : List Value} {Q : Option Value → Shared → Prop} (X : K.In s.heap) (I : PySem.W.InstAt s.heap x ox C od) (hs : PySem.W.findIn K (.ref C) "__ne__" = some (some (.builtin "object.__ne__")))
    (h : wpAny M A (call (.builtin "object.__ne__") (.ref x :: args)) (fun v => Q (some v)) E s) : wpAny M A (callSpecialIfBound? (.ref x) "__ne__" args) Q E s := by
  simp only [callSpecialIfBound?, bindSpecialIfBound?]
  refine wpAny_holding (wpAny_bind (wpAny_bind (wpAny_bind (I.type.here ((PySem.W.looks_findIn X hs).here ?_)))))
  refine wpAny_bind (wpAny_askSetting (wpAny_ite ?_))
  have fin : wpAny M A (call (.builtin "object.__ne__") ([.ref x] ++ args) >>= fun v => pure (some v)) Q E s := wpAny_bind (wpAny_mono h (fun v s' h' => wpAny_pure h') fun _ _ h' => h')
  split
  · exact wpAny_bind (wpAny_of_eq (F.cmp_object.ne.bind _) (wpAny_pure (by exact fin)))
  · exact wpAny_tryCatch (wpAny_bind (wpAny_of_eq (F.cmp_object.ne.bind _) (wpAny_pure (by exact fin))))
theorem entry_ne (X : K.In s.heap) (I : PySem.W.InstAt s.heap x ox C od) (hm : PySem.W.mroIn K C (.type "object") = some true) (hs : PySem.W.findIn K (.ref C) "__eq__" = some (some (.builtin "object.__eq__"))) (hu : A.units < cLine) {Q : Fin → Shared → Prop}
    (hq : Q (.done (.ret (.bool false))) s) : wpAny (model prog w) A (Builtin.«object.__ne__» ⟨[.ref x, .ref x], []⟩) Q E s := by
  unfold Builtin.«object.__ne__»
  repeat (first | with_reducible refine wpAny_cRoomFor hu ?_ | (refine wpAny_bind (m := callSpecialIfBound? (.ref x) (Str.ofString "__eq__") [.ref x]) (HN.ifBound_objEq X I hs (call_same X I hm ?_))) | wp_step)
  exact hq
theorem rc_ne_same (hu : A.units + 1 < cLine) (X : K.In s.heap) (I : PySem.W.InstAt s.heap x ox C od) (hm : PySem.W.mroIn K C (.type "object") = some true) (hs : PySem.W.findIn K (.ref C) "__eq__" = some (some (.builtin "object.__eq__")))
    (hn : PySem.W.findIn K (.ref C) "__ne__" = some (some (.builtin "object.__ne__"))) {Q : Value → Shared → Prop} (h : Q (.bool false) s) : wpAny (model prog w) A (richCompare .NotEq (.ref x) (.ref x)) Q E s := by
  have one : wpAny (model prog w) A (tryCompare (.ref x) "__ne__" (.ref x)) (fun r s' => r = some (.bool false) ∧ s' = s) E s := by
    unfold tryCompare
    refine wpAny_bind (ifBound_ne X I hn (wpAny_call (codeAny_call_builtin F.cmp_object.ne.plain F.cmpEntry_ne (PySem.W.check_slot F.cmpKind_ne F.cmpSplit_ne (I.type.andThen (PySem.W.looks_mroIn X hm)) (F.cmpArgs_ne _ _) (entry_ne (A := A.in1) X I hm hs hu ?_)))))
    exact wpAny_pure ⟨rfl, rfl⟩
  simp only [richCompare, cmpInfo_NotEq, oneThing_ref]
  refine wpAny_holding (wpAny_bind (wpAny_cRoomFor (Nat.lt_of_succ_lt hu) ?_))
  refine wpAny_bind (I.type.here ?_)
  refine wpAny_bind (I.type.here ?_)
  rw [show (Value.ref C != Value.ref C) = false from by simp]
  simp only [Bool.false_eq_true, if_false]
  refine wpAny_bind (wpAny_pure ?_)
  simp only [Bool.false_eq_true, if_false]
  refine wpAny_bind (m := tryCompare (.ref x) _ (.ref x)) (wpAny_mono one (fun r s1 z => ?_) fun _ _ e => e)
  obtain ⟨z1, z2⟩ := z
  subst z1
  subst z2
  first | exact wpAny_pure h | exact h
end
/-- a != a, a an instance of the class at C -/
def rNeI (C : Addr) : R2 := fun x y H Q => ∃ a dx fs, x = .ref a ∧ y = .ref a ∧ H a = some (.ins C dx fs) ∧ Q (.bl false) H
section
variable {X : Cx} {j : Nat} {C : Addr}
theorem op_neI (hr : Room j X.A) (hm : PySem.W.mroIn X.K C (.type "object") = some true) (hs : PySem.W.findIn X.K (.ref C) "__eq__" = some (some (.builtin "object.__eq__"))) (hn : PySem.W.findIn X.K (.ref C) "__ne__" = some (some (.builtin "object.__ne__"))) :
    OpR X (compareOp .NotEq) (rNeI C) := by
  intro pins s σ H x y v u Q I rx ry h
  obtain ⟨a, dx, fs, rfl, rfl, ha, q⟩ := h
  cases rx
  cases ry
  obtain ⟨mA, J, _⟩ := ins_get I.hok ha
  obtain ⟨od, J, _⟩ := J.look
  unfold compareOp
  have := hr.units
  exact rc_ne_same (by omega) I.kIn J hm hs hn ⟨.bl false, H, I, rfl, q⟩
end
/-! ### methods called with keywords only -/
def tMethK (C : Addr) (m : Str) (n : Nat) (sp : Sp) (gV : List V → List V → List V) (E : XK) (ta : TE) (tk : TA) : TE := fun σ H Q => ta σ H fun x H1 => ∃ a dx fs, x = .ref a ∧ H1 a = some (.ins C dx fs) ∧ fs.lookup m = none ∧
  tk σ H1 fun zs H2 => zs.length = n ∧ sp (gV [x] zs) H2 Q E
section
variable {X : Cx} {CX : CXT} {k : Nat} {f C : Addr} {fd : FuncData} {ps ks : List Str} {sp : Sp} {E : XK} {m : Str} {pos apos : Pos} {o : Expr} {kws : List Keyword} {ta : TE} {tk : TA} {g : List Value → List Value → List Value} {gV : List V → List V → List V}
theorem pe_methK {pl : Sem Bool} (he : PE X o ta) (c : Cls X.K C) (hm : Meth X.K C m f) (F : FnOk X.prog X.w X.K X.mg X.base CX k f fd ps sp) (hr : Room k X.A) (hb : KBn X.K fd ps 1 ks g gV) (hx : Passes CX X E) (hkw : PK X kws tk)
    (hall : (backToKw pos (keywordEach kws X.env)).all (·.1.isSome) = true := by rfl) (hks : (backToKw pos (keywordEach kws X.env)).filterMap (·.1) = ks := by rfl)
    (hpl : ((backTo pos (starEach [] X.env)).any (·.1) || (backToKw pos (keywordEach kws X.env)).any (·.1.isNone)) = false := by rfl)
    (ht : eval (.Call (.Attribute o m apos) [] kws pos) X.env = (do
      let ov ← eval o X.env
      standAt apos.atName
      let (f, first) ← holding [ov] (getMethod ov m pl)
      callWith pos f first (backTo pos (starEach [] X.env)) (backToKw pos (keywordEach kws X.env))) := by rfl) :
    PE X (.Call (.Attribute o m apos) [] kws pos) (tMethK C m ks.length sp gV E ta tk) := by
  refine ⟨fun pins s σ H Q I h => ?_⟩
  refine PySem.W.methodCall_KW (pl := pl) (thn (he.run pins s σ H _ I h) fun u s1 ⟨x, H1, I1, rx, a, dx, fs, ex, ea, l, q⟩ => ?_) ht
  subst ex
  obtain rfl : u = Value.ref a := rx
  refine getmeth_ok I1 ea c hm l ?_
  refine PySem.W.callWith_KW0 (first := [.ref a]) (h₀ := X.base) I.ok.mod.kin hm.kp hall ?_ hpl
  refine thn (hkw.run pos pins s1 σ H1 _ I1 q) fun ws s2 ⟨zs, H2, I2, rz, l2, q2⟩ => ⟨I2.kIn, ?_⟩
  rw [hks]
  exact run_fnN (us := [.ref a]) (vs := [.ref a]) F hr hb hx I2 (.cons rfl .nil) rz rfl l2 q2
end
/-! ### defs with defaults -/
section
variable {P : Program} {w : World} {K : PySem.W.Frag} {mg : Str → Option Value} {base : Heap}
/-- a def that keeps its promise, however it is called -/
structure DX (P : Program) (w : World) (K : PySem.W.Frag) (mg : Str → Option Value) (base : Heap) (k : Nat) (x qual : Str) (params : Arguments) (body : List Stmt) (scope : Scope) (dvs : List V) (kws : List (Str × V)) (f : Addr) (ps : List Str) (sp : Sp) : Prop where
  ex : ∃ fd, FunD K x qual params body scope dvs kws f fd ∧ FnOk P w K mg base CX0 k f fd ps sp
theorem dx_mk {x qual : Str} {params : Arguments} {body : List Stmt} {scope : Scope} {dvs : List V} {kws : List (Str × V)} {f : Addr} {N ps : List Str} {k : Nat} {sp : Sp} (F : ∃ fd, FunD K x qual params body scope dvs kws f fd) (S : FnScope N ps scope)
    (len : ∀ vs H Q E, sp vs H Q E → vs.length = ps.length) (hbody : Body P w K mg base N qual body scope f k sp) : DX P w K mg base (k + 1) x qual params body scope dvs kws f ps sp := by
  obtain ⟨fd, F⟩ := F
  exact ⟨fd, F, fn_mk F S len hbody⟩
end
end VT
set_option Elab.async false
set_option linter.all false
set_option maxRecDepth 100000
set_option maxHeartbeats 4000000
/-! Store(), Loom(), Text(..). -/
namespace VT
open PySem PySem.Spec PyProof.Rows L2
open VW (Sto Node Ok Le F2)
section
variable {X : Cx} {a b c d : Expr} {ta tb tc td : TE} {pos : Pos}
/-- a op1 b op2 c op3 d -/
def tChain3 (r r' r'' : R2) (ta tb tc td : TE) : TE := fun σ H Q => ta σ H fun x H1 => tb σ H1 fun y H2 => r x y H2 fun z H3 => ∃ k, z = .bl k ∧
  (if k = true then tc σ H3 fun w' H4 => r' y w' H4 fun z2 H5 => ∃ k2, z2 = .bl k2 ∧ (if k2 = true then td σ H5 fun u' H6 => r'' w' u' H6 Q else Q (.bl false) H5) else Q (.bl false) H3)
theorem pt_chain3 {op op' op'' : CmpOp} {r r' r'' : R2} (ho : OpR X (compareOp op) r) (ho' : OpR X (compareOp op') r') (ho'' : OpR X (compareOp op'') r'') (ha : PE X a ta) (hb : PE X b tb) (hc : PE X c tc) (hd : PE X d td)
    (hm : lastMarks [op, op', op''] [b, c, d] = false := by with_unfolding_all rfl) : PT X (.Compare a [op, op', op''] [b, c, d] pos) (tTest (tChain3 r r' r'' ta tb tc td)) := by
  refine ⟨fun pins s σ H Q I h => ?_⟩
  refine isTrue_chain (thn (ha.run pins s σ H _ I h) fun v s1 ⟨x, H1, I1, r1, q1⟩ => test_link (thn (hb.run pins s1 σ H1 _ I1 q1) fun u s2 ⟨y, H2, I2, r2, q2⟩ =>
    thn (ho pins s2 σ H2 x y v u _ I2 r1 r2 q2) fun d s3 ⟨z, H3, I3, r3, k, e, q3⟩ => ?_)) hm
  subst e
  cases r3
  refine wpAny_truthy_bool ?_
  cases k with
  | false =>
    obtain ⟨k', e', q'⟩ := q3
    cases e'
    exact ite_ff ⟨H3, I3, q'⟩
  | true =>
    refine ite_tt (test_link (thn (hc.run pins s3 σ H3 _ I3 q3) fun u3 s4 ⟨y3, H4, I4, r4, q4⟩ => thn (ho' pins s4 σ H4 y y3 u u3 _ I4 r2 r4 q4) fun d' s5 ⟨z2, H5, I5, r5, k2, e2, q5⟩ => ?_))
    subst e2
    cases r5
    refine wpAny_truthy_bool ?_
    cases k2 with
    | false =>
      obtain ⟨k', e', q'⟩ := q5
      cases e'
      exact ite_ff ⟨H5, I5, q'⟩
    | true =>
      refine ite_tt (test_last (thn (hd.run pins s5 σ H5 _ I5 q5) fun w' s6 ⟨z', H6, I6, r6, q6⟩ => thn (ho'' pins s6 σ H6 y3 z' u3 w' _ I6 r4 r6 q6) fun d' s7 ⟨z7, H7, I7, r7, k7, e7, q7⟩ => ?_))
      subst e7
      cases r7
      exact wpAny_truthy_bool ⟨H7, I7, q7⟩
end
def Sto.empty : Sto := ⟨0, fun _ => .L 0, fun _ => 0, fun _ => 0, fun _ => [], fun _ _ => []⟩
theorem empty_ok : Ok Sto.empty := ⟨fun n h => absurd h (Nat.not_lt_zero n), fun n m h => absurd h (Nat.not_lt_zero n)⟩
abbrev cLo (K : PySem.W.Frag) : Addr := He.ga K "Loom"
abbrev cTx (K : PySem.W.Frag) : Addr := He.ga K "Text"
def kLo : List Str := ["store"]
def kTx : List Str := ["loom", "top"]
theorem few {fs : List (Str × V)} (n : Nat) (h : fs.length = n) (hn : n < 1000) : fs.length < 1000 := by rw [h]; exact hn
theorem init_step {H0 H : Hp} {x C dx : Addr} {ks : List Str} {vs : List V} {p : Addr} {o : HO} {f : Str} (hx : H x = some (.ins C dx (ks.zip vs))) (out : ∀ b u, b ≠ x → H0 b = some u → H b = some u) (hp : H p = none) (hk : keyAt f ks = none) (hl : ks.length = vs.length) :
    let H' := L2.upd (L2.upd H p o) x (.ins C dx (putF f (.ref p) (ks.zip vs)))
    H' x = some (.ins C dx ((ks ++ [f]).zip (vs ++ [.ref p]))) ∧ H' p = some o ∧ (∀ b u, b ≠ x → H b = some u → H' b = some u) ∧ (∀ b u, b ≠ x → H0 b = some u → H' b = some u) ∧ p ≠ x := by
  have px : p ≠ x := (ne_of_none hx hp).symm
  have k1 : ∀ b u, b ≠ x → H b = some u → L2.upd (L2.upd H p o) x (.ins C dx (putF f (.ref p) (ks.zip vs))) b = some u := fun b u hb e => by
    rw [upd_ne hb]
    exact same_upd hp _ _ e
  exact ⟨by rw [upd_same, zip_new hk hl], by rw [upd_ne px, upd_same], k1, fun b u hb e => k1 b u hb (out b u hb e), px⟩
theorem ob_upd {H : Hp} {x p C dx : Addr} {fs : List (Str × V)} {o : HO} (hx : H x = some (.ins C dx fs)) (hp : H p = none) : L2.upd H p o x = some (.ins C dx fs) := same_upd hp _ _ hx
def spStoreI (K : PySem.W.Frag) : Sp := fun vs H Q _ => ∃ (x dx : Addr), vs = [.ref x] ∧ H x = some (.ins (cSt K) dx []) ∧
  ∀ a H', a.s = x → StoreAt K H' a Sto.empty → (∀ b u, b ≠ x → H b = some u → H' b = some u) → Q .non H'
def spLoomI (K : PySem.W.Frag) : Sp := fun vs H Q _ => ∃ (x dx : Addr), vs = [.ref x] ∧ H x = some (.ins (cLo K) dx []) ∧
  ∀ a H', StoreAt K H' a Sto.empty → H' x = some (.ins (cLo K) dx (kLo.zip [.ref a.s])) → (∀ b u, b ≠ x → H b = some u → H' b = some u) → Q .non H'
def spTextI (K : PySem.W.Frag) : Sp := fun vs H Q _ => ∃ (x dx lo : Addr) (top : Int), vs = [.ref x, .ref lo, .int top] ∧ H x = some (.ins (cTx K) dx []) ∧
  ∀ H', H' x = some (.ins (cTx K) dx (kTx.zip [.ref lo, .int top])) → (∀ b u, b ≠ x → H b = some u → H' b = some u) → Q .non H'
section
variable {P : Program} {w : World} {K : PySem.W.Frag} {mg : Str → Option Value} {base : Heap}
theorem scStoreI : FnScope ["self"] ["self"] (defScope s_Store_init) := ⟨rfl, rfl, rfl, by decide +kernel, rfl, by decide +kernel, by decide +kernel⟩
theorem mk_store (T : Txt K mg) : KX P w K mg base 1 "Store" (cSt K) (spStoreI K) [] := by
  refine kx_mk T.f_Store_init T.k_Store T.g_Store scStoreI (fun _ _ _ _ _ _ us hl => match us, hl with | [_], _ => rfl) (fun vs H Q E h => ?_) (fun cdv A outer s H vs Q E hr h => ?_)
  · obtain ⟨_, _, rfl, _⟩ := h
    rfl
  · obtain ⟨x, dx, rfl, hx, k⟩ := h
    refine ⟨_, (pss_cons (ps_fld (pv 0) (pe_lst pa_nil) rfl)
       (pss_cons (ps_fld (pv 0) (pe_lst pa_nil) rfl)
       (pss_cons (ps_fld (pv 0) (pe_lst pa_nil) rfl)
       (pss_cons (ps_fld (pv 0) (pe_lst pa_nil) rfl)
       (pss_cons (ps_fld (pv 0) (pe_lst pa_nil) rfl)
       (pss_one (ps_fld (pv 0) pe_dnewT rfl))))))), ?_⟩
    dsimp only [L2.start, List.map, List.map_cons, List.map_nil, List.append_eq, List.append, List.length_cons, List.length_nil, Nat.reduceAdd, Nat.reduceSub, List.replicate_succ, List.replicate_zero, List.cons_append, List.nil_append, cxOf]
    have hx : H x = some (.ins (cSt K) dx (([] : List Str).zip [])) := hx
    refine ⟨Nat.zero_le _, fun p1 h1 => ⟨_, rfl, x, _, dx, _, rfl, ob_upd hx h1, T.c_Store, T.n_Store_kinds, by decide, ?_⟩⟩
    obtain ⟨a1, b1, c1, d1, e1⟩ := init_step (o := .lst []) (f := "kinds") hx (fun b u _ e => e) h1 (by decide +kernel) rfl
    generalize L2.upd (L2.upd H p1 _) x _ = H1 at a1 b1 c1 d1 ⊢
    refine ⟨Nat.zero_le _, fun p2 h2 => ⟨_, rfl, x, _, dx, _, rfl, ob_upd a1 h2, T.c_Store, T.n_Store_lefts, few 1 rfl (by decide), ?_⟩⟩
    obtain ⟨a2, b2, c2, d2, e2⟩ := init_step (o := .lst []) (f := "lefts") a1 d1 h2 (by decide +kernel) rfl
    have n12 := ne_of_none b1 h2
    have b1 := c2 _ _ e1 b1
    generalize L2.upd (L2.upd H1 p2 _) x _ = H2 at a2 b2 c2 d2 b1 ⊢
    clear c1 d1 a1
    refine ⟨Nat.zero_le _, fun p3 h3 => ⟨_, rfl, x, _, dx, _, rfl, ob_upd a2 h3, T.c_Store, T.n_Store_rights, few 2 rfl (by decide), ?_⟩⟩
    obtain ⟨a3, b3, c3, d3, e3⟩ := init_step (o := .lst []) (f := "rights") a2 d2 h3 (by decide +kernel) rfl
    have n13 := ne_of_none b1 h3
    have n23 := ne_of_none b2 h3
    have b1 := c3 _ _ e1 b1
    have b2 := c3 _ _ e2 b2
    generalize L2.upd (L2.upd H2 p3 _) x _ = H3 at a3 b3 c3 d3 b1 b2 ⊢
    clear c2 d2 a2
    refine ⟨Nat.zero_le _, fun p4 h4 => ⟨_, rfl, x, _, dx, _, rfl, ob_upd a3 h4, T.c_Store, T.n_Store_sizes, few 3 rfl (by decide), ?_⟩⟩
    obtain ⟨a4, b4, c4, d4, e4⟩ := init_step (o := .lst []) (f := "sizes") a3 d3 h4 (by decide +kernel) rfl
    have n14 := ne_of_none b1 h4
    have n24 := ne_of_none b2 h4
    have n34 := ne_of_none b3 h4
    have b1 := c4 _ _ e1 b1
    have b2 := c4 _ _ e2 b2
    have b3 := c4 _ _ e3 b3
    generalize L2.upd (L2.upd H3 p4 _) x _ = H4 at a4 b4 c4 d4 b1 b2 b3 ⊢
    clear c3 d3 a3
    refine ⟨Nat.zero_le _, fun p5 h5 => ⟨_, rfl, x, _, dx, _, rfl, ob_upd a4 h5, T.c_Store, T.n_Store_births, few 4 rfl (by decide), ?_⟩⟩
    obtain ⟨a5, b5, c5, d5, e5⟩ := init_step (o := .lst []) (f := "births") a4 d4 h5 (by decide +kernel) rfl
    have n15 := ne_of_none b1 h5
    have n25 := ne_of_none b2 h5
    have n35 := ne_of_none b3 h5
    have n45 := ne_of_none b4 h5
    have b1 := c5 _ _ e1 b1
    have b2 := c5 _ _ e2 b2
    have b3 := c5 _ _ e3 b3
    have b4 := c5 _ _ e4 b4
    generalize L2.upd (L2.upd H4 p5 _) x _ = H5 at a5 b5 c5 d5 b1 b2 b3 b4 ⊢
    clear c4 d4 a4
    refine fun p6 h6 => ⟨_, rfl, x, _, dx, _, rfl, ob_upd a5 h6, T.c_Store, T.n_Store_known, few 5 rfl (by decide), ?_⟩
    obtain ⟨a6, b6, c6, d6, e6⟩ := init_step (o := .dT []) (f := "known") a5 d5 h6 (by decide +kernel) rfl
    have b1 := c6 _ _ e1 b1
    have b2 := c6 _ _ e2 b2
    have b3 := c6 _ _ e3 b3
    have b4 := c6 _ _ e4 b4
    have b5 := c6 _ _ e5 b5
    generalize L2.upd (L2.upd H5 p6 _) x _ = H6 at a6 b6 c6 d6 b1 b2 b3 b4 b5 ⊢
    refine k ⟨x, dx, p1, p2, p3, p4, p5, p6⟩ H6 rfl ⟨a6, b1, b2, b3, b4, b5, b6, ?_, empty_ok, Nat.zero_le _, fun n h => absurd h (Nat.not_lt_zero n)⟩ d6
    simp only [List.nodup_cons, List.mem_cons, List.not_mem_nil, or_false, not_or, List.nodup_nil, and_true, not_false_eq_true]
    exact ⟨⟨n12, n13, n14, n15⟩, ⟨n23, n24, n25⟩, ⟨n34, n35⟩, n45⟩
theorem scLoomI : FnScope ["self"] ["self"] (defScope s_Loom_init) := ⟨rfl, rfl, rfl, by decide +kernel, rfl, by decide +kernel, by decide +kernel⟩
theorem mk_loom (T : Txt K mg) : KX P w K mg base 3 "Loom" (cLo K) (spLoomI K) [] := by
  refine kx_mk T.f_Loom_init T.k_Loom T.g_Loom scLoomI (fun _ _ _ _ _ _ us hl => match us, hl with | [_], _ => rfl) (fun vs H Q E h => ?_) (fun cdv A outer s H vs Q E hr h => ?_)
  · obtain ⟨_, _, rfl, _⟩ := h
    rfl
  · obtain ⟨x, dx, rfl, hx, k⟩ := h
    refine ⟨_, (pss_one (ps_fld (pv 0) (pe_k0 (mk_store T) hr) rfl)), ?_⟩
    dsimp only [L2.start, List.map, List.map_cons, List.map_nil, List.append_eq, List.append, List.length_cons, List.length_nil, Nat.reduceAdd, Nat.reduceSub, List.replicate_succ, List.replicate_zero, List.cons_append, List.nil_append, cxOf]
    refine fun y dy hy hdy ne => ⟨y, dy, rfl, upd_same, fun a H1 ea D out => ⟨rfl, ?_⟩⟩
    have xy : x ≠ y := ne_of_none hx hy
    have k1 : ∀ b u, H b = some u → H1 b = some u := fun b u e => out b u (ne_of_none e hy) (by rw [upd_ne (ne_of_none e hy)]; exact same_upd hdy _ _ e)
    have hx1 := k1 _ _ hx
    refine ⟨_, rfl, x, _, dx, _, rfl, hx1, T.c_Loom, T.n_Loom_store, by decide, ?_⟩
    have xo : x ∉ six a := D.out_ins hx1
    have xs : x ≠ a.s := by rw [ea]; exact xy
    refine k a _ (store_upd D xo xs) (by rw [upd_same, ← ea]; rfl) fun b u hb e => ?_
    rw [upd_ne hb]
    exact k1 b u e
theorem scTextI : FnScope ["self", "loom", "top"] ["self", "loom", "top"] (defScope s_Text_init) := ⟨rfl, rfl, rfl, by decide +kernel, rfl, by decide +kernel, by decide +kernel⟩
theorem mk_text (T : Txt K mg) : KX P w K mg base 1 "Text" (cTx K) (spTextI K) [] := by
  refine kx_mk T.f_Text_init T.k_Text T.g_Text scTextI (fun _ _ _ _ _ _ us hl => match us, hl with | [_, _, _], _ => rfl) (fun vs H Q E h => ?_) (fun cdv A outer s H vs Q E hr h => ?_)
  · obtain ⟨_, _, _, _, rfl, _⟩ := h
    rfl
  · obtain ⟨x, dx, lo, top, rfl, hx, k⟩ := h
    refine ⟨_, (pss_cons (ps_fld (pv 0) (pv 1) rfl)
       (pss_one (ps_fld (pv 0) (pv 2) rfl))), ?_⟩
    dsimp only [L2.start, List.map, List.map_cons, List.map_nil, List.append_eq, List.append, List.length_cons, List.length_nil, Nat.reduceAdd, Nat.reduceSub, List.replicate_succ, List.replicate_zero, List.cons_append, List.nil_append, cxOf]
    refine ⟨_, rfl, _, rfl, x, _, dx, _, rfl, hx, T.c_Text, T.n_Text_loom, by decide, _, rfl, _, rfl, x, _, dx, _, rfl, upd_same, T.c_Text, T.n_Text_top, few 1 rfl (by decide), ?_⟩
    refine k _ upd_same fun b u hb e => ?_
    rw [upd_ne hb, upd_ne hb]
    exact e
end
end VT
set_option Elab.async false
set_option linter.all false
set_option maxRecDepth 100000
set_option maxHeartbeats 4000000
/-! The methods of a text. -/
namespace VT
open PySem PySem.Spec PyProof.Rows L2
open VW (Sto Node Ok Le Loc Al Seg F2 szs cts sub Ch Sep)
def ltr (c : Nat) : Str := ⟨#[c + 97]⟩
def wd (ns : List Nat) : Str := ⟨(ns.map fun x => x + 97).toArray⟩
theorem wd_len {ns : List Nat} : (wd ns).length = ns.length := by simp [wd, Str.length]
def LoomAt (K : PySem.W.Frag) (H : Hp) (lo : Addr) (a : SA) : Prop := ∃ dl, H lo = some (.ins (cLo K) dl (kLo.zip [.ref a.s]))
def TextAt (K : PySem.W.Frag) (H : Hp) (x lo : Addr) (top : Int) : Prop := ∃ dx, H x = some (.ins (cTx K) dx (kTx.zip [.ref lo, .int top]))
structure LW (K : PySem.W.Frag) (H : Hp) (lo : Addr) (a : SA) (S : Sto) : Prop where
  st : StoreAt K H a S
  lo : LoomAt K H lo a
section
variable {K : PySem.W.Frag} {H H' : Hp} {lo x : Addr} {a : SA} {S S' : Sto} {top : Int}
theorem LW.same (L : LW K H lo a S) (s : Same H H') : LW K H' lo a S := ⟨L.st.same s, let ⟨d, h⟩ := L.lo; ⟨d, s _ _ h⟩⟩
theorem LW.kp (L : LW K H lo a S) (k : Kp a H H') (D : StoreAt K H' a S') : LW K H' lo a S' := ⟨D, let ⟨d, h⟩ := L.lo; ⟨d, L.st.ins k h⟩⟩
theorem TextAt.same (t : TextAt K H x lo top) (s : Same H H') : TextAt K H' x lo top := let ⟨d, h⟩ := t; ⟨d, s _ _ h⟩
theorem TextAt.kp (t : TextAt K H x lo top) (D : StoreAt K H a S) (k : Kp a H H') : TextAt K H' x lo top := let ⟨d, h⟩ := t; ⟨d, D.ins k h⟩
end
section
variable {a : SA} {lo : Addr} {top : Int} {v u : V}
theorem lkT_loom : (kTx.zip [v, u]).lookup ("loom" : Str) = some v := zip_look (i := 0) (by decide +kernel) rfl
theorem lkT_top : (kTx.zip [v, u]).lookup ("top" : Str) = some u := zip_look (i := 1) (by decide +kernel) rfl
theorem lkL_store : (kLo.zip [v]).lookup ("store" : Str) = some v := zip_look (i := 0) (by decide +kernel) rfl
theorem lkT_no {m : Str} (h : keyAt m kTx = none) : (kTx.zip [v, u]).lookup m = none := zip_none h
theorem lkL_no {m : Str} (h : keyAt m kLo = none) : (kLo.zip [v]).lookup m = none := zip_none h
end
theorem made_same {H H' : Hp} {y dy C : Addr} (hy : H y = none) (hdy : H dy = none) (out : ∀ b u, b ≠ y → L2.upd (L2.upd H dy (.own y)) y (.ins C dy []) b = some u → H' b = some u) : Same H H' := fun b u e =>
  out b u (ne_of_none e hy) (by rw [upd_ne (ne_of_none e hy)]; exact same_upd hdy _ _ e)
theorem dchain {m : Nat} : decide ((0 : Int) ≤ (m : Int)) = true := decide_eq_true (by omega)
theorem dlt {m n : Nat} : decide ((m : Int) < (n : Int)) = decide (m < n) := decide_eq_decide.mpr (by omega)
theorem dle {m n : Nat} : decide ((m : Int) ≤ (n : Int)) = decide (m ≤ n) := decide_eq_decide.mpr (by omega)
theorem lett_at : ∀ c : Nat, c < 8 → atI (("abcdefgh" : Str).cps.toList) (c : Int) = some (c + 97) := by
  have : ∀ c : Fin 8, atI (("abcdefgh" : Str).cps.toList) ((c.val : Nat) : Int) = some (c.val + 97) := by decide +kernel
  exact fun c h => this ⟨c, h⟩
theorem lett_len : ("abcdefgh" : Str).length ≤ sizeLine := by decide +kernel
theorem loc_letter {S : Sto} (ok : Ok S) {top nm st at_ : Nat} (ht : top < S.len) (h : Loc S top 0 nm st at_) : ∃ c, S.node nm = .L c ∧ c < 8 ∧ (S.cont top)[at_]? = some c ∧ nm < S.len := by
  obtain ⟨hn, hb⟩ := VW.loc_lt ok ht h
  obtain ⟨A, B, e, s1, s2, s3⟩ := h
  rcases VW.view ok hn with ⟨c, e1, e2, e3, e4, e5, e6⟩ | ⟨t, ks, cp⟩
  · refine ⟨c, e1, e2, ?_, hn⟩
    have lt := VW.exp_lt ok ht 0
    rw [← VW.exp_cts ok ht 0, e, VW.cts_app]
    have hA : (cts S A).length = st := by
      rw [VW.len_cts fun x hx => VW.cont_len ok (lt x (by rw [e]; simp [hx]))]
      exact s1
    rw [List.getElem?_append_right (by omega), hA, show at_ - st = 0 by omega]
    show ((S.cont nm) ++ _)[0]? = _
    rw [e5]
    rfl
  · have := cp.birth
    omega
/-- what a def that makes a text hands back -/
def TextK (K : PySem.W.Frag) (lo : Addr) (a : SA) (S : Sto) (H : Hp) (T : List Nat) (c : Nat) (Q : VK) : Prop :=
  ∀ S' H' x top, Le S S' → LW K H' lo a S' → Kp a H H' → TextAt K H' x lo top → TopIs S' top T → S'.len ≤ S.len + c → Q (.ref x) H'
def spSize (K : PySem.W.Frag) : Sp := fun vs H Q _ => ∃ (x lo : Addr) (a : SA) (S : Sto) (top : Int) (Tx : List Nat), vs = [.ref x] ∧ LW K H lo a S ∧ TextAt K H x lo top ∧ TopIs S top Tx ∧ Q (iV Tx.length) H
def spLetter (K : PySem.W.Frag) : Sp := fun vs H Q _ => ∃ (x lo : Addr) (a : SA) (S : Sto) (top : Int) (Tx : List Nat) (i c : Nat), vs = [.ref x, iV i] ∧ LW K H lo a S ∧ TextAt K H x lo top ∧ TopIs S top Tx ∧ Tx[i]? = some c ∧ ∀ H', Same H H' → Q (.str (ltr c)) H'
def spStretch (K : PySem.W.Frag) : Sp := fun vs H Q _ => ∃ (x lo : Addr) (a : SA) (S : Sto) (top : Int) (Tx : List Nat) (i : Nat), vs = [.ref x, iV i, .non] ∧ LW K H lo a S ∧ TextAt K H x lo top ∧ TopIs S top Tx ∧ i ≤ Tx.length ∧ ∀ p, H p = none → Q (.ref p) (upd H p (.tup [iV i, iV Tx.length]))
def spCut (K : PySem.W.Frag) : Sp := fun vs H Q _ => ∃ (x lo : Addr) (a : SA) (S : Sto) (top : Int) (Tx : List Nat) (i : Nat), vs = [.ref x, iV i, .non] ∧ LW K H lo a S ∧ TextAt K H x lo top ∧ TopIs S top Tx ∧ i ≤ Tx.length ∧ Tx.length ≤ 10 ^ 18 ∧ S.len + 40000 ≤ 16777216 ∧ TextK K lo a S H (Tx.drop i) 19778 Q
def spAkin (K : PySem.W.Frag) : Sp := fun vs H Q _ => ∃ (x y lo : Addr) (a : SA) (S : Sto) (top top' : Int), vs = [.ref x, .ref y] ∧ LW K H lo a S ∧ TextAt K H x lo top ∧ TextAt K H y lo top' ∧ Q .non H
def spBounded : Sp := fun vs H Q _ => ∃ n : Nat, vs = [iV n] ∧ n ≤ 10 ^ 18 ∧ Q .non H
def spJoined (K : PySem.W.Frag) : Sp := fun vs H Q _ => ∃ (x y lo : Addr) (a : SA) (S : Sto) (top top' : Int) (Tx Ty : List Nat), vs = [.ref x, .ref y] ∧ LW K H lo a S ∧ TextAt K H x lo top ∧ TextAt K H y lo top' ∧ TopIs S top Tx ∧ TopIs S top' Ty ∧ (Tx ++ Ty).length ≤ 10 ^ 18 ∧ S.len + 40000 ≤ 16777216 ∧ TextK K lo a S H (Tx ++ Ty) 39556 Q
def spTimes (K : PySem.W.Frag) : Sp := fun vs H Q _ => ∃ (x lo : Addr) (a : SA) (S : Sto) (top : Int) (Tx : List Nat) (m : Nat), vs = [.ref x, iV m] ∧ LW K H lo a S ∧ TextAt K H x lo top ∧ TopIs S top Tx ∧ m < 2 ^ 54 ∧ (rep m Tx).length ≤ 10 ^ 18 ∧ S.len + repC Tx + 100000 ≤ 16777216 ∧ TextK K lo a S H (rep m Tx) (repC Tx) Q
theorem top_dec {S : Sto} {top : Int} {Tx : List Nat} (h : TopIs S top Tx) : decide (V.int top = V.int (-1)) = decide (top = -1) := decide_eq_decide.mpr ⟨fun z => by injection z, fun z => by rw [z]⟩
section
variable {P : Program} {w : World} {K : PySem.W.Frag} {mg : Str → Option Value} {base : Heap}
theorem scSize : FnScope ["self"] ["self"] (defScope s_Text_size) := ⟨rfl, rfl, rfl, by decide +kernel, rfl, by decide +kernel, by decide +kernel⟩
theorem ok_size (T : Txt K mg) : MX P w K mg base 1 (cTx K) "size" (spSize K) [] := by
  refine mx_mk T.f_Text_size T.c_Text T.m_Text_size scSize (fun _ _ _ _ _ _ us hl => match us, hl with | [_], _ => rfl) (fun vs H Q E h => ?_) (fun cdv A outer s H vs Q E hr h => ?_)
  · obtain ⟨_, _, _, _, _, _, rfl, _⟩ := h
    rfl
  · obtain ⟨x, lo, a, S, top, Tx, rfl, L, ⟨dx, hx⟩, ti, k⟩ := h
    obtain ⟨dl, hl⟩ := L.lo
    refine ⟨_, (pss_cons (ps_if (pt_cmpR op_eq (pe_fld (pv 0) rfl) (pe_gi T.i_NONE) (nomark _))
       (pss_one (ps_ret pe_int))
       pss_nil)
       (pss_one (ps_ret (pe_ix ix_list (pe_fld (pe_fld (pe_fld (pv 0) rfl) rfl) rfl) (pe_fld (pv 0) rfl) (fun _ _ => rfl))))), ?_⟩
    dsimp only [L2.start, List.map, List.map_cons, List.map_nil, List.append_eq, List.append, List.length_cons, List.length_nil, Nat.reduceAdd, Nat.reduceSub, List.replicate_succ, List.replicate_zero, List.cons_append, List.nil_append, cxOf]
    refine ⟨_, rfl, x, cTx K, dx, _, _, rfl, hx, T.c_Text, T.n_Text_top, lkT_top, rfl, _, rfl, ?_⟩
    rw [top_dec ti]
    rcases ti with ⟨rfl, rfl⟩ | ⟨n, rfl, hn, rfl⟩
    · refine iteT ?_
      exact k
    · rw [decide_eq_false (by omega : ¬ (n : Int) = -1)]
      refine iteF ?_
      have D := L.st
      refine ⟨_, rfl, x, cTx K, dx, _, _, rfl, hx, T.c_Text, T.n_Text_loom, lkT_loom, lo, cLo K, dl, _, _, rfl, hl, T.c_Loom, T.n_Loom_store, lkL_store, a.s, cSt K, a.dx, _, _, rfl, D.ob, T.c_Store, T.n_Store_sizes, lk_sizes, _, rfl, x, cTx K, dx, _, _, rfl, hx, T.c_Text, T.n_Text_top, lkT_top, a.sz, _, _, _, rfl, rfl, SqL.of D.sz, col_atI hn, ?_⟩
      rw [VW.cont_len D.ok hn] at k
      exact k
theorem scLetter : FnScope ["self", "at", "store"] ["self", "at"] (defScope s_Text_letter) := ⟨rfl, rfl, rfl, by decide +kernel, rfl, by decide +kernel, by decide +kernel⟩
theorem ok_letter (T : Txt K mg) : MX P w K mg base 2 (cTx K) "letter" (spLetter K) [] := by
  refine mx_mk T.f_Text_letter T.c_Text T.m_Text_letter scLetter (fun _ _ _ _ _ _ us hl => match us, hl with | [_, _], _ => rfl) (fun vs H Q E h => ?_) (fun cdv A outer s H vs Q E hr h => ?_)
  · obtain ⟨_, _, _, _, _, _, _, _, rfl, _⟩ := h
    rfl
  · obtain ⟨x, lo, a, S, top, Tx, i, c, rfl, L, X0, ti, hc, k⟩ := h
    obtain ⟨dx, hx⟩ := id X0
    obtain ⟨dl, hl⟩ := L.lo
    have hi : i < Tx.length := (List.getElem?_eq_some_iff.mp hc).1
    refine ⟨_, (pss_cons (ps_if (pt_not (pt_chain op_le op_lt pe_int (pv 1) (pe_m0 (ok_size T) hr (pv 0))))
       (pss_one ps_never)
       pss_nil)
       (pss_cons (ps_set (i := 2) scLetter.nd rfl (Or.inl rfl) (pe_fld (pe_fld (pv 0) rfl) rfl))
       (pss_one (ps_ret (pe_ix ix_str (pe_gs T.s_LETTERS) (pe_ix ix_list (pe_fld (pv 2) rfl) (pe_ix ix_tup (pe_m (ok_piece T) hr (pv 2) (pa_cons (pe_fld (pv 0) rfl) (pa_cons (pv 1) (pa_cons pe_int pa_nil)))) pe_int (fun _ _ => rfl)) (fun _ _ => rfl)) (fun _ _ => rfl)))))), ?_⟩
    dsimp only [L2.start, List.map, List.map_cons, List.map_nil, List.append_eq, List.append, List.length_cons, List.length_nil, Nat.reduceAdd, Nat.reduceSub, List.replicate_succ, List.replicate_zero, List.cons_append, List.nil_append, cxOf]
    refine ⟨_, rfl, _, _, rfl, rfl, _, rfl, ?_⟩
    rw [dchain]
    refine iteT ?_
    refine ⟨_, rfl, x, dx, _, rfl, hx, lkT_no (by decide +kernel), x, lo, a, S, top, Tx, rfl, L, X0, ti, _, _, rfl, rfl, _, rfl, ?_⟩
    rw [dlt, decide_eq_true hi]
    refine iteF ?_
    dsimp only [tNext, gName, wipe, List.set_cons_succ, List.set_cons_zero]
    have D := L.st
    obtain ⟨n, rfl, hn, rfl⟩ : ∃ n : Nat, top = n ∧ n < S.len ∧ S.cont n = Tx := by
      rcases ti with ⟨z, _⟩ | z
      · rw [z] at hi
        cases hi
      · exact z
    refine ⟨_, rfl, x, cTx K, dx, _, _, rfl, hx, T.c_Text, T.n_Text_loom, lkT_loom, lo, cLo K, dl, _, _, rfl, hl, T.c_Loom, T.n_Loom_store, lkL_store, ?_⟩
    dsimp only [gName, wipe, List.set_cons_succ, List.set_cons_zero]
    refine ⟨_, rfl, a.s, cSt K, a.dx, _, _, rfl, D.ob, T.c_Store, T.n_Store_lefts, lk_lefts, _, rfl, a.s, a.dx, _, rfl, D.ob, lk_no (by decide +kernel), _, rfl, x, cTx K, dx, _, _, rfl, hx, T.c_Text, T.n_Text_top, lkT_top, _, rfl, a, S, n, i, 0, rfl, D, hn, (by rw [VW.cont_len D.ok hn] at hi; exact hi), fun p nm st hp lc => ?_⟩
    have s1 := same_upd (o := .tup [iV nm, iV st]) hp
    obtain ⟨c', e1, e2, e3, e4⟩ := loc_letter D.ok hn lc
    rw [e3] at hc
    cases hc
    have D1 := D.same s1
    refine ⟨p, _, _, iV nm, rfl, rfl, SqT.of upd_same, rfl, a.lf, _, _, _, rfl, rfl, SqL.of D1.lf, col_atI e4, _, _, _, rfl, rfl, lett_len, (by rw [e1]; exact lett_at c e2), k _ s1⟩
theorem scStretch : FnScope ["self", "start", "end"] ["self", "start", "end"] (defScope s_Text_stretch) := ⟨rfl, rfl, rfl, by decide +kernel, rfl, by decide +kernel, by decide +kernel⟩
theorem ok_stretch (T : Txt K mg) : MX P w K mg base 2 (cTx K) "stretch" (spStretch K) [] := by
  refine mx_mk T.f_Text_stretch T.c_Text T.m_Text_stretch scStretch (fun _ _ _ _ _ _ us hl => match us, hl with | [_, _, _], _ => rfl) (fun vs H Q E h => ?_) (fun cdv A outer s H vs Q E hr h => ?_)
  · obtain ⟨_, _, _, _, _, _, _, rfl, _⟩ := h
    rfl
  · obtain ⟨x, lo, a, S, top, Tx, i, rfl, L, X0, ti, hi, k⟩ := h
    obtain ⟨dx, hx⟩ := id X0
    refine ⟨_, (pss_cons (ps_if (pt_cmpR op_isN (pv 2) pe_non (nomark _))
       (pss_one (ps_set (i := 2) scStretch.nd rfl (Or.inl rfl) (pe_m0 (ok_size T) hr (pv 0))))
       pss_nil)
       (pss_cons (ps_if (pt_not (pt_chain3 op_le op_le op_le pe_int (pv 1) (pv 2) (pe_m0 (ok_size T) hr (pv 0))))
       (pss_one ps_never)
       pss_nil)
       (pss_one (ps_ret (pe_tup (pa_cons (pv 1) (pa_cons (pv 2) pa_nil))))))), ?_⟩
    dsimp only [L2.start, List.map, List.map_cons, List.map_nil, List.append_eq, List.append, List.length_cons, List.length_nil, Nat.reduceAdd, Nat.reduceSub, List.replicate_succ, List.replicate_zero, List.cons_append, List.nil_append, cxOf]
    refine ⟨_, rfl, rfl, _, rfl, ?_⟩
    refine iteT ?_
    refine ⟨_, rfl, x, dx, _, rfl, hx, lkT_no (by decide +kernel), x, lo, a, S, top, Tx, rfl, L, X0, ti, ?_⟩
    dsimp only [gName, wipe, List.set_cons_succ, List.set_cons_zero]
    refine ⟨_, rfl, _, _, rfl, rfl, _, rfl, ?_⟩
    rw [dchain]
    refine iteT ?_
    refine ⟨_, rfl, _, _, rfl, rfl, _, rfl, ?_⟩
    rw [dle, decide_eq_true hi]
    refine iteT ?_
    refine ⟨_, rfl, x, dx, _, rfl, hx, lkT_no (by decide +kernel), x, lo, a, S, top, Tx, rfl, L, X0, ti, _, _, rfl, rfl, _, rfl, ?_⟩
    rw [dle, decide_eq_true (Nat.le_refl _)]
    refine iteF ?_
    exact ⟨_, rfl, _, rfl, z2, k⟩
theorem scAkin : FnScope ["self", "other"] ["self", "other"] (defScope s_Text_akin) := ⟨rfl, rfl, rfl, by decide +kernel, rfl, by decide +kernel, by decide +kernel⟩
theorem ok_akin (T : Txt K mg) : MX P w K mg base 1 (cTx K) "akin" (spAkin K) [] := by
  refine mx_mk T.f_Text_akin T.c_Text T.m_Text_akin scAkin (fun _ _ _ _ _ _ us hl => match us, hl with | [_, _], _ => rfl) (fun vs H Q E h => ?_) (fun cdv A outer s H vs Q E hr h => ?_)
  · obtain ⟨_, _, _, _, _, _, _, rfl, _⟩ := h
    rfl
  · obtain ⟨x, y, lo, a, S, top, top', rfl, L, ⟨dx, hx⟩, ⟨dy, hy⟩, k⟩ := h
    obtain ⟨dl, hl⟩ := L.lo
    refine ⟨_, (pss_one (ps_if (pt_cmpR (op_neI hr T.e_mro T.e_eq T.e_ne) (pe_fld (pv 0) rfl) (pe_fld (pv 1) rfl) (nomark _))
       (pss_one ps_never)
       pss_nil)), ?_⟩
    dsimp only [L2.start, List.map, List.map_cons, List.map_nil, List.append_eq, List.append, List.length_cons, List.length_nil, Nat.reduceAdd, Nat.reduceSub, List.replicate_succ, List.replicate_zero, List.cons_append, List.nil_append, cxOf]
    refine ⟨_, rfl, x, cTx K, dx, _, _, rfl, hx, T.c_Text, T.n_Text_loom, lkT_loom, _, rfl, y, cTx K, dy, _, _, rfl, hy, T.c_Text, T.n_Text_loom, lkT_loom, lo, dl, _, rfl, rfl, hl, _, rfl, ?_⟩
    refine iteF ?_
    exact k
theorem scBounded : FnScope ["size"] ["size"] (defScope s_bounded) := ⟨rfl, rfl, rfl, by decide +kernel, rfl, by decide +kernel, by decide +kernel⟩
theorem ok_bounded (T : Txt K mg) : FX P w K mg base 1 "bounded" spBounded [] := by
  refine fx_mk T.f_bounded T.g_bounded scBounded (fun _ _ _ _ _ _ us hl => match us, hl with | [_], _ => rfl) (fun vs H Q E h => ?_) (fun cdv A outer s H vs Q E hr h => ?_)
  · obtain ⟨_, rfl, _⟩ := h
    rfl
  · obtain ⟨n, rfl, hn, k⟩ := h
    refine ⟨_, (pss_one (ps_if (pt_cmpR op_gt (pv 0) (pe_gi T.i_MOST) (nomark _))
       (pss_one ps_never)
       pss_nil)), ?_⟩
    dsimp only [L2.start, List.map, List.map_cons, List.map_nil, List.append_eq, List.append, List.length_cons, List.length_nil, Nat.reduceAdd, Nat.reduceSub, List.replicate_succ, List.replicate_zero, List.cons_append, List.nil_append, cxOf]
    refine ⟨_, rfl, _, _, rfl, rfl, _, rfl, ?_⟩
    have : decide ((1000000000000000000 : Int) < (n : Int)) = false := decide_eq_false (by rw [big18] at hn; omega)
    rw [this]
    refine iteF ?_
    exact k
end
end VT
set_option Elab.async false
set_option linter.all false
set_option maxRecDepth 100000
set_option maxHeartbeats 4000000
/-! cut, joined, times, Loom.text. -/
namespace VT
open PySem PySem.Spec PyProof.Rows L2
open VW (Sto Node Ok Le Loc Al Seg F2 szs cts sub Ch Sep Part fsum lf rf)
def spText (K : PySem.W.Frag) : Sp := fun vs H Q _ => ∃ (lo : Addr) (a : SA) (S : Sto) (ns : List Nat), vs = [.ref lo, .str (wd ns)] ∧ LW K H lo a S ∧ (∀ x ∈ ns, x < 8) ∧ ns.length ≤ 7 ∧ S.len + 300000 ≤ 16777216 ∧ TextK K lo a S H ns (ns.length + 4 * (ns.length - 1) * 9889) Q
theorem lett_in : ∀ c : Nat, c < 8 → decide (c + 97 ∈ (("abcdefgh" : Str).cps.toList)) = true := by
  have : ∀ c : Fin 8, decide (c.val + 97 ∈ (("abcdefgh" : Str).cps.toList)) = true := by decide +kernel
  exact fun c h => this ⟨c, h⟩
theorem lett_ix : ∀ c : Nat, c < 8 → Builtin.Str.occurrences ("abcdefgh" : Str) ⟨#[c + 97]⟩ 0 (("abcdefgh" : Str).length) 1 = c :: [] := by
  have : ∀ c : Fin 8, Builtin.Str.occurrences ("abcdefgh" : Str) ⟨#[c.val + 97]⟩ 0 (("abcdefgh" : Str).length) 1 = c.val :: [] := by decide +kernel
  exact fun c h => this ⟨c, h⟩
theorem wd_at {ns : List Nat} {i c : Nat} (h : (wd ns).cps[i]? = some c) : ∃ x, ns[i]? = some x ∧ c = x + 97 := by
  unfold wd at h
  rw [List.getElem?_toArray, List.getElem?_map] at h
  cases e : ns[i]? with
  | none => rw [e] at h; cases h
  | some x => rw [e] at h; exact ⟨x, rfl, (Option.some.inj h).symm⟩
theorem wd_size {ns : List Nat} : (wd ns).cps.size = ns.length := by simp [wd]
theorem text_end {K : PySem.W.Frag} {lo : Addr} {a : SA} {S S2 : Sto} {H H2 : Hp} {Tx : List Nat} {c : Nat} {Q : VK} {top : Int} (k : TextK K lo a S H Tx c Q) (L : LW K H lo a S) (le : Le S S2) (D2 : StoreAt K H2 a S2) (k2 : Kp a H H2) (ti : TopIs S2 top Tx) (few : S2.len ≤ S.len + c) :
    ∀ y dy, H2 y = none → H2 dy = none → dy ≠ y → spTextI K [.ref y, .ref lo, .int top] (L2.upd (L2.upd H2 dy (.own y)) y (.ins (cTx K) dy [])) (fun v H3 => v = .non ∧ Q (.ref y) H3) E0 := by
  intro y dy hy hdy ne
  refine ⟨y, dy, lo, top, rfl, upd_same, fun H3 hy3 out => ⟨rfl, ?_⟩⟩
  have s3 := made_same hy hdy out
  exact k S2 H3 y top le ((L.kp k2 D2).same s3) (k2.trans (Kp.same s3)) ⟨dy, hy3⟩ ti few
section
variable {P : Program} {w : World} {K : PySem.W.Frag} {mg : Str → Option Value} {base : Heap}
theorem scJoined : FnScope ["self", "other"] ["self", "other"] (defScope s_Text_joined) := ⟨rfl, rfl, rfl, by decide +kernel, rfl, by decide +kernel, by decide +kernel⟩
theorem ok_joined (T : Txt K mg) : MX P w K mg base 8 (cTx K) "joined" (spJoined K) [] := by
  refine mx_mk T.f_Text_joined T.c_Text T.m_Text_joined scJoined (fun _ _ _ _ _ _ us hl => match us, hl with | [_, _], _ => rfl) (fun vs H Q E h => ?_) (fun cdv A outer s H vs Q E hr h => ?_)
  · obtain ⟨_, _, _, _, _, _, _, _, _, rfl, _⟩ := h
    rfl
  · obtain ⟨x, y, lo, a, S, top, top', Tx, Ty, rfl, L, X0, Y0, tx, ty, tl, cap, k⟩ := h
    obtain ⟨dx, hx⟩ := id X0
    obtain ⟨dy, hy⟩ := id Y0
    obtain ⟨dl, hl⟩ := L.lo
    refine ⟨_, (pss_cons (ps_expr (pe_m (ok_akin T) hr (pv 0) (pa_cons (pv 1) pa_nil)))
       (pss_cons (ps_expr (pe_f (ok_bounded T) hr (pa_cons (pe_op op_add (pe_m0 (ok_size T) hr (pv 0)) (pe_m0 (ok_size T) hr (pv 1))) pa_nil)))
       (pss_one (ps_ret (pe_k (mk_text T) hr (pa_cons (pe_fld (pv 0) rfl) (pa_cons (pe_f (ok_laid T) hr (pa_cons (pe_fld (pe_fld (pv 0) rfl) rfl) (pa_cons (pe_lst (pa_cons (pe_fld (pv 0) rfl) (pa_cons (pe_fld (pv 1) rfl) pa_nil))) pa_nil))) pa_nil))))))), ?_⟩
    dsimp only [L2.start, List.map, List.map_cons, List.map_nil, List.append_eq, List.append, List.length_cons, List.length_nil, Nat.reduceAdd, Nat.reduceSub, List.replicate_succ, List.replicate_zero, List.cons_append, List.nil_append, cxOf]
    refine ⟨_, rfl, x, dx, _, rfl, hx, lkT_no (by decide +kernel), _, rfl, x, y, lo, a, S, top, top', rfl, L, X0, Y0, ?_⟩
    refine ⟨_, rfl, x, dx, _, rfl, hx, lkT_no (by decide +kernel), x, lo, a, S, top, Tx, rfl, L, X0, tx, _, rfl, y, dy, _, rfl, hy, lkT_no (by decide +kernel), y, lo, a, S, top', Ty, rfl, L, Y0, ty, _, _, rfl, rfl, Tx.length + Ty.length, rfl, by rw [List.length_append] at tl; exact tl, ?_⟩
    refine ⟨_, rfl, x, cTx K, dx, _, _, rfl, hx, T.c_Text, T.n_Text_loom, lkT_loom, _, rfl, x, cTx K, dx, _, _, rfl, hx, T.c_Text, T.n_Text_loom, lkT_loom, lo, cLo K, dl, _, _, rfl, hl, T.c_Loom, T.n_Loom_store, lkL_store, _, rfl, x, cTx K, dx, _, _, rfl, hx, T.c_Text, T.n_Text_top, lkT_top, _, rfl, y, cTx K, dy, _, _, rfl, hy, T.c_Text, T.n_Text_top, lkT_top, z2, fun l hl' => ?_⟩
    have s1 := same_upd (o := .lst [V.int top, V.int top']) hl'
    refine ⟨a, S, l, [top, top'], [Tx, Ty], 2, rfl, L.st.same s1, upd_same, .cons tx (.cons ty .nil), (show 2 ≤ 1000 by decide), (show 2 * (2 - 1) ≤ 2 by decide), ?_, (show S.len + 2 * 2 * 9890 + 4 * 2 + 8 ≤ _ by omega), ?_⟩
    · rw [List.flatten_cons, List.flatten_cons, List.flatten_nil, List.append_nil]
      exact tl
    · rw [List.flatten_cons, List.flatten_cons, List.flatten_nil, List.append_nil]
      intro S2 H2 t2 le D2 k2 ti few
      exact text_end k L le D2 ((Kp.same s1).trans k2) ti few
theorem scTimes : FnScope ["self", "many"] ["self", "many"] (defScope s_Text_times) := ⟨rfl, rfl, rfl, by decide +kernel, rfl, by decide +kernel, by decide +kernel⟩
theorem ok_times (T : Txt K mg) : MX P w K mg base 9 (cTx K) "times" (spTimes K) [] := by
  refine mx_mk T.f_Text_times T.c_Text T.m_Text_times scTimes (fun _ _ _ _ _ _ us hl => match us, hl with | [_, _], _ => rfl) (fun vs H Q E h => ?_) (fun cdv A outer s H vs Q E hr h => ?_)
  · obtain ⟨_, _, _, _, _, _, _, rfl, _⟩ := h
    rfl
  · obtain ⟨x, lo, a, S, top, Tx, m, rfl, L, X0, tx, m54, tl, cap, k⟩ := h
    obtain ⟨dx, hx⟩ := id X0
    obtain ⟨dl, hl⟩ := L.lo
    refine ⟨_, (pss_cons (ps_if (pt_cmpR op_lt (pv 1) pe_int (nomark _))
       (pss_one ps_never)
       pss_nil)
       (pss_cons (ps_expr (pe_f (ok_bounded T) hr (pa_cons (pe_op op_mul (pe_m0 (ok_size T) hr (pv 0)) (pv 1)) pa_nil)))
       (pss_one (ps_ret (pe_k (mk_text T) hr (pa_cons (pe_fld (pv 0) rfl) (pa_cons (pe_f (ok_repeated T) hr (pa_cons (pe_fld (pe_fld (pv 0) rfl) rfl) (pa_cons (pe_fld (pv 0) rfl) (pa_cons (pv 1) pa_nil)))) pa_nil))))))), ?_⟩
    dsimp only [L2.start, List.map, List.map_cons, List.map_nil, List.append_eq, List.append, List.length_cons, List.length_nil, Nat.reduceAdd, Nat.reduceSub, List.replicate_succ, List.replicate_zero, List.cons_append, List.nil_append, cxOf]
    refine ⟨_, rfl, _, _, rfl, rfl, _, rfl, ?_⟩
    rw [decide_eq_false (by omega : ¬ (m : Int) < 0)]
    refine iteF ?_
    refine ⟨_, rfl, x, dx, _, rfl, hx, lkT_no (by decide +kernel), x, lo, a, S, top, Tx, rfl, L, X0, tx, _, rfl, _, _, rfl, rfl, .inr ⟨by omega, by omega⟩, Tx.length * m, rfl, by rw [rep_len] at tl; rw [Nat.mul_comm]; exact tl, ?_⟩
    refine ⟨_, rfl, x, cTx K, dx, _, _, rfl, hx, T.c_Text, T.n_Text_loom, lkT_loom, _, rfl, x, cTx K, dx, _, _, rfl, hx, T.c_Text, T.n_Text_loom, lkT_loom, lo, cLo K, dl, _, _, rfl, hl, T.c_Loom, T.n_Loom_store, lkL_store, _, rfl, x, cTx K, dx, _, _, rfl, hx, T.c_Text, T.n_Text_top, lkT_top, _, rfl, a, S, top, Tx, m, rfl, L.st, tx, m54, tl, cap, ?_⟩
    intro S2 H2 t2 le D2 k2 ti few
    exact text_end k L le D2 k2 ti few
theorem scCut : FnScope ["self", "start", "end", "low", "high"] ["self", "start", "end"] (defScope s_Text_cut) := ⟨rfl, rfl, rfl, by decide +kernel, rfl, by decide +kernel, by decide +kernel⟩
theorem dx_cut (T : Txt K mg) : DX P w K mg base 7 d_Text_cut.name d_Text_cut.qual (defArgs s_Text_cut) (defBody s_Text_cut) (defScope s_Text_cut) (d_Text_cut.dvs K) (d_Text_cut.kws K) (He.fAd K d_Text_cut.at_) ["self", "start", "end"] (spCut K) := by
  refine dx_mk T.f_Text_cut scCut (fun vs H Q E h => ?_) (fun cdv A outer s H vs Q E hr h => ?_)
  · obtain ⟨_, _, _, _, _, _, _, rfl, _⟩ := h
    rfl
  · obtain ⟨x, lo, a, S, top, Tx, i, rfl, L, X0, tx, hi, tl, cap, k⟩ := h
    obtain ⟨dx, hx⟩ := id X0
    obtain ⟨dl, hl⟩ := L.lo
    refine ⟨_, (pss_cons (ps_asg (pe_m (ok_stretch T) hr (pv 0) (pa_cons (pv 1) (pa_cons (pv 2) pa_nil))) (pg_tup rfl (pgs_cons (pg_name (i := 3) scCut.nd rfl (Or.inl rfl)) (pgs_cons (pg_name (i := 4) scCut.nd rfl (Or.inl rfl)) pgs_nil))))
       (pss_one (ps_ret (pe_k (mk_text T) hr (pa_cons (pe_fld (pv 0) rfl) (pa_cons (pe_f (ok_woven T) hr (pa_cons (pe_fld (pe_fld (pv 0) rfl) rfl) (pa_cons (pe_lst (pa_cons (pe_tup (pa_cons (pe_fld (pv 0) rfl) (pa_cons (pv 3) (pa_cons (pv 4) pa_nil)))) pa_nil)) pa_nil))) pa_nil)))))), ?_⟩
    dsimp only [L2.start, List.map, List.map_cons, List.map_nil, List.append_eq, List.append, List.length_cons, List.length_nil, Nat.reduceAdd, Nat.reduceSub, List.replicate_succ, List.replicate_zero, List.cons_append, List.nil_append, cxOf]
    refine ⟨_, rfl, x, dx, _, rfl, hx, lkT_no (by decide +kernel), _, rfl, _, rfl, x, lo, a, S, top, Tx, i, rfl, L, X0, tx, hi, fun p hp => ?_⟩
    have s1 := same_upd (o := .tup [iV i, iV Tx.length]) hp
    refine ⟨p, _, rfl, SqT.of upd_same, rfl, _, _, rfl, _, _, rfl, rfl, ?_⟩
    generalize L2.upd H p (.tup [iV i, iV Tx.length]) = H1 at s1
    have hx := s1 _ _ hx
    have hl := s1 _ _ hl
    dsimp only [gName, wipe, List.set_cons_succ, List.set_cons_zero]
    refine ⟨_, rfl, x, cTx K, dx, _, _, rfl, hx, T.c_Text, T.n_Text_loom, lkT_loom, _, rfl, x, cTx K, dx, _, _, rfl, hx, T.c_Text, T.n_Text_loom, lkT_loom, lo, cLo K, dl, _, _, rfl, hl, T.c_Loom, T.n_Loom_store, lkL_store, _, rfl, x, cTx K, dx, _, _, rfl, hx, T.c_Text, T.n_Text_top, lkT_top, _, rfl, _, rfl, z3, fun q hq => ⟨z1, fun r hr' => ?_⟩⟩
    have s2 := same_upd (o := .tup [V.int top, iV i, iV Tx.length]) hq
    have s3 := same_upd (o := .lst [V.ref q]) hr'
    have s123 := (s1.trans s2).trans s3
    have fs : fsum S (actP [(top, i, Tx.length)]).length 0 (actP [(top, i, Tx.length)]) ≤ 1 ∧ (actP [(top, i, Tx.length)]).flatMap (sub S) = Tx.drop i ∧ RawOk S (top, i, Tx.length) := by
      by_cases z : i < Tx.length
      · obtain ⟨n, rfl, hn, rfl⟩ : ∃ n : Nat, top = n ∧ n < S.len ∧ S.cont n = Tx := by
          rcases tx with ⟨y, _⟩ | y
          · rw [y] at z
            cases z
          · exact y
        have cl := VW.cont_len L.st.ok hn
        have e : actP [((n : Int), i, (S.cont n).length)] = [⟨n, i, (S.cont n).length⟩] := by
          rw [act_cons, if_pos (show act ((n : Int), i, (S.cont n).length) = true from decide_eq_true z)]
          rfl
        rw [e]
        refine ⟨?_, ?_, fun _ => ⟨rfl, hn, Nat.le_of_eq cl⟩⟩
        · show VW.b2 (lf 0 _) + VW.b2 (rf S 1 0 _) + 0 ≤ 1
          rw [VW.b2_f (show ¬ rf S 1 0 ⟨n, i, (S.cont n).length⟩ from fun q => by
            rcases q with q | q
            · omega
            · have : (S.cont n).length < S.size n := q
              omega)]
          have := VW.b2_le (lf 0 ⟨n, i, (S.cont n).length⟩)
          omega
        · rw [List.flatMap_cons, List.flatMap_nil, List.append_nil]
          unfold VW.sub
          show ((S.cont n).take (S.cont n).length).drop i = _
          rw [List.take_length]
      · have na : ¬ act (top, i, Tx.length) = true := by
          intro y
          exact z (of_decide_eq_true y)
        have e : actP [(top, i, Tx.length)] = [] := by
          rw [act_cons, if_neg na]
          rfl
        rw [e]
        refine ⟨Nat.zero_le _, ?_, fun y => absurd y na⟩
        rw [List.drop_of_length_le (by omega)]
        rfl
    obtain ⟨f1, f2, f3⟩ := fs
    refine ⟨a, S, r, [(top, i, Tx.length)], 1, rfl, L.st.same s123, ⟨[q], upd_same, .cons (s3 _ _ upd_same) .nil⟩, fun r hr => ?_, (show 1 ≤ 1000 by decide), f1, ?_, (show S.len + 2 * 1 * 9890 + 4 * 1 + 8 ≤ _ by omega), ?_⟩
    · have : r = (top, i, Tx.length) := by simpa using hr
      rw [this]
      exact f3
    · rw [f2, List.length_drop]
      omega
    · rw [f2]
      intro S2 H2 t2 le D2 k2 ti few
      exact text_end k L le D2 ((Kp.same s123).trans k2) ti few
theorem kb_cut (T : Txt K mg) : ∃ (fd : FuncData) (g : List Value → List Value → List Value), FnOk P w K mg base CX0 7 (He.fAd K d_Text_cut.at_) fd ["self", "start", "end"] (spCut K) ∧ KBn K fd ["self", "start", "end"] 1 ["start"] g (fun vs zs => vs ++ (zs ++ [.non])) := by
  obtain ⟨fd, F, ok⟩ := (dx_cut (P := P) (w := w) (base := base) T).ex
  obtain ⟨mv, kb⟩ := F.kbinds0 (ps := ["self", "start", "end"]) 1 ["start"] [(("end" : Str), V.non)] (fun us mv ws => us ++ (ws ++ mv)) (fun z => nomatch z) (fun q hq => by
      have : q = (("end" : Str), V.non) := by simpa using hq
      subst this
      show _ ∈ [(("start" : Str), V.int 0), (("end" : Str), V.non)]
      simp) (fun r1 r2 r3 => r1.append (r3.append r2)) (fun D doc pm an cdv ct us mv ws l1 l2 l3 => by
      match us, mv, ws, l1, l2, l3 with
      | [u], [m], [v], _, _, _ => exact ⟨_, _, _, _, _, _, rfl, rfl, rfl⟩)
  exact ⟨fd, _, ok, kb⟩
end
end VT
set_option Elab.async false
set_option linter.all false
set_option maxRecDepth 100000
set_option maxHeartbeats 4000000
/-! Loom.text. -/
namespace VT
open PySem PySem.Spec PyProof.Rows L2
open VW (Sto Node Ok Le F2)
section
variable {P : Program} {w : World} {K : PySem.W.Frag} {mg : Str → Option Value} {base : Heap}
def rSIndex : V → List V → Hp → VK → Prop := fun x xs H Q => ∃ (a b : Str) (i : Nat) (rest : List Nat), x = .str a ∧ xs = [.str b] ∧ Builtin.Str.occurrences a b 0 a.length 1 = i :: rest ∧ Q (.int (i : Nat)) H
theorem scLText : FnScope ["self", "letters", "letter"] ["self", "letters"] (defScope s_Loom_text) := ⟨rfl, rfl, rfl, by decide +kernel, rfl, by decide +kernel, by decide +kernel⟩
theorem dx_text (T : Txt K mg) : DX P w K mg base 9 d_Loom_text.name d_Loom_text.qual (defArgs s_Loom_text) (defBody s_Loom_text) (defScope s_Loom_text) (d_Loom_text.dvs K) (d_Loom_text.kws K) (He.fAd K d_Loom_text.at_) ["self", "letters"] (spText K) := by
  refine dx_mk T.f_Loom_text scLText (fun vs H Q E h => ?_) (fun cdv A outer s H vs Q E hr h => ?_)
  · obtain ⟨_, _, _, _, rfl, _⟩ := h
    rfl
  · obtain ⟨lo, a, S, ns, rfl, L, n8, nlen, cap, k⟩ := h
    obtain ⟨dl, hl⟩ := L.lo
    refine ⟨_, (pss_cons (ps_if (PW.pt (pw_or (pt_cmpR op_gt (pe_callB call_len_str (by rfl) T.b_len PySem.boot_len (pa_cons (pv 1) pa_nil)) (pe_gi T.i_WRITTEN) (nomark _)) (pw_or1 (pt_not (pt_val (pe_callB (cr_all rfl) (by rfl) T.b_all (by decide +kernel) (pa_cons (pe_lc (own := [("letter", 2)]) (g := (gName 2)) (tt := tYes) rfl scLText.nd (pi_str (pv 1)) (blkOk_by (N := ["self", "letters", "letter"]) (sc := defScope s_Loom_text) (by decide +kernel)) (fun _ _ _ _ _ => (pg_name (i := 2) scLText.nd rfl (Or.inl rfl))) (fun _ _ _ _ _ => pts_nil) (fun _ _ _ _ _ => (pe_cmpR op_in_sign (pv 2) (pe_gs T.s_LETTERS) (by rfl)))) pa_nil)))))))
       (pss_one ps_never)
       pss_nil)
       (pss_one (ps_ret (pe_k (mk_text T) hr (pa_cons (pv 0) (pa_cons (pe_f (ok_spelled T) hr (pa_cons (pe_fld (pv 0) rfl) (pa_cons (pe_lc (own := [("letter", 2)]) (g := (gName 2)) (tt := tYes) (te := (tBM K "str" rSIndex (tC (.str "abcdefgh")) (tCons (tVar 2) tNil))) rfl scLText.nd (pi_str (pv 1)) (blkOk_by (N := ["self", "letters", "letter"]) (sc := defScope s_Loom_text) (by decide +kernel)) (fun _ _ _ _ _ => (pg_name (i := 2) scLText.nd rfl (Or.inl rfl))) (fun _ _ _ _ _ => pts_nil) (fun _ _ _ _ _ => (pe_bm PySem.F.plainAttrs_str PySem.F.slot_str_index PySem.F.type_str_index mt_sindex (pe_gs T.s_LETTERS) (pa_cons (pv 2) pa_nil)))) pa_nil))) pa_nil)))))), ?_⟩
    dsimp only [L2.start, List.map, List.map_cons, List.map_nil, List.append_eq, List.append, List.length_cons, List.length_nil, Nat.reduceAdd, Nat.reduceSub, List.replicate_succ, List.replicate_zero, List.cons_append, List.nil_append, cxOf]
    have wl : (wd ns).length ≤ sizeLine := by rw [wd_len, sizeLine_eq]; omega
    refine ⟨_, rfl, wd ns, rfl, wl, _, _, rfl, rfl, _, rfl, ?_⟩
    rw [decide_eq_false (by rw [wd_len]; omega : ¬ (400 : Int) < ((wd ns).length : Int))]
    refine iteF ?_
    refine ⟨_, rfl, wd ns, rfl, fun d hd => ?_⟩
    refine lc_it walk_str (fun i H' => H' = L2.upd H d (.lst ((List.replicate i true).map V.bl))) rfl (fun _ _ _ _ => trivial) ?_ ?_
    · rintro i y H1 H2 hi rfl ⟨rfl, c, hc, rfl⟩
      obtain ⟨x, hx, rfl⟩ := wd_at hc
      rw [wd_size] at hi
      refine ⟨rfl, _, rfl, x + 97, _, rfl, rfl, ?_⟩
      rw [lett_in x (n8 x (List.mem_of_getElem? hx))]
      refine ⟨_, upd_same, by rw [List.length_map, List.length_replicate, sizeLine_eq]; omega, ?_⟩
      rw [upd_upd, List.replicate_succ', List.map_append]
      rfl
    · rintro H1 rfl
      rw [wd_size]
      have s1 := same_upd (o := .lst ((List.replicate ns.length true).map V.bl)) hd
      have hd1 : L2.upd H d (.lst ((List.replicate ns.length true).map V.bl)) d = some (.lst ((List.replicate ns.length true).map V.bl)) := upd_same
      have L1 := L.same s1
      have hl := s1 _ _ hl
      have k1 : Kp a H (L2.upd H d (.lst ((List.replicate ns.length true).map V.bl))) := Kp.same s1
      refine ⟨d, List.replicate ns.length true, rfl, SqL.of hd1, _, rfl, ?_⟩
      generalize L2.upd H d (.lst ((List.replicate ns.length true).map V.bl)) = H1 at *
      have ea : (List.replicate ns.length true).all id = true := by simp
      rw [ea]
      refine iteF ?_
      dsimp only [tNext, gName, wipe, List.set_cons_succ, List.set_cons_zero]
      refine ⟨_, rfl, _, rfl, lo, cLo K, dl, _, _, rfl, hl, T.c_Loom, T.n_Loom_store, lkL_store, _, rfl, wd ns, rfl, fun e he => ?_⟩
      refine lc_it walk_str (fun i H' => H' = L2.upd H1 e (.lst ((ns.take i).map iV))) rfl (fun _ _ _ _ => trivial) ?_ ?_
      · rintro i y H2 H3 hi rfl ⟨rfl, c, hc, rfl⟩
        obtain ⟨x, hx, rfl⟩ := wd_at hc
        rw [wd_size] at hi
        refine ⟨rfl, rfl, _, rfl, _, _, x, [], rfl, rfl, lett_ix x (n8 x (List.mem_of_getElem? hx)), ?_⟩
        refine ⟨_, upd_same, by rw [List.length_map, List.length_take, sizeLine_eq]; omega, ?_⟩
        rw [upd_upd, take_snoc hx, List.map_append]
        rfl
      · rintro H2 rfl
        rw [wd_size, List.take_length]
        have s2 := same_upd (o := .lst (ns.map iV)) he
        refine ⟨a, S, e, ns, rfl, L1.st.same s2, upd_same, L1.st.out_new he, n8, nlen, cap, ?_⟩
        intro S2 H2 t2 le D2 k2 ti few
        exact text_end k L le D2 (k1.trans ((Kp.same s2).trans k2)) ti (by omega)
theorem ok_text (T : Txt K mg) : MX P w K mg base 9 (cLo K) "text" (spText K) [] := by
  obtain ⟨fd, F, ok⟩ := (dx_text (P := P) (w := w) (base := base) T).ex
  obtain ⟨ds, v, b⟩ := F.binds1 (ps := ["self", "letters"]) 2 1 (fun z => nomatch z) rfl (fun Ta kV doc pm an cdv ct us its l1 l2 => by
    match us, its, l1, l2 with
    | [u1, u2], [i1], _, _ => exact ⟨_, rfl, rfl⟩)
  exact ⟨_, fd, _, ds, T.c_Loom, T.m_Loom_text, ok, b, v⟩
theorem ok_text0 (T : Txt K mg) : MX P w K mg base 9 (cLo K) "text" (spText K) [.str ""] := by
  obtain ⟨fd, F, ok⟩ := (dx_text (P := P) (w := w) (base := base) T).ex
  obtain ⟨ds, v, b⟩ := F.binds1 (ps := ["self", "letters"]) 1 0 (fun z => nomatch z) rfl (fun Ta kV doc pm an cdv ct us its l1 l2 => by
    match us, its, l1, l2 with
    | [u1], [i1], _, _ => exact ⟨_, rfl, rfl⟩)
  exact ⟨_, fd, _, ds, T.c_Loom, T.m_Loom_text, ok, b, v⟩
end
end VT
set_option Elab.async false
set_option linter.all false
set_option maxRecDepth 100000
set_option maxHeartbeats 4000000
/-! Store.below. -/
namespace VT
open PySem PySem.Spec PyProof.Rows L2
open VW (Sto Node Ok Le F2)
def kids (S : Sto) (x : Nat) : List Nat := match S.node x with
  | .L _ => []
  | .P l r => [l, r]
  | .B l _ => [l]
/-- R: all pieces below, few -/
structure Few (S : Sto) (n : Nat) (R : List Nat) : Prop where
  top : n ∈ R
  few : R.length < 64
  lt : ∀ x ∈ R, x < S.len
  cl : ∀ x ∈ R, ∀ c ∈ kids S x, c ∈ R
structure BI (S : Sto) (R : List Nat) (n : Nat) (ks os : List Nat) (ex : Nat → Prop) : Prop where
  sub : ∀ k ∈ ks, k ∈ R
  top : n ∈ ks
  op : ∀ o ∈ os, o ∈ ks
  cl : ∀ k ∈ ks, k ∉ os → ex k ∨ ∀ c ∈ kids S k, c ∈ ks
  len : ks.length + (R.filter fun x => decide (x ∉ ks)).length ≤ R.length
theorem filter_ne {c : Nat} : ∀ {l : List Nat}, c ∈ l → (l.filter fun x => decide (x ≠ c)).length + 1 ≤ l.length
  | [], h => by cases h
  | x :: l, h => by
    rw [List.filter_cons]
    by_cases e : x = c
    · rw [if_neg (by simp [e])]
      have := List.length_filter_le (fun x => decide (x ≠ c)) l
      rw [List.length_cons]
      omega
    · rw [if_pos (by simp [e]), List.length_cons, List.length_cons]
      have h : c ∈ l := by
        rcases List.mem_cons.mp h with q | q
        · exact absurd q.symm e
        · exact q
      have := filter_ne h
      omega
theorem BI.push {S : Sto} {R : List Nat} {n c : Nat} {ks os : List Nat} {ex : Nat → Prop} (b : BI S R n ks os ex) (hc : c ∈ R) (hn : c ∉ ks) : BI S R n (ks ++ [c]) (os ++ [c]) ex := by
  refine ⟨fun k hk => ?_, by simp [b.top], fun o ho => ?_, fun k hk hno => ?_, ?_⟩
  · rcases List.mem_append.mp hk with q | q
    · exact b.sub k q
    · have : k = c := by simpa using q
      rw [this]
      exact hc
  · rcases List.mem_append.mp ho with q | q
    · simp [b.op o q]
    · exact List.mem_append_right _ q
  · rcases List.mem_append.mp hk with q | q
    · rcases b.cl k q (fun z => hno (List.mem_append_left _ z)) with z | z
      · exact .inl z
      · exact .inr fun c hc => List.mem_append_left _ (z c hc)
    · exact absurd (List.mem_append_right _ q) hno
  · have e : (R.filter fun x => decide (x ∉ ks ++ [c])) = ((R.filter fun x => decide (x ∉ ks)).filter fun x => decide (x ≠ c)) := by
      rw [List.filter_filter]
      congr 1
      funext x
      simp [not_or, and_comm]
    have := filter_ne (c := c) (l := R.filter fun x => decide (x ∉ ks)) (by simp [hc, hn])
    have l := b.len
    rw [e, List.length_append, List.length_singleton]
    omega
theorem BI.kids {S : Sto} {R : List Nat} {n : Nat} {ks os : List Nat} (b : BI S R n ks os (fun _ => False)) : ∀ k ∈ ks, k ∉ os → ∀ c ∈ VT.kids S k, c ∈ ks := fun k hk ho => (b.cl k hk ho).resolve_left id
def keyD (ks : List Nat) : List (Key × V) := ks.map fun (k : Nat) => (.inl (k : Int), .bl true)
theorem keyD_val (c : Nat) : ∀ {ks : List Nat}, (valV (keyD ks) (.inl (c : Int))).isSome = decide (c ∈ ks)
  | [] => rfl
  | k :: ks => by
    have ih := keyD_val c (ks := ks)
    unfold keyD at ih ⊢
    rw [List.map_cons]
    by_cases e : k = c
    · rw [valV_pos (by rw [e])]
      simp [e]
    · rw [valV_neg (by intro z; injection z with z; omega), ih]
      have : ¬ c = k := fun z => e z.symm
      simp [this]
theorem keyD_put {c : Nat} {ks : List Nat} (h : c ∉ ks) : putK (keyD ks) (.inl (c : Int)) (.bl true) = keyD (ks ++ [c]) := by
  have : valV (keyD ks) (.inl (c : Int)) = none := by
    have := keyD_val c (ks := ks)
    rw [decide_eq_false h] at this
    cases e : valV (keyD ks) (.inl (c : Int)) with
    | none => rfl
    | some v => rw [e] at this; cases this
  rw [putK_new _ this]
  unfold keyD
  rw [List.map_append]
  rfl
def spBelow (K : PySem.W.Frag) : Sp := fun vs H Q _ => ∃ (a : SA) (S : Sto) (n : Nat) (R : List Nat), vs = [.ref a.s, iV n] ∧ StoreAt K H a S ∧ Few S n R ∧
  ∀ H' p ys, Same H H' → H' p = some (.lst (ys.map iV)) → Few S n ys → ys.Pairwise (· ≤ ·) → Q (.ref p) H'
section
variable {P : Program} {w : World} {K : PySem.W.Frag} {mg : Str → Option Value} {base : Heap}
theorem scBelow : FnScope ["self", "top", "found", "open_ones", "name", "under", "one"] ["self", "top"] (defScope s_Store_below) := ⟨rfl, rfl, rfl, by decide +kernel, rfl, by decide +kernel, by decide +kernel⟩
theorem ok_below (T : Txt K mg) : MX P w K mg base 1 (cSt K) "below" (spBelow K) [] := by
  refine mx_mk T.f_Store_below T.c_Store T.m_Store_below scBelow (fun _ _ _ _ _ _ us hl => match us, hl with | [_, _], _ => rfl) (fun vs H Q E h => ?_) (fun cdv A outer s H vs Q E hr h => ?_)
  · obtain ⟨_, _, _, _, rfl, _⟩ := h
    rfl
  · obtain ⟨a, S, n, R, rfl, D, FR, k⟩ := h
    have hu0 := hr.units
    have hu : (A.deeper (envOfC d_Store_below.qual (defScope s_Store_below) s.heap.objs.size (He.fAd K d_Store_below.at_) cdv)).units + 1 < cLine := by omega
    refine ⟨_, (pss_cons (ps_set (i := 2) scBelow.nd rfl (Or.inl rfl) (pe_disp (pps_cons (pv 1) pe_bl pps_nil) rfl rfl (List.cons_ne_nil _ _) (by decide)))
       (pss_cons (ps_set (i := 3) scBelow.nd rfl (Or.inl rfl) (pe_lst (pa_cons (pv 1) pa_nil)))
       (pss_cons (ps_while PassesOwn.never (pt_truth (pv 3) (by intro _; rfl))
       (pss_cons (ps_set (i := 4) scBelow.nd rfl (Or.inl rfl) (pe_bm0 PySem.F.plainAttrs_list PySem.F.slot_list_pop PySem.F.type_list_pop mt_pop (pv 3)))
       (pss_cons (ps_set (i := 5) scBelow.nd rfl (Or.inl rfl) (pe_lst pa_nil))
       (C8.pss_cut (ps_if (pt_cmpR op_ne (pe_ix ix_list (pe_fld (pv 0) rfl) (pv 4) (fun _ _ => rfl)) (pe_gi T.i_LETTER) (nomark _))
       (pss_one (ps_expr (pe_bm PySem.F.plainAttrs_list PySem.F.slot_list_append PySem.F.type_list_append mt_append (pv 5) (pa_cons (pe_ix ix_list (pe_fld (pv 0) rfl) (pv 4) (fun _ _ => rfl)) pa_nil))))
       pss_nil)
       (C8.pss_cut (ps_if (pt_cmpR op_eq (pe_ix ix_list (pe_fld (pv 0) rfl) (pv 4) (fun _ _ => rfl)) (pe_gi T.i_PAIR) (nomark _))
       (pss_one (ps_expr (pe_bm PySem.F.plainAttrs_list PySem.F.slot_list_append PySem.F.type_list_append mt_append (pv 5) (pa_cons (pe_ix ix_list (pe_fld (pv 0) rfl) (pv 4) (fun _ _ => rfl)) pa_nil))))
       pss_nil)
       (pss_one (ps_for PassesOwn.never rfl (pi_list (pv 5)) (pg_name (i := 6) scBelow.nd rfl (Or.inl rfl))
       (pss_one (ps_if (pt_cmp (pc_dnotin hu (pv 6) (pv 2)))
       (pss_cons (ps_dput hu (pv 2) (pv 6) pe_bl rfl)
       (pss_one (ps_expr (pe_bm PySem.F.plainAttrs_list PySem.F.slot_list_append PySem.F.type_list_append mt_append (pv 3) (pa_cons (pv 6) pa_nil)))))
       pss_nil)))))))))
       (pss_one (ps_ret (pe_callB (call_sortedDI rfl) (by rfl) T.b_sorted (by decide +kernel) (pa_cons (pv 2) pa_nil))))))), ?_⟩
    dsimp only [L2.start, List.map, List.map_cons, List.map_nil, List.append_eq, List.append, List.length_cons, List.length_nil, Nat.reduceAdd, Nat.reduceSub, List.replicate_succ, List.replicate_zero, List.cons_append, List.nil_append, cxOf]
    have mg : mergeK [] [((.inl (n : Int) : Key), V.bl true)] = keyD [n] := by
      show putK [] _ _ = _
      rw [putK_new _ valV_nil]
      rfl
    refine fun fd hfd => ⟨_, rfl, upd_same, [(.inl (n : Int), .bl true)], rfl, (show 1 ≤ 15 by decide), ?_⟩
    rw [upd_upd, mg]
    have s1 := same_upd (o := .dK (keyD [n])) hfd
    have fd1 : upd H fd (.dK (keyD [n])) fd = some (.dK (keyD [n])) := upd_same
    generalize upd H fd (.dK (keyD [n])) = H1 at s1 fd1
    dsimp only [gName, wipe, List.set_cons_succ, List.set_cons_zero]
    refine ⟨_, rfl, z1, fun od hod => ?_⟩
    have s2 := same_upd (o := .lst [iV n]) hod
    have nod : H od = none := s1.free hod
    have fo : fd ≠ od := ne_of_none fd1 hod
    dsimp only [gName, wipe, List.set_cons_succ, List.set_cons_zero]
    have len0 : 1 + (R.filter fun x => decide (x ∉ [n])).length ≤ R.length := by
      have := filter_ne FR.top
      have e : (fun x => decide (x ∉ [n])) = fun x => decide (x ≠ n) := by
        funext x
        simp
      rw [e]
      omega
    refine ⟨fun m σ H' => ∃ (ks os : List Nat) (v4 v5 v6 : Option V), σ = [some (.ref a.s), some (iV n), some (.ref fd), some (.ref od), v4, v5, v6] ∧ Same H H' ∧ H' fd = some (.dK (keyD ks)) ∧ H' od = some (.lst (os.map iV)) ∧ BI S R n ks os (fun _ => False) ∧ m = 2 * (R.length - ks.length) + os.length ∧ 2 * (R.length - ks.length) + os.length ≤ 2 * R.length,
      ⟨_, [n], [n], none, none, none, rfl, s1.trans s2, s2 _ _ fd1, upd_same, ⟨fun k hk => by rw [List.mem_singleton.mp hk]; exact FR.top, by simp, fun o ho => ho, fun k hk ho => absurd hk ho, len0⟩, rfl, by show 2 * (R.length - 1) + 1 ≤ _; omega⟩, ?_⟩
    clear fd1 s1 s2 hod
    rintro m σ H2 ⟨ks, os, v4, v5, v6, rfl, s3, hf, ho, B, rfl, mb⟩
    have kl := B.len
    have few := FR.few
    refine ⟨_, rfl, _, .inl ⟨_, SqL.of ho, rfl⟩, ?_⟩
    rcases List.eq_nil_or_concat os with e | ⟨os', x, e⟩
    · subst e
      refine iteF ?_
      refine ⟨_, rfl, fd, keyD ks, ks.map fun (k : Nat) => (k : Int), rfl, .inl hf, ?_, by rw [List.length_map]; omega, fun ys p hp hs hn => ?_⟩
      · unfold keyD
        rw [List.map_map, List.map_map]
        rfl
      · have hy : ∀ y ∈ ys, ∃ k : Nat, k ∈ ks ∧ y = (k : Int) := fun y hy => by
          obtain ⟨k, hk, rfl⟩ := List.mem_map.mp (hp.mem_iff.mp hy)
          exact ⟨k, hk, rfl⟩
        have ey : (ys.map Int.toNat).map (fun (k : Nat) => (k : Int)) = ys := by
          rw [List.map_map]
          have : ∀ l : List Int, (∀ y ∈ l, ∃ k : Nat, k ∈ ks ∧ y = (k : Int)) → l.map ((fun (k : Nat) => (k : Int)) ∘ Int.toNat) = l := by
            intro l
            induction l with
            | nil => intro _; rfl
            | cons y r ih =>
              intro h
              obtain ⟨k, _, rfl⟩ := h y (by simp)
              rw [List.map_cons, ih fun z hz => h z (List.mem_cons_of_mem _ hz)]
              rfl
          exact this ys hy
        have me : ∀ k : Nat, k ∈ ys.map Int.toNat ↔ k ∈ ks := fun k => by
          refine ⟨fun h => ?_, fun h => ?_⟩
          · obtain ⟨y, hy', rfl⟩ := List.mem_map.mp h
            obtain ⟨j, hj, rfl⟩ := hy y hy'
            exact hj
          · exact List.mem_map.mpr ⟨(k : Int), hp.mem_iff.mpr (List.mem_map.mpr ⟨k, h, rfl⟩), rfl⟩
        have ev : ys.map V.int = (ys.map Int.toNat).map iV := by
          conv => lhs; rw [← ey]
          rw [List.map_map]
          rfl
        rw [ev]
        refine k _ p (ys.map Int.toNat) (s3.trans (same_upd hn)) upd_same ⟨(me n).mpr B.top, ?_, fun z hz => FR.lt z (B.sub z ((me z).mp hz)), fun z hz c hc => (me c).mpr (B.kids z ((me z).mp hz) (fun q => (nomatch q)) c hc)⟩ ?_
        · rw [List.length_map, hp.length_eq, List.length_map]
          omega
        · rw [List.pairwise_map]
          refine hs.imp fun h => ?_
          omega
    · have e : os = os' ++ [x] := by simpa using e
      subst e
      have e1 : (!(List.map iV (os' ++ [x])).isEmpty) = true := by simp
      rw [e1]
      refine iteT ?_
      have xk : x ∈ ks := B.op x (by simp)
      have xl := FR.lt x (B.sub x xk)
      refine ⟨_, fun σ' H' z => z, ?_⟩
      refine ⟨_, rfl, .inl ⟨rfl, _, SqL.of ho⟩, od, _, iV x, rfl, rfl, ho, ?_, ?_⟩
      · rw [List.map_append, List.length_append, List.length_map]
        show (os'.map iV ++ [iV x])[os'.length + 1 - 1]? = _
        rw [Nat.add_sub_cancel, List.getElem?_append_right (by rw [List.length_map]; exact Nat.le_refl _), List.length_map, Nat.sub_self]
        rfl
      have ed : (List.map iV (os' ++ [x])).dropLast = os'.map iV := by
        rw [List.map_append]
        exact List.dropLast_concat
      rw [ed]
      have s4 : Same H (upd H2 od (.lst (os'.map iV))) := fun b u e => by
        rw [upd_ne (ne_of_none e nod)]
        exact s3 _ _ e
      have hf4 : upd H2 od (.lst (os'.map iV)) fd = some (.dK (keyD ks)) := by rw [upd_ne fo]; exact hf
      have ho4 : upd H2 od (.lst (os'.map iV)) od = some (.lst (os'.map iV)) := upd_same
      generalize upd H2 od (.lst (os'.map iV)) = H4 at s4 hf4 ho4
      dsimp only [gName, wipe, List.set_cons_succ, List.set_cons_zero]
      refine ⟨Nat.zero_le _, fun un hun => ?_⟩
      have nun : H un = none := s4.free hun
      have uf : un ≠ fd := (ne_of_none hf4 hun).symm
      have uo : un ≠ od := (ne_of_none ho4 hun).symm
      dsimp only [gName, wipe, List.set_cons_succ, List.set_cons_zero]
      have stand : ∀ xs, Same H (upd H4 un (.lst xs)) := fun xs => s4.trans (same_upd hun)
      refine ⟨fun σ' H' => σ' = [some (.ref a.s), some (iV n), some (.ref fd), some (.ref od), some (iV x), some (.ref un), v6] ∧ H' = upd H4 un (.lst (((kids S x).take 1).map iV)), ?_, ?_⟩
      · have D5 := D.same (stand [])
        refine ⟨_, rfl, a.s, cSt K, a.dx, _, _, rfl, D5.ob, T.c_Store, T.n_Store_kinds, lk_kinds, _, rfl, a.kd, _, _, _, rfl, rfl, SqL.of D5.kd, col_atI xl, rfl, _, rfl, ?_⟩
        have kd0 : decide (iV (kdN (S.node x)) = V.int 0) = decide (kdN (S.node x) = 0) := decide_eq_decide.mpr ⟨fun z => by injection z with z; omega, fun z => by rw [z]; rfl⟩
        rw [kd0]
        cases en : S.node x with
        | L c =>
          refine iteF ?_
          refine ⟨rfl, ?_⟩
          unfold kids
          rw [en]
          rfl
        | P l r =>
          refine iteT ?_
          refine ⟨_, rfl, .inl ⟨rfl, _, SqL.of upd_same⟩, _, rfl, a.s, cSt K, a.dx, _, _, rfl, D5.ob, T.c_Store, T.n_Store_lefts, lk_lefts, _, rfl, a.lf, _, _, _, rfl, rfl, SqL.of D5.lf, col_atI xl, un, _, _, rfl, rfl, upd_same, (by decide), rfl, ?_⟩
          rw [upd_upd, en]
          unfold kids
          rw [en]
          rfl
        | B l m =>
          refine iteT ?_
          refine ⟨_, rfl, .inl ⟨rfl, _, SqL.of upd_same⟩, _, rfl, a.s, cSt K, a.dx, _, _, rfl, D5.ob, T.c_Store, T.n_Store_lefts, lk_lefts, _, rfl, a.lf, _, _, _, rfl, rfl, SqL.of D5.lf, col_atI xl, un, _, _, rfl, rfl, upd_same, (by decide), rfl, ?_⟩
          rw [upd_upd, en]
          unfold kids
          rw [en]
          rfl
      · rintro σ' H5 ⟨rfl, rfl⟩
        refine ⟨fun σ' H' => σ' = [some (.ref a.s), some (iV n), some (.ref fd), some (.ref od), some (iV x), some (.ref un), v6] ∧ H' = upd H4 un (.lst ((kids S x).map iV)), ?_, ?_⟩
        · have D5 := D.same (stand (((kids S x).take 1).map iV))
          refine ⟨_, rfl, a.s, cSt K, a.dx, _, _, rfl, D5.ob, T.c_Store, T.n_Store_kinds, lk_kinds, _, rfl, a.kd, _, _, _, rfl, rfl, SqL.of D5.kd, col_atI xl, rfl, _, rfl, ?_⟩
          have kd1 : decide (iV (kdN (S.node x)) = V.int 1) = decide (kdN (S.node x) = 1) := decide_eq_decide.mpr ⟨fun z => by injection z with z; omega, fun z => by rw [z]; rfl⟩
          rw [kd1]
          cases en : S.node x with
          | L c =>
            refine iteF ?_
            refine ⟨rfl, ?_⟩
            unfold kids
            rw [en]
            rfl
          | P l r =>
            refine iteT ?_
            refine ⟨_, rfl, .inl ⟨rfl, _, SqL.of upd_same⟩, _, rfl, a.s, cSt K, a.dx, _, _, rfl, D5.ob, T.c_Store, T.n_Store_rights, lk_rights, _, rfl, a.rt, _, _, _, rfl, rfl, SqL.of D5.rt, col_atI xl, un, _, _, rfl, rfl, upd_same, ?_, rfl, ?_⟩
            · rw [List.length_map, List.length_take, sizeLine_eq]
              omega
            · rw [upd_upd, en]
              unfold kids
              rw [en]
              rfl
          | B l m =>
            refine iteF ?_
            refine ⟨rfl, ?_⟩
            unfold kids
            rw [en]
            rfl
        · rintro σ' H5 ⟨rfl, rfl⟩
          have s5 := stand ((kids S x).map iV)
          have hf5 : upd H4 un (.lst ((kids S x).map iV)) fd = some (.dK (keyD ks)) := by rw [upd_ne uf.symm]; exact hf4
          have ho5 : upd H4 un (.lst ((kids S x).map iV)) od = some (.lst (os'.map iV)) := by rw [upd_ne uo.symm]; exact ho4
          have hu5 : upd H4 un (.lst ((kids S x).map iV)) un = some (.lst ((kids S x).map iV)) := upd_same
          generalize upd H4 un (.lst ((kids S x).map iV)) = H5 at s5 hf5 ho5 hu5
          have B5 : BI S R n ks os' (fun k => k = x) := ⟨B.sub, B.top, fun o ho => B.op o (by simp [ho]), fun k hk hno => by
            by_cases q : k = x
            · exact .inl q
            · exact .inr (B.kids k hk fun z => by
                rcases List.mem_append.mp z with z | z
                · exact hno z
                · exact q (by simpa using z)), B.len⟩
          refine ⟨_, rfl, un, rfl, ⟨_, SqL.of hu5⟩, for_list (K := K) (a := un) (xs := (kids S x).map iV) (fun i σ H' => ∃ (ks2 os2 : List Nat) (v6 : Option V), σ = [some (.ref a.s), some (iV n), some (.ref fd), some (.ref od), some (iV x), some (.ref un), v6] ∧ Same H H' ∧ H' fd = some (.dK (keyD ks2)) ∧ H' od = some (.lst (os2.map iV)) ∧ H' un = some (.lst ((kids S x).map iV)) ∧ BI S R n ks2 os2 (fun k => k = x) ∧ (∀ c ∈ (kids S x).take i, c ∈ ks2) ∧ 2 * (R.length - ks2.length) + os2.length ≤ 2 * (R.length - ks.length) + os'.length)
            ⟨ks, os', v6, rfl, s5, hf5, ho5, hu5, B5, fun c hc => (nomatch hc), Nat.le_refl _⟩ (fun i σ H' _ ⟨_, _, _, _, _, _, _, h, _⟩ => SqL.of h) ?_ ?_⟩
          · rintro i y σ H6 hi ⟨ks2, os2, v6, rfl, s6, hf6, ho6, hu6, B6, c6, m6⟩
            obtain ⟨c, hc, rfl⟩ : ∃ c, (kids S x)[i]? = some c ∧ y = iV c := by
              rw [List.getElem?_map] at hi
              cases e : (kids S x)[i]? with
              | none => rw [e] at hi; cases hi
              | some c => rw [e] at hi; exact ⟨c, rfl, (Option.some.inj hi).symm⟩
            have cR : c ∈ R := FR.cl x (B.sub x xk) c (List.mem_of_getElem? hc)
            have l6 := B6.len
            refine ⟨_, rfl, _, rfl, fd, _, rfl, DGet.k (k := .inl (c : Int)) hf6, _, rfl, ?_⟩
            rw [keyD_val]
            by_cases ck : c ∈ ks2
            · rw [decide_eq_true ck]
              refine iteF ?_
              refine ⟨ks2, os2, _, rfl, s6, hf6, ho6, hu6, B6, fun d hd => ?_, m6⟩
              rw [take_snoc hc] at hd
              rcases List.mem_append.mp hd with q | q
              · exact c6 d q
              · have : d = c := by simpa using q
                rw [this]
                exact ck
            · rw [decide_eq_false ck]
              refine iteT ?_
              have kn : (keyD ks2).length < sizeLine := by
                unfold keyD
                rw [List.length_map, sizeLine_eq]
                omega
              refine ⟨_, rfl, _, rfl, fd, _, rfl, DPut.k (k := .inl (c : Int)) hf6 kn, ?_⟩
              rw [keyD_put ck]
              have ho7 : upd H6 fd (.dK (keyD (ks2 ++ [c]))) od = some (.lst (os2.map iV)) := by rw [upd_ne fo.symm]; exact ho6
              have B7 := B6.push cR ck
              have l7 := B7.len
              rw [List.length_append, List.length_singleton] at l7
              have ol : os2.length ≤ 2 * R.length + os'.length := by omega
              refine ⟨_, rfl, .inl ⟨rfl, _, SqL.of ho7⟩, _, rfl, od, _, _, rfl, rfl, ho7, ?_, ?_⟩
              · rw [List.length_append, List.length_singleton] at mb
                rw [List.length_map, sizeLine_eq]
                omega
              · refine ⟨ks2 ++ [c], os2 ++ [c], _, rfl, fun b u e => ?_, ?_, by rw [upd_same, List.map_append]; rfl, ?_, B7, fun d hd => ?_, ?_⟩
                · rw [upd_ne (ne_of_none e nod), upd_ne (ne_of_none e hfd)]
                  exact s6 _ _ e
                · rw [upd_ne fo, upd_same]
                · rw [upd_ne uo, upd_ne uf]
                  exact hu6
                · rw [take_snoc hc] at hd
                  rcases List.mem_append.mp hd with q | q
                  · exact List.mem_append_left _ (c6 d q)
                  · exact List.mem_append_right _ q
                · rw [List.length_append, List.length_append, List.length_singleton]
                  omega
          · rintro σ H6 ⟨ks2, os2, v6, rfl, s6, hf6, ho6, hu6, B6, c6, m6⟩
            rw [List.length_map, List.take_length] at c6
            rw [List.length_append, List.length_singleton] at mb
            refine ⟨_, ?_, ks2, os2, _, _, _, rfl, s6, hf6, ho6, ⟨B6.sub, B6.top, B6.op, fun k hk hno => ?_, B6.len⟩, rfl, by omega⟩
            · rw [List.length_append, List.length_singleton]
              omega
            · rcases B6.cl k hk hno with q | q
              · subst q
                exact .inr c6
              · exact .inr q
end
end VT
set_option Elab.async false
set_option linter.all false
set_option maxRecDepth 100000
set_option maxHeartbeats 4000000
/-! A text of three runs: few pieces, and which piece of turn 1 covers a place. -/
namespace VT
open VW
theorem few_pieces {S : Sto} (ok : Ok S) : ∀ (N x : Nat), x < N → x < S.len → ∃ R : List Nat, x ∈ R ∧ R.length + 1 ≤ 3 * (S.exp x 1).length ∧ (∀ y ∈ R, y < S.len) ∧ ∀ y ∈ R, ∀ c ∈ kids S y, c ∈ R
  | 0, x, h, _ => absurd h (Nat.not_lt_zero _)
  | N + 1, x, hN, hx => by
    have k := ok.nodes x hx
    unfold NOk at k
    cases en : S.node x with
    | L a =>
      rw [en] at k
      obtain ⟨_, _, _, _, e6⟩ := k
      refine ⟨[x], by simp, by rw [e6]; simp, fun y hy => by rw [List.mem_singleton.mp hy]; exact hx, fun y hy c hc => ?_⟩
      rw [List.mem_singleton.mp hy] at hc
      unfold kids at hc
      rw [en] at hc
      cases hc
    | P l r =>
      rw [en] at k
      obtain ⟨t, odd, _, c⟩ := k
      have hl := (c.lt l (by simp)).1
      have hr := (c.lt r (by simp)).1
      obtain ⟨Rl, a1, a2, a3, a4⟩ := few_pieces ok N l (by omega) (by omega)
      obtain ⟨Rr, b1, b2, b3, b4⟩ := few_pieces ok N r (by omega) (by omega)
      have e : S.exp x 1 = S.exp l 1 ++ S.exp r 1 := by
        rw [c.exp, if_neg (by omega)]
        simp [flat]
      refine ⟨x :: (Rl ++ Rr), by simp, ?_, fun y hy => ?_, fun y hy z hz => ?_⟩
      · rw [e, List.length_cons, List.length_append, List.length_append]
        omega
      · rcases List.mem_cons.mp hy with q | q
        · rw [q]; exact hx
        · rcases List.mem_append.mp q with q | q
          · exact a3 y q
          · exact b3 y q
      · rcases List.mem_cons.mp hy with q | q
        · subst q
          unfold kids at hz
          rw [en] at hz
          have : z = l ∨ z = r := by simpa using hz
          rcases this with q | q <;> subst q <;> simp [a1, b1]
        · rcases List.mem_append.mp q with q | q
          · have := a4 y q z hz
            simp [this]
          · have := b4 y q z hz
            simp [this]
    | B l m =>
      rw [en] at k
      obtain ⟨t, ev, c⟩ := k
      have m2 := c.two
      rw [List.length_replicate] at m2
      obtain ⟨hl, bl⟩ := c.lt l (by simp; omega)
      by_cases t0 : t = 0
      · subst t0
        have e : S.exp x 1 = [x] := by rw [c.exp, if_pos (by omega)]
        have kl : kids S l = [] := by
          rcases view ok (show l < S.len by omega) with ⟨a, e1, _⟩ | ⟨t, ks, c'⟩
          · unfold kids
            rw [e1]
          · have := c'.birth
            omega
        refine ⟨[x, l], by simp, by rw [e]; simp, fun y hy => ?_, fun y hy z hz => ?_⟩
        · have : y = x ∨ y = l := by simpa using hy
          rcases this with q | q <;> subst q <;> omega
        · have : y = x ∨ y = l := by simpa using hy
          rcases this with q | q
          · subst q
            unfold kids at hz
            rw [en] at hz
            have : z = l := by simpa using hz
            simp [this]
          · rw [q, kl] at hz
            cases hz
      · obtain ⟨Rl, a1, a2, a3, a4⟩ := few_pieces ok N l (by omega) (by omega)
        have e : (S.exp x 1).length = m * (S.exp l 1).length := by
          rw [c.exp, if_neg (by omega)]
          have : ∀ m, (flat S 1 (List.replicate m l)).length = m * (S.exp l 1).length := by
            intro m
            induction m with
            | zero => simp [flat]
            | succ m ih =>
              rw [List.replicate_succ, flat_cons, List.length_append, ih, Nat.succ_mul]
              omega
          exact this m
        have l1 : 1 ≤ (S.exp l 1).length := List.length_pos_iff.mpr (exp_ne ok (by omega) 1)
        have mm : 2 * (S.exp l 1).length ≤ m * (S.exp l 1).length := Nat.mul_le_mul_right _ m2
        refine ⟨x :: Rl, by simp, ?_, fun y hy => ?_, fun y hy z hz => ?_⟩
        · rw [e, List.length_cons]
          omega
        · rcases List.mem_cons.mp hy with q | q
          · rw [q]; exact hx
          · exact a3 y q
        · rcases List.mem_cons.mp hy with q | q
          · subst q
            unfold kids at hz
            rw [en] at hz
            have : z = l := by simpa using hz
            simp [this, a1]
          · exact List.mem_cons_of_mem _ (a4 y q z hz)
section
variable {S : Sto} (ok : Ok S) {top a b n m k : Nat} (ht : top < S.len) (ab : a ≠ b) (hn : 1 ≤ n) (hm : 1 ≤ m) (hk : 1 ≤ k) (hc : S.cont top = List.replicate n a ++ (List.replicate m b ++ List.replicate k a))
include ok ht ab hn hm hk hc
theorem three : ∃ x0 x1 x2, S.exp top 1 = [x0, x1, x2] ∧ S.size x0 = n ∧ S.size x1 = m ∧ S.size x2 = k := by
  obtain ⟨rs, r1, r2, r3, r4, r5, _⟩ := runs_of_exp ok (l := S.exp top 1) (fun x hx => ⟨exp_lt ok ht 1 x hx, (exp_mem ok ht 1 x hx).2⟩) (exp_ch ok ht 1)
  rw [exp_cts ok ht 1, hc] at r4
  have e : rs = [(a, n), (b, m), (a, k)] := runs_uniq r2 (fun r hr => by
      have : r = (a, n) ∨ r = (b, m) ∨ r = (a, k) := by simpa using hr
      rcases this with q | q | q <;> subst q <;> assumption) r3 ⟨ab, fun z => ab z.symm, trivial⟩ (by rw [r4]; simp [runsOf])
  subst e
  match hl : S.exp top 1, r1 with
  | [x0, x1, x2], _ =>
    refine ⟨x0, x1, x2, rfl, ?_, ?_, ?_⟩
    · obtain ⟨r, q1, q2, _⟩ := r5 0 x0 (by rw [hl]; rfl)
      have : r = (a, n) := (Option.some.inj q1).symm
      rw [q2, this]
    · obtain ⟨r, q1, q2, _⟩ := r5 1 x1 (by rw [hl]; rfl)
      have : r = (b, m) := (Option.some.inj q1).symm
      rw [q2, this]
    · obtain ⟨r, q1, q2, _⟩ := r5 2 x2 (by rw [hl]; rfl)
      have : r = (a, k) := (Option.some.inj q1).symm
      rw [q2, this]
theorem three_few : ∃ R, Few S top R := by
  obtain ⟨x0, x1, x2, e, _⟩ := three ok ht ab hn hm hk hc
  obtain ⟨R, h1, h2, h3, h4⟩ := few_pieces ok (top + 1) top (Nat.lt_succ_self _) ht
  rw [e] at h2
  exact ⟨R, h1, by simp at h2; omega, h3, h4⟩
theorem three_loc {nm st i : Nat} (h : Loc S top 1 nm st i) : (i < n → st = 0 ∧ S.size nm = n) ∧ (n ≤ i → i < n + m → st = n ∧ S.size nm = m) ∧ (n + m ≤ i → st = n + m ∧ S.size nm = k) := by
  obtain ⟨x0, x1, x2, e, s0, s1, s2⟩ := three ok ht ab hn hm hk hc
  obtain ⟨A, B, e2, h1, h2, h3⟩ := h
  rw [e] at e2
  match A, e2 with
  | [], e2 =>
    injection e2 with q _
    subst q
    have : st = 0 := h1.symm
    subst this
    refine ⟨fun _ => ⟨rfl, s0⟩, fun _ _ => by omega, fun _ => by omega⟩
  | [y], e2 =>
    injection e2 with q1 e2
    injection e2 with q2 _
    subst q1 q2
    have : st = n := by rw [← h1, szs_cons, szs_nil, s0]; omega
    subst this
    exact ⟨fun _ => by omega, fun _ _ => ⟨rfl, s1⟩, fun _ => by omega⟩
  | [y, z], e2 =>
    injection e2 with q1 e2
    injection e2 with q2 e2
    injection e2 with q3 _
    subst q1 q2 q3
    have : st = n + m := by rw [← h1, szs_cons, szs_cons, szs_nil, s0, s1]; omega
    subst this
    exact ⟨fun _ => by omega, fun _ _ => by omega, fun _ => ⟨rfl, s2⟩⟩
  | y :: z :: u :: A, e2 =>
    have := congrArg List.length e2
    simp at this
end
end VT
set_option Elab.async false
set_option linter.all false
set_option maxRecDepth 100000
set_option maxHeartbeats 4000000
/-! places_in, WordRule: a word of two letters. -/
namespace VT
open PySem PySem.Spec PyProof.Rows L2
open VW (Sto Node Ok Le F2 cnt f1 l1)
abbrev cWR (K : PySem.W.Frag) : Addr := He.ga K "WordRule"
def kWR : List Str := ["sought", "most"]
def RuleAt (K : PySem.W.Frag) (H : Hp) (r : Addr) (p q : Nat) : Prop := ∃ dr, H r = some (.ins (cWR K) dr (kWR.zip [.str (wd [p, q]), .int 1]))
/-- the sum of a text -/
def SumAt (p q : Nat) (H : Hp) (x : Addr) (T : List Nat) : Prop := H x = some (.tup [iV T.length, iV (cnt p q T), .str (wd (f1 T)), .str (wd (l1 T))])
theorem wd_app {a b : List Nat} : wd a ++ wd b = wd (a ++ b) := by
  show Str.append _ _ = _
  simp [Str.append, wd]
theorem wd_inj {a b : List Nat} (h : wd a = wd b) : a = b := by
  unfold wd at h
  injection h with h
  have h := congrArg Array.toList h
  simp only [List.toList_toArray] at h
  have inj : ∀ {a b : List Nat}, a.map (fun x => x + 97) = b.map (fun x => x + 97) → a = b := by
    intro a
    induction a with
    | nil => intro b h; cases b with
      | nil => rfl
      | cons y r => simp at h
    | cons x a ih =>
      intro b h
      cases b with
      | nil => simp at h
      | cons y r =>
        rw [List.map_cons, List.map_cons] at h
        injection h with h1 h2
        rw [ih h2, show x = y by omega]
  exact inj h
theorem wd_cut {l : List Nat} {lo hi : Option Int} : cutS (wd l) lo hi = wd ((l.drop (HT.sIx l.length 0 lo)).take (HT.sIx l.length l.length hi - HT.sIx l.length 0 lo)) := by
  unfold cutS
  rw [wd_len]
  unfold wd
  simp
theorem wd_nil : ("" : Str) = wd [] := by decide +kernel
theorem lkR_sought {v u : V} : (kWR.zip [v, u]).lookup ("sought" : Str) = some v := zip_look (i := 0) (by decide +kernel) rfl
theorem lkR_most {v u : V} : (kWR.zip [v, u]).lookup ("most" : Str) = some u := zip_look (i := 1) (by decide +kernel) rfl
theorem lkR_no {m : Str} {v u : V} (h : keyAt m kWR = none) : (kWR.zip [v, u]).lookup m = none := zip_none h
def spPlaces : Sp := fun vs H Q _ => ∃ (l : List Nat) (p q : Nat), vs = [.str (wd l), .str (wd [p, q])] ∧ l.length ≤ 2 ∧ ∀ H', Same H H' → Q (iV (cnt p q l)) H'
def spRuleI (K : PySem.W.Frag) : Sp := fun vs H Q _ => ∃ (x dx : Addr) (p q : Nat), vs = [.ref x, .str (wd [p, q])] ∧ H x = some (.ins (cWR K) dx []) ∧
  ∀ H', H' x = some (.ins (cWR K) dx (kWR.zip [.str (wd [p, q]), .int 1])) → (∀ b u, b ≠ x → H b = some u → H' b = some u) → Q .non H'
def spNone (K : PySem.W.Frag) : Sp := fun vs H Q _ => ∃ (r : Addr) (p q : Nat), vs = [.ref r] ∧ RuleAt K H r p q ∧ ∀ H' z, Same H H' → SumAt p q H' z [] → Q (.ref z) H'
def spUnit (K : PySem.W.Frag) : Sp := fun vs H Q _ => ∃ (r : Addr) (p q c : Nat), vs = [.ref r, iV c] ∧ RuleAt K H r p q ∧ c < 8 ∧ ∀ H' z, Same H H' → SumAt p q H' z [c] → Q (.ref z) H'
def spJoin (K : PySem.W.Frag) : Sp := fun vs H Q _ => ∃ (r x y : Addr) (p q : Nat) (A B : List Nat), vs = [.ref r, .ref x, .ref y] ∧ RuleAt K H r p q ∧ SumAt p q H x A ∧ SumAt p q H y B ∧ ∀ H' z, Same H H' → SumAt p q H' z (A ++ B) → Q (.ref z) H'
theorem z4 {v u w y : V} : ([v, u, w, y] : List V).length ≤ sizeLine := by show 4 ≤ sizeLine; decide
section
variable {P : Program} {w : World} {K : PySem.W.Frag} {mg : Str → Option Value} {base : Heap}
theorem scPlaces : FnScope ["letters", "word", "at"] ["letters", "word"] (defScope s_places_in) := ⟨rfl, rfl, rfl, by decide +kernel, rfl, by decide +kernel, by decide +kernel⟩
theorem ok_places (T : Txt K mg) : FX P w K mg base 1 "places_in" spPlaces [] := by
  refine fx_mk T.f_places_in T.g_places_in scPlaces (fun _ _ _ _ _ _ us hl => match us, hl with | [_, _], _ => rfl) (fun vs H Q E h => ?_) (fun cdv A outer s H vs Q E hr h => ?_)
  · obtain ⟨_, _, _, rfl, _⟩ := h
    rfl
  · obtain ⟨l, p, q, rfl, l2, k⟩ := h
    refine ⟨_, (pss_one (ps_ret (pe_callB call_len_seq (by rfl) T.b_len PySem.boot_len (pa_cons (pe_lc (own := [("at", 2)]) (g := (gName 2)) (tt := _) rfl scPlaces.nd (pi_range1 (by rfl) T.b_range (pa_cons (pe_callB call_len_str (by rfl) T.b_len PySem.boot_len (pa_cons (pv 0) pa_nil)) pa_nil)) (blkOk_by (N := ["letters", "word", "at"]) (sc := defScope s_places_in) (by decide +kernel)) (fun _ _ _ _ _ => (pg_name (i := 2) scPlaces.nd rfl (Or.inl rfl))) (fun _ _ _ _ _ => (pts_one (pt_cmpR op_eq (pe_slice sl_str (pv 0) (po_some (pv 2)) (po_some (pe_op op_add (pv 2) (pe_callB call_len_str (by rfl) T.b_len PySem.boot_len (pa_cons (pv 1) pa_nil))))) (pv 1) (nomark _)))) (fun _ _ _ _ _ => (pv 2))) pa_nil)))), ?_⟩
    dsimp only [L2.start, List.map, List.map_cons, List.map_nil, List.append_eq, List.append, List.length_cons, List.length_nil, Nat.reduceAdd, Nat.reduceSub, List.replicate_succ, List.replicate_zero, List.cons_append, List.nil_append, cxOf]
    have wl : (wd l).length ≤ sizeLine := by rw [wd_len, sizeLine_eq]; omega
    have ww : (wd [p, q]).length ≤ sizeLine := by rw [wd_len]; exact (show 2 ≤ sizeLine by decide)
    refine ⟨_, rfl, wd l, rfl, wl, _, rfl, by omega, by rw [wd_len]; omega, fun d hd => ?_⟩
    have en : (((wd l).length : Nat) : Int).toNat = l.length := by rw [wd_len]; rfl
    rw [en]
    refine lc_range (fun i H' => H' = L2.upd H d (.lst ((((List.range i).filter fun i => decide ((l.drop i).take 2 = [p, q]))).map iV))) rfl ?_ ?_
    · rintro i H' hi rfl
      refine ⟨rfl, _, rfl, _, rfl, _, rfl, _, rfl, _, rfl, wd [p, q], rfl, ww, _, _, rfl, rfl, _, rfl, wd l, rfl, wl, _, rfl, rfl, _, rfl, ?_⟩
      have ec : cutS (wd l) (some ((0 : Int) + (i : Nat))) (some ((0 : Int) + (i : Nat) + ((wd [p, q]).length : Nat))) = wd ((l.drop i).take 2) := by
        rw [wd_cut, Int.zero_add, HT.sIx_nat, wd_len, show ((i : Nat) : Int) + (([p, q].length : Nat) : Int) = ((i + 2 : Nat) : Int) from rfl, HT.sIx_nat]
        congr 1
        rw [show min i l.length = i from Nat.min_eq_left (Nat.le_of_lt hi)]
        by_cases z : i + 2 ≤ l.length
        · rw [Nat.min_eq_left z, show i + 2 - i = 2 by omega]
        · rw [Nat.min_eq_right (by omega : l.length ≤ i + 2)]
          rw [List.take_of_length_le (by rw [List.length_drop]; exact Nat.le_refl _), List.take_of_length_le (by rw [List.length_drop]; omega)]
      have ed : decide (V.str (cutS (wd l) (some ((0 : Int) + (i : Nat))) (some ((0 : Int) + (i : Nat) + ((wd [p, q]).length : Nat)))) = V.str (wd [p, q])) = decide ((l.drop i).take 2 = [p, q]) := by
        rw [ec]
        exact decide_eq_decide.mpr ⟨fun z => wd_inj (by injection z), fun z => by rw [z]⟩
      rw [ed, List.range_succ, List.filter_append, List.map_append]
      by_cases z : (l.drop i).take 2 = [p, q]
      · rw [decide_eq_true z]
        refine iteT ?_
        refine ⟨_, rfl, _, upd_same, ?_, ?_⟩
        · rw [List.length_map]
          have := List.length_filter_le (fun i => decide ((l.drop i).take 2 = [p, q])) (List.range i)
          rw [List.length_range] at this
          rw [sizeLine_eq]
          omega
        · rw [upd_upd]
          have : ([i].filter fun i => decide ((l.drop i).take 2 = [p, q])) = [i] := by simp [z]
          rw [this]
          simp [iV]
      · rw [decide_eq_false z]
        refine iteF ?_
        have : ([i].filter fun i => decide ((l.drop i).take 2 = [p, q])) = [] := by simp [z]
        rw [this]
        simp
    · rintro H1 rfl
      refine ⟨d, _, rfl, .inl (SqL.of upd_same), ?_⟩
      have := k _ (same_upd (o := .lst ((((List.range l.length).filter fun i => decide ((l.drop i).take 2 = [p, q]))).map iV)) hd)
      rw [← VW.cnt_few l2] at this
      rw [List.length_map]
      exact this
theorem scRuleI : FnScope ["self", "word"] ["self", "word"] (defScope s_WordRule_init) := ⟨rfl, rfl, rfl, by decide +kernel, rfl, by decide +kernel, by decide +kernel⟩
theorem mk_rule (T : Txt K mg) : KX P w K mg base 1 "WordRule" (cWR K) (spRuleI K) [] := by
  refine kx_mk T.f_WordRule_init T.k_WordRule T.g_WordRule scRuleI (fun _ _ _ _ _ _ us hl => match us, hl with | [_, _], _ => rfl) (fun vs H Q E h => ?_) (fun cdv A outer s H vs Q E hr h => ?_)
  · obtain ⟨_, _, _, _, rfl, _⟩ := h
    rfl
  · obtain ⟨x, dx, p, q, rfl, hx, k⟩ := h
    refine ⟨_, (pss_cons (ps_fld (pv 0) (pv 1) rfl)
       (pss_one (ps_fld (pv 0) (pe_op op_sub (pe_callB call_len_str (by rfl) T.b_len PySem.boot_len (pa_cons (pv 1) pa_nil)) pe_int) rfl))), ?_⟩
    dsimp only [L2.start, List.map, List.map_cons, List.map_nil, List.append_eq, List.append, List.length_cons, List.length_nil, Nat.reduceAdd, Nat.reduceSub, List.replicate_succ, List.replicate_zero, List.cons_append, List.nil_append, cxOf]
    have ww : (wd [p, q]).length ≤ sizeLine := by rw [wd_len]; exact (show 2 ≤ sizeLine by decide)
    refine ⟨_, rfl, _, rfl, x, _, dx, _, rfl, hx, T.c_WordRule, T.n_WordRule_sought, by decide, _, rfl, wd [p, q], rfl, ww, _, _, rfl, rfl, _, rfl, x, _, dx, _, rfl, upd_same, T.c_WordRule, T.n_WordRule_most, few 1 rfl (by decide), ?_⟩
    refine k _ upd_same fun b u hb e => ?_
    rw [upd_ne hb, upd_ne hb]
    exact e
theorem scNone : FnScope ["self"] ["self"] (defScope s_WordRule_none) := ⟨rfl, rfl, rfl, by decide +kernel, rfl, by decide +kernel, by decide +kernel⟩
theorem ok_none (T : Txt K mg) : MX P w K mg base 1 (cWR K) "none" (spNone K) [] := by
  refine mx_mk T.f_WordRule_none T.c_WordRule T.m_WordRule_none scNone (fun _ _ _ _ _ _ us hl => match us, hl with | [_], _ => rfl) (fun vs H Q E h => ?_) (fun cdv A outer s H vs Q E hr h => ?_)
  · obtain ⟨_, _, _, rfl, _⟩ := h
    rfl
  · obtain ⟨r, p, q, rfl, R, k⟩ := h
    refine ⟨_, (pss_one (ps_ret (pe_tup (pa_cons pe_int (pa_cons pe_int (pa_cons pe_str (pa_cons pe_str pa_nil))))))), ?_⟩
    dsimp only [L2.start, List.map, List.map_cons, List.map_nil, List.append_eq, List.append, List.length_cons, List.length_nil, Nat.reduceAdd, Nat.reduceSub, List.replicate_succ, List.replicate_zero, List.cons_append, List.nil_append, cxOf]
    refine ⟨z4, fun z hz => k _ z (same_upd hz) ?_⟩
    show upd H z _ z = _
    rw [upd_same, wd_nil]
    rfl
theorem scUnit : FnScope ["self", "number", "letter", "end"] ["self", "number"] (defScope s_WordRule_unit) := ⟨rfl, rfl, rfl, by decide +kernel, rfl, by decide +kernel, by decide +kernel⟩
theorem ok_unit (T : Txt K mg) : MX P w K mg base 1 (cWR K) "unit" (spUnit K) [] := by
  refine mx_mk T.f_WordRule_unit T.c_WordRule T.m_WordRule_unit scUnit (fun _ _ _ _ _ _ us hl => match us, hl with | [_, _], _ => rfl) (fun vs H Q E h => ?_) (fun cdv A outer s H vs Q E hr h => ?_)
  · obtain ⟨_, _, _, _, rfl, _⟩ := h
    rfl
  · obtain ⟨r, p, q, c, rfl, ⟨dr, hr1⟩, c8, k⟩ := h
    refine ⟨_, (pss_cons (ps_set (i := 2) scUnit.nd rfl (Or.inl rfl) (pe_ix ix_str (pe_gs T.s_LETTERS) (pv 1) (fun _ _ => rfl)))
       (pss_cons (ps_set (i := 3) scUnit.nd rfl (Or.inl rfl) (pe_slice sl_str (pv 2) po_none (po_some (pe_fld (pv 0) rfl))))
       (pss_one (ps_ret (pe_tup (pa_cons pe_int (pa_cons (pe_callTy call_int1 (by rfl) T.b_int (by decide +kernel) (pa_cons (pe_cmpR op_eq (pv 2) (pe_fld (pv 0) rfl) (nomark _)) pa_nil)) (pa_cons (pv 3) (pa_cons (pv 3) pa_nil))))))))), ?_⟩
    dsimp only [L2.start, List.map, List.map_cons, List.map_nil, List.append_eq, List.append, List.length_cons, List.length_nil, Nat.reduceAdd, Nat.reduceSub, List.replicate_succ, List.replicate_zero, List.cons_append, List.nil_append, cxOf]
    refine ⟨_, rfl, _, _, _, rfl, rfl, lett_len, lett_at c c8, ?_⟩
    dsimp only [gName, wipe, List.set_cons_succ, List.set_cons_zero]
    refine ⟨_, rfl, _, rfl, r, cWR K, dr, _, _, rfl, hr1, T.c_WordRule, T.n_WordRule_most, lkR_most, _, rfl, wd [c], rfl, by rw [wd_len]; exact (show 1 ≤ sizeLine by decide), ?_⟩
    dsimp only [gName, wipe, List.set_cons_succ, List.set_cons_zero]
    have ec : cutS (wd [c]) none (some 1) = wd [c] := by
      rw [wd_cut]
      rfl
    refine ⟨_, rfl, _, rfl, r, cWR K, dr, _, _, rfl, hr1, T.c_WordRule, T.n_WordRule_sought, lkR_sought, rfl, .inr ⟨_, rfl, _, rfl, _, rfl, z4, fun z hz => k _ z (same_upd hz) ?_⟩⟩
    show upd H z _ z = _
    have ed : decide (V.str ⟨#[c + 97]⟩ = V.str (wd [p, q])) = false := decide_eq_false fun z => by
      have : wd [c] = wd [p, q] := by injection z
      have := wd_inj this
      simp at this
    rw [upd_same, ec, ed]
    rfl
theorem scWJ : FnScope ["self", "one", "other", "many", "first", "last", "both"] ["self", "one", "other"] (defScope s_WordRule_join) := ⟨rfl, rfl, rfl, by decide +kernel, rfl, by decide +kernel, by decide +kernel⟩
theorem ok_wjoin (T : Txt K mg) : MX P w K mg base 2 (cWR K) "join" (spJoin K) [] := by
  refine mx_mk T.f_WordRule_join T.c_WordRule T.m_WordRule_join scWJ (fun _ _ _ _ _ _ us hl => match us, hl with | [_, _, _], _ => rfl) (fun vs H Q E h => ?_) (fun cdv A outer s H vs Q E hr h => ?_)
  · obtain ⟨_, _, _, _, _, _, _, rfl, _⟩ := h
    rfl
  · obtain ⟨r, x, y, p, q, A0, B, rfl, ⟨dr, hr1⟩, hx, hy, k⟩ := h
    have hx : H x = some (.tup _) := hx
    have hy : H y = some (.tup _) := hy
    refine ⟨_, (pss_cons (ps_set (i := 3) scWJ.nd rfl (Or.inl rfl) (pe_op op_add (pe_op op_add (pe_ix ix_tup (pv 1) pe_int (fun _ _ => rfl)) (pe_ix ix_tup (pv 2) pe_int (fun _ _ => rfl))) (pe_f (ok_places T) hr (pa_cons (pe_op op_add_str (pe_ix ix_tup (pv 1) pe_int (fun _ _ => rfl)) (pe_ix ix_tup (pv 2) pe_int (fun _ _ => rfl))) (pa_cons (pe_fld (pv 0) rfl) pa_nil)))))
       (C8.pss_cut (ps_set (i := 4) scWJ.nd rfl (Or.inl rfl) (pe_ifExp (pt_cmpR op_lt (pe_ix ix_tup (pv 1) pe_int (fun _ _ => rfl)) (pe_fld (pv 0) rfl) (nomark _)) (pe_slice sl_str (pe_op op_add_str (pe_ix ix_tup (pv 1) pe_int (fun _ _ => rfl)) (pe_ix ix_tup (pv 2) pe_int (fun _ _ => rfl))) po_none (po_some (pe_fld (pv 0) rfl))) (pe_ix ix_tup (pv 1) pe_int (fun _ _ => rfl))))
       (pss_cons (ps_set (i := 5) scWJ.nd rfl (Or.inl rfl) (pe_ix ix_tup (pv 2) pe_int (fun _ _ => rfl)))
       (C8.pss_cut (ps_if (pt_cmpR op_lt (pe_ix ix_tup (pv 2) pe_int (fun _ _ => rfl)) (pe_fld (pv 0) rfl) (nomark _))
       (pss_cons (ps_set (i := 6) scWJ.nd rfl (Or.inl rfl) (pe_op op_add_str (pe_ix ix_tup (pv 1) pe_int (fun _ _ => rfl)) (pe_ix ix_tup (pv 2) pe_int (fun _ _ => rfl))))
       (pss_one (ps_set (i := 5) scWJ.nd rfl (Or.inl rfl) (pe_slice sl_str (pv 6) (po_some (pe_callB (call_max2 rfl) (by rfl) T.b_max (by decide +kernel) (pa_cons pe_int (pa_cons (pe_op op_sub (pe_callB call_len_str (by rfl) T.b_len PySem.boot_len (pa_cons (pv 6) pa_nil)) (pe_fld (pv 0) rfl)) pa_nil)))) po_none))))
       pss_nil)
       (pss_one (ps_ret (pe_tup (pa_cons (pe_op op_add (pe_ix ix_tup (pv 1) pe_int (fun _ _ => rfl)) (pe_ix ix_tup (pv 2) pe_int (fun _ _ => rfl))) (pa_cons (pv 3) (pa_cons (pv 4) (pa_cons (pv 5) pa_nil))))))))))), ?_⟩
    dsimp only [L2.start, List.map, List.map_cons, List.map_nil, List.append_eq, List.append, List.length_cons, List.length_nil, Nat.reduceAdd, Nat.reduceSub, List.replicate_succ, List.replicate_zero, List.cons_append, List.nil_append, cxOf]
    have lf := VW.f1_len (A := B)
    have ll := VW.l1_len (A := A0)
    have lfA := VW.f1_len (A := A0)
    have llB := VW.l1_len (A := B)
    have big : ∀ {u v : List Nat}, u.length ≤ 1 → v.length ≤ 1 → (wd u).length + (wd v).length ≤ sizeLine := fun {u v} h1 h2 => by rw [wd_len, wd_len, sizeLine_eq]; omega
    refine ⟨_, rfl, x, _, _, iV (cnt p q A0), rfl, rfl, SqT.of hx, rfl, _, rfl, y, _, _, iV (cnt p q B), rfl, rfl, SqT.of hy, rfl, _, _, rfl, rfl, ?_⟩
    refine ⟨_, rfl, x, _, _, .str (wd (l1 A0)), rfl, rfl, SqT.of hx, rfl, _, rfl, y, _, _, .str (wd (f1 B)), rfl, rfl, SqT.of hy, rfl, _, _, rfl, rfl, big ll lf, _, rfl, r, cWR K, dr, _, _, rfl, hr1, T.c_WordRule, T.n_WordRule_sought, lkR_sought, l1 A0 ++ f1 B, p, q, by rw [wd_app]; rfl, by rw [List.length_append]; omega, fun H1 s1 => ⟨_, _, rfl, rfl, ?_⟩⟩
    dsimp only [gName, wipe, List.set_cons_succ, List.set_cons_zero]
    have ec : (cnt p q A0 : Int) + (cnt p q B : Int) + (cnt p q (l1 A0 ++ f1 B) : Int) = ((cnt p q (A0 ++ B) : Nat) : Int) := by
      rw [VW.cnt_app (A := A0) (B := B)]
      rfl
    rw [ec]
    have hx := s1 _ _ hx
    have hy := s1 _ _ hy
    have hr1 := s1 _ _ hr1
    -- first
    refine ⟨fun σ' H' => σ' = [some (.ref r), some (.ref x), some (.ref y), some (iV (cnt p q (A0 ++ B))), some (.str (wd (f1 (A0 ++ B)))), none, none] ∧ H' = H1, ?_, ?_⟩
    · refine ⟨_, rfl, x, _, _, iV A0.length, rfl, rfl, SqT.of hx, rfl, _, rfl, r, cWR K, dr, _, _, rfl, hr1, T.c_WordRule, T.n_WordRule_most, lkR_most, _, _, rfl, rfl, _, rfl, ?_⟩
      by_cases z : A0.length < 1
      · rw [decide_eq_true (by omega : (A0.length : Int) < 1)]
        refine iteT ?_
        have e0 : A0 = [] := List.length_eq_zero_iff.mp (by omega)
        subst e0
        have e1 : f1 ([] : List Nat) ++ f1 B = f1 B := rfl
        refine ⟨_, rfl, x, _, _, .str (wd (f1 [])), rfl, rfl, SqT.of hx, rfl, _, rfl, y, _, _, .str (wd (f1 B)), rfl, rfl, SqT.of hy, rfl, _, _, rfl, rfl, big lfA lf, _, rfl, r, cWR K, dr, _, _, rfl, hr1, T.c_WordRule, T.n_WordRule_most, lkR_most, _, rfl, _, rfl, ?_, ?_⟩
        · rw [wd_app, wd_len, e1, sizeLine_eq]
          omega
        · rw [wd_app, e1, wd_cut]
          have : ((f1 B).drop (HT.sIx (f1 B).length 0 none)).take (HT.sIx (f1 B).length (f1 B).length (some 1) - HT.sIx (f1 B).length 0 none) = f1 B := by
            show ((f1 B).drop 0).take (min 1 (f1 B).length - 0) = _
            rw [List.drop_zero, List.take_of_length_le (by omega)]
          rw [this]
          exact ⟨rfl, rfl⟩
      · rw [decide_eq_false (by omega : ¬ (A0.length : Int) < 1)]
        refine iteF ?_
        refine ⟨_, rfl, x, _, _, .str (wd (f1 A0)), rfl, rfl, SqT.of hx, rfl, ?_⟩
        have : f1 A0 = f1 (A0 ++ B) := by
          unfold VW.f1
          rw [List.take_append_of_le_length (by omega)]
        rw [this]
        exact ⟨rfl, rfl⟩
    · rintro σ' H2 ⟨rfl, rfl⟩
      refine ⟨_, rfl, y, _, _, .str (wd (l1 B)), rfl, rfl, SqT.of hy, rfl, ?_⟩
      dsimp only [gName, wipe, List.set_cons_succ, List.set_cons_zero]
      refine ⟨fun σ' H' => ∃ v6, σ' = [some (.ref r), some (.ref x), some (.ref y), some (iV (cnt p q (A0 ++ B))), some (.str (wd (f1 (A0 ++ B)))), some (.str (wd (l1 (A0 ++ B)))), v6] ∧ H' = H2, ?_, ?_⟩
      · refine ⟨_, rfl, y, _, _, iV B.length, rfl, rfl, SqT.of hy, rfl, _, rfl, r, cWR K, dr, _, _, rfl, hr1, T.c_WordRule, T.n_WordRule_most, lkR_most, _, _, rfl, rfl, _, rfl, ?_⟩
        by_cases z : B.length < 1
        · rw [decide_eq_true (by omega : (B.length : Int) < 1)]
          refine iteT ?_
          have e0 : B = [] := List.length_eq_zero_iff.mp (by omega)
          subst e0
          have e1 : l1 A0 ++ l1 ([] : List Nat) = l1 A0 := by simp [VW.l1]
          refine ⟨_, rfl, x, _, _, .str (wd (l1 A0)), rfl, rfl, SqT.of hx, rfl, _, rfl, y, _, _, .str (wd (l1 [])), rfl, rfl, SqT.of hy, rfl, _, _, rfl, rfl, big ll llB, ?_⟩
          rw [wd_app, e1]
          have wl : (wd (l1 A0)).length ≤ sizeLine := by rw [wd_len, sizeLine_eq]; omega
          dsimp only [gName, wipe, List.set_cons_succ, List.set_cons_zero]
          refine ⟨_, rfl, _, rfl, wd (l1 A0), rfl, wl, _, rfl, r, cWR K, dr, _, _, rfl, hr1, T.c_WordRule, T.n_WordRule_most, lkR_most, _, _, rfl, rfl, _, _, rfl, _, rfl, _, rfl, wl, ?_⟩
          have em : (if ((wd (l1 A0)).length : Int) - 1 > 0 then ((wd (l1 A0)).length : Int) - 1 else 0) = 0 := by
            rw [wd_len, if_neg (by omega)]
          rw [em, wd_cut]
          have : ((l1 A0).drop (HT.sIx (l1 A0).length 0 (some 0))).take (HT.sIx (l1 A0).length (l1 A0).length none - HT.sIx (l1 A0).length 0 (some 0)) = l1 A0 := by
            show ((l1 A0).drop (min 0 (l1 A0).length)).take ((l1 A0).length - min 0 (l1 A0).length) = _
            rw [Nat.zero_min, List.drop_zero, Nat.sub_zero, List.take_length]
          rw [this, List.append_nil]
          exact ⟨_, rfl, rfl⟩
        · rw [decide_eq_false (by omega : ¬ (B.length : Int) < 1)]
          refine iteF ?_
          rw [VW.l1_ne (A := A0) (B := B) (by intro e; rw [e] at z; exact z (by decide))]
          exact ⟨none, rfl, rfl⟩
      · rintro σ' H' ⟨v6, rfl, rfl⟩
        refine ⟨_, rfl, x, _, _, iV A0.length, rfl, rfl, SqT.of hx, rfl, _, rfl, y, _, _, iV B.length, rfl, rfl, SqT.of hy, rfl, _, _, rfl, rfl, _, rfl, _, rfl, _, rfl, z4, fun z hz => k _ z (s1.trans (same_upd hz)) ?_⟩
        show upd _ z _ z = _
        rw [upd_same, List.length_append]
        rfl
end
end VT
set_option Elab.async false
set_option linter.all false
set_option maxRecDepth 100000
set_option maxHeartbeats 4000000
/-! Fold: power, summed, until. -/
namespace VT
open PySem PySem.Spec PyProof.Rows L2
open VW (Sto Node Ok Le F2 cnt f1 l1)
abbrev cFo (K : PySem.W.Frag) : Addr := He.ga K "Fold"
def kFo : List Str := ["store", "top", "rule", "known"]
def FoldOb (K : PySem.W.Frag) (H : Hp) (f : Addr) (a : SA) (n : Nat) (r kd : Addr) : Prop := ∃ df, H f = some (.ins (cFo K) df (kFo.zip [.ref a.s, iV n, .ref r, .ref kd]))
def KnAt (p q : Nat) (H : Hp) (kd : Addr) (S : Sto) (done : List Nat) : Prop := ∃ kvs : List (Key × V), H kd = some (.dK kvs) ∧ ∀ x ∈ done, ∃ t, valV kvs (.inl (x : Int)) = some (.ref t) ∧ SumAt p q H t (S.cont x)
theorem lkF_store {v1 v2 v3 v4 : V} : (kFo.zip [v1, v2, v3, v4]).lookup ("store" : Str) = some v1 := zip_look (i := 0) (by decide +kernel) rfl
theorem lkF_top {v1 v2 v3 v4 : V} : (kFo.zip [v1, v2, v3, v4]).lookup ("top" : Str) = some v2 := zip_look (i := 1) (by decide +kernel) rfl
theorem lkF_rule {v1 v2 v3 v4 : V} : (kFo.zip [v1, v2, v3, v4]).lookup ("rule" : Str) = some v3 := zip_look (i := 2) (by decide +kernel) rfl
theorem lkF_known {v1 v2 v3 v4 : V} : (kFo.zip [v1, v2, v3, v4]).lookup ("known" : Str) = some v4 := zip_look (i := 3) (by decide +kernel) rfl
theorem lkF_no {m : Str} {v1 v2 v3 v4 : V} (h : keyAt m kFo = none) : (kFo.zip [v1, v2, v3, v4]).lookup m = none := zip_none h
theorem FoldOb.same {K : PySem.W.Frag} {H H' : Hp} {f : Addr} {a : SA} {n : Nat} {r kd : Addr} (h : FoldOb K H f a n r kd) (s : Same H H') : FoldOb K H' f a n r kd := let ⟨d, e⟩ := h; ⟨d, s _ _ e⟩
theorem RuleAt.same {K : PySem.W.Frag} {H H' : Hp} {r : Addr} {p q : Nat} (h : RuleAt K H r p q) (s : Same H H') : RuleAt K H' r p q := let ⟨d, e⟩ := h; ⟨d, s _ _ e⟩
theorem SumAt.same {H H' : Hp} {x : Addr} {p q : Nat} {T : List Nat} (h : SumAt p q H x T) (s : Same H H') : SumAt p q H' x T := s _ _ h
theorem KnAt.same {H H' : Hp} {kd : Addr} {p q : Nat} {S : Sto} {done : List Nat} (h : KnAt p q H kd S done) (s : Same H H') : KnAt p q H' kd S done := by
  obtain ⟨kvs, e, f⟩ := h
  exact ⟨kvs, s _ _ e, fun x hx => let ⟨t, h1, h2⟩ := f x hx; ⟨t, h1, h2.same s⟩⟩
def spPower (K : PySem.W.Frag) : Sp := fun vs H Q _ => ∃ (f x : Addr) (a : SA) (n : Nat) (r kd : Addr) (p q : Nat) (A : List Nat) (m : Nat), vs = [.ref f, .ref x, iV m] ∧ FoldOb K H f a n r kd ∧ RuleAt K H r p q ∧ SumAt p q H x A ∧ ∀ H' z, Same H H' → SumAt p q H' z (rep m A) → Q (.ref z) H'
def spSummed (K : PySem.W.Frag) : Sp := fun vs H Q _ => ∃ (f : Addr) (a : SA) (S : Sto) (n : Nat) (r kd : Addr) (p q : Nat) (x : Nat) (done : List Nat), vs = [.ref f, iV x] ∧ StoreAt K H a S ∧ FoldOb K H f a n r kd ∧ RuleAt K H r p q ∧ KnAt p q H kd S done ∧ x < S.len ∧ (∀ c ∈ kids S x, c ∈ done) ∧
  ∀ H' z, Same H H' → SumAt p q H' z (S.cont x) → Q (.ref z) H'
def spUntil (K : PySem.W.Frag) : Sp := fun vs H Q _ => ∃ (f : Addr) (a : SA) (S : Sto) (n : Nat) (r kd : Addr) (p q : Nat) (e : Nat) (ys : List Nat), vs = [.ref f, iV e] ∧ StoreAt K H a S ∧ FoldOb K H f a n r kd ∧ RuleAt K H r p q ∧ KnAt p q H kd S ys ∧ Few S n ys ∧ e ≤ S.size n ∧
  ∀ H' z, Same H H' → SumAt p q H' z ((S.cont n).take e) → Q (.ref z) H'
section
variable {P : Program} {w : World} {K : PySem.W.Frag} {mg : Str → Option Value} {base : Heap}
theorem scPower : FnScope ["self", "found", "many", "whole"] ["self", "found", "many"] (defScope s_Fold_power) := ⟨rfl, rfl, rfl, by decide +kernel, rfl, by decide +kernel, by decide +kernel⟩
theorem ok_power (T : Txt K mg) : MX P w K mg base 3 (cFo K) "power" (spPower K) [] := by
  refine mx_mk T.f_Fold_power T.c_Fold T.m_Fold_power scPower (fun _ _ _ _ _ _ us hl => match us, hl with | [_, _, _], _ => rfl) (fun vs H Q E h => ?_) (fun cdv A outer s H vs Q E hr h => ?_)
  · obtain ⟨_, _, _, _, _, _, _, _, _, _, rfl, _⟩ := h
    rfl
  · obtain ⟨f, x, a, n, r, kd, p, q, A0, many, rfl, ⟨df, hf⟩, R, X, k⟩ := h
    refine ⟨_, (pss_cons (ps_set (i := 3) scPower.nd rfl (Or.inl rfl) (pe_m0 (ok_none T) hr (pe_fld (pv 0) rfl)))
       (pss_cons (ps_while PassesOwn.never (pt_cmpR op_gt (pv 2) pe_int (nomark _))
       (C8.pss_cut (ps_if (pt_cmpR op_eq (pe_op op_mod (pv 2) pe_int) pe_int (nomark _))
       (pss_one (ps_set (i := 3) scPower.nd rfl (Or.inl rfl) (pe_m (ok_wjoin T) hr (pe_fld (pv 0) rfl) (pa_cons (pv 3) (pa_cons (pv 1) pa_nil)))))
       pss_nil)
       (pss_cons (ps_set (i := 2) scPower.nd rfl (Or.inl rfl) (pe_op op_fdiv (pv 2) pe_int))
       (pss_one (ps_if (pt_cmpR op_gt (pv 2) pe_int (nomark _))
       (pss_one (ps_set (i := 1) scPower.nd rfl (Or.inl rfl) (pe_m (ok_wjoin T) hr (pe_fld (pv 0) rfl) (pa_cons (pv 1) (pa_cons (pv 1) pa_nil)))))
       pss_nil)))))
       (pss_one (ps_ret (pv 3))))), ?_⟩
    dsimp only [L2.start, List.map, List.map_cons, List.map_nil, List.append_eq, List.append, List.length_cons, List.length_nil, Nat.reduceAdd, Nat.reduceSub, List.replicate_succ, List.replicate_zero, List.cons_append, List.nil_append, cxOf]
    obtain ⟨dr, hr1⟩ := id R
    refine ⟨_, rfl, f, cFo K, df, _, _, rfl, hf, T.c_Fold, T.n_Fold_rule, lkF_rule, r, dr, _, rfl, hr1, lkR_no (by decide +kernel), r, p, q, rfl, R, fun H1 wh s1 W0 => ?_⟩
    dsimp only [gName, wipe, List.set_cons_succ, List.set_cons_zero]
    refine ⟨fun m σ H' => ∃ (j i : Nat) (fn wl : Addr), σ = [some (.ref f), some (.ref fn), some (iV m), some (.ref wl)] ∧ Same H H' ∧ SumAt p q H' wl (rep i A0) ∧ (0 < m → SumAt p q H' fn (rep (2 ^ j) A0)) ∧ i + 2 ^ j * m = many,
      ⟨many, 0, 0, x, wh, rfl, s1, W0, fun _ => by rw [Nat.pow_zero, rep_one]; exact X.same s1, by omega⟩, ?_⟩
    rintro m σ H2 ⟨j, i, fn, wl, rfl, s2, Wl, Fn, em⟩
    have dpos : ∀ x : Nat, decide ((0 : Int) < (x : Int)) = decide (0 < x) := fun x => decide_eq_decide.mpr (by omega)
    refine ⟨_, rfl, _, _, rfl, rfl, _, rfl, ?_⟩
    rw [dpos]
    refine ite2 (fun mp => ?_) (fun mp => ?_)
    · have mp : 0 < m := of_decide_eq_true mp
      refine ⟨_, fun σ' H' z => z, ?_⟩
      refine ⟨fun σ' H' => ∃ wl2, σ' = [some (.ref f), some (.ref fn), some (iV m), some (.ref wl2)] ∧ Same H H' ∧ SumAt p q H' wl2 (rep (i + 2 ^ j * (m % 2)) A0) ∧ SumAt p q H' fn (rep (2 ^ j) A0), ?_, ?_⟩
      · refine ⟨_, rfl, _, _, rfl, rfl, (by decide : (0 : Int) < 2), rfl, _, rfl, ?_⟩
        have dm : decide (V.int ((m : Int) % 2) = V.int 1) = decide (m % 2 = 1) := decide_eq_decide.mpr ⟨fun z => by injection z with z; omega, fun z => congrArg V.int (by omega)⟩
        rw [dm]
        refine ite2 (fun od => ?_) (fun od => ?_)
        · have od : m % 2 = 1 := of_decide_eq_true od
          refine ⟨_, rfl, f, cFo K, df, _, _, rfl, s2 _ _ hf, T.c_Fold, T.n_Fold_rule, lkF_rule, r, dr, _, rfl, s2 _ _ hr1, lkR_no (by decide +kernel), _, rfl, _, rfl, r, wl, fn, p, q, _, _, rfl, R.same s2, Wl, Fn mp, fun H3 z s3 Z => ?_⟩
          exact ⟨z, rfl, s2.trans s3, by rw [od, Nat.mul_one, rep_add]; exact Z, (Fn mp).same s3⟩
        · have od : m % 2 = 0 := by
            have : ¬ m % 2 = 1 := by simpa using od
            omega
          exact ⟨wl, rfl, s2, by rw [od, Nat.mul_zero, Nat.add_zero]; exact Wl, Fn mp⟩
      · rintro σ' H3 ⟨wl2, rfl, s3, Wl2, Fn2⟩
        refine ⟨_, rfl, _, _, rfl, rfl, ⟨by decide, by decide⟩, ?_⟩
        dsimp only [gName, wipe, List.set_cons_succ, List.set_cons_zero]
        have split : i + 2 ^ j * (m % 2) + 2 ^ (j + 1) * (m / 2) = many := by
          rw [← em, Nat.pow_succ, Nat.mul_assoc, Nat.add_assoc, ← Nat.mul_add, Nat.mod_add_div]
        refine ⟨_, rfl, _, _, rfl, rfl, _, rfl, ?_⟩
        have e2 : decide ((0 : Int) < (m : Int) / 2) = decide (0 < m / 2) := decide_eq_decide.mpr (by omega)
        rw [e2]
        refine ite2 (fun hp => ?_) (fun hp => ?_)
        · refine ⟨_, rfl, f, cFo K, df, _, _, rfl, s3 _ _ hf, T.c_Fold, T.n_Fold_rule, lkF_rule, r, dr, _, rfl, s3 _ _ hr1, lkR_no (by decide +kernel), _, rfl, _, rfl, r, fn, fn, p, q, _, _, rfl, R.same s3, Fn2, Fn2, fun H4 z s4 Z => ?_⟩
          refine ⟨m / 2, by omega, j + 1, i + 2 ^ j * (m % 2), z, wl2, rfl, s3.trans s4, Wl2.same s4, fun _ => ?_, split⟩
          rw [Nat.pow_succ, Nat.mul_two, rep_add]
          exact Z
        · have hp : ¬ 0 < m / 2 := by simpa using hp
          exact ⟨m / 2, by omega, j + 1, i + 2 ^ j * (m % 2), fn, wl2, rfl, s3, Wl2, fun z => absurd z hp, split⟩
    · have mp : m = 0 := by
        have : ¬ 0 < m := by simpa using mp
        omega
      subst mp
      have ei : i = many := by rw [← em, Nat.mul_zero]; rfl
      rw [ei] at Wl
      exact ⟨_, rfl, k H2 wl s2 Wl⟩
theorem scSummed : FnScope ["self", "name", "left", "kind"] ["self", "name"] (defScope s_Fold_summed) := ⟨rfl, rfl, rfl, by decide +kernel, rfl, by decide +kernel, by decide +kernel⟩
theorem ok_summed (T : Txt K mg) : MX P w K mg base 4 (cFo K) "summed" (spSummed K) [] := by
  refine mx_mk T.f_Fold_summed T.c_Fold T.m_Fold_summed scSummed (fun _ _ _ _ _ _ us hl => match us, hl with | [_, _], _ => rfl) (fun vs H Q E h => ?_) (fun cdv A outer s H vs Q E hr h => ?_)
  · obtain ⟨_, _, _, _, _, _, _, _, _, _, rfl, _⟩ := h
    rfl
  · obtain ⟨f, a, S, n, r, kd, p, q, x, done, rfl, D, FO, R, ⟨kvs, hkd, kn⟩, hx, kc, k⟩ := h
    have hu := hu_of hr
    obtain ⟨df, hf⟩ := id FO
    obtain ⟨dr, hr1⟩ := id R
    refine ⟨_, (pss_cons (ps_set (i := 2) scSummed.nd rfl (Or.inl rfl) (pe_ix ix_list (pe_fld (pe_fld (pv 0) rfl) rfl) (pv 1) (fun _ _ => rfl)))
       (pss_cons (ps_set (i := 3) scSummed.nd rfl (Or.inl rfl) (pe_ix ix_list (pe_fld (pe_fld (pv 0) rfl) rfl) (pv 1) (fun _ _ => rfl)))
       (pss_cons (ps_if (pt_cmpR op_eq (pv 3) (pe_gi T.i_LETTER) (nomark _))
       (pss_one (ps_ret (pe_m (ok_unit T) hr (pe_fld (pv 0) rfl) (pa_cons (pv 2) pa_nil))))
       pss_nil)
       (pss_cons (ps_if (pt_cmpR op_eq (pv 3) (pe_gi T.i_BLOCK) (nomark _))
       (pss_one (ps_ret (pe_m (ok_power T) hr (pv 0) (pa_cons (pe_dget hu (pe_fld (pv 0) rfl) (pv 2) (fun _ _ => rfl)) (pa_cons (pe_ix ix_list (pe_fld (pe_fld (pv 0) rfl) rfl) (pv 1) (fun _ _ => rfl)) pa_nil)))))
       pss_nil)
       (pss_one (ps_ret (pe_m (ok_wjoin T) hr (pe_fld (pv 0) rfl) (pa_cons (pe_dget hu (pe_fld (pv 0) rfl) (pv 2) (fun _ _ => rfl)) (pa_cons (pe_dget hu (pe_fld (pv 0) rfl) (pe_ix ix_list (pe_fld (pe_fld (pv 0) rfl) rfl) (pv 1) (fun _ _ => rfl)) (fun _ _ => rfl)) pa_nil))))))))), ?_⟩
    dsimp only [L2.start, List.map, List.map_cons, List.map_nil, List.append_eq, List.append, List.length_cons, List.length_nil, Nat.reduceAdd, Nat.reduceSub, List.replicate_succ, List.replicate_zero, List.cons_append, List.nil_append, cxOf]
    refine ⟨_, rfl, f, cFo K, df, _, _, rfl, hf, T.c_Fold, T.n_Fold_store, lkF_store, a.s, cSt K, a.dx, _, _, rfl, D.ob, T.c_Store, T.n_Store_lefts, lk_lefts, _, rfl, a.lf, _, _, _, rfl, rfl, SqL.of D.lf, col_atI hx, ?_⟩
    dsimp only [gName, wipe, List.set_cons_succ, List.set_cons_zero]
    refine ⟨_, rfl, f, cFo K, df, _, _, rfl, hf, T.c_Fold, T.n_Fold_store, lkF_store, a.s, cSt K, a.dx, _, _, rfl, D.ob, T.c_Store, T.n_Store_kinds, lk_kinds, _, rfl, a.kd, _, _, _, rfl, rfl, SqL.of D.kd, col_atI hx, ?_⟩
    dsimp only [gName, wipe, List.set_cons_succ, List.set_cons_zero]
    refine ⟨_, rfl, rfl, _, rfl, ?_⟩
    unfold kids at kc
    cases en : S.node x with
    | L c =>
      obtain ⟨c8, _, _, ec⟩ := VW.node_L D.ok hx en
      refine iteT ?_
      refine ⟨_, rfl, f, cFo K, df, _, _, rfl, hf, T.c_Fold, T.n_Fold_rule, lkF_rule, r, dr, _, rfl, hr1, lkR_no (by decide +kernel), _, rfl, r, p, q, c, rfl, R, c8, fun H' z s1 Z => k H' z s1 ?_⟩
      rw [ec]
      exact Z
    | P l r' =>
      rw [en] at kc
      obtain ⟨hl, hr', _, ec⟩ := VW.node_P' D.ok hx en
      obtain ⟨t1, e1, T1⟩ := kn l (kc l (by simp))
      obtain ⟨t2, e2, T2⟩ := kn r' (kc r' (by simp))
      refine iteF ?_
      refine ⟨_, rfl, rfl, _, rfl, ?_⟩
      refine iteF ?_
      refine ⟨_, rfl, f, cFo K, df, _, _, rfl, hf, T.c_Fold, T.n_Fold_rule, lkF_rule, r, dr, _, rfl, hr1, lkR_no (by decide +kernel), _, rfl, f, cFo K, df, _, _, rfl, hf, T.c_Fold, T.n_Fold_known, lkF_known, _, rfl, kd, .ref t1, rfl, ?_, _, rfl, f, cFo K, df, _, _, rfl, hf, T.c_Fold, T.n_Fold_known, lkF_known,
        _, rfl, f, cFo K, df, _, _, rfl, hf, T.c_Fold, T.n_Fold_store, lkF_store, a.s, cSt K, a.dx, _, _, rfl, D.ob, T.c_Store, T.n_Store_rights, lk_rights, _, rfl, a.rt, _, _, _, rfl, rfl, SqL.of D.rt, col_atI hx, kd, .ref t2, rfl, ?_, r, t1, t2, p, q, _, _, rfl, R, T1, T2, fun H' z s1 Z => k H' z s1 ?_⟩
      · rw [← e1]
        exact DGet.k (k := .inl (l : Int)) hkd
      · rw [← e2, en]
        exact DGet.k (k := .inl (r' : Int)) hkd
      · rw [ec]
        exact Z
    | B l m =>
      rw [en] at kc
      obtain ⟨hl, _, _, ec⟩ := VW.node_B' D.ok hx en
      obtain ⟨t1, e1, T1⟩ := kn l (kc l (by simp))
      refine iteF ?_
      refine ⟨_, rfl, rfl, _, rfl, ?_⟩
      refine iteT ?_
      refine ⟨_, rfl, f, df, _, rfl, hf, lkF_no (by decide +kernel), _, rfl, f, cFo K, df, _, _, rfl, hf, T.c_Fold, T.n_Fold_known, lkF_known, _, rfl, kd, .ref t1, rfl, ?_, _, rfl, f, cFo K, df, _, _, rfl, hf, T.c_Fold, T.n_Fold_store, lkF_store, a.s, cSt K, a.dx, _, _, rfl, D.ob, T.c_Store, T.n_Store_rights, lk_rights, _, rfl, a.rt, _, _, _, rfl, rfl, SqL.of D.rt, col_atI hx,
        f, t1, a, n, r, kd, p, q, _, m, ?_, FO, R, T1, fun H' z s1 Z => k H' z s1 ?_⟩
      · rw [← e1]
        exact DGet.k (k := .inl (l : Int)) hkd
      · rw [en]
        rfl
      · rw [ec]
        exact Z
end
end VT
set_option Elab.async false
set_option linter.all false
set_option maxRecDepth 100000
set_option maxHeartbeats 4000000
/-! Fold: until, __init__; ahead_of, nth. -/
namespace VT
open PySem PySem.Spec PyProof.Rows L2
open VW (Sto Node Ok Le F2 cnt f1 l1)
/-- a fold stands at f -/
structure FoldAt (K : PySem.W.Frag) (p q : Nat) (H : Hp) (f : Addr) (a : SA) (S : Sto) (n : Nat) : Prop where
  ex : ∃ (r kd : Addr) (ys : List Nat), FoldOb K H f a n r kd ∧ RuleAt K H r p q ∧ KnAt p q H kd S ys ∧ Few S n ys
theorem FoldAt.same {K : PySem.W.Frag} {H H' : Hp} {f : Addr} {a : SA} {S : Sto} {p q n : Nat} (h : FoldAt K p q H f a S n) (s : Same H H') : FoldAt K p q H' f a S n := by
  obtain ⟨r, kd, ys, h1, h2, h3, h4⟩ := h.ex
  exact ⟨r, kd, ys, h1.same s, h2.same s, h3.same s, h4⟩
def spFoldI (K : PySem.W.Frag) : Sp := fun vs H Q _ => ∃ (x dx t r lo : Addr) (a : SA) (S : Sto) (n p q : Nat) (R : List Nat), vs = [.ref x, .ref t, .ref r] ∧ H x = some (.ins (cFo K) dx []) ∧ LW K H lo a S ∧ TextAt K H t lo n ∧ RuleAt K H r p q ∧ Few S n R ∧
  ∀ H', (∀ b u, b ≠ x → H b = some u → H' b = some u) → FoldAt K p q H' x a S n → Q .non H'
def spAhead (K : PySem.W.Frag) : Sp := fun vs H Q _ => ∃ (f : Addr) (a : SA) (S : Sto) (n p q e : Nat), vs = [.ref f, iV e] ∧ StoreAt K H a S ∧ FoldAt K p q H f a S n ∧ e ≤ S.size n ∧ ∀ H', Same H H' → Q (iV (cnt p q ((S.cont n).take e))) H'
def spNth (K : PySem.W.Frag) : Sp := fun vs H Q _ => ∃ (t f lo : Addr) (a : SA) (S : Sto) (n p q g c : Nat), vs = [.ref t, .ref f, .int 2, iV c] ∧ LW K H lo a S ∧ TextAt K H t lo n ∧ n < S.len ∧ FoldAt K p q H f a S n ∧ 2 ≤ g ∧ g ≤ S.size n ∧ S.size n ≤ 10 ^ 18 ∧ (∀ e, e ≤ S.size n → decide (c < cnt p q ((S.cont n).take e)) = decide (g ≤ e)) ∧
  ∀ H', Same H H' → Q (iV (g - 2)) H'
theorem sMT {x t r : Addr} : True := trivial
section
variable {P : Program} {w : World} {K : PySem.W.Frag} {mg : Str → Option Value} {base : Heap}
theorem scUntil : FnScope ["self", "end", "found", "name", "left", "size"] ["self", "end"] (defScope s_Fold_until) := ⟨rfl, rfl, rfl, by decide +kernel, rfl, by decide +kernel, by decide +kernel⟩
theorem ok_until (T : Txt K mg) : MX P w K mg base 4 (cFo K) "until" (spUntil K) [] := by
  refine mx_mk T.f_Fold_until T.c_Fold T.m_Fold_until scUntil (fun _ _ _ _ _ _ us hl => match us, hl with | [_, _], _ => rfl) (fun vs H Q E h => ?_) (fun cdv A outer s H vs Q E hr h => ?_)
  · obtain ⟨_, _, _, _, _, _, _, _, _, _, rfl, _⟩ := h
    rfl
  · obtain ⟨f, a, S, n, r, kd, p, q, e0, ys, rfl, D, FO, R, KN, FW, he0, k⟩ := h
    have hu := hu_of hr
    obtain ⟨df, hf⟩ := id FO
    obtain ⟨dr, hr1⟩ := id R
    obtain ⟨kvs, hkd, kn⟩ := id KN
    refine ⟨_, (pss_cons (ps_set (i := 2) scUntil.nd rfl (Or.inl rfl) (pe_m0 (ok_none T) hr (pe_fld (pv 0) rfl)))
       (pss_cons (ps_set (i := 3) scUntil.nd rfl (Or.inl rfl) (pe_fld (pv 0) rfl))
       (pss_cons (ps_while PassesOwn.never (pt_cmpR op_gt (pv 1) pe_int (nomark _))
       (pss_cons (ps_set (i := 4) scUntil.nd rfl (Or.inl rfl) (pe_ix ix_list (pe_fld (pe_fld (pv 0) rfl) rfl) (pv 3) (fun _ _ => rfl)))
       (pss_cons (ps_if (pt_cmpR op_eq (pv 1) (pe_ix ix_list (pe_fld (pe_fld (pv 0) rfl) rfl) (pv 3) (fun _ _ => rfl)) (nomark _))
       (pss_one (ps_ret (pe_m (ok_wjoin T) hr (pe_fld (pv 0) rfl) (pa_cons (pv 2) (pa_cons (pe_dget hu (pe_fld (pv 0) rfl) (pv 3) (fun _ _ => rfl)) pa_nil)))))
       pss_nil)
       (pss_cons (ps_set (i := 5) scUntil.nd rfl (Or.inl rfl) (pe_ix ix_list (pe_fld (pe_fld (pv 0) rfl) rfl) (pv 4) (fun _ _ => rfl)))
       (pss_one (ps_if (pt_cmpR op_eq (pe_ix ix_list (pe_fld (pe_fld (pv 0) rfl) rfl) (pv 3) (fun _ _ => rfl)) (pe_gi T.i_BLOCK) (nomark _))
       (pss_cons (ps_set (i := 2) scUntil.nd rfl (Or.inl rfl) (pe_m (ok_wjoin T) hr (pe_fld (pv 0) rfl) (pa_cons (pv 2) (pa_cons (pe_m (ok_power T) hr (pv 0) (pa_cons (pe_dget hu (pe_fld (pv 0) rfl) (pv 4) (fun _ _ => rfl)) (pa_cons (pe_op op_fdivW (pv 1) (pv 5)) pa_nil))) pa_nil))))
       (pss_cons (ps_set (i := 1) scUntil.nd rfl (Or.inl rfl) (pe_op op_mod (pv 1) (pv 5)))
       (pss_one (ps_set (i := 3) scUntil.nd rfl (Or.inl rfl) (pv 4)))))
       (pss_one (ps_if (pt_cmpR op_lt (pv 1) (pv 5) (nomark _))
       (pss_one (ps_set (i := 3) scUntil.nd rfl (Or.inl rfl) (pv 4)))
       (pss_cons (ps_set (i := 2) scUntil.nd rfl (Or.inl rfl) (pe_m (ok_wjoin T) hr (pe_fld (pv 0) rfl) (pa_cons (pv 2) (pa_cons (pe_dget hu (pe_fld (pv 0) rfl) (pv 4) (fun _ _ => rfl)) pa_nil))))
       (pss_cons (ps_aug (i := 1) scUntil.nd rfl (Or.inl rfl) (pv 5) ip_sub)
       (pss_one (ps_set (i := 3) scUntil.nd rfl (Or.inl rfl) (pe_ix ix_list (pe_fld (pe_fld (pv 0) rfl) rfl) (pv 3) (fun _ _ => rfl))))))))))))))
       (pss_one (ps_ret (pv 2)))))), ?_⟩
    dsimp only [L2.start, List.map, List.map_cons, List.map_nil, List.append_eq, List.append, List.length_cons, List.length_nil, Nat.reduceAdd, Nat.reduceSub, List.replicate_succ, List.replicate_zero, List.cons_append, List.nil_append, cxOf]
    refine ⟨_, rfl, f, cFo K, df, _, _, rfl, hf, T.c_Fold, T.n_Fold_rule, lkF_rule, r, dr, _, rfl, hr1, lkR_no (by decide +kernel), r, p, q, rfl, R, fun H1 z0 s1 W0 => ?_⟩
    dsimp only [gName, wipe, List.set_cons_succ, List.set_cons_zero]
    refine ⟨_, rfl, f, cFo K, df, _, _, rfl, s1 _ _ hf, T.c_Fold, T.n_Fold_top, lkF_top, ?_⟩
    dsimp only [gName, wipe, List.set_cons_succ, List.set_cons_zero]
    refine ⟨fun m σ H' => ∃ (x e : Nat) (Pf : List Nat) (z : Addr) (v4 v5 : Option V), σ = [some (.ref f), some (iV e), some (.ref z), some (iV x), v4, v5] ∧ Same H H' ∧ SumAt p q H' z Pf ∧ x ∈ ys ∧ e ≤ S.size x ∧ Pf ++ (S.cont x).take e = (S.cont n).take e0 ∧ m = x,
      ⟨n, n, e0, [], z0, none, none, rfl, s1, W0, FW.top, he0, rfl, rfl⟩, ?_⟩
    rintro m σ H2 ⟨x, e, Pf, z, v4, v5, rfl, s2, Z, hx, hex, eP, rfl⟩
    have xl := FW.lt m hx
    have dpos : ∀ x : Nat, decide ((0 : Int) < (x : Int)) = decide (0 < x) := fun x => decide_eq_decide.mpr (by omega)
    refine ⟨_, rfl, _, _, rfl, rfl, _, rfl, ?_⟩
    rw [dpos]
    refine ite2 (fun ep => ?_) (fun ep => ?_)
    · have ep : 0 < e := of_decide_eq_true ep
      refine ⟨_, fun σ' H' z => z, ?_⟩
      have D2 := D.same s2
      have hf2 := s2 _ _ hf
      have hkd2 := s2 _ _ hkd
      have hr2 := s2 _ _ hr1
      have R2 := R.same s2
      refine ⟨_, rfl, f, cFo K, df, _, _, rfl, hf2, T.c_Fold, T.n_Fold_store, lkF_store, a.s, cSt K, a.dx, _, _, rfl, D2.ob, T.c_Store, T.n_Store_lefts, lk_lefts, _, rfl, a.lf, _, _, _, rfl, rfl, SqL.of D2.lf, col_atI xl, ?_⟩
      dsimp only [gName, wipe, List.set_cons_succ, List.set_cons_zero]
      -- if end == sizes[name]
      refine ⟨_, rfl, _, rfl, f, cFo K, df, _, _, rfl, hf2, T.c_Fold, T.n_Fold_store, lkF_store, a.s, cSt K, a.dx, _, _, rfl, D2.ob, T.c_Store, T.n_Store_sizes, lk_sizes, _, rfl, a.sz, _, _, _, rfl, rfl, SqL.of D2.sz, col_atI xl, rfl, _, rfl, ?_⟩
      rw [dec_iV]
      by_cases full : e = S.size m
      · rw [decide_eq_true full]
        refine iteT ?_
        obtain ⟨t, e1, Tt⟩ := kn m hx
        refine ⟨_, rfl, f, cFo K, df, _, _, rfl, hf2, T.c_Fold, T.n_Fold_rule, lkF_rule, r, dr, _, rfl, hr2, lkR_no (by decide +kernel), _, rfl, _, rfl, f, cFo K, df, _, _, rfl, hf2, T.c_Fold, T.n_Fold_known, lkF_known, _, rfl, kd, .ref t, rfl, ?_, r, z, t, p, q, _, _, rfl, R2, Z, Tt.same s2, fun H' z' s3 Z' => k H' z' (s2.trans s3) ?_⟩
        · rw [← e1]
          exact DGet.k (k := .inl (m : Int)) hkd2
        · rw [← eP, full, ← VW.cont_len D.ok xl, List.take_length]
          exact Z'
      · rw [decide_eq_false full]
        refine iteF ?_
        have lt : e < S.size m := by omega
        cases en : S.node m with
        | L c =>
          have := (VW.node_L D.ok xl en).2.1
          omega
        | P l r' =>
          obtain ⟨hl, hr', es, ec⟩ := VW.node_P' D.ok xl en
          have kl : l ∈ ys := FW.cl m hx l (by unfold kids; rw [en]; simp)
          have kr : r' ∈ ys := FW.cl m hx r' (by unfold kids; rw [en]; simp)
          obtain ⟨t, e1, Tt⟩ := kn l kl
          have ll := FW.lt l kl
          refine ⟨_, rfl, f, cFo K, df, _, _, rfl, hf2, T.c_Fold, T.n_Fold_store, lkF_store, a.s, cSt K, a.dx, _, _, rfl, D2.ob, T.c_Store, T.n_Store_sizes, lk_sizes, _, rfl, a.sz, _, _, _, rfl, rfl, SqL.of D2.sz, col_atI ll, ?_⟩
          dsimp only [gName, wipe, List.set_cons_succ, List.set_cons_zero]
          refine ⟨_, rfl, f, cFo K, df, _, _, rfl, hf2, T.c_Fold, T.n_Fold_store, lkF_store, a.s, cSt K, a.dx, _, _, rfl, D2.ob, T.c_Store, T.n_Store_kinds, lk_kinds, _, rfl, a.kd, _, _, _, rfl, rfl, SqL.of D2.kd, col_atI xl, rfl, _, rfl, ?_⟩
          rw [en]
          refine iteF ?_
          refine ⟨_, rfl, _, rfl, _, _, rfl, rfl, _, rfl, ?_⟩
          rw [dlt]
          dsimp only [lfN]
          refine ite2 (fun q1 => ?_) (fun q1 => ?_)
          · have q1 := of_decide_eq_true q1
            refine ⟨_, rfl, l, hl, l, e, Pf, z, _, _, rfl, s2, Z, kl, Nat.le_of_lt q1, ?_, rfl⟩
            rw [← eP, ec, List.take_append_of_le_length (by rw [VW.cont_len D.ok ll]; omega)]
          · have q1 : ¬ e < S.size l := fun z => q1 (decide_eq_true z)
            refine ⟨_, rfl, f, cFo K, df, _, _, rfl, hf2, T.c_Fold, T.n_Fold_rule, lkF_rule, r, dr, _, rfl, hr2, lkR_no (by decide +kernel), _, rfl, _, rfl, f, cFo K, df, _, _, rfl, hf2, T.c_Fold, T.n_Fold_known, lkF_known, _, rfl, kd, .ref t, rfl, ?_, r, z, t, p, q, _, _, rfl, R2, Z, Tt.same s2, fun H3 z3 s3 Z3 => ?_⟩
            · rw [← e1]
              exact DGet.k (k := .inl (l : Int)) hkd2
            dsimp only [gName, wipe, List.set_cons_succ, List.set_cons_zero]
            have s23 := s2.trans s3
            have D3 := D.same s23
            refine ⟨_, rfl, _, rfl, _, _, rfl, rfl, ?_⟩
            dsimp only [gName, wipe, List.set_cons_succ, List.set_cons_zero]
            refine ⟨_, rfl, f, cFo K, df, _, _, rfl, s23 _ _ hf, T.c_Fold, T.n_Fold_store, lkF_store, a.s, cSt K, a.dx, _, _, rfl, D3.ob, T.c_Store, T.n_Store_rights, lk_rights, _, rfl, a.rt, _, _, _, rfl, rfl, SqL.of D3.rt, col_atI xl, ?_⟩
            dsimp only [gName, wipe, List.set_cons_succ, List.set_cons_zero]
            obtain ⟨e2, he2⟩ : ∃ e2, e = S.size l + e2 := ⟨e - S.size l, by omega⟩
            have hs : V.int ((e : Int) - (S.size l : Int)) = iV e2 := congrArg V.int (by omega)
            rw [hs, en]
            refine ⟨r', hr', r', e2, Pf ++ S.cont l, z3, _, _, rfl, s23, Z3, kr, by omega, ?_, rfl⟩
            rw [← eP, ec, he2, ← VW.cont_len D.ok ll, List.take_length_add_append, List.append_assoc]
        | B l c =>
          obtain ⟨hl, c2, es, ec⟩ := VW.node_B' D.ok xl en
          have kl : l ∈ ys := FW.cl m hx l (by unfold kids; rw [en]; simp)
          obtain ⟨t, e1, Tt⟩ := kn l kl
          have ll := FW.lt l kl
          have sp := VW.size_pos D.ok ll
          have sm := D.small l ll
          refine ⟨_, rfl, f, cFo K, df, _, _, rfl, hf2, T.c_Fold, T.n_Fold_store, lkF_store, a.s, cSt K, a.dx, _, _, rfl, D2.ob, T.c_Store, T.n_Store_sizes, lk_sizes, _, rfl, a.sz, _, _, _, rfl, rfl, SqL.of D2.sz, col_atI ll, ?_⟩
          dsimp only [gName, wipe, List.set_cons_succ, List.set_cons_zero]
          refine ⟨_, rfl, f, cFo K, df, _, _, rfl, hf2, T.c_Fold, T.n_Fold_store, lkF_store, a.s, cSt K, a.dx, _, _, rfl, D2.ob, T.c_Store, T.n_Store_kinds, lk_kinds, _, rfl, a.kd, _, _, _, rfl, rfl, SqL.of D2.kd, col_atI xl, rfl, _, rfl, ?_⟩
          rw [en]
          refine iteT ?_
          refine ⟨_, rfl, f, cFo K, df, _, _, rfl, hf2, T.c_Fold, T.n_Fold_rule, lkF_rule, r, dr, _, rfl, hr2, lkR_no (by decide +kernel), _, rfl, _, rfl, f, df, _, rfl, hf2, lkF_no (by decide +kernel), _, rfl, f, cFo K, df, _, _, rfl, hf2, T.c_Fold, T.n_Fold_known, lkF_known, _, rfl, kd, .ref t, rfl, ?_, _, rfl, _, rfl, _, _, rfl, rfl, ?_, f, t, a, n, r, kd, p, q, _, e / S.size l, rfl, FO.same s2, R2, Tt.same s2, fun H3 z3 s3 Z3 => ?_⟩
          · rw [← e1]
            exact DGet.k (k := .inl (l : Int)) hkd2
          · exact div_ok sp sm
          refine ⟨r, z, z3, p, q, _, _, rfl, R2.same s3, Z.same s3, Z3, fun H4 z4 s4 Z4 => ?_⟩
          dsimp only [gName, wipe, List.set_cons_succ, List.set_cons_zero]
          have s234 := (s2.trans s3).trans s4
          refine ⟨_, rfl, _, rfl, _, _, rfl, rfl, (by omega : (0 : Int) < (S.size l : Int)), ?_⟩
          dsimp only [gName, wipe, List.set_cons_succ, List.set_cons_zero]
          refine ⟨_, rfl, l, hl, l, e % S.size l, Pf ++ rep (e / S.size l) (S.cont l), z4, _, _, rfl, s234, Z4, kl, Nat.le_of_lt (Nat.mod_lt _ sp), ?_, rfl⟩
          have cl := VW.cont_len D.ok ll
          have dm := Nat.div_add_mod e (S.size l)
          have lc : e / S.size l < c := by
            rw [es, Nat.mul_comm] at lt
            exact Nat.div_lt_of_lt_mul lt
          rw [← eP, ec]
          have e3 : (List.replicate c (S.cont l)).flatten = rep (e / S.size l) (S.cont l) ++ (S.cont l ++ rep (c - e / S.size l - 1) (S.cont l)) := by
            have : c = e / S.size l + ((c - e / S.size l - 1) + 1) := by omega
            show rep c _ = _
            conv => lhs; rw [this]
            rw [rep_add, rep_add']
          have rl : (rep (e / S.size l) (S.cont l)).length = S.size l * (e / S.size l) := by rw [rep_len, cl, Nat.mul_comm]
          have e4 : e = (rep (e / S.size l) (S.cont l)).length + e % S.size l := by rw [rl]; omega
          have fin : ∀ (d md : Nat), e = (rep d (S.cont l)).length + md → md ≤ (S.cont l).length → ∀ B, (rep d (S.cont l) ++ (S.cont l ++ B)).take e = rep d (S.cont l) ++ (S.cont l).take md := by
            intro d md h hm B
            rw [h, List.take_length_add_append, List.take_append_of_le_length hm]
          rw [e3, fin _ _ e4 (by rw [cl]; exact Nat.le_of_lt (Nat.mod_lt _ sp)), List.append_assoc]
    · have ep : e = 0 := by
        have : ¬ 0 < e := by simpa using ep
        omega
      subst ep
      refine ⟨_, rfl, k H2 z s2 ?_⟩
      rw [← eP, List.take_zero, List.append_nil]
      exact Z
end
end VT
set_option Elab.async false
set_option linter.all false
set_option maxRecDepth 100000
set_option maxHeartbeats 4000000
/-! Fold(..), ahead_of, nth. -/
namespace VT
open PySem PySem.Spec PyProof.Rows L2
open VW (Sto Node Ok Le F2 cnt f1 l1)
section
variable {P : Program} {w : World} {K : PySem.W.Frag} {mg : Str → Option Value} {base : Heap}
theorem scFoldI : FnScope ["self", "text", "rule", "name"] ["self", "text", "rule"] (defScope s_Fold_init) := ⟨rfl, rfl, rfl, by decide +kernel, rfl, by decide +kernel, by decide +kernel⟩
theorem mk_fold (T : Txt K mg) : KX P w K mg base 5 "Fold" (cFo K) (spFoldI K) [] := by
  refine kx_mk T.f_Fold_init T.k_Fold T.g_Fold scFoldI (fun _ _ _ _ _ _ us hl => match us, hl with | [_, _, _], _ => rfl) (fun vs H Q E h => ?_) (fun cdv A outer s H vs Q E hr h => ?_)
  · obtain ⟨_, _, _, _, _, _, _, _, _, _, _, rfl, _⟩ := h
    rfl
  · obtain ⟨x, dx, t, r, lo, a, S, n, p, q, R, rfl, hx, L, ⟨dt, ht⟩, ⟨dr, hr1⟩, FW, k⟩ := h
    have hu := hu_of hr
    obtain ⟨dl, hl⟩ := L.lo
    have D := L.st
    refine ⟨_, (pss_cons (ps_fld (pv 0) (pe_fld (pe_fld (pv 1) rfl) rfl) rfl)
       (pss_cons (ps_fld (pv 0) (pe_fld (pv 1) rfl) rfl)
       (pss_cons (ps_fld (pv 0) (pv 2) rfl)
       (pss_cons (ps_fld (pv 0) pe_dnewK rfl)
       (pss_one (ps_if (pt_cmpR op_ne (pe_fld (pv 0) rfl) (pe_gi T.i_NONE) (nomark _))
       (pss_one (ps_for PassesOwn.never rfl (pi_list (pe_m (ok_below T) hr (pe_fld (pv 0) rfl) (pa_cons (pe_fld (pv 0) rfl) pa_nil))) (pg_name (i := 3) scFoldI.nd rfl (Or.inl rfl))
       (pss_one (ps_dput hu (pe_fld (pv 0) rfl) (pv 3) (pe_m (ok_summed T) hr (pv 0) (pa_cons (pv 3) pa_nil)) rfl))))
       pss_nil)))))), ?_⟩
    dsimp only [L2.start, List.map, List.map_cons, List.map_nil, List.append_eq, List.append, List.length_cons, List.length_nil, Nat.reduceAdd, Nat.reduceSub, List.replicate_succ, List.replicate_zero, List.cons_append, List.nil_append, cxOf]
    have tx : t ≠ x := ne_of ht hx (by intro z; injection z with _ _ z; cases z)
    have lx : lo ≠ x := ne_of hl hx (by intro z; injection z with _ _ z; cases z)
    have rx : r ≠ x := ne_of hr1 hx (by intro z; injection z with _ _ z; cases z)
    have sx : a.s ≠ x := ne_of D.ob hx (by intro z; injection z with _ _ z; cases z)
    have x6 : x ∉ six a := D.out_ins hx
    -- self.store = text.loom.store
    refine ⟨_, rfl, t, cTx K, dt, _, _, rfl, ht, T.c_Text, T.n_Text_loom, lkT_loom, lo, cLo K, dl, _, _, rfl, hl, T.c_Loom, T.n_Loom_store, lkL_store, _, rfl, x, _, dx, _, rfl, hx, T.c_Fold, T.n_Fold_store, by decide, ?_⟩
    refine ⟨_, rfl, t, cTx K, dt, _, _, rfl, (by rw [upd_ne tx]; exact ht), T.c_Text, T.n_Text_top, lkT_top, _, rfl, x, _, dx, _, rfl, upd_same, T.c_Fold, T.n_Fold_top, few 1 rfl (by decide), ?_⟩
    refine ⟨_, rfl, _, rfl, x, _, dx, _, rfl, upd_same, T.c_Fold, T.n_Fold_rule, few 2 rfl (by decide), ?_⟩
    rw [upd_upd, upd_upd]
    have ef : putF "rule" (V.ref r) (putF "top" (V.int (n : Int)) (putF "store" (V.ref a.s) [])) = (["store", "top", "rule"] : List Str).zip [V.ref a.s, iV n, V.ref r] := by
      show putF "rule" (V.ref r) (putF "top" (V.int (n : Int)) (putF "store" (V.ref a.s) (([] : List Str).zip []))) = _
      rw [zip_new (by decide +kernel) rfl, zip_new (by decide +kernel) rfl, zip_new (by decide +kernel) rfl]
      rfl
    rw [ef]
    have keep1 : ∀ b u, b ≠ x → H b = some u → upd H x (.ins (cFo K) dx ((["store", "top", "rule"] : List Str).zip [V.ref a.s, iV n, V.ref r])) b = some u := fun b u hb e => by rw [upd_ne hb]; exact e
    have hx1 : upd H x (.ins (cFo K) dx ((["store", "top", "rule"] : List Str).zip [V.ref a.s, iV n, V.ref r])) x = some _ := upd_same
    have D1 := store_upd (u := .ins (cFo K) dx ((["store", "top", "rule"] : List Str).zip [V.ref a.s, iV n, V.ref r])) D x6 sx.symm
    have none1 : ∀ b, upd H x (.ins (cFo K) dx ((["store", "top", "rule"] : List Str).zip [V.ref a.s, iV n, V.ref r])) b = none → H b = none := fun b e => by
      by_cases z : b = x
      · rw [z, upd_same] at e; cases e
      · rw [upd_ne z] at e; exact e
    generalize upd H x (.ins (cFo K) dx ((["store", "top", "rule"] : List Str).zip [V.ref a.s, iV n, V.ref r])) = H1 at keep1 hx1 D1 none1
    refine fun kd hkd => ⟨_, rfl, x, _, dx, _, rfl, same_upd hkd _ _ hx1, T.c_Fold, T.n_Fold_known, few 3 rfl (by decide), ?_⟩
    rw [zip_new (by decide +kernel) rfl]
    have kx : kd ≠ x := (ne_of_none hx1 hkd).symm
    have nkd : H kd = none := none1 kd hkd
    have k6 : kd ∉ six a := D.out_new nkd
    have ks : kd ≠ a.s := (ne_of_none D.ob nkd).symm
    have D2 : StoreAt K (upd (upd H1 kd (.dK [])) x (.ins (cFo K) dx (kFo.zip [V.ref a.s, iV n, V.ref r, V.ref kd]))) a S := store_upd (D1.same (same_upd hkd)) x6 sx.symm
    have keep2 : ∀ b u, b ≠ x → H b = some u → upd (upd H1 kd (.dK [])) x (.ins (cFo K) dx (kFo.zip [V.ref a.s, iV n, V.ref r, V.ref kd])) b = some u := fun b u hb e => by
      rw [upd_ne hb]
      exact same_upd hkd _ _ (keep1 b u hb e)
    have hx2 : upd (upd H1 kd (.dK [])) x (.ins (cFo K) dx (kFo.zip [V.ref a.s, iV n, V.ref r, V.ref kd])) x = some (.ins (cFo K) dx (kFo.zip [V.ref a.s, iV n, V.ref r, V.ref kd])) := upd_same
    have hk2 : upd (upd H1 kd (.dK [])) x (.ins (cFo K) dx (kFo.zip [V.ref a.s, iV n, V.ref r, V.ref kd])) kd = some (.dK []) := by rw [upd_ne kx, upd_same]
    show _
    generalize hH2 : upd (upd H1 kd (.dK [])) x (.ins (cFo K) dx (kFo.zip [V.ref a.s, iV n, V.ref r, V.ref kd])) = H2 at D2 keep2 hx2 hk2
    have hH2' : upd (upd H1 kd (.dK [])) x (.ins (cFo K) dx (((["store", "top", "rule"] : List Str) ++ [("known" : Str)]).zip ([V.ref a.s, iV n, V.ref r] ++ [V.ref kd]))) = H2 := hH2
    rw [hH2']
    -- if self.top != NONE
    refine ⟨_, rfl, x, cFo K, dx, _, _, rfl, hx2, T.c_Fold, T.n_Fold_top, lkF_top, rfl, _, rfl, ?_⟩
    rw [decide_eq_false (show ¬ iV n = V.int (-1) from fun z => by injection z with z; omega)]
    refine iteT ?_
    refine ⟨_, rfl, x, cFo K, dx, _, _, rfl, hx2, T.c_Fold, T.n_Fold_store, lkF_store, a.s, a.dx, _, rfl, D2.ob, lk_no (by decide +kernel), _, rfl, x, cFo K, dx, _, _, rfl, hx2, T.c_Fold, T.n_Fold_top, lkF_top, a, S, n, R, rfl, D2, FW, fun H3 py ys s3 hys FY srt => ?_⟩
    have hx3 := s3 _ _ hx2
    have hk3 := s3 _ _ hk2
    have pk : py ≠ kd := ne_of hys hk3 (by intro z; cases z)
    have hr3 := s3 _ _ (keep2 _ _ rx hr1)
    have rk : r ≠ kd := ne_of_none hr1 nkd
    refine ⟨py, rfl, ⟨_, SqL.of hys⟩, for_list (K := K) (a := py) (xs := ys.map iV) (fun i σ H' => ∃ (kvs : List (Key × V)) (v3 : Option V), σ = [some (.ref x), some (.ref t), some (.ref r), v3] ∧ (∀ b u, b ≠ kd → H3 b = some u → H' b = some u) ∧ H' kd = some (.dK kvs) ∧ kvs.length ≤ i ∧ ∀ y ∈ ys.take i, ∃ z, valV kvs (.inl (y : Int)) = some (.ref z) ∧ SumAt p q H' z (S.cont y))
      ⟨[], none, rfl, fun b u _ e => e, hk3, Nat.le_refl _, fun y hy => (nomatch hy)⟩ (fun i σ H' _ ⟨_, _, _, o, _⟩ => SqL.of (o _ _ pk hys)) ?_ ?_⟩
    · rintro i v σ H4 hi ⟨kvs, v3, rfl, o4, hk4, kl, kn⟩
      obtain ⟨y, hy, rfl⟩ : ∃ y, ys[i]? = some y ∧ v = iV y := by
        rw [List.getElem?_map] at hi
        cases e : ys[i]? with
        | none => rw [e] at hi; cases hi
        | some y => rw [e] at hi; exact ⟨y, rfl, (Option.some.inj hi).symm⟩
      have hil : i < ys.length := (List.getElem?_eq_some_iff.mp hy).1
      have hym := List.mem_of_getElem? hy
      have yl := FY.lt y hym
      have hx4 := o4 _ _ kx.symm hx3
      have hr4 := o4 _ _ rk hr3
      have D4 : StoreAt K H4 a S := by
        have D3 := D2.same s3
        have m : ∀ b, b ∈ six a → b ≠ kd := fun b hb e => k6 (by rw [← e]; exact hb)
        exact ⟨o4 _ _ ks.symm D3.ob, o4 _ _ (m _ (by simp [six])) D3.kd, o4 _ _ (m _ (by simp [six])) D3.lf, o4 _ _ (m _ (by simp [six])) D3.rt, o4 _ _ (m _ (by simp [six])) D3.sz, o4 _ _ (m _ (by simp [six])) D3.bt, o4 _ _ (m _ (by simp [six])) D3.kn, D3.nd, D3.ok, D3.cap, D3.small⟩
      have kc : ∀ c ∈ kids S y, c ∈ ys.take i := fun c hc => by
        have cy : c < y := by
          unfold kids at hc
          cases en : S.node y with
          | L _ => rw [en] at hc; cases hc
          | P l r' =>
            rw [en] at hc
            obtain ⟨h1, h2, _⟩ := VW.node_P' D.ok yl en
            have : c = l ∨ c = r' := by simpa using hc
            rcases this with z | z <;> omega
          | B l m =>
            rw [en] at hc
            obtain ⟨h1, _⟩ := VW.node_B' D.ok yl en
            have : c = l := by simpa using hc
            omega
        obtain ⟨j, hj⟩ := List.getElem?_of_mem (FY.cl y hym c hc)
        have jl : j < ys.length := (List.getElem?_eq_some_iff.mp hj).1
        have ji : j < i := by
          rcases Nat.lt_or_ge j i with z | z
          · exact z
          · have e1 := (List.getElem?_eq_some_iff.mp hj).2
            have e2 := (List.getElem?_eq_some_iff.mp hy).2
            rcases Nat.lt_or_ge i j with z2 | z2
            · have := List.pairwise_iff_getElem.mp srt i j hil jl z2
              omega
            · have : i = j := by omega
              subst this
              omega
        exact List.mem_of_getElem? (by rw [List.getElem?_take, if_pos ji]; exact hj)
      refine ⟨_, rfl, x, dx, _, rfl, hx4, lkF_no (by decide +kernel), _, rfl, x, a, S, n, r, kd, p, q, y, ys.take i, rfl, D4, ⟨dx, hx4⟩, ⟨dr, hr4⟩, ⟨kvs, hk4, kn⟩, yl, kc, fun H5 z s5 Z => ?_⟩
      have hk5 := s5 _ _ hk4
      have zk : z ≠ kd := ne_of (show H5 z = some _ from Z) hk5 (by intro z; cases z)
      refine ⟨_, rfl, x, cFo K, dx, _, _, rfl, s5 _ _ hx4, T.c_Fold, T.n_Fold_known, lkF_known, _, rfl, kd, _, rfl, DPut.k (k := .inl (y : Int)) hk5 (by have := FY.few; rw [sizeLine_eq]; omega), ?_⟩
      refine ⟨putK kvs (.inl (y : Int)) (.ref z), _, rfl, fun b u hb e => ?_, upd_same, ?_, fun c hc => ?_⟩
      · rw [upd_ne hb]
        exact s5 _ _ (o4 b u hb e)
      · have := length_putK kvs (.inl (y : Int)) (.ref z)
        omega
      · rw [valV_put]
        by_cases cy : c = y
        · subst cy
          rw [if_pos rfl]
          refine ⟨z, rfl, ?_⟩
          show upd H5 kd _ z = _
          rw [upd_ne zk]
          exact Z
        · rw [if_neg (by intro z; injection z with z; omega)]
          have hc : c ∈ ys.take i := by
            rw [take_snoc hy] at hc
            rcases List.mem_append.mp hc with q | q
            · exact q
            · exact absurd (by simpa using q) cy
          obtain ⟨z', h1, h2⟩ := kn c hc
          refine ⟨z', h1, ?_⟩
          have h3 := h2.same s5
          show upd H5 kd _ z' = _
          rw [upd_ne (ne_of (show H5 z' = some _ from h3) hk5 (by intro z; cases z))]
          exact h3
    · rintro σ H4 ⟨kvs, v3, rfl, o4, hk4, kl, kn⟩
      rw [List.length_map, List.take_length] at kn
      refine k H4 (fun b u hb e => ?_) ⟨r, kd, ys, ⟨dx, o4 _ _ kx.symm hx3⟩, ⟨dr, o4 _ _ rk hr3⟩, ⟨kvs, hk4, kn⟩, FY⟩
      exact o4 b u (ne_of_none e nkd) (s3 _ _ (keep2 b u hb e))
theorem scAhead : FnScope ["fold", "end"] ["fold", "end"] (defScope s_ahead_of) := ⟨rfl, rfl, rfl, by decide +kernel, rfl, by decide +kernel, by decide +kernel⟩
theorem ok_ahead (T : Txt K mg) : FX P w K mg base 5 "ahead_of" (spAhead K) [] := by
  refine fx_mk T.f_ahead_of T.g_ahead_of scAhead (fun _ _ _ _ _ _ us hl => match us, hl with | [_, _], _ => rfl) (fun vs H Q E h => ?_) (fun cdv A outer s H vs Q E hr h => ?_)
  · obtain ⟨_, _, _, _, _, _, _, rfl, _⟩ := h
    rfl
  · obtain ⟨f, a, S, n, p, q, e, rfl, D, FA, he, k⟩ := h
    obtain ⟨r, kd, ys, ⟨df, hf⟩, R, KN, FW⟩ := id FA.ex
    refine ⟨_, (pss_one (ps_ret (pe_ix ix_tup (pe_m (ok_until T) hr (pv 0) (pa_cons (pv 1) pa_nil)) pe_int (fun _ _ => rfl)))), ?_⟩
    dsimp only [L2.start, List.map, List.map_cons, List.map_nil, List.append_eq, List.append, List.length_cons, List.length_nil, Nat.reduceAdd, Nat.reduceSub, List.replicate_succ, List.replicate_zero, List.cons_append, List.nil_append, cxOf]
    refine ⟨_, rfl, f, df, _, rfl, hf, lkF_no (by decide +kernel), _, rfl, f, a, S, n, r, kd, p, q, e, ys, rfl, D, ⟨df, hf⟩, R, KN, FW, he, fun H' z s1 Z => ?_⟩
    exact ⟨z, _, _, _, rfl, rfl, SqT.of (show H' z = some _ from Z), rfl, k H' s1⟩
theorem scNth : FnScope ["text", "fold", "size", "number", "low", "high", "middle"] ["text", "fold", "size", "number"] (defScope s_nth) := ⟨rfl, rfl, rfl, by decide +kernel, rfl, by decide +kernel, by decide +kernel⟩
theorem ok_nth (T : Txt K mg) : FX P w K mg base 6 "nth" (spNth K) [] := by
  refine fx_mk T.f_nth T.g_nth scNth (fun _ _ _ _ _ _ us hl => match us, hl with | [_, _, _, _], _ => rfl) (fun vs H Q E h => ?_) (fun cdv A outer s H vs Q E hr h => ?_)
  · obtain ⟨_, _, _, _, _, _, _, _, _, _, rfl, _⟩ := h
    rfl
  · obtain ⟨t, f, lo, a, S, n, p, q, g, c, rfl, L, X, hn, FA, g2, gs, s18, hg, k⟩ := h
    obtain ⟨dt, ht⟩ := id X
    refine ⟨_, (pss_cons (ps_par (i := 4) (j := 5) rfl scNth.nd rfl rfl (by decide) rfl rfl (pa_cons (pv 2) (pa_cons (pe_m0 (ok_size T) hr (pv 0)) pa_nil)) (by rfl))
       (pss_cons (ps_while PassesOwn.never (pt_cmpR op_lt (pv 4) (pv 5) (nomark _))
       (pss_cons (ps_set (i := 6) scNth.nd rfl (Or.inl rfl) (pe_op op_fdiv (pe_op op_add (pv 4) (pv 5)) pe_int))
       (pss_one (ps_if (pt_cmpR op_gt (pe_f (ok_ahead T) hr (pa_cons (pv 1) (pa_cons (pv 6) pa_nil))) (pv 3) (nomark _))
       (pss_one (ps_set (i := 5) scNth.nd rfl (Or.inl rfl) (pv 6)))
       (pss_one (ps_set (i := 4) scNth.nd rfl (Or.inl rfl) (pe_op op_add (pv 6) pe_int)))))))
       (pss_one (ps_ret (pe_op op_sub (pv 4) (pv 2)))))), ?_⟩
    dsimp only [L2.start, List.map, List.map_cons, List.map_nil, List.append_eq, List.append, List.length_cons, List.length_nil, Nat.reduceAdd, Nat.reduceSub, List.replicate_succ, List.replicate_zero, List.cons_append, List.nil_append, cxOf]
    refine ⟨_, rfl, _, rfl, t, dt, _, rfl, ht, lkT_no (by decide +kernel), t, lo, a, S, n, S.cont n, rfl, L, X, .inr ⟨n, rfl, hn, rfl⟩, _, _, rfl, ?_⟩
    dsimp only [gName, wipe, List.set_cons_succ, List.set_cons_zero]
    rw [VW.cont_len L.st.ok hn]
    refine ⟨fun m σ H' => ∃ (l h : Nat) (v6 : Option V), m = h - l ∧ σ = [some (.ref t), some (.ref f), some (.int 2), some (iV c), some (iV l), some (iV h), v6] ∧ Same H H' ∧ l ≤ g ∧ g ≤ h ∧ h ≤ S.size n, ⟨_, 2, S.size n, none, rfl, rfl, fun _ _ e => e, g2, gs, Nat.le_refl _⟩, ?_⟩
    rintro m σ H1 ⟨l, h, v6, rfl, rfl, s1, lg, gh, hs⟩
    refine ⟨_, rfl, _, rfl, _, _, rfl, rfl, _, rfl, ?_⟩
    rw [dlt]
    refine ite2 (fun lt => ?_) (fun lt => ?_)
    · have lt := of_decide_eq_true lt
      refine ⟨_, fun σ' H' z => z, ?_⟩
      refine ⟨_, rfl, _, rfl, _, _, rfl, rfl, _, _, rfl, rfl, ⟨by decide, by decide⟩, ?_⟩
      dsimp only [gName, wipe, List.set_cons_succ, List.set_cons_zero]
      have em : V.int (((l : Int) + (h : Int)) / 2) = iV ((l + h) / 2) := rfl
      rw [em]
      have mh : (l + h) / 2 < h := by omega
      have ml : l ≤ (l + h) / 2 := by omega
      generalize (l + h) / 2 = md at mh ml em
      refine ⟨_, rfl, _, rfl, f, a, S, n, p, q, md, rfl, (L.same s1).st, FA.same s1, by omega, fun H2 s2 => ⟨_, rfl, _, _, rfl, rfl, _, rfl, ?_⟩⟩
      rw [dlt, hg md (by omega)]
      refine ite2 (fun gm => ?_) (fun gm => ?_)
      · have gm := of_decide_eq_true gm
        exact ⟨_, rfl, md - l, by omega, l, md, _, rfl, rfl, s1.trans s2, lg, gm, by omega⟩
      · have gm : ¬ g ≤ md := fun z => gm (decide_eq_true z)
        exact ⟨_, rfl, _, _, rfl, rfl, h - (md + 1), by omega, md + 1, h, _, rfl, rfl, s1.trans s2, by omega, gh, hs⟩
    · have lt : ¬ l < h := fun z => lt (decide_eq_true z)
      have : l = g := by omega
      subst this
      refine ⟨_, rfl, _, rfl, _, _, rfl, rfl, ?_⟩
      have := k H1 s1
      have e : V.int ((l : Int) - 2) = iV (l - 2) := congrArg V.int (by omega)
      show Q (V.int ((l : Int) - 2)) H1
      rw [e]
      exact this
end
end VT
set_option Elab.async false
set_option linter.all false
set_option maxRecDepth 100000
set_option maxHeartbeats 4000000
/-! word_fold, next_standing, run. -/
namespace VT
open PySem PySem.Spec PyProof.Rows L2
open VW (Sto Node Ok Le F2 cnt f1 l1 Loc)
def spWFold (K : PySem.W.Frag) : Sp := fun vs H Q _ => ∃ (t lo : Addr) (a : SA) (S : Sto) (n p q : Nat) (R : List Nat), vs = [.ref t, .str (wd [p, q])] ∧ p < 8 ∧ q < 8 ∧ LW K H lo a S ∧ TextAt K H t lo n ∧ n < S.len ∧ Few S n R ∧ ∀ H' f, Same H H' → FoldAt K p q H' f a S n → Q (.ref f) H'
/-- what next_standing finds -/
def NextIs (p q : Nat) (T : List Nat) (i : Nat) (g : Option Nat) : Prop := match g with
  | none => cnt p q (T.take (min (i + 1) T.length)) = cnt p q T
  | some g => cnt p q (T.take (min (i + 1) T.length)) ≠ cnt p q T ∧ 2 ≤ g ∧ g ≤ T.length ∧ ∀ e, e ≤ T.length → decide (cnt p q (T.take (min (i + 1) T.length)) < cnt p q (T.take e)) = decide (g ≤ e)
def gV (g : Option Nat) : V := match g with
  | none => .non
  | some g => iV (g - 2)
def spNext (K : PySem.W.Frag) : Sp := fun vs H Q _ => ∃ (t lo : Addr) (a : SA) (S : Sto) (n p q i : Nat) (R : List Nat) (g : Option Nat), vs = [.ref t, .str (wd [p, q]), iV i] ∧ p < 8 ∧ q < 8 ∧ LW K H lo a S ∧ TextAt K H t lo n ∧ n < S.len ∧ Few S n R ∧ i ≤ S.size n ∧ NextIs p q (S.cont n) i g ∧ ∀ H', Same H H' → Q (gV g) H'
def spRun (K : PySem.W.Frag) : Sp := fun vs H Q _ => ∃ (t lo : Addr) (a : SA) (S : Sto) (n i : Nat), vs = [.ref t, iV i] ∧ LW K H lo a S ∧ TextAt K H t lo n ∧ n < S.len ∧ i < S.size n ∧ ∀ H' nm st x, Loc S n 1 nm st i → Same H H' → H' x = some (.tup [iV st, iV (S.size nm)]) → Q (.ref x) H'
section
variable {P : Program} {w : World} {K : PySem.W.Frag} {mg : Str → Option Value} {base : Heap}
theorem scWFold : FnScope ["text", "word", "letter"] ["text", "word"] (defScope s_word_fold) := ⟨rfl, rfl, rfl, by decide +kernel, rfl, by decide +kernel, by decide +kernel⟩
theorem ok_wfold (T : Txt K mg) : FX P w K mg base 7 "word_fold" (spWFold K) [] := by
  refine fx_mk T.f_word_fold T.g_word_fold scWFold (fun _ _ _ _ _ _ us hl => match us, hl with | [_, _], _ => rfl) (fun vs H Q E h => ?_) (fun cdv A outer s H vs Q E hr h => ?_)
  · obtain ⟨_, _, _, _, _, _, _, _, rfl, _⟩ := h
    rfl
  · obtain ⟨t, lo, a, S, n, p, q, R, rfl, p8, q8, L, X, hn, FW, k⟩ := h
    refine ⟨_, (pss_cons (ps_if (PW.pt (pw_or (pt_not (pt_chain op_le op_le pe_int (pe_callB call_len_str (by rfl) T.b_len PySem.boot_len (pa_cons (pv 1) pa_nil)) (pe_gi T.i_WORD))) (pw_or1 (pt_not (pt_val (pe_callB (cr_all rfl) (by rfl) T.b_all (by decide +kernel) (pa_cons (pe_lc (own := [("letter", 2)]) (g := (gName 2)) (tt := tYes) rfl scWFold.nd (pi_str (pv 1)) (blkOk_by (N := ["text", "word", "letter"]) (sc := defScope s_word_fold) (by decide +kernel)) (fun _ _ _ _ _ => (pg_name (i := 2) scWFold.nd rfl (Or.inl rfl))) (fun _ _ _ _ _ => pts_nil) (fun _ _ _ _ _ => (pe_cmpR op_in_sign (pv 2) (pe_gs T.s_LETTERS) (by rfl)))) pa_nil)))))))
       (pss_one ps_never)
       pss_nil)
       (pss_one (ps_ret (pe_k (mk_fold T) hr (pa_cons (pv 0) (pa_cons (pe_k (mk_rule T) hr (pa_cons (pv 1) pa_nil)) pa_nil)))))), ?_⟩
    dsimp only [L2.start, List.map, List.map_cons, List.map_nil, List.append_eq, List.append, List.length_cons, List.length_nil, Nat.reduceAdd, Nat.reduceSub, List.replicate_succ, List.replicate_zero, List.cons_append, List.nil_append, cxOf]
    have ww : (wd [p, q]).length ≤ sizeLine := by rw [wd_len]; exact (show 2 ≤ sizeLine by decide)
    refine ⟨_, rfl, wd [p, q], rfl, ww, _, _, rfl, rfl, _, rfl, ?_⟩
    rw [decide_eq_true (by rw [wd_len]; exact (show (1 : Int) ≤ ((2 : Nat) : Int) by decide) : (1 : Int) ≤ ((wd [p, q]).length : Int))]
    refine iteT ⟨_, _, rfl, rfl, _, rfl, ?_⟩
    rw [decide_eq_true (by rw [wd_len]; exact (show ((2 : Nat) : Int) ≤ 40 by decide) : ((wd [p, q]).length : Int) ≤ 40)]
    refine iteF ?_
    have n8 : ∀ x ∈ [p, q], x < 8 := fun x hx => by
      have : x = p ∨ x = q := by simpa using hx
      rcases this with z | z <;> subst z <;> assumption
    refine ⟨_, rfl, wd [p, q], rfl, fun d hd => ?_⟩
    refine lc_it walk_str (fun i H' => H' = L2.upd H d (.lst ((List.replicate i true).map V.bl))) rfl (fun _ _ _ _ => trivial) ?_ ?_
    · rintro i y H1 H2 hi rfl ⟨rfl, c, hc, rfl⟩
      obtain ⟨x, hx, rfl⟩ := wd_at hc
      rw [wd_size] at hi
      have hi : i < 2 := hi
      refine ⟨rfl, _, rfl, x + 97, _, rfl, rfl, ?_⟩
      rw [lett_in x (n8 x (List.mem_of_getElem? hx))]
      refine ⟨_, upd_same, by rw [List.length_map, List.length_replicate, sizeLine_eq]; omega, ?_⟩
      rw [upd_upd, List.replicate_succ', List.map_append]
      rfl
    · rintro H1 rfl
      rw [wd_size]
      have s1 := same_upd (o := .lst ((List.replicate [p, q].length true).map V.bl)) hd
      have hd1 : L2.upd H d (.lst ((List.replicate [p, q].length true).map V.bl)) d = some (.lst ((List.replicate [p, q].length true).map V.bl)) := upd_same
      refine ⟨d, List.replicate [p, q].length true, rfl, SqL.of hd1, _, rfl, ?_⟩
      generalize L2.upd H d (.lst ((List.replicate [p, q].length true).map V.bl)) = H1 at *
      have ea : (List.replicate [p, q].length true).all id = true := rfl
      rw [ea]
      refine iteF ?_
      dsimp only [tNext, gName, wipe, List.set_cons_succ, List.set_cons_zero]
      -- Fold(text, WordRule(word))
      refine ⟨_, rfl, _, rfl, fun r dr hr' hdr ne => ⟨r, dr, p, q, rfl, upd_same, fun H2 hr2 out => ⟨rfl, ?_⟩⟩⟩
      have s2 := made_same hr' hdr out
      have s12 := s1.trans s2
      refine fun f df hf hdf ne2 => ⟨f, df, t, r, lo, a, S, n, p, q, R, rfl, upd_same, ?_, ?_, ?_, FW, fun H3 out3 FA => ⟨rfl, ?_⟩⟩
      · have sm : Same H2 (upd (upd H2 df (.own f)) f (.ins (cFo K) df [])) := fun b u e => by
          rw [upd_ne (ne_of_none e hf)]
          exact same_upd hdf _ _ e
        exact (L.same s12).same sm
      · have sm : Same H2 (upd (upd H2 df (.own f)) f (.ins (cFo K) df [])) := fun b u e => by
          rw [upd_ne (ne_of_none e hf)]
          exact same_upd hdf _ _ e
        exact (X.same s12).same sm
      · exact ⟨dr, by rw [upd_ne (ne_of_none hr2 hf)]; exact same_upd hdf _ _ hr2⟩
      · exact k H3 f (s12.trans (made_same hf hdf out3)) FA
theorem scNext : FnScope ["text", "word", "at", "fold", "number"] ["text", "word", "at"] (defScope s_next_standing) := ⟨rfl, rfl, rfl, by decide +kernel, rfl, by decide +kernel, by decide +kernel⟩
theorem dx_next (T : Txt K mg) : DX P w K mg base 8 d_next_standing.name d_next_standing.qual (defArgs s_next_standing) (defBody s_next_standing) (defScope s_next_standing) (d_next_standing.dvs K) (d_next_standing.kws K) (He.fAd K d_next_standing.at_) ["text", "word", "at"] (spNext K) := by
  refine dx_mk T.f_next_standing scNext (fun vs H Q E h => ?_) (fun cdv A outer s H vs Q E hr h => ?_)
  · obtain ⟨_, _, _, _, _, _, _, _, _, _, rfl, _⟩ := h
    rfl
  · obtain ⟨t, lo, a, S, n, p, q, i, R, g, rfl, p8, q8, L, X, hn, FW, hi, nx, k⟩ := h
    refine ⟨_, (pss_cons (ps_set (i := 3) scNext.nd rfl (Or.inl rfl) (pe_f (ok_wfold T) hr (pa_cons (pv 0) (pa_cons (pv 1) pa_nil))))
       (pss_cons (ps_if (pt_not (pt_chain op_le op_le pe_int (pv 2) (pe_m0 (ok_size T) hr (pv 0))))
       (pss_one ps_never)
       pss_nil)
       (pss_cons (ps_set (i := 4) scNext.nd rfl (Or.inl rfl) (pe_f (ok_ahead T) hr (pa_cons (pv 3) (pa_cons (pe_callB (call_min2 rfl) (by rfl) T.b_min (by decide +kernel) (pa_cons (pe_op op_sub (pe_op op_add (pv 2) (pe_callB call_len_str (by rfl) T.b_len PySem.boot_len (pa_cons (pv 1) pa_nil))) pe_int) (pa_cons (pe_m0 (ok_size T) hr (pv 0)) pa_nil))) pa_nil))))
       (pss_cons (ps_if (pt_cmpR op_eq (pv 4) (pe_f (ok_ahead T) hr (pa_cons (pv 3) (pa_cons (pe_m0 (ok_size T) hr (pv 0)) pa_nil))) (nomark _))
       (pss_one (ps_ret pe_non))
       pss_nil)
       (pss_one (ps_ret (pe_f (ok_nth T) hr (pa_cons (pv 0) (pa_cons (pv 3) (pa_cons (pe_callB call_len_str (by rfl) T.b_len PySem.boot_len (pa_cons (pv 1) pa_nil)) (pa_cons (pv 4) pa_nil))))))))))), ?_⟩
    dsimp only [L2.start, List.map, List.map_cons, List.map_nil, List.append_eq, List.append, List.length_cons, List.length_nil, Nat.reduceAdd, Nat.reduceSub, List.replicate_succ, List.replicate_zero, List.cons_append, List.nil_append, cxOf]
    have ww : (wd [p, q]).length ≤ sizeLine := by rw [wd_len]; exact (show 2 ≤ sizeLine by decide)
    have cl := VW.cont_len L.st.ok hn
    have ti : TopIs S (n : Int) (S.cont n) := .inr ⟨n, rfl, hn, rfl⟩
    refine ⟨_, rfl, _, rfl, t, lo, a, S, n, p, q, R, rfl, p8, q8, L, X, hn, FW, fun H1 f s1 FA => ?_⟩
    have L1 := L.same s1
    have X1 := X.same s1
    obtain ⟨dt, ht⟩ := id X1
    dsimp only [gName, wipe, List.set_cons_succ, List.set_cons_zero]
    refine ⟨_, rfl, _, _, rfl, rfl, _, rfl, ?_⟩
    rw [dchain]
    refine iteT ?_
    refine ⟨_, rfl, t, dt, _, rfl, ht, lkT_no (by decide +kernel), t, lo, a, S, n, _, rfl, L1, X1, ti, _, _, rfl, rfl, _, rfl, ?_⟩
    rw [dle, decide_eq_true (by rw [cl]; exact hi)]
    refine iteF ?_
    dsimp only [tNext, gName, wipe, List.set_cons_succ, List.set_cons_zero]
    -- number = ahead_of(fold, min(at + len(word) - 1, text.size()))
    refine ⟨_, rfl, _, rfl, _, rfl, wd [p, q], rfl, ww, _, _, rfl, rfl, _, _, rfl, rfl, _, rfl, t, dt, _, rfl, ht, lkT_no (by decide +kernel), t, lo, a, S, n, _, rfl, L1, X1, ti, _, _, rfl, ?_⟩
    have em : V.int (if ((S.cont n).length : Int) < (i : Int) + ((wd [p, q]).length : Int) - 1 then ((S.cont n).length : Int) else (i : Int) + ((wd [p, q]).length : Int) - 1) = iV (min (i + 1) (S.cont n).length) := by
      rw [wd_len]
      refine congrArg V.int ?_
      show (if ((S.cont n).length : Int) < (i : Int) + ((2 : Nat) : Int) - 1 then ((S.cont n).length : Int) else (i : Int) + ((2 : Nat) : Int) - 1) = ((min (i + 1) (S.cont n).length : Nat) : Int)
      split <;> omega
    rw [em]
    refine ⟨f, a, S, n, p, q, _, rfl, L1.st, FA, by rw [cl]; exact Nat.min_le_right _ _, fun H2 s2 => ?_⟩
    have L2' := L1.same s2
    have X2 := X1.same s2
    have FA2 := FA.same s2
    have ht2 := s2 _ _ ht
    dsimp only [gName, wipe, List.set_cons_succ, List.set_cons_zero]
    -- if number == ahead_of(fold, text.size())
    refine ⟨_, rfl, _, rfl, _, rfl, t, dt, _, rfl, ht2, lkT_no (by decide +kernel), t, lo, a, S, n, _, rfl, L2', X2, ti, f, a, S, n, p, q, _, rfl, L2'.st, FA2, by rw [cl]; exact Nat.le_refl _, fun H3 s3 => ⟨rfl, _, rfl, ?_⟩⟩
    have s123 := (s1.trans s2).trans s3
    rw [dec_iV, List.take_length]
    cases g with
    | none =>
      have nx : cnt p q ((S.cont n).take (min (i + 1) (S.cont n).length)) = cnt p q (S.cont n) := nx
      rw [decide_eq_true nx]
      refine iteT ?_
      exact k H3 s123
    | some g =>
      obtain ⟨h1, h2, h3, h4⟩ := (show _ ∧ _ ∧ _ ∧ _ from nx)
      rw [decide_eq_false h1]
      refine iteF ?_
      dsimp only [tNext]
      refine ⟨_, rfl, _, rfl, _, rfl, wd [p, q], rfl, ww, _, rfl, t, f, lo, a, S, n, p, q, g, _, ?_, L2'.same s3, X2.same s3, hn, FA2.same s3, h2, by rw [← cl]; exact h3, L.st.small n hn, fun e he => h4 e (by rw [cl]; exact he), fun H4 s4 => k H4 (s123.trans s4)⟩
      rw [wd_len]
      rfl
theorem kb_next (T : Txt K mg) : ∃ (fd : FuncData) (g : List Value → List Value → List Value), FnOk P w K mg base CX0 8 (He.fAd K d_next_standing.at_) fd ["text", "word", "at"] (spNext K) ∧ PySem.W.keepIn K (.ref (He.fAd K d_next_standing.at_)) = true ∧ KBn K fd ["text", "word", "at"] 2 ["at"] g (fun vs zs => vs ++ (zs ++ [])) := by
  obtain ⟨fd, F, ok⟩ := (dx_next (P := P) (w := w) (base := base) T).ex
  obtain ⟨mv, kb⟩ := F.kbinds0 (ps := ["text", "word", "at"]) 2 ["at"] [] (fun us mv ws => us ++ (ws ++ mv)) (fun z => nomatch z) (fun q hq => (nomatch hq)) (fun r1 r2 r3 => r1.append (r3.append r2)) (fun D doc pm an cdv ct us mv ws l1 l2 l3 => by
      match us, mv, ws, l1, l2, l3 with
      | [u1, u2], [], [v], _, _, _ => exact rfl)
  exact ⟨fd, _, ok, F.kp, kb⟩
theorem scRun : FnScope ["text", "at", "store", "name", "start"] ["text", "at"] (defScope s_run) := ⟨rfl, rfl, rfl, by decide +kernel, rfl, by decide +kernel, by decide +kernel⟩
theorem ok_run (T : Txt K mg) : FX P w K mg base 3 "run" (spRun K) [] := by
  refine fx_mk T.f_run T.g_run scRun (fun _ _ _ _ _ _ us hl => match us, hl with | [_, _], _ => rfl) (fun vs H Q E h => ?_) (fun cdv A outer s H vs Q E hr h => ?_)
  · obtain ⟨_, _, _, _, _, _, rfl, _⟩ := h
    rfl
  · obtain ⟨x, lo, a, S, n, i, rfl, L, X, hn, hi, k⟩ := h
    obtain ⟨dx, hx⟩ := id X
    obtain ⟨dl, hl⟩ := L.lo
    have cl := VW.cont_len L.st.ok hn
    refine ⟨_, (pss_cons (ps_expr (pe_m (ok_letter T) hr (pv 0) (pa_cons (pv 1) pa_nil)))
       (pss_cons (ps_set (i := 2) scRun.nd rfl (Or.inl rfl) (pe_fld (pe_fld (pv 0) rfl) rfl))
       (pss_cons (ps_asg (pe_m (ok_piece T) hr (pv 2) (pa_cons (pe_fld (pv 0) rfl) (pa_cons (pv 1) (pa_cons pe_int pa_nil)))) (pg_tup rfl (pgs_cons (pg_name (i := 3) scRun.nd rfl (Or.inl rfl)) (pgs_cons (pg_name (i := 4) scRun.nd rfl (Or.inl rfl)) pgs_nil))))
       (pss_one (ps_ret (pe_tup (pa_cons (pv 4) (pa_cons (pe_ix ix_list (pe_fld (pv 2) rfl) (pv 3) (fun _ _ => rfl)) pa_nil)))))))), ?_⟩
    dsimp only [L2.start, List.map, List.map_cons, List.map_nil, List.append_eq, List.append, List.length_cons, List.length_nil, Nat.reduceAdd, Nat.reduceSub, List.replicate_succ, List.replicate_zero, List.cons_append, List.nil_append, cxOf]
    refine ⟨_, rfl, x, dx, _, rfl, hx, lkT_no (by decide +kernel), _, rfl, x, lo, a, S, n, S.cont n, i, _, rfl, L, X, .inr ⟨n, rfl, hn, rfl⟩, List.getElem?_eq_getElem (by rw [cl]; exact hi), fun H1 s1 => ?_⟩
    have hx := s1 _ _ hx
    have hl := s1 _ _ hl
    have D := (L.same s1).st
    refine ⟨_, rfl, x, cTx K, dx, _, _, rfl, hx, T.c_Text, T.n_Text_loom, lkT_loom, lo, cLo K, dl, _, _, rfl, hl, T.c_Loom, T.n_Loom_store, lkL_store, ?_⟩
    dsimp only [gName, wipe, List.set_cons_succ, List.set_cons_zero]
    refine ⟨_, rfl, a.s, a.dx, _, rfl, D.ob, lk_no (by decide +kernel), _, rfl, x, cTx K, dx, _, _, rfl, hx, T.c_Text, T.n_Text_top, lkT_top, _, rfl, a, S, n, i, 1, rfl, D, hn, hi, fun p nm st hp lc => ?_⟩
    have s2 := same_upd (o := .tup [iV nm, iV st]) hp
    refine ⟨p, _, rfl, SqT.of upd_same, rfl, _, _, rfl, _, _, rfl, rfl, ?_⟩
    have D2 := D.same s2
    generalize upd H1 p (.tup [iV nm, iV st]) = H2 at s2 D2
    dsimp only [gName, wipe, List.set_cons_succ, List.set_cons_zero]
    have ln := (VW.loc_lt D.ok hn lc).1
    refine ⟨_, rfl, _, rfl, a.s, cSt K, a.dx, _, _, rfl, D2.ob, T.c_Store, T.n_Store_sizes, lk_sizes, _, rfl, a.sz, _, _, _, rfl, rfl, SqL.of D2.sz, col_atI ln, z2, fun y hy => ?_⟩
    exact k _ nm st y lc ((s1.trans s2).trans (same_upd hy)) upd_same
end
end VT
set_option Elab.async false
set_option linter.all false
set_option maxRecDepth 100000
set_option maxHeartbeats 4000000
/-! Walk. -/
namespace VT
open PySem PySem.Spec PyProof.Rows L2
open VW (Sto Node Ok Le F2 cnt Loc)
abbrev cWa (K : PySem.W.Frag) : Addr := He.ga K "Walk"
def kWa : List Str := ["over", "here"]
def WalkAt (K : PySem.W.Frag) (H : Hp) (k t : Addr) (i : Nat) : Prop := ∃ dw, H k = some (.ins (cWa K) dw (kWa.zip [.ref t, iV i]))
theorem lkW_over {v u : V} : (kWa.zip [v, u]).lookup ("over" : Str) = some v := zip_look (i := 0) (by decide +kernel) rfl
theorem lkW_here {v u : V} : (kWa.zip [v, u]).lookup ("here" : Str) = some u := zip_look (i := 1) (by decide +kernel) rfl
theorem lkW_no {m : Str} {v u : V} (h : keyAt m kWa = none) : (kWa.zip [v, u]).lookup m = none := zip_none h
theorem WalkAt.same {K : PySem.W.Frag} {H H' : Hp} {k t : Addr} {i : Nat} (h : WalkAt K H k t i) (s : Same H H') : WalkAt K H' k t i := let ⟨d, e⟩ := h; ⟨d, s _ _ e⟩
/-- all stands but x -/
def But (x : Addr) (H H' : Hp) : Prop := ∀ b u, b ≠ x → H b = some u → H' b = some u
theorem But.of {x : Addr} {H H' : Hp} (s : Same H H') : But x H H' := fun b u _ e => s b u e
theorem But.trans {x : Addr} {H H1 H2 : Hp} (a : But x H H1) (b : But x H1 H2) : But x H H2 := fun c u n e => b c u n (a c u n e)
theorem But.upd {x : Addr} {H : Hp} {o : HO} : But x H (L2.upd H x o) := fun b u n e => by rw [upd_ne n]; exact e
theorem put_here {t : Addr} {i : Nat} {v : V} : putF "here" v (kWa.zip [V.ref t, iV i]) = kWa.zip [V.ref t, v] := zip_put (i := 1) (by decide +kernel) (by show 1 < 2; decide)
theorem join_wd : ∀ ws : List (List Nat), Txt.join "" (ws.map wd) = wd ws.flatten := by
  intro ws
  rw [TL.join_eq]
  induction ws with
  | nil => exact wd_nil
  | cons x r ih =>
    cases r with
    | nil => simp [Str.join]
    | cons z r =>
      show wd x ++ "" ++ Str.join "" ((z :: r).map wd) = _
      rw [ih, wd_nil, wd_app, wd_app, List.append_nil, List.flatten_cons, List.flatten_cons, List.flatten_cons]
theorem ltr_wd {c : Nat} : ltr c = wd [c] := rfl
def spWalkI (K : PySem.W.Frag) : Sp := fun vs H Q _ => ∃ (x dx t lo : Addr) (a : SA) (S : Sto) (top : Int) (Tx : List Nat) (i : Nat), vs = [.ref x, .ref t, iV i] ∧ H x = some (.ins (cWa K) dx []) ∧ LW K H lo a S ∧ TextAt K H t lo top ∧ TopIs S top Tx ∧ i ≤ Tx.length ∧
  ∀ H', WalkAt K H' x t i → But x H H' → Q .non H'
def spPlace (K : PySem.W.Frag) : Sp := fun vs H Q _ => ∃ (x t : Addr) (i : Nat), vs = [.ref x] ∧ WalkAt K H x t i ∧ Q (iV i) H
def spStep (K : PySem.W.Frag) : Sp := fun vs H Q _ => ∃ (x t lo : Addr) (a : SA) (S : Sto) (top : Int) (Tx : List Nat) (i m : Nat), vs = [.ref x, iV m] ∧ WalkAt K H x t i ∧ LW K H lo a S ∧ TextAt K H t lo top ∧ TopIs S top Tx ∧ Tx.length ≤ 10 ^ 18 ∧ m ≤ 200 ∧ i + m ≤ Tx.length ∧
  ∀ H', But x H H' → WalkAt K H' x t (i + m) → Q (.str (wd ((Tx.drop i).take m))) H'
def spGo (K : PySem.W.Frag) : Sp := fun vs H Q _ => ∃ (x t lo : Addr) (a : SA) (S : Sto) (top : Int) (Tx : List Nat) (i j : Nat) (d : Int), vs = [.ref x, .int d] ∧ (i : Int) + d = j ∧ WalkAt K H x t i ∧ LW K H lo a S ∧ TextAt K H t lo top ∧ TopIs S top Tx ∧ j ≤ Tx.length ∧
  ∀ H', But x H H' → WalkAt K H' x t j → Q (iV j) H'
def spRest (K : PySem.W.Frag) : Sp := fun vs H Q _ => ∃ (x t lo : Addr) (a : SA) (S : Sto) (n i : Nat), vs = [.ref x] ∧ WalkAt K H x t i ∧ LW K H lo a S ∧ TextAt K H t lo n ∧ n < S.len ∧ i ≤ S.size n ∧
  (i = S.size n → ∀ H', Same H H' → Q .non H') ∧ (i < S.size n → ∀ nm st c H' p, Loc S n 1 nm st i → (S.cont n)[i]? = some c → But x H H' → WalkAt K H' x t (st + S.size nm) → H' p = some (.tup [.str (ltr c), iV (st + S.size nm - i)]) → Q (.ref p) H')
def spSeek (K : PySem.W.Frag) : Sp := fun vs H Q _ => ∃ (x t lo : Addr) (a : SA) (S : Sto) (n p q i : Nat) (R : List Nat) (g : Option Nat), vs = [.ref x, .str (wd [p, q])] ∧ p < 8 ∧ q < 8 ∧ WalkAt K H x t i ∧ LW K H lo a S ∧ TextAt K H t lo n ∧ n < S.len ∧ Few S n R ∧ i ≤ S.size n ∧ NextIs p q (S.cont n) i g ∧
  ∀ H', But x H H' → WalkAt K H' x t (match g with | none => i | some g => g - 2) → Q (gV g) H'
section
variable {P : Program} {w : World} {K : PySem.W.Frag} {mg : Str → Option Value} {base : Heap}
theorem scWalkI : FnScope ["self", "text", "at"] ["self", "text", "at"] (defScope s_Walk_init) := ⟨rfl, rfl, rfl, by decide +kernel, rfl, by decide +kernel, by decide +kernel⟩
theorem dx_walk (T : Txt K mg) : DX P w K mg base 2 d_Walk_init.name d_Walk_init.qual (defArgs s_Walk_init) (defBody s_Walk_init) (defScope s_Walk_init) (d_Walk_init.dvs K) (d_Walk_init.kws K) (He.fAd K d_Walk_init.at_) ["self", "text", "at"] (spWalkI K) := by
  refine dx_mk T.f_Walk_init scWalkI (fun vs H Q E h => ?_) (fun cdv A outer s H vs Q E hr h => ?_)
  · obtain ⟨_, _, _, _, _, _, _, _, _, rfl, _⟩ := h
    rfl
  · obtain ⟨x, dx, t, lo, a, S, top, Tx, i, rfl, hx, L, X, ti, hi, k⟩ := h
    obtain ⟨dt, ht⟩ := id X
    refine ⟨_, (pss_cons (ps_if (pt_not (pt_chain op_le op_le pe_int (pv 2) (pe_m0 (ok_size T) hr (pv 1))))
       (pss_one ps_never)
       pss_nil)
       (pss_cons (ps_fld (pv 0) (pv 1) rfl)
       (pss_one (ps_fld (pv 0) (pv 2) rfl)))), ?_⟩
    dsimp only [L2.start, List.map, List.map_cons, List.map_nil, List.append_eq, List.append, List.length_cons, List.length_nil, Nat.reduceAdd, Nat.reduceSub, List.replicate_succ, List.replicate_zero, List.cons_append, List.nil_append, cxOf]
    refine ⟨_, rfl, _, _, rfl, rfl, _, rfl, ?_⟩
    rw [dchain]
    refine iteT ?_
    refine ⟨_, rfl, t, dt, _, rfl, ht, lkT_no (by decide +kernel), t, lo, a, S, top, Tx, rfl, L, X, ti, _, _, rfl, rfl, _, rfl, ?_⟩
    rw [dle, decide_eq_true hi]
    refine iteF ?_
    refine ⟨_, rfl, _, rfl, x, _, dx, _, rfl, hx, T.c_Walk, T.n_Walk_over, by decide, _, rfl, _, rfl, x, _, dx, _, rfl, upd_same, T.c_Walk, T.n_Walk_here, few 1 rfl (by decide), ?_⟩
    refine k _ ⟨dx, upd_same⟩ fun b u hb e => ?_
    rw [upd_ne hb, upd_ne hb]
    exact e
theorem mk_walk0 (T : Txt K mg) : KX P w K mg base 2 "Walk" (cWa K) (spWalkI K) [.int 0] := by
  obtain ⟨fd, F, ok⟩ := (dx_walk (P := P) (w := w) (base := base) T).ex
  obtain ⟨ds, v, b⟩ := F.binds0 (ps := ["self", "text", "at"]) 2 (fun z => nomatch z) rfl (fun D doc pm an cdv ct us ks l1 l2 => by
    match us, ks, l1, l2 with
    | [u1, u2], [k1], _, _ => exact ⟨_, _, _, _, _, _, rfl, rfl, rfl⟩)
  exact ⟨_, fd, _, ds, T.k_Walk, ok, T.g_Walk, b, v⟩
theorem kb_walk (T : Txt K mg) : ∃ (fd : FuncData) (g : List Value → List Value → List Value), FnOk P w K mg base CX0 2 (He.fAd K d_Walk_init.at_) fd ["self", "text", "at"] (spWalkI K) ∧ KBn K fd ["self", "text", "at"] (1 + 1) ["at"] g (fun vs zs => vs ++ (zs ++ [])) := by
  obtain ⟨fd, F, ok⟩ := (dx_walk (P := P) (w := w) (base := base) T).ex
  obtain ⟨mv, kb⟩ := F.kbinds0 (ps := ["self", "text", "at"]) 2 ["at"] [] (fun us mv ws => us ++ (ws ++ mv)) (fun z => nomatch z) (fun q hq => (nomatch hq)) (fun r1 r2 r3 => r1.append (r3.append r2)) (fun D doc pm an cdv ct us mv ws l1 l2 l3 => by
      match us, mv, ws, l1, l2, l3 with
      | [u1, u2], [], [v], _, _, _ => exact rfl)
  exact ⟨fd, _, ok, kb⟩
theorem scPlace : FnScope ["self"] ["self"] (defScope s_Walk_place) := ⟨rfl, rfl, rfl, by decide +kernel, rfl, by decide +kernel, by decide +kernel⟩
theorem ok_wplace (T : Txt K mg) : MX P w K mg base 1 (cWa K) "place" (spPlace K) [] := by
  refine mx_mk T.f_Walk_place T.c_Walk T.m_Walk_place scPlace (fun _ _ _ _ _ _ us hl => match us, hl with | [_], _ => rfl) (fun vs H Q E h => ?_) (fun cdv A outer s H vs Q E hr h => ?_)
  · obtain ⟨_, _, _, rfl, _⟩ := h
    rfl
  · obtain ⟨x, t, i, rfl, ⟨dw, hw⟩, k⟩ := h
    refine ⟨_, (pss_one (ps_ret (pe_fld (pv 0) rfl))), ?_⟩
    dsimp only [L2.start, List.map, List.map_cons, List.map_nil, List.append_eq, List.append, List.length_cons, List.length_nil, Nat.reduceAdd, Nat.reduceSub, List.replicate_succ, List.replicate_zero, List.cons_append, List.nil_append, cxOf]
    exact ⟨_, rfl, x, cWa K, dw, _, _, rfl, hw, T.c_Walk, T.n_Walk_here, lkW_here, k⟩
theorem scGo : FnScope ["self", "many"] ["self", "many"] (defScope s_Walk_go) := ⟨rfl, rfl, rfl, by decide +kernel, rfl, by decide +kernel, by decide +kernel⟩
theorem ok_go (T : Txt K mg) : MX P w K mg base 2 (cWa K) "go" (spGo K) [] := by
  refine mx_mk T.f_Walk_go T.c_Walk T.m_Walk_go scGo (fun _ _ _ _ _ _ us hl => match us, hl with | [_, _], _ => rfl) (fun vs H Q E h => ?_) (fun cdv A outer s H vs Q E hr h => ?_)
  · obtain ⟨_, _, _, _, _, _, _, _, _, _, rfl, _⟩ := h
    rfl
  · obtain ⟨x, t, lo, a, S, top, Tx, i, j, d, rfl, ej, ⟨dw, hw⟩, L, X, ti, hj, k⟩ := h
    obtain ⟨dt, ht⟩ := id X
    refine ⟨_, (pss_cons (ps_if (pt_not (pt_chain op_le op_le pe_int (pe_op op_add (pe_fld (pv 0) rfl) (pv 1)) (pe_m0 (ok_size T) hr (pe_fld (pv 0) rfl))))
       (pss_one ps_never)
       pss_nil)
       (pss_cons (ps_fldaug (pv 0) (pv 1) in_add)
       (pss_one (ps_ret (pe_fld (pv 0) rfl))))), ?_⟩
    dsimp only [L2.start, List.map, List.map_cons, List.map_nil, List.append_eq, List.append, List.length_cons, List.length_nil, Nat.reduceAdd, Nat.reduceSub, List.replicate_succ, List.replicate_zero, List.cons_append, List.nil_append, cxOf]
    refine ⟨_, rfl, x, cWa K, dw, _, _, rfl, hw, T.c_Walk, T.n_Walk_here, lkW_here, _, rfl, _, _, rfl, rfl, _, _, rfl, rfl, _, rfl, ?_⟩
    rw [ej, dchain]
    refine iteT ?_
    refine ⟨_, rfl, x, cWa K, dw, _, _, rfl, hw, T.c_Walk, T.n_Walk_over, lkW_over, t, dt, _, rfl, ht, lkT_no (by decide +kernel), t, lo, a, S, top, Tx, rfl, L, X, ti, _, _, rfl, rfl, _, rfl, ?_⟩
    rw [ej, dle, decide_eq_true hj]
    refine iteF ?_
    refine ⟨_, rfl, x, cWa K, dw, _, _, rfl, hw, T.c_Walk, T.n_Walk_here, lkW_here, _, rfl, _, _, rfl, rfl, dw, _, hw, few 2 rfl (by decide), ?_⟩
    rw [ej, put_here]
    refine ⟨_, rfl, x, cWa K, dw, _, _, rfl, upd_same, T.c_Walk, T.n_Walk_here, lkW_here, k _ But.upd ⟨dw, upd_same⟩⟩
theorem scStep : FnScope ["self", "many", "end", "found", "at"] ["self", "many"] (defScope s_Walk_step) := ⟨rfl, rfl, rfl, by decide +kernel, rfl, by decide +kernel, by decide +kernel⟩
theorem dx_step (T : Txt K mg) : DX P w K mg base 3 d_Walk_step.name d_Walk_step.qual (defArgs s_Walk_step) (defBody s_Walk_step) (defScope s_Walk_step) (d_Walk_step.dvs K) (d_Walk_step.kws K) (He.fAd K d_Walk_step.at_) ["self", "many"] (spStep K) := by
  refine dx_mk T.f_Walk_step scStep (fun vs H Q E h => ?_) (fun cdv A outer s H vs Q E hr h => ?_)
  · obtain ⟨_, _, _, _, _, _, _, _, _, rfl, _⟩ := h
    rfl
  · obtain ⟨x, t, lo, a, S, top, Tx, i, m, rfl, ⟨dw, hw⟩, L, X, ti, t18, m200, him, k⟩ := h
    obtain ⟨dt, ht⟩ := id X
    refine ⟨_, (pss_cons (ps_if (pt_not (pt_chain op_le op_le pe_int (pv 1) (pe_gi T.i_STEP)))
       (pss_one ps_never)
       pss_nil)
       (pss_cons (ps_set (i := 2) scStep.nd rfl (Or.inl rfl) (pe_callB (call_min2 rfl) (by rfl) T.b_min (by decide +kernel) (pa_cons (pe_op op_add (pe_fld (pv 0) rfl) (pv 1)) (pa_cons (pe_m0 (ok_size T) hr (pe_fld (pv 0) rfl)) pa_nil))))
       (pss_cons (ps_set (i := 3) scStep.nd rfl (Or.inl rfl) (L2.pe_join pe_str (pe_lc (own := [("at", 4)]) (g := (gName 4)) (tt := tYes) (te := (tMeth (cTx K) "letter" (spLetter K) [] E0 (tFld K (tVar 0) "over") (tCons (tVar 4) tNil))) rfl scStep.nd (pi_range2 (by rfl) T.b_range (pa_cons (pe_fld (pv 0) rfl) (pa_cons (pv 2) pa_nil))) (blkOk_by (N := ["self", "many", "end", "found", "at"]) (sc := defScope s_Walk_step) (by decide +kernel)) (fun _ _ _ _ _ => (pg_name (i := 4) scStep.nd rfl (Or.inl rfl))) (fun _ _ _ _ _ => pts_nil) (fun _ _ _ _ _ => (pe_m (ok_letter T) hr (pe_fld (pv 0) rfl) (pa_cons (pv 4) pa_nil))))))
       (pss_cons (ps_fld (pv 0) (pv 2) rfl)
       (pss_one (ps_ret (pv 3))))))), ?_⟩
    dsimp only [L2.start, List.map, List.map_cons, List.map_nil, List.append_eq, List.append, List.length_cons, List.length_nil, Nat.reduceAdd, Nat.reduceSub, List.replicate_succ, List.replicate_zero, List.cons_append, List.nil_append, cxOf]
    refine ⟨_, rfl, _, _, rfl, rfl, _, rfl, ?_⟩
    rw [dchain]
    refine iteT ?_
    refine ⟨_, _, rfl, rfl, _, rfl, ?_⟩
    rw [decide_eq_true (by omega : (m : Int) ≤ 200)]
    refine iteF ?_
    dsimp only [tNext]
    refine ⟨_, rfl, x, cWa K, dw, _, _, rfl, hw, T.c_Walk, T.n_Walk_here, lkW_here, _, rfl, _, _, rfl, rfl, _, rfl, x, cWa K, dw, _, _, rfl, hw, T.c_Walk, T.n_Walk_over, lkW_over, t, dt, _, rfl, ht, lkT_no (by decide +kernel), t, lo, a, S, top, Tx, rfl, L, X, ti, _, _, rfl, ?_⟩
    have em : V.int (if (Tx.length : Int) < (i : Int) + (m : Int) then (Tx.length : Int) else (i : Int) + (m : Int)) = iV (i + m) := by
      rw [if_neg (by omega)]
      rfl
    rw [em]
    dsimp only [gName, wipe, List.set_cons_succ, List.set_cons_zero]
    rw [big18] at t18
    refine ⟨⟨_, rfl⟩, _, rfl, x, cWa K, dw, _, _, rfl, hw, T.c_Walk, T.n_Walk_here, lkW_here, _, rfl, _, _, rfl, ⟨by omega, by omega, by omega, by omega⟩, fun d hd => ?_⟩
    have en : (((i + m : Nat) : Int) - (i : Int)).toNat = m := by omega
    rw [en]
    refine lc_range (fun j H' => Same H H' ∧ H' d = some (.lst ((((Tx.drop i).take j).map fun c => wd [c]).map V.str))) ⟨same_upd hd, upd_same⟩ ?_ ?_
    · rintro j H1 hj ⟨s1, hd1⟩
      have hij : i + j < Tx.length := by omega
      have hc : Tx[i + j]? = some (Tx[i + j]'hij) := List.getElem?_eq_getElem hij
      generalize Tx[i + j]'hij = c at hc
      refine ⟨rfl, _, rfl, x, cWa K, dw, _, _, rfl, s1 _ _ hw, T.c_Walk, T.n_Walk_over, lkW_over, t, dt, _, rfl, s1 _ _ ht, lkT_no (by decide +kernel), _, rfl, t, lo, a, S, top, Tx, i + j, c, rfl, L.same s1, X.same s1, ti, hc, fun H2 s2 => ?_⟩
      have hd2 := s2 _ _ hd1
      refine ⟨_, hd2, ?_, fun b u e => ?_, ?_⟩
      · rw [List.length_map, List.length_map, List.length_take, sizeLine_eq]
        omega
      · rw [upd_ne (ne_of_none e hd)]
        exact s2 _ _ (s1 _ _ e)
      · have : (Tx.drop i)[j]? = some c := by rw [List.getElem?_drop]; exact hc
        rw [upd_same, take_snoc this, List.map_append, List.map_append]
        rfl
    · rintro H1 ⟨s1, hd1⟩
      refine ⟨_, d, _, rfl, rfl, .inl (SqL.of hd1), ?_, ?_⟩
      · rw [List.length_map]
        have : ∀ l : List Nat, ((l.map fun c => wd [c]).map (·.length)).sum = l.length := by
          intro l
          induction l with
          | nil => rfl
          | cons y r ih =>
            rw [List.map_cons, List.map_cons, List.sum_cons, ih, wd_len]
            show 1 + r.length = r.length + 1
            omega
        rw [this, List.length_take]
        show _ + _ * 0 ≤ _
        omega
      · have ej : Txt.join "" (((Tx.drop i).take m).map fun c => wd [c]) = wd ((Tx.drop i).take m) := by
          have : (((Tx.drop i).take m).map fun c => wd [c]) = (((Tx.drop i).take m).map fun c => [c]).map wd := by rw [List.map_map]; rfl
          rw [this, join_wd]
          congr 1
          have : ∀ l : List Nat, (l.map fun c => [c]).flatten = l := by
            intro l
            induction l with
            | nil => rfl
            | cons y r ih => rw [List.map_cons, List.flatten_cons, ih]; rfl
          exact this _
        rw [ej]
        dsimp only [gName, wipe, List.set_cons_succ, List.set_cons_zero]
        have hw1 := s1 _ _ hw
        refine ⟨_, rfl, _, rfl, x, _, dw, _, rfl, hw1, T.c_Walk, T.n_Walk_here, few 2 rfl (by decide), _, rfl, ?_⟩
        rw [put_here]
        exact k _ ((But.of s1).trans But.upd) ⟨dw, upd_same⟩
theorem ok_step (T : Txt K mg) : MX P w K mg base 3 (cWa K) "step" (spStep K) [] := by
  obtain ⟨fd, F, ok⟩ := (dx_step (P := P) (w := w) (base := base) T).ex
  obtain ⟨ds, v, b⟩ := F.binds1 (ps := ["self", "many"]) 2 1 (fun z => nomatch z) rfl (fun Ta kV doc pm an cdv ct us its l1 l2 => by
    match us, its, l1, l2 with
    | [u1, u2], [i1], _, _ => exact ⟨_, rfl, rfl⟩)
  exact ⟨_, fd, _, ds, T.c_Walk, T.m_Walk_step, ok, b, v⟩
end
end VT
set_option Elab.async false
set_option linter.all false
set_option maxRecDepth 100000
set_option maxHeartbeats 4000000
/-! Walk: rest_of_run, seek. -/
namespace VT
open PySem PySem.Spec PyProof.Rows L2
open VW (Sto Node Ok Le F2 cnt Loc)
section
variable {P : Program} {w : World} {K : PySem.W.Frag} {mg : Str → Option Value} {base : Heap}
theorem scRest : FnScope ["self", "start", "many", "found"] ["self"] (defScope s_Walk_rest_of_run) := ⟨rfl, rfl, rfl, by decide +kernel, rfl, by decide +kernel, by decide +kernel⟩
theorem ok_rest (T : Txt K mg) : MX P w K mg base 4 (cWa K) "rest_of_run" (spRest K) [] := by
  refine mx_mk T.f_Walk_rest_of_run T.c_Walk T.m_Walk_rest_of_run scRest (fun _ _ _ _ _ _ us hl => match us, hl with | [_], _ => rfl) (fun vs H Q E h => ?_) (fun cdv A outer s H vs Q E hr h => ?_)
  · obtain ⟨_, _, _, _, _, _, _, rfl, _⟩ := h
    rfl
  · obtain ⟨x, t, lo, a, S, n, i, rfl, WA, L, X, hn, hi, k1, k2⟩ := h
    obtain ⟨dw, hw⟩ := id WA
    obtain ⟨dt, ht⟩ := id X
    have cl := VW.cont_len L.st.ok hn
    have ti : TopIs S (n : Int) (S.cont n) := .inr ⟨n, rfl, hn, rfl⟩
    refine ⟨_, (pss_cons (ps_if (pt_cmpR op_eq (pe_fld (pv 0) rfl) (pe_m0 (ok_size T) hr (pe_fld (pv 0) rfl)) (nomark _))
       (pss_one (ps_ret pe_non))
       pss_nil)
       (pss_cons (ps_asg (pe_f (ok_run T) hr (pa_cons (pe_fld (pv 0) rfl) (pa_cons (pe_fld (pv 0) rfl) pa_nil))) (pg_tup rfl (pgs_cons (pg_name (i := 1) scRest.nd rfl (Or.inl rfl)) (pgs_cons (pg_name (i := 2) scRest.nd rfl (Or.inl rfl)) pgs_nil))))
       (pss_cons (ps_set (i := 3) scRest.nd rfl (Or.inl rfl) (pe_tup (pa_cons (pe_m (ok_letter T) hr (pe_fld (pv 0) rfl) (pa_cons (pe_fld (pv 0) rfl) pa_nil)) (pa_cons (pe_op op_sub (pe_op op_add (pv 1) (pv 2)) (pe_fld (pv 0) rfl)) pa_nil))))
       (pss_cons (ps_fld (pv 0) (pe_op op_add (pv 1) (pv 2)) rfl)
       (pss_one (ps_ret (pv 3))))))), ?_⟩
    dsimp only [L2.start, List.map, List.map_cons, List.map_nil, List.append_eq, List.append, List.length_cons, List.length_nil, Nat.reduceAdd, Nat.reduceSub, List.replicate_succ, List.replicate_zero, List.cons_append, List.nil_append, cxOf]
    refine ⟨_, rfl, x, cWa K, dw, _, _, rfl, hw, T.c_Walk, T.n_Walk_here, lkW_here, _, rfl, x, cWa K, dw, _, _, rfl, hw, T.c_Walk, T.n_Walk_over, lkW_over, t, dt, _, rfl, ht, lkT_no (by decide +kernel), t, lo, a, S, n, _, rfl, L, X, ti, rfl, _, rfl, ?_⟩
    rw [dec_iV, cl]
    by_cases z : i = S.size n
    · rw [decide_eq_true z]
      refine iteT ?_
      exact k1 z H fun _ _ e => e
    · rw [decide_eq_false z]
      refine iteF ?_
      dsimp only [tNext]
      have lt : i < S.size n := by omega
      have hc : (S.cont n)[i]? = some ((S.cont n)[i]'(by rw [cl]; exact lt)) := List.getElem?_eq_getElem _
      generalize (S.cont n)[i]'(by rw [cl]; exact lt) = c at hc
      refine ⟨_, rfl, x, cWa K, dw, _, _, rfl, hw, T.c_Walk, T.n_Walk_over, lkW_over, _, rfl, x, cWa K, dw, _, _, rfl, hw, T.c_Walk, T.n_Walk_here, lkW_here, t, lo, a, S, n, i, rfl, L, X, hn, lt, fun H1 nm st p lc s1 hp => ?_⟩
      refine ⟨p, _, rfl, SqT.of hp, rfl, _, _, rfl, _, _, rfl, rfl, ?_⟩
      dsimp only [gName, wipe, List.set_cons_succ, List.set_cons_zero]
      have hw1 := s1 _ _ hw
      have h1 : st ≤ i ∧ i < st + S.size nm := by
        obtain ⟨A, B, e, q1, q2, q3⟩ := lc
        exact ⟨q2, q3⟩
      refine ⟨_, rfl, x, cWa K, dw, _, _, rfl, hw1, T.c_Walk, T.n_Walk_over, lkW_over, t, dt, _, rfl, s1 _ _ ht, lkT_no (by decide +kernel), _, rfl, x, cWa K, dw, _, _, rfl, hw1, T.c_Walk, T.n_Walk_here, lkW_here, t, lo, a, S, n, _, i, c, rfl, L.same s1, X.same s1, ti, hc, fun H2 s2 => ?_⟩
      have hw2 := s2 _ _ hw1
      refine ⟨_, rfl, _, rfl, _, _, rfl, rfl, _, rfl, x, cWa K, dw, _, _, rfl, hw2, T.c_Walk, T.n_Walk_here, lkW_here, _, _, rfl, rfl, z2, fun q hq => ?_⟩
      have ed : V.int ((st : Int) + (S.size nm : Int) - (i : Int)) = iV (st + S.size nm - i) := congrArg V.int (by omega)
      dsimp only []
      rw [ed]
      have s3 := same_upd (o := .tup [V.str (ltr c), iV (st + S.size nm - i)]) hq
      have hq3 : upd H2 q (.tup [V.str (ltr c), iV (st + S.size nm - i)]) q = some (.tup [V.str (ltr c), iV (st + S.size nm - i)]) := upd_same
      generalize upd H2 q (.tup [V.str (ltr c), iV (st + S.size nm - i)]) = H3 at s3 hq3
      have hw3 := s3 _ _ hw2
      dsimp only [gName, wipe, List.set_cons_succ, List.set_cons_zero]
      refine ⟨_, rfl, _, rfl, _, _, rfl, rfl, _, rfl, x, _, dw, _, rfl, hw3, T.c_Walk, T.n_Walk_here, few 2 rfl (by decide), _, rfl, ?_⟩
      rw [put_here]
      have qx : q ≠ x := (ne_of_none hw2 hq).symm
      refine k2 lt nm st c _ q lc hc ((But.of ((s1.trans s2).trans s3)).trans But.upd) ⟨dw, upd_same⟩ ?_
      rw [upd_ne qx]
      exact hq3
theorem scSeek : FnScope ["self", "word", "found"] ["self", "word"] (defScope s_Walk_seek) := ⟨rfl, rfl, rfl, by decide +kernel, rfl, by decide +kernel, by decide +kernel⟩
theorem ok_seek (T : Txt K mg) : MX P w K mg base 9 (cWa K) "seek" (spSeek K) [] := by
  refine mx_mk T.f_Walk_seek T.c_Walk T.m_Walk_seek scSeek (fun _ _ _ _ _ _ us hl => match us, hl with | [_, _], _ => rfl) (fun vs H Q E h => ?_) (fun cdv A outer s H vs Q E hr h => ?_)
  · obtain ⟨_, _, _, _, _, _, _, _, _, _, _, rfl, _⟩ := h
    rfl
  · obtain ⟨x, t, lo, a, S, n, p, q, i, R, g, rfl, p8, q8, WA, L, X, hn, FW, hi, nx, k⟩ := h
    obtain ⟨dw, hw⟩ := id WA
    obtain ⟨fd, gg, ok, kp, kb⟩ := kb_next (P := P) (w := w) (base := base) T
    refine ⟨_, (pss_cons (ps_set (i := 2) scSeek.nd rfl (Or.inl rfl) (pe_callN ok hr (by rfl) T.g_next_standing kp kb pass0 (pa_cons (pe_fld (pv 0) rfl) (pa_cons (pv 1) pa_nil)) (pk_cons (pe_fld (pv 0) rfl) pk_nil)))
       (pss_cons (ps_if (pt_cmpR op_notN (pv 2) pe_non (nomark _))
       (pss_one (ps_fld (pv 0) (pv 2) rfl))
       pss_nil)
       (pss_one (ps_ret (pv 2))))), ?_⟩
    dsimp only [L2.start, List.map, List.map_cons, List.map_nil, List.append_eq, List.append, List.length_cons, List.length_nil, Nat.reduceAdd, Nat.reduceSub, List.replicate_succ, List.replicate_zero, List.cons_append, List.nil_append, cxOf]
    refine ⟨_, rfl, x, cWa K, dw, _, _, rfl, hw, T.c_Walk, T.n_Walk_over, lkW_over, _, rfl, _, rfl, x, cWa K, dw, _, _, rfl, hw, T.c_Walk, T.n_Walk_here, lkW_here, rfl, rfl, t, lo, a, S, n, p, q, i, R, g, rfl, p8, q8, L, X, hn, FW, hi, nx, fun H1 s1 => ?_⟩
    have hw1 := s1 _ _ hw
    dsimp only [gName, wipe, List.set_cons_succ, List.set_cons_zero]
    refine ⟨_, rfl, rfl, _, rfl, ?_⟩
    cases g with
    | none =>
      refine iteF ?_
      exact ⟨_, rfl, k H1 (But.of s1) (WA.same s1)⟩
    | some g =>
      refine iteT ?_
      refine ⟨_, rfl, _, rfl, x, _, dw, _, rfl, hw1, T.c_Walk, T.n_Walk_here, few 2 rfl (by decide), ?_⟩
      rw [put_here]
      exact ⟨_, rfl, k _ ((But.of s1).trans But.upd) ⟨dw, upd_same⟩⟩
end
end VT
set_option Elab.async false
set_option linter.all false
set_option maxRecDepth 100000
set_option maxHeartbeats 4000000
/-! _law_same. -/
namespace VT
open PySem PySem.Spec PyProof.Rows L2
open VW (F2)
theorem walk_zipT {K : PySem.W.Frag} {a b : Addr} {xs ys : List V} {n : Nat} (hn : n = min xs.length ys.length) : Walk (RZ.ItzT K a b) n (fun H => SqT K H a xs ∧ SqT K H b ys) (YPair (fun i => xs[i]?) (fun i => ys[i]?)) := by
  refine ⟨fun i H hi q => ⟨xs, ys, xs[i]'(by omega), ys[i]'(by omega), q.1, q.2, by simp, by simp⟩, fun H q => ⟨xs, ys, q.1, q.2, by omega⟩, fun i H x H' hi q y => ?_⟩
  obtain ⟨T, x', y', e, hT, eH, h1, h2⟩ := y
  exact ⟨T, x', y', e, hT, eH, h1 _ q.1, h2 _ q.2⟩
inductive Scal : V → Prop
  | int (i : Int) : Scal (.int i)
  | str (z : Str) : Scal (.str z)
  | non : Scal .non
def tyN : V → String
  | .int _ => "int"
  | .str _ => "str"
  | _ => "NoneType"
def isS : V → Bool
  | .str _ => true
  | _ => false
theorem kb_int_str : kitB "int" "str" = some false := by decide +kernel
theorem kb_int_bool : kitB "int" "bool" = some false := by decide +kernel
theorem kb_int_list : kitB "int" "list" = some false := by decide +kernel
theorem kb_int_tuple : kitB "int" "tuple" = some false := by decide +kernel
theorem kb_int_int : kitB "int" "int" = some true := by decide +kernel
theorem kb_str_str : kitB "str" "str" = some true := by decide +kernel
theorem kb_str_bool : kitB "str" "bool" = some false := by decide +kernel
theorem kb_str_list : kitB "str" "list" = some false := by decide +kernel
theorem kb_str_tuple : kitB "str" "tuple" = some false := by decide +kernel
theorem kb_str_int : kitB "str" "int" = some false := by decide +kernel
theorem kb_NoneType_str : kitB "NoneType" "str" = some false := by decide +kernel
theorem kb_NoneType_bool : kitB "NoneType" "bool" = some false := by decide +kernel
theorem kb_NoneType_list : kitB "NoneType" "list" = some false := by decide +kernel
theorem kb_NoneType_tuple : kitB "NoneType" "tuple" = some false := by decide +kernel
theorem kb_NoneType_int : kitB "NoneType" "int" = some false := by decide +kernel
section
variable {K : PySem.W.Frag} {H : Hp} {x : V}
theorem Scal.ty (h : Scal x) : TyX K H x (.type (tyN x)) := by
  cases h with
  | int i => exact .base (.int i)
  | str z => exact .base (.str z)
  | non => exact .base .non
theorem Scal.k_str (h : Scal x) : PySem.W.kitOne K (.type (tyN x)) (.type "str") = some (isS x) := by
  cases h with
  | int i => exact kit_ty kb_int_str
  | str z => exact kit_ty kb_str_str
  | non => exact kit_ty kb_NoneType_str
theorem Scal.k_bool (h : Scal x) : PySem.W.kitOne K (.type (tyN x)) (.type "bool") = some false := by
  cases h with
  | int i => exact kit_ty kb_int_bool
  | str z => exact kit_ty kb_str_bool
  | non => exact kit_ty kb_NoneType_bool
theorem Scal.k_seq (h : Scal x) : PySem.W.kitAny K (.type (tyN x)) [.type "list", .type "tuple"] = some false := by
  refine kitAny_cons (b := false) ?_ (fun _ => kitAny_cons (b := false) ?_ (fun _ => kitAny_nil) (fun z => nomatch z)) (fun z => nomatch z)
  · cases h with
    | int i => exact kit_ty kb_int_list
    | str z => exact kit_ty kb_str_list
    | non => exact kit_ty kb_NoneType_list
  · cases h with
    | int i => exact kit_ty kb_int_tuple
    | str z => exact kit_ty kb_str_tuple
    | non => exact kit_ty kb_NoneType_tuple
theorem Scal.k_val (h : Scal x) (hn : x ≠ .non) : PySem.W.kitAny K (.type (tyN x)) [.type "int", .type "str"] = some true := by
  cases h with
  | int i => exact kitAny_cons (b := true) (kit_ty kb_int_int) (fun z => nomatch z) (fun _ => rfl)
  | str z => exact kitAny_cons (b := false) (kit_ty kb_str_int) (fun _ => kitAny_cons (b := true) (kit_ty kb_str_str) (fun z => nomatch z) (fun _ => rfl)) (fun z => nomatch z)
  | non => exact absurd rfl hn
theorem k_listL : PySem.W.kitOne K (.type "list") (.type "list") = some true := kit_ty (by decide +kernel)
theorem k_listT : PySem.W.kitOne K (.type "list") (.type "tuple") = some false := kit_ty (by decide +kernel)
theorem k_tupL : PySem.W.kitOne K (.type "tuple") (.type "list") = some false := kit_ty (by decide +kernel)
theorem k_tupT : PySem.W.kitOne K (.type "tuple") (.type "tuple") = some true := kit_ty (by decide +kernel)
theorem k_seqL : PySem.W.kitAny K (.type "list") [.type "list", .type "tuple"] = some true := kitAny_cons (b := true) k_listL (fun z => nomatch z) (fun _ => rfl)
theorem k_seqT : PySem.W.kitAny K (.type "tuple") [.type "list", .type "tuple"] = some true := kitAny_cons (b := false) k_tupL (fun _ => kitAny_cons (b := true) k_tupT (fun z => nomatch z) (fun _ => rfl)) (fun z => nomatch z)
end
theorem isi_p : Paired ClsV [.ty "list", .ty "tuple"] [.type "list", .type "tuple"] := .cons (.ty _) (.cons (.ty _) .nil)
theorem isi_q : Paired ClsV [.ty "int", .ty "str"] [.type "int", .type "str"] := .cons (.ty _) (.cons (.ty _) .nil)
/-- equal: scalars; tuples of scalars; lists of such -/
def Eq0 (x y : V) : Prop := Scal x ∧ x = y
def Eq1 (H : Hp) (x y : V) : Prop := ∃ a b xs, x = .ref a ∧ y = .ref b ∧ H a = some (.tup xs) ∧ H b = some (.tup xs) ∧ (∀ v ∈ xs, Scal v) ∧ xs.length ≤ 1000
def Eq2 (H : Hp) (x y : V) : Prop := ∃ a b xs ys, x = .ref a ∧ y = .ref b ∧ H a = some (.lst xs) ∧ H b = some (.lst ys) ∧ F2 (fun u v => Eq0 u v ∨ Eq1 H u v) xs ys ∧ xs.length ≤ 1000
def spSame0 : Sp := fun vs H Q _ => ∃ x y, vs = [x, y] ∧ Eq0 x y ∧ ∀ H', Same H H' → Q (.bl true) H'
def spSame1 : Sp := fun vs H Q _ => ∃ x y, vs = [x, y] ∧ Eq1 H x y ∧ ∀ H', Same H H' → Q (.bl true) H'
def spSame2 : Sp := fun vs H Q _ => ∃ x y, vs = [x, y] ∧ Eq2 H x y ∧ ∀ H', Same H H' → Q (.bl true) H'
def spOr (sp sp' : Sp) : Sp := fun vs H Q E => sp vs H Q E ∨ sp' vs H Q E
section
variable {P : Program} {w : World} {K : PySem.W.Frag} {mg : Str → Option Value} {base : Heap}
theorem fx_or {k j : Nat} {f : Addr} {fd : FuncData} {ps : List Str} {sp sp' : Sp} (F : FnOk P w K mg base CX0 k f fd ps sp) (G : FnOk P w K mg base CX0 j f fd ps sp') (h : k ≤ j) : FnOk P w K mg base CX0 j f fd ps (spOr sp sp') :=
  ⟨fun vs H Q E q => q.elim (F.len vs H Q E) (G.len vs H Q E), fun A outer s H args us vs Q E hr he hb hv hs => hs.elim (fun z => (F.mono h).run A outer s H args us vs Q E hr he hb hv z) fun z => G.run A outer s H args us vs Q E hr he hb hv z⟩
theorem scSame : FnScope ["_law_found", "_law_due", "_law_one", "_law_other"] ["_law_found", "_law_due"] (defScope s_law_same) := ⟨rfl, rfl, rfl, by decide +kernel, rfl, by decide +kernel, by decide +kernel⟩
abbrev sameB (f fd : Prop) : Prop := f ∧ fd
/-- the def, for a promise -/
def SameX (P : Program) (w : World) (K : PySem.W.Frag) (mg : Str → Option Value) (base : Heap) (k : Nat) (sp : Sp) : Prop := ∀ fd, FunD K d_law_same.name d_law_same.qual (defArgs s_law_same) (defBody s_law_same) (defScope s_law_same) (d_law_same.dvs K) (d_law_same.kws K) (He.fAd K d_law_same.at_) fd → FnOk P w K mg base CX0 k (He.fAd K d_law_same.at_) fd ["_law_found", "_law_due"] sp
theorem SameX.fx (T : Txt K mg) {k : Nat} {sp : Sp} (s : SameX P w K mg base k sp) : FX P w K mg base k "_law_same" sp [] := by
  obtain ⟨fd, F⟩ := T.f_law_same
  exact ⟨_, fd, _, [], s fd F, T.g_law_same, F.kp, F.bindsN (fun _ _ _ _ _ _ us hl => match us, hl with | [_, _], _ => rfl), .nil⟩
theorem same0 (T : Txt K mg) (Z : FX P w K mg base 0 "_law_same" (fun _ _ _ _ => False) []) : SameX P w K mg base 1 spSame0 := by
  intro fd F
  refine fn_mk F scSame (fun vs H Q E h => ?_) (fun cdv A outer s H vs Q E hr h => ?_)
  · obtain ⟨_, _, rfl, _⟩ := h
    rfl
  · obtain ⟨x, _, rfl, ⟨sx, rfl⟩, k⟩ := h
    refine ⟨_, (pss_cons (ps_if (pt_val (pe_callB call_isiT (by rfl) T.b_isinstance (by decide +kernel) (pa_cons (pv 1) (pa_cons (pe_tup (pa_cons (pe_bltn (v := .ty "list") (by rfl) T.b_list (by decide +kernel) rfl) (pa_cons (pe_bltn (v := .ty "tuple") (by rfl) T.b_tuple (by decide +kernel) rfl) pa_nil))) pa_nil))))
       (pss_cons (ps_if (PW.pt (pw_or (pt_cmpR op_ne (pe_callB call_isi (by rfl) T.b_isinstance (by decide +kernel) (pa_cons (pv 1) (pa_cons (pe_bltn (v := .ty "list") (by rfl) T.b_list (by decide +kernel) rfl) pa_nil))) (pe_callB call_isi (by rfl) T.b_isinstance (by decide +kernel) (pa_cons (pv 0) (pa_cons (pe_bltn (v := .ty "list") (by rfl) T.b_list (by decide +kernel) rfl) pa_nil))) (nomark _)) (pw_or1 (pt_cmpR op_ne (pe_callB call_isi (by rfl) T.b_isinstance (by decide +kernel) (pa_cons (pv 1) (pa_cons (pe_bltn (v := .ty "tuple") (by rfl) T.b_tuple (by decide +kernel) rfl) pa_nil))) (pe_callB call_isi (by rfl) T.b_isinstance (by decide +kernel) (pa_cons (pv 0) (pa_cons (pe_bltn (v := .ty "tuple") (by rfl) T.b_tuple (by decide +kernel) rfl) pa_nil))) (nomark _)))))
       (pss_one (ps_ret pe_bl))
       pss_nil)
       (pss_cons (ps_if (pt_cmpR op_ne (pe_callB call_len_seq (by rfl) T.b_len PySem.boot_len (pa_cons (pv 0) pa_nil)) (pe_callB call_len_seq (by rfl) T.b_len PySem.boot_len (pa_cons (pv 1) pa_nil)) (nomark _))
       (pss_one (ps_ret pe_bl))
       pss_nil)
       (pss_one (ps_ret (pe_cmpR op_notIn_seq pe_bl (pe_lc (own := [("_law_one", 2), ("_law_other", 3)]) (g := (gTup K 2 (gCons (gName 2) (gCons (gName 3) gNil)))) (tt := tYes) rfl scSame.nd (RZ.pi_zipA (by rfl) T.b_zip (pa_cons (pv 0) (pa_cons (pv 1) pa_nil))) (blkOk_by (N := ["_law_found", "_law_due", "_law_one", "_law_other"]) (sc := defScope s_law_same) (by decide +kernel)) (fun _ _ _ _ _ => (pg_tup rfl (pgs_cons (pg_name (i := 2) scSame.nd rfl (Or.inl rfl)) (pgs_cons (pg_name (i := 3) scSame.nd rfl (Or.inl rfl)) pgs_nil)))) (fun _ _ _ _ _ => pts_nil) (fun _ _ _ _ _ => (pe_f Z hr (pa_cons (pv 2) (pa_cons (pv 3) pa_nil))))) (by rfl))))))
       pss_nil)
       (pss_cons (ps_if (pt_cmpR op_isN (pv 1) pe_non (nomark _))
       (pss_one (ps_ret (pe_cmpR op_isN (pv 0) pe_non (nomark _))))
       pss_nil)
       (pss_cons (ps_if (PW.pt (pw_or (pt_cmpR op_ne (pe_callB call_isi (by rfl) T.b_isinstance (by decide +kernel) (pa_cons (pv 1) (pa_cons (pe_bltn (v := .ty "str") (by rfl) T.b_str (by decide +kernel) rfl) pa_nil))) (pe_callB call_isi (by rfl) T.b_isinstance (by decide +kernel) (pa_cons (pv 0) (pa_cons (pe_bltn (v := .ty "str") (by rfl) T.b_str (by decide +kernel) rfl) pa_nil))) (nomark _)) (pw_or1 (pt_cmpR op_ne (pe_callB call_isi (by rfl) T.b_isinstance (by decide +kernel) (pa_cons (pv 1) (pa_cons (pe_bltn (v := .ty "bool") (by rfl) T.b_bool (by decide +kernel) rfl) pa_nil))) (pe_callB call_isi (by rfl) T.b_isinstance (by decide +kernel) (pa_cons (pv 0) (pa_cons (pe_bltn (v := .ty "bool") (by rfl) T.b_bool (by decide +kernel) rfl) pa_nil))) (nomark _)))))
       (pss_one (ps_ret pe_bl))
       pss_nil)
       (pss_one (ps_ret (pe_and (pe_callB call_isiT (by rfl) T.b_isinstance (by decide +kernel) (pa_cons (pv 0) (pa_cons (pe_tup (pa_cons (pe_bltn (v := .ty "int") (by rfl) T.b_int (by decide +kernel) rfl) (pa_cons (pe_bltn (v := .ty "str") (by rfl) T.b_str (by decide +kernel) rfl) pa_nil))) pa_nil))) (pe_one (pe_cmpR op_eq (pv 0) (pv 1) (nomark _))))))))), ?_⟩
    dsimp only [L2.start, List.map, List.map_cons, List.map_nil, List.append_eq, List.append, List.length_cons, List.length_nil, Nat.reduceAdd, Nat.reduceSub, List.replicate_succ, List.replicate_zero, List.cons_append, List.nil_append, cxOf]
    -- not a list, not a tuple
    refine ⟨_, rfl, z2, fun tp htp => ⟨x, tp, _, _, _, _, rfl, upd_same, isi_p, sx.ty, sx.k_seq, _, rfl, ?_⟩⟩
    have s1 := same_upd (o := .tup [V.ty "list", V.ty "tuple"]) htp
    generalize upd H tp (.tup [V.ty "list", V.ty "tuple"]) = H1 at s1
    refine iteF ?_
    refine ⟨_, rfl, rfl, _, rfl, ?_⟩
    by_cases xn : x = .non
    · subst xn
      refine iteT ?_
      exact ⟨_, rfl, rfl, k H1 s1⟩
    · rw [decide_eq_false xn]
      refine iteF ?_
      dsimp only [tNext]
      have nn : ∀ b : Bool, (!decide (V.bl b = V.bl b)) = false := fun b => by cases b <;> rfl
      refine ⟨_, rfl, x, _, _, _, _, rfl, .ty _, sx.ty, sx.k_str, _, rfl, x, _, _, _, _, rfl, .ty _, sx.ty, sx.k_str, rfl, _, rfl, ?_⟩
      rw [nn]
      refine iteF ?_
      refine ⟨_, rfl, x, _, _, _, _, rfl, .ty _, sx.ty, sx.k_bool, _, rfl, x, _, _, _, _, rfl, .ty _, sx.ty, sx.k_bool, rfl, _, rfl, ?_⟩
      rw [nn]
      refine iteF ?_
      dsimp only [tNext]
      refine ⟨_, rfl, z2, fun tq htq => ⟨x, tq, _, _, _, _, rfl, upd_same, isi_q, sx.ty, sx.k_val xn, ?_⟩⟩
      have s2 := same_upd (o := .tup [V.ty "int", V.ty "str"]) htq
      refine ⟨_, rfl, iteT ⟨_, rfl, _, rfl, ?_, ?_⟩⟩
      · cases sx <;> rfl
      · rw [decide_eq_true rfl]
        exact k _ (s1.trans s2)
theorem flat_rep (n : Nat) : ((List.replicate n true).map V.bl).all flatV = true := by
  rw [List.all_eq_true]
  intro x hx
  obtain ⟨b, _, rfl⟩ := List.mem_map.mp hx
  rfl
theorem in_rep {n : Nat} : (if true = true then !inV (V.bl false) ((List.replicate n true).map V.bl) else inV (V.bl false) ((List.replicate n true).map V.bl)) = true := by
  rw [if_pos rfl]
  have : inV (V.bl false) ((List.replicate n true).map V.bl) = false := by
    unfold inV
    rw [List.any_eq_false]
    intro x hx
    obtain ⟨b, hb, rfl⟩ := List.mem_map.mp hx
    rw [List.eq_of_mem_replicate hb]
    decide
  rw [this]
  rfl
theorem same1 (T : Txt K mg) (Z0 : FX P w K mg base 1 "_law_same" spSame0 []) : SameX P w K mg base 2 spSame1 := by
  intro fd F
  refine fn_mk F scSame (fun vs H Q E h => ?_) (fun cdv A outer s H vs Q E hr h => ?_)
  · obtain ⟨_, _, rfl, _⟩ := h
    rfl
  · obtain ⟨x, y, rfl, e, k⟩ := h
    refine ⟨_, (pss_cons (ps_if (pt_val (pe_callB call_isiT (by rfl) T.b_isinstance (by decide +kernel) (pa_cons (pv 1) (pa_cons (pe_tup (pa_cons (pe_bltn (v := .ty "list") (by rfl) T.b_list (by decide +kernel) rfl) (pa_cons (pe_bltn (v := .ty "tuple") (by rfl) T.b_tuple (by decide +kernel) rfl) pa_nil))) pa_nil))))
       (pss_cons (ps_if (PW.pt (pw_or (pt_cmpR op_ne (pe_callB call_isi (by rfl) T.b_isinstance (by decide +kernel) (pa_cons (pv 1) (pa_cons (pe_bltn (v := .ty "list") (by rfl) T.b_list (by decide +kernel) rfl) pa_nil))) (pe_callB call_isi (by rfl) T.b_isinstance (by decide +kernel) (pa_cons (pv 0) (pa_cons (pe_bltn (v := .ty "list") (by rfl) T.b_list (by decide +kernel) rfl) pa_nil))) (nomark _)) (pw_or1 (pt_cmpR op_ne (pe_callB call_isi (by rfl) T.b_isinstance (by decide +kernel) (pa_cons (pv 1) (pa_cons (pe_bltn (v := .ty "tuple") (by rfl) T.b_tuple (by decide +kernel) rfl) pa_nil))) (pe_callB call_isi (by rfl) T.b_isinstance (by decide +kernel) (pa_cons (pv 0) (pa_cons (pe_bltn (v := .ty "tuple") (by rfl) T.b_tuple (by decide +kernel) rfl) pa_nil))) (nomark _)))))
       (pss_one (ps_ret pe_bl))
       pss_nil)
       (pss_cons (ps_if (pt_cmpR op_ne (pe_callB call_len_seq (by rfl) T.b_len PySem.boot_len (pa_cons (pv 0) pa_nil)) (pe_callB call_len_seq (by rfl) T.b_len PySem.boot_len (pa_cons (pv 1) pa_nil)) (nomark _))
       (pss_one (ps_ret pe_bl))
       pss_nil)
       (pss_one (ps_ret (pe_cmpR op_notIn_seq pe_bl (pe_lc (own := [("_law_one", 2), ("_law_other", 3)]) (g := (gTup K 2 (gCons (gName 2) (gCons (gName 3) gNil)))) (tt := tYes) rfl scSame.nd (RZ.pi_zipA (by rfl) T.b_zip (pa_cons (pv 0) (pa_cons (pv 1) pa_nil))) (blkOk_by (N := ["_law_found", "_law_due", "_law_one", "_law_other"]) (sc := defScope s_law_same) (by decide +kernel)) (fun _ _ _ _ _ => (pg_tup rfl (pgs_cons (pg_name (i := 2) scSame.nd rfl (Or.inl rfl)) (pgs_cons (pg_name (i := 3) scSame.nd rfl (Or.inl rfl)) pgs_nil)))) (fun _ _ _ _ _ => pts_nil) (fun _ _ _ _ _ => (pe_f Z0 hr (pa_cons (pv 2) (pa_cons (pv 3) pa_nil))))) (by rfl))))))
       pss_nil)
       (pss_cons (ps_if (pt_cmpR op_isN (pv 1) pe_non (nomark _))
       (pss_one (ps_ret (pe_cmpR op_isN (pv 0) pe_non (nomark _))))
       pss_nil)
       (pss_cons (ps_if (PW.pt (pw_or (pt_cmpR op_ne (pe_callB call_isi (by rfl) T.b_isinstance (by decide +kernel) (pa_cons (pv 1) (pa_cons (pe_bltn (v := .ty "str") (by rfl) T.b_str (by decide +kernel) rfl) pa_nil))) (pe_callB call_isi (by rfl) T.b_isinstance (by decide +kernel) (pa_cons (pv 0) (pa_cons (pe_bltn (v := .ty "str") (by rfl) T.b_str (by decide +kernel) rfl) pa_nil))) (nomark _)) (pw_or1 (pt_cmpR op_ne (pe_callB call_isi (by rfl) T.b_isinstance (by decide +kernel) (pa_cons (pv 1) (pa_cons (pe_bltn (v := .ty "bool") (by rfl) T.b_bool (by decide +kernel) rfl) pa_nil))) (pe_callB call_isi (by rfl) T.b_isinstance (by decide +kernel) (pa_cons (pv 0) (pa_cons (pe_bltn (v := .ty "bool") (by rfl) T.b_bool (by decide +kernel) rfl) pa_nil))) (nomark _)))))
       (pss_one (ps_ret pe_bl))
       pss_nil)
       (pss_one (ps_ret (pe_and (pe_callB call_isiT (by rfl) T.b_isinstance (by decide +kernel) (pa_cons (pv 0) (pa_cons (pe_tup (pa_cons (pe_bltn (v := .ty "int") (by rfl) T.b_int (by decide +kernel) rfl) (pa_cons (pe_bltn (v := .ty "str") (by rfl) T.b_str (by decide +kernel) rfl) pa_nil))) pa_nil))) (pe_one (pe_cmpR op_eq (pv 0) (pv 1) (nomark _))))))))), ?_⟩
    dsimp only [L2.start, List.map, List.map_cons, List.map_nil, List.append_eq, List.append, List.length_cons, List.length_nil, Nat.reduceAdd, Nat.reduceSub, List.replicate_succ, List.replicate_zero, List.cons_append, List.nil_append, cxOf]
    obtain ⟨pa, pb, xs, rfl, rfl, ha, hb, sc, xl⟩ := e
    have nn : ∀ b : Bool, (!decide (V.bl b = V.bl b)) = false := fun b => by cases b <;> rfl
    refine ⟨_, rfl, z2, fun tp htp => ⟨.ref pb, tp, _, _, _, _, rfl, upd_same, isi_p, .base (.tup (same_upd htp _ _ hb)), k_seqT, _, rfl, ?_⟩⟩
    have s1 := same_upd (o := .tup [V.ty "list", V.ty "tuple"]) htp
    generalize upd H tp (.tup [V.ty "list", V.ty "tuple"]) = H1 at s1
    have ha := s1 _ _ ha
    have hb := s1 _ _ hb
    refine iteT ?_
    refine ⟨_, rfl, .ref pb, _, _, _, _, rfl, .ty _, .base (.tup hb), k_tupL, _, rfl, .ref pa, _, _, _, _, rfl, .ty _, .base (.tup ha), k_tupL, rfl, _, rfl, ?_⟩
    rw [nn]
    refine iteF ?_
    refine ⟨_, rfl, .ref pb, _, _, _, _, rfl, .ty _, .base (.tup hb), k_tupT, _, rfl, .ref pa, _, _, _, _, rfl, .ty _, .base (.tup ha), k_tupT, rfl, _, rfl, ?_⟩
    rw [nn]
    refine iteF ?_
    dsimp only [tNext]
    refine ⟨_, rfl, pa, xs, rfl, .inr (SqT.of ha), _, rfl, pb, xs, rfl, .inr (SqT.of hb), rfl, _, rfl, ?_⟩
    have ni : ∀ i : Int, (!decide (V.int i = V.int i)) = false := fun i => by rw [decide_eq_true rfl]; rfl
    rw [ni]
    refine iteF ?_
    dsimp only [tNext]
    refine ⟨_, rfl, _, rfl, pa, pb, xs, xs, rfl, .inr ⟨SqT.of ha, SqT.of hb, fun d hd => ?_⟩⟩
    refine lc_it (walk_zipT (K := K) (xs := xs) (ys := xs) (n := xs.length) (by omega)) (fun i H' => Same H1 H' ∧ H' d = some (.lst ((List.replicate i true).map V.bl))) ⟨same_upd hd, upd_same⟩ (fun i H' _ ⟨s, _⟩ => ⟨SqT.of (s _ _ ha), SqT.of (s _ _ hb)⟩) ?_ ?_
    · rintro i v H2 H3 hi ⟨s2, hd2⟩ ⟨Tp, u1, u2, rfl, hT, rfl, e1, e2⟩
      have : u1 = u2 := by rw [e1] at e2; exact Option.some.inj e2
      subst this
      have sT := same_upd (o := .tup [u1, u1]) hT
      refine ⟨Tp, _, rfl, SqT.of upd_same, rfl, _, _, rfl, _, _, rfl, rfl, rfl, ?_⟩
      refine ⟨_, rfl, _, rfl, u1, u1, rfl, ⟨sc u1 (List.mem_of_getElem? e1), rfl⟩, fun H4 s4 => ⟨_, s4 _ _ (sT _ _ hd2), by rw [List.length_map, List.length_replicate, sizeLine_eq]; omega, fun b u e => ?_, ?_⟩⟩
      · rw [upd_ne (ne_of_none e hd)]
        exact s4 _ _ (sT _ _ (s2 _ _ e))
      · rw [upd_same, List.replicate_succ', List.map_append]
        rfl
    · rintro H2 ⟨s2, hd2⟩
      refine ⟨d, _, rfl, .inl (SqL.of hd2), rfl, flat_rep _, ?_⟩
      rw [in_rep]
      exact k _ (s1.trans s2)
theorem same2 (T : Txt K mg) (Z0 : FX P w K mg base 2 "_law_same" (spOr spSame0 spSame1) []) : SameX P w K mg base 3 spSame2 := by
  intro fd F
  refine fn_mk F scSame (fun vs H Q E h => ?_) (fun cdv A outer s H vs Q E hr h => ?_)
  · obtain ⟨_, _, rfl, _⟩ := h
    rfl
  · obtain ⟨x, y, rfl, e, k⟩ := h
    refine ⟨_, (pss_cons (ps_if (pt_val (pe_callB call_isiT (by rfl) T.b_isinstance (by decide +kernel) (pa_cons (pv 1) (pa_cons (pe_tup (pa_cons (pe_bltn (v := .ty "list") (by rfl) T.b_list (by decide +kernel) rfl) (pa_cons (pe_bltn (v := .ty "tuple") (by rfl) T.b_tuple (by decide +kernel) rfl) pa_nil))) pa_nil))))
       (pss_cons (ps_if (PW.pt (pw_or (pt_cmpR op_ne (pe_callB call_isi (by rfl) T.b_isinstance (by decide +kernel) (pa_cons (pv 1) (pa_cons (pe_bltn (v := .ty "list") (by rfl) T.b_list (by decide +kernel) rfl) pa_nil))) (pe_callB call_isi (by rfl) T.b_isinstance (by decide +kernel) (pa_cons (pv 0) (pa_cons (pe_bltn (v := .ty "list") (by rfl) T.b_list (by decide +kernel) rfl) pa_nil))) (nomark _)) (pw_or1 (pt_cmpR op_ne (pe_callB call_isi (by rfl) T.b_isinstance (by decide +kernel) (pa_cons (pv 1) (pa_cons (pe_bltn (v := .ty "tuple") (by rfl) T.b_tuple (by decide +kernel) rfl) pa_nil))) (pe_callB call_isi (by rfl) T.b_isinstance (by decide +kernel) (pa_cons (pv 0) (pa_cons (pe_bltn (v := .ty "tuple") (by rfl) T.b_tuple (by decide +kernel) rfl) pa_nil))) (nomark _)))))
       (pss_one (ps_ret pe_bl))
       pss_nil)
       (pss_cons (ps_if (pt_cmpR op_ne (pe_callB call_len_seq (by rfl) T.b_len PySem.boot_len (pa_cons (pv 0) pa_nil)) (pe_callB call_len_seq (by rfl) T.b_len PySem.boot_len (pa_cons (pv 1) pa_nil)) (nomark _))
       (pss_one (ps_ret pe_bl))
       pss_nil)
       (pss_one (ps_ret (pe_cmpR op_notIn_seq pe_bl (pe_lc (own := [("_law_one", 2), ("_law_other", 3)]) (g := (gTup K 2 (gCons (gName 2) (gCons (gName 3) gNil)))) (tt := tYes) rfl scSame.nd (RZ.pi_zipA (by rfl) T.b_zip (pa_cons (pv 0) (pa_cons (pv 1) pa_nil))) (blkOk_by (N := ["_law_found", "_law_due", "_law_one", "_law_other"]) (sc := defScope s_law_same) (by decide +kernel)) (fun _ _ _ _ _ => (pg_tup rfl (pgs_cons (pg_name (i := 2) scSame.nd rfl (Or.inl rfl)) (pgs_cons (pg_name (i := 3) scSame.nd rfl (Or.inl rfl)) pgs_nil)))) (fun _ _ _ _ _ => pts_nil) (fun _ _ _ _ _ => (pe_f Z0 hr (pa_cons (pv 2) (pa_cons (pv 3) pa_nil))))) (by rfl))))))
       pss_nil)
       (pss_cons (ps_if (pt_cmpR op_isN (pv 1) pe_non (nomark _))
       (pss_one (ps_ret (pe_cmpR op_isN (pv 0) pe_non (nomark _))))
       pss_nil)
       (pss_cons (ps_if (PW.pt (pw_or (pt_cmpR op_ne (pe_callB call_isi (by rfl) T.b_isinstance (by decide +kernel) (pa_cons (pv 1) (pa_cons (pe_bltn (v := .ty "str") (by rfl) T.b_str (by decide +kernel) rfl) pa_nil))) (pe_callB call_isi (by rfl) T.b_isinstance (by decide +kernel) (pa_cons (pv 0) (pa_cons (pe_bltn (v := .ty "str") (by rfl) T.b_str (by decide +kernel) rfl) pa_nil))) (nomark _)) (pw_or1 (pt_cmpR op_ne (pe_callB call_isi (by rfl) T.b_isinstance (by decide +kernel) (pa_cons (pv 1) (pa_cons (pe_bltn (v := .ty "bool") (by rfl) T.b_bool (by decide +kernel) rfl) pa_nil))) (pe_callB call_isi (by rfl) T.b_isinstance (by decide +kernel) (pa_cons (pv 0) (pa_cons (pe_bltn (v := .ty "bool") (by rfl) T.b_bool (by decide +kernel) rfl) pa_nil))) (nomark _)))))
       (pss_one (ps_ret pe_bl))
       pss_nil)
       (pss_one (ps_ret (pe_and (pe_callB call_isiT (by rfl) T.b_isinstance (by decide +kernel) (pa_cons (pv 0) (pa_cons (pe_tup (pa_cons (pe_bltn (v := .ty "int") (by rfl) T.b_int (by decide +kernel) rfl) (pa_cons (pe_bltn (v := .ty "str") (by rfl) T.b_str (by decide +kernel) rfl) pa_nil))) pa_nil))) (pe_one (pe_cmpR op_eq (pv 0) (pv 1) (nomark _))))))))), ?_⟩
    dsimp only [L2.start, List.map, List.map_cons, List.map_nil, List.append_eq, List.append, List.length_cons, List.length_nil, Nat.reduceAdd, Nat.reduceSub, List.replicate_succ, List.replicate_zero, List.cons_append, List.nil_append, cxOf]
    obtain ⟨pa, pb, xs, ys, rfl, rfl, ha, hb, sc, xl⟩ := e
    have yl : ys.length = xs.length := sc.len.symm
    have nn : ∀ b : Bool, (!decide (V.bl b = V.bl b)) = false := fun b => by cases b <;> rfl
    refine ⟨_, rfl, z2, fun tp htp => ⟨.ref pb, tp, _, _, _, _, rfl, upd_same, isi_p, .base (.lst (same_upd htp _ _ hb)), k_seqL, _, rfl, ?_⟩⟩
    have s1 := same_upd (o := .tup [V.ty "list", V.ty "tuple"]) htp
    generalize upd H tp (.tup [V.ty "list", V.ty "tuple"]) = H1 at s1
    have ha := s1 _ _ ha
    have hb := s1 _ _ hb
    refine iteT ?_
    refine ⟨_, rfl, .ref pb, _, _, _, _, rfl, .ty _, .base (.lst hb), k_listL, _, rfl, .ref pa, _, _, _, _, rfl, .ty _, .base (.lst ha), k_listL, rfl, _, rfl, ?_⟩
    rw [nn]
    refine iteF ?_
    refine ⟨_, rfl, .ref pb, _, _, _, _, rfl, .ty _, .base (.lst hb), k_listT, _, rfl, .ref pa, _, _, _, _, rfl, .ty _, .base (.lst ha), k_listT, rfl, _, rfl, ?_⟩
    rw [nn]
    refine iteF ?_
    dsimp only [tNext]
    refine ⟨_, rfl, pa, xs, rfl, .inl (SqL.of ha), _, rfl, pb, ys, rfl, .inl (SqL.of hb), rfl, _, rfl, ?_⟩
    rw [yl]
    have ni : ∀ i : Int, (!decide (V.int i = V.int i)) = false := fun i => by rw [decide_eq_true rfl]; rfl
    rw [ni]
    refine iteF ?_
    dsimp only [tNext]
    refine ⟨_, rfl, _, rfl, pa, pb, xs, ys, rfl, .inl ⟨SqL.of ha, SqL.of hb, fun d hd => ?_⟩⟩
    refine lc_it (walk_zip (K := K) (xs := xs) (ys := ys) (n := xs.length) (by omega)) (fun i H' => Same H1 H' ∧ H' d = some (.lst ((List.replicate i true).map V.bl))) ⟨same_upd hd, upd_same⟩ (fun i H' _ ⟨s, _⟩ => ⟨SqL.of (s _ _ ha), SqL.of (s _ _ hb)⟩) ?_ ?_
    · rintro i v H2 H3 hi ⟨s2, hd2⟩ ⟨Tp, u1, u2, rfl, hT, rfl, e1, e2⟩
      obtain ⟨u3, e3, q⟩ := sc.get i u1 e1
      have e2 : ys[i]? = some u2 := e2
      have : u3 = u2 := by rw [e3] at e2; exact Option.some.inj e2
      subst this
      have sT := same_upd (o := .tup [u1, u3]) hT
      refine ⟨Tp, _, rfl, SqT.of upd_same, rfl, _, _, rfl, _, _, rfl, rfl, rfl, ?_⟩
      have fin : ∀ H4, Same (upd H2 Tp (.tup [u1, u3])) H4 → ∃ acc, H4 d = some (.lst acc) ∧ acc.length < sizeLine ∧ Same H1 (upd H4 d (.lst (acc ++ [V.bl true]))) ∧ upd H4 d (.lst (acc ++ [V.bl true])) d = some (.lst ((List.replicate (i + 1) true).map V.bl)) := fun H4 s4 => by
        refine ⟨_, s4 _ _ (sT _ _ hd2), by rw [List.length_map, List.length_replicate, sizeLine_eq]; omega, fun b u e => ?_, ?_⟩
        · rw [upd_ne (ne_of_none e hd)]
          exact s4 _ _ (sT _ _ (s2 _ _ e))
        · rw [upd_same, List.replicate_succ', List.map_append]
          rfl
      refine ⟨_, rfl, _, rfl, ?_⟩
      rcases q with q | q
      · exact .inl ⟨u1, u3, rfl, q, fin⟩
      · obtain ⟨a1, b1, zs, f1, f2, f3, f4, f5, f6⟩ := q
        exact .inr ⟨u1, u3, rfl, ⟨a1, b1, zs, f1, f2, sT _ _ (s2 _ _ (s1 _ _ f3)), sT _ _ (s2 _ _ (s1 _ _ f4)), f5, f6⟩, fin⟩
    · rintro H2 ⟨s2, hd2⟩
      refine ⟨d, _, rfl, .inl (SqL.of hd2), rfl, flat_rep _, ?_⟩
      rw [in_rep]
      exact k _ (s1.trans s2)
theorem sameZ : SameX P w K mg base 0 (fun _ _ _ _ => False) := fun fd F => ⟨fun _ _ _ _ h => h.elim, fun _ _ _ _ _ _ _ _ _ _ _ _ _ h => h.elim⟩
theorem ok_same0 (T : Txt K mg) : FX P w K mg base 1 "_law_same" spSame0 [] := (same0 T (sameZ.fx T)).fx T
theorem ok_same2 (T : Txt K mg) : FX P w K mg base 3 "_law_same" spSame2 [] := by
  have h0 : SameX P w K mg base 1 spSame0 := same0 T (sameZ.fx T)
  have h1 : SameX P w K mg base 2 spSame1 := same1 T (h0.fx T)
  have h01 : SameX P w K mg base 2 (spOr spSame0 spSame1) := fun fd F => fx_or (h0 fd F) (h1 fd F) (by decide)
  exact (same2 T (h01.fx T)).fx T
end
end VT
set_option Elab.async false
set_option linter.all false
set_option maxRecDepth 100000
set_option maxHeartbeats 4000000
/-! The law's own defs: bag, pull, word. -/
namespace VT
open PySem PySem.Spec PyProof.Rows L2
open VW (F2 Sto)
structure BagAt (H : Hp) (b cl : Addr) : Prop where
  ex : ∃ (cs : List Int) (i s : Int), H b = some (.lst [.ref cl, .int i, .int s]) ∧ H cl = some (.lst (cs.map V.int)) ∧ cs ≠ [] ∧ (∀ c ∈ cs, 0 ≤ c) ∧ 0 ≤ i ∧ 0 ≤ s
theorem BagAt.ne {H : Hp} {b cl : Addr} (h : BagAt H b cl) : b ≠ cl := by
  obtain ⟨cs, i, s, h1, h2, _⟩ := h.ex
  refine ne_of h1 h2 ?_
  intro z
  injection z with z
  cases cs with
  | nil => cases z
  | cons c r => rw [List.map_cons] at z; injection z with z; cases z
/-- all stands but the bag -/
def Oth (b cl : Addr) (H H' : Hp) : Prop := ∀ x u, x ≠ b → x ≠ cl → H x = some u → H' x = some u
theorem Oth.of {b cl : Addr} {H H' : Hp} (s : Same H H') : Oth b cl H H' := fun x u _ _ e => s x u e
theorem Oth.trans {b cl : Addr} {H H1 H2 : Hp} (s : Oth b cl H H1) (t : Oth b cl H1 H2) : Oth b cl H H2 := fun x u n m e => t x u n m (s x u n m e)
theorem BagAt.same {b cl : Addr} {H H' : Hp} (h : BagAt H b cl) (s : Same H H') : BagAt H' b cl := let ⟨cs, i, z, h1, h2, h3⟩ := h.ex; ⟨cs, i, z, s _ _ h1, s _ _ h2, h3⟩
theorem BagAt.upd {b cl d : Addr} {H : Hp} {o : HO} (h : BagAt H b cl) (n : d ≠ b) (m : d ≠ cl) : BagAt (L2.upd H d o) b cl := let ⟨cs, i, z, h1, h2, h3⟩ := h.ex; ⟨cs, i, z, by rw [upd_ne n.symm]; exact h1, by rw [upd_ne m.symm]; exact h2, h3⟩
theorem BagAt.fresh {b cl d : Addr} {H : Hp} (h : BagAt H b cl) (n : H d = none) : d ≠ b ∧ d ≠ cl := let ⟨cs, i, z, h1, h2, h3⟩ := h.ex; ⟨(ne_of_none h1 n).symm, (ne_of_none h2 n).symm⟩
def spBag (K : PySem.W.Frag) : Sp := fun vs H Q _ => ∃ (l : Addr) (ns : List Int), vs = [.ref l] ∧ SqL K H l (ns.map V.int) ∧ ∀ H' b cl, Same H H' → BagAt H' b cl → Q (.ref b) H'
def spPull : Sp := fun vs H Q _ => ∃ (b cl : Addr) (lot : Nat), vs = [.ref b, iV lot] ∧ BagAt H b cl ∧ 1 ≤ lot ∧ lot ≤ 10 ^ 18 ∧ ∀ H' v, v < lot → BagAt H' b cl → Oth b cl H H' → Q (iV v) H'
def spWord : Sp := fun vs H Q _ => ∃ (b cl : Addr) (m : Nat), vs = [.ref b, iV m] ∧ BagAt H b cl ∧ m ≤ 1000 ∧ ∀ H' ns, ns.length ≤ m → (∀ x ∈ ns, x < 8) → BagAt H' b cl → Oth b cl H H' → Q (.str (wd ns)) H'
section
variable {P : Program} {w : World} {K : PySem.W.Frag} {mg : Str → Option Value} {base : Heap}
theorem scBag : FnScope ["_law_script", "_law_cell"] ["_law_script"] (defScope s_law_bag) := ⟨rfl, rfl, rfl, by decide +kernel, rfl, by decide +kernel, by decide +kernel⟩
theorem ok_lbag (T : Txt K mg) : FX P w K mg base 1 "_law_bag" (spBag K) [] := by
  refine fx_mk T.f_law_bag T.g_law_bag scBag (fun _ _ _ _ _ _ us hl => match us, hl with | [_], _ => rfl) (fun vs H Q E h => ?_) (fun cdv A outer s H vs Q E hr h => ?_)
  · obtain ⟨_, _, rfl, _⟩ := h
    rfl
  · obtain ⟨l, ns, rfl, hl, k⟩ := h
    refine ⟨_, (pss_one (ps_ret (pe_lst (pa_cons (pe_op op_cat (pe_lc (own := [("_law_cell", 1)]) (g := (gName 1)) (tt := tYes) rfl scBag.nd (pi_list (pe_slice sl_list (pv 0) po_none (po_some pe_int))) (blkOk_by (N := ["_law_script", "_law_cell"]) (sc := defScope s_law_bag) (by decide +kernel)) (fun _ _ _ _ _ => (pg_name (i := 1) scBag.nd rfl (Or.inl rfl))) (fun _ _ _ _ _ => pts_nil) (fun _ _ _ _ _ => (pe_callB call_abs (by rfl) T.b_abs (by decide +kernel) (pa_cons (pv 1) pa_nil)))) (pe_lst (pa_cons pe_int pa_nil))) (pa_cons pe_int (pa_cons pe_int pa_nil)))))), ?_⟩
    dsimp only [L2.start, List.map, List.map_cons, List.map_nil, List.append_eq, List.append, List.length_cons, List.length_nil, Nat.reduceAdd, Nat.reduceSub, List.replicate_succ, List.replicate_zero, List.cons_append, List.nil_append, cxOf]
    have ec : cutV (ns.map V.int) none (some 63) = (ns.take 63).map V.int := by
      unfold cutV
      show ((ns.map V.int).drop 0).take (min 63 _ - 0) = _
      rw [List.drop_zero, Nat.sub_zero, List.length_map, ← List.map_take]
      congr 1
      rcases Nat.le_total 63 ns.length with z | z
      · rw [Nat.min_eq_left z]
      · rw [Nat.min_eq_right z, List.take_length, List.take_of_length_le z]
    refine ⟨_, rfl, _, rfl, l, _, rfl, hl, fun p hp => ?_⟩
    rw [ec]
    have s1 := same_upd (o := .lst ((ns.take 63).map V.int)) hp
    have hp1 : upd H p (.lst ((ns.take 63).map V.int)) p = some (.lst ((ns.take 63).map V.int)) := upd_same
    have l63 : (ns.take 63).length ≤ 63 := by rw [List.length_take]; omega
    generalize ns.take 63 = ms at *
    generalize upd H p (.lst (ms.map V.int)) = H1 at s1 hp1
    refine ⟨p, rfl, ⟨_, SqL.of hp1⟩, fun d hd => ?_⟩
    refine lc_list (K := K) (a := p) (xs := ms.map V.int) (fun i H' => Same H1 H' ∧ H' d = some (.lst (((ms.take i).map fun c => if c < 0 then -c else c).map V.int))) ⟨same_upd hd, upd_same⟩ (fun i H' _ ⟨s, _⟩ => SqL.of (s _ _ hp1)) ?_ ?_
    · rintro i v H2 hi ⟨s2, hd2⟩
      obtain ⟨c, hc, rfl⟩ : ∃ c, ms[i]? = some c ∧ v = V.int c := by
        rw [List.getElem?_map] at hi
        cases e : ms[i]? with
        | none => rw [e] at hi; cases hi
        | some c => rw [e] at hi; exact ⟨c, rfl, (Option.some.inj hi).symm⟩
      have hil : i < ms.length := (List.getElem?_eq_some_iff.mp hc).1
      refine ⟨rfl, _, rfl, c, rfl, _, hd2, ?_, fun b u e => ?_, ?_⟩
      · rw [List.length_map, List.length_map, List.length_take, sizeLine_eq]
        omega
      · rw [upd_ne (ne_of_none e hd)]
        exact s2 _ _ e
      · rw [upd_same, take_snoc hc, List.map_append, List.map_append]
        rfl
    · rintro H2 ⟨s2, hd2⟩
      rw [List.length_map, List.take_length] at hd2
      refine ⟨z1, fun o ho => ?_⟩
      have s3 := same_upd (o := .lst [V.int 1]) ho
      refine ⟨d, o, _, _, rfl, rfl, s3 _ _ hd2, upd_same, ?_, fun cl hcl => ?_⟩
      · rw [List.length_map, List.length_map, sizeLine_eq]
        show _ + 1 ≤ _
        omega
      refine ⟨z3, fun b hb => ?_⟩
      have e1 : ((ms.map fun c => if c < 0 then -c else c).map V.int) ++ [V.int 1] = ((ms.map fun c => if c < 0 then -c else c) ++ [1]).map V.int := by rw [List.map_append]; rfl
      rw [e1] at hb ⊢
      have s4 := same_upd (o := .lst (((ms.map fun c => if c < 0 then -c else c) ++ [1]).map V.int)) hcl
      have s5 := same_upd (o := .lst [V.ref cl, V.int 0, V.int 0]) hb
      refine k _ b cl ((((s1.trans s2).trans s3).trans s4).trans s5) ⟨_, 0, 0, upd_same, s5 _ _ upd_same, by simp, fun c hc => ?_, by decide, by decide⟩
      rcases List.mem_append.mp hc with q | q
      · obtain ⟨z, _, rfl⟩ := List.mem_map.mp q
        split <;> omega
      · have : c = 1 := by simpa using q
        omega
theorem ixN_nat' {cs : List Int} {j : Nat} (h : j < cs.length) : ixN (cs.map V.int).length (j : Int) = some j := by
  unfold ixN
  rw [List.length_map, if_pos (by omega)]
  simp [h]
theorem scPull : FnScope ["_law_bag_here", "_law_lot", "_law_cells", "_law_spot_here", "_law_cell"] ["_law_bag_here", "_law_lot"] (defScope s_law_pull) := ⟨rfl, rfl, rfl, by decide +kernel, rfl, by decide +kernel, by decide +kernel⟩
theorem ok_pull (T : Txt K mg) : FX P w K mg base 1 "_law_pull" spPull [] := by
  refine fx_mk T.f_law_pull T.g_law_pull scPull (fun _ _ _ _ _ _ us hl => match us, hl with | [_, _], _ => rfl) (fun vs H Q E h => ?_) (fun cdv A outer s H vs Q E hr h => ?_)
  · obtain ⟨_, _, _, rfl, _⟩ := h
    rfl
  · obtain ⟨b, cl, lot, rfl, B, l1, l2, k⟩ := h
    refine ⟨_, (pss_cons (ps_set (i := 2) scPull.nd rfl (Or.inl rfl) (pe_ix ix_list (pv 0) pe_int (fun _ _ => rfl)))
       (pss_cons (ps_set (i := 3) scPull.nd rfl (Or.inl rfl) (pe_op op_mod (pe_ix ix_list (pv 0) pe_int (fun _ _ => rfl)) (pe_callB call_len_seq (by rfl) T.b_len PySem.boot_len (pa_cons (pv 2) pa_nil))))
       (pss_cons (ps_set (i := 4) scPull.nd rfl (Or.inl rfl) (pe_ix ix_list (pv 2) (pv 3) (fun _ _ => rfl)))
       (pss_cons (ps_if (pt_cmpR op_ge (pv 4) (pe_op op_pow pe_int pe_int) (nomark _))
       (pss_cons (ps_asg (pe_op op_fdivW (pv 4) (pv 1)) (pg_sub (pv 2) (pv 3) set_list))
       (pss_one (ps_ret (pe_op op_mod (pv 4) (pv 1)))))
       pss_nil)
       (pss_cons (ps_asg (pe_op op_add (pe_ix ix_list (pv 0) pe_int (fun _ _ => rfl)) pe_int) (pg_sub (pv 0) pe_int set_list))
       (pss_cons (ps_asg (pe_op op_mod (pe_op op_mul (pe_op op_add (pe_op op_add (pe_ix ix_list (pv 0) pe_int (fun _ _ => rfl)) (pe_op op_mod (pv 4) pe_int)) pe_int) pe_int) pe_int) (pg_sub (pv 0) pe_int set_list))
       (pss_one (ps_ret (pe_op op_mod (pe_op op_fdiv (pe_ix ix_list (pv 0) pe_int (fun _ _ => rfl)) pe_int) (pv 1)))))))))), ?_⟩
    dsimp only [L2.start, List.map, List.map_cons, List.map_nil, List.append_eq, List.append, List.length_cons, List.length_nil, Nat.reduceAdd, Nat.reduceSub, List.replicate_succ, List.replicate_zero, List.cons_append, List.nil_append, cxOf]
    obtain ⟨cs, i, z, hb, hcl, cne, cpos, ip, zp⟩ := id B.ex
    have bne := B.ne
    have clen : 0 < cs.length := List.length_pos_iff.mpr cne
    refine ⟨_, rfl, b, _, _, .ref cl, rfl, rfl, SqL.of hb, rfl, ?_⟩
    dsimp only [gName, wipe, List.set_cons_succ, List.set_cons_zero]
    refine ⟨_, rfl, b, _, _, .int i, rfl, rfl, SqL.of hb, rfl, _, rfl, cl, _, rfl, .inl (SqL.of hcl), _, _, rfl, rfl, ?_, ?_⟩
    · rw [List.length_map]; omega
    dsimp only [gName, wipe, List.set_cons_succ, List.set_cons_zero]
    have sp1 : 0 ≤ i % (cs.length : Int) := Int.emod_nonneg _ (by omega)
    have sp2 : i % (cs.length : Int) < (cs.length : Int) := Int.emod_lt_of_pos _ (by omega)
    obtain ⟨j, hj⟩ : ∃ j : Nat, i % (cs.length : Int) = j := ⟨(i % (cs.length : Int)).toNat, by omega⟩
    have jl : j < cs.length := by omega
    have hc : cs[j]? = some (cs[j]'jl) := List.getElem?_eq_getElem jl
    have c0 := cpos _ (List.getElem_mem jl)
    generalize cs[j]'jl = c at hc c0
    have eml : (List.map V.int cs).length = cs.length := List.length_map _
    rw [eml, hj]
    have hat : atI (cs.map V.int) (j : Int) = some (V.int c) := atI_nat (by rw [List.getElem?_map, hc]; rfl)
    refine ⟨_, rfl, _, rfl, cl, _, _, .int c, rfl, rfl, SqL.of hcl, hat, ?_⟩
    dsimp only [gName, wipe, List.set_cons_succ, List.set_cons_zero]
    have lp : (0 : Int) < (lot : Int) := by omega
    have out : ∀ x : Int, ∃ v, v < lot ∧ V.int (x % (lot : Int)) = iV v := fun x => by
      have h1 : 0 ≤ x % (lot : Int) := Int.emod_nonneg _ (by omega)
      have h2 : x % (lot : Int) < (lot : Int) := Int.emod_lt_of_pos _ lp
      exact ⟨(x % (lot : Int)).toNat, by omega, congrArg V.int (by omega)⟩
    refine ⟨_, rfl, _, _, rfl, rfl, ⟨by decide, by decide, by decide⟩, _, _, rfl, rfl, _, rfl, ?_⟩
    refine ite2 (fun _ => ?_) (fun _ => ?_)
    · refine ⟨_, rfl, _, rfl, _, _, rfl, rfl, div_ok l1 l2, _, rfl, _, rfl, cl, _, _, _, rfl, rfl, hcl, ixN_nat' jl, ?_⟩
      refine ⟨_, rfl, _, rfl, _, _, rfl, rfl, lp, ?_⟩
      obtain ⟨v, v1, v2⟩ := out c
      show Q (V.int (c % (lot : Int))) _
      rw [v2]
      have es : (List.map V.int cs).set j (V.int (c / (lot : Int))) = (cs.set j (c / (lot : Int))).map V.int := by rw [List.map_set]
      show Q (iV v) (upd H cl (.lst ((List.map V.int cs).set j (V.int (c / (lot : Int))))))
      rw [es]
      refine k _ v v1 ⟨_, i, z, by rw [upd_ne bne]; exact hb, upd_same, ?_, fun d hd => ?_, ip, zp⟩ fun x u n m e => by rw [upd_ne m]; exact e
      · intro y
        have := congrArg List.length y
        rw [List.length_set] at this
        exact cne (List.length_eq_zero_iff.mp this)
      · rcases List.mem_or_eq_of_mem_set hd with q | q
        · exact cpos d q
        · rw [q]
          exact Int.ediv_nonneg c0 (Int.le_of_lt lp)
    · dsimp only [tNext]
      refine ⟨_, rfl, b, _, _, .int i, rfl, rfl, SqL.of hb, rfl, _, _, rfl, rfl, _, rfl, b, _, _, _, rfl, rfl, hb, rfl, ?_⟩
      have hb2 : upd H b (.lst ([V.ref cl, V.int i, V.int z].set 1 (V.int (i + 1)))) b = some (.lst [V.ref cl, V.int (i + 1), V.int z]) := upd_same
      refine ⟨_, rfl, b, _, _, .int z, rfl, rfl, SqL.of hb2, rfl, _, rfl, _, _, rfl, rfl, (by decide : (0 : Int) < 2147483629), _, _, rfl, rfl, _, _, rfl, rfl, _, _, rfl, rfl, .inr ⟨by decide, by decide⟩, _, _, rfl, rfl, (by decide : (0 : Int) < 2147483629), _, rfl, b, _, _, _, rfl, rfl, hb2, rfl, ?_⟩
      refine ⟨_, rfl, b, _, _, _, rfl, rfl, SqL.of upd_same, rfl, _, _, rfl, rfl, ⟨by decide, by decide⟩, _, rfl, _, _, rfl, rfl, lp, ?_⟩
      generalize hz : (z + c % 2147483629 + 77) * 48271 % 2147483629 = z2
      have z2p : 0 ≤ z2 := by rw [← hz]; exact Int.emod_nonneg _ (by decide)
      obtain ⟨v, v1, v2⟩ := out (z2 / 64)
      show Q (V.int (z2 / 64 % (lot : Int))) _
      rw [v2]
      refine k _ v v1 ⟨cs, i + 1, z2, ?_, ?_, cne, cpos, by omega, z2p⟩ fun x u n m e => by rw [upd_ne n, upd_ne n]; exact e
      · rw [upd_same, ← hz]
        rfl
      · rw [upd_ne bne.symm, upd_ne bne.symm]
        exact hcl
theorem join_chars (l : List Nat) : Txt.join "" (l.map fun c => wd [c]) = wd l := by
  have : (l.map fun c => wd [c]) = (l.map fun c => [c]).map wd := by rw [List.map_map]; rfl
  rw [this, join_wd]
  congr 1
  induction l with
  | nil => rfl
  | cons y r ih => rw [List.map_cons, List.flatten_cons, ih (by rw [List.map_map]; rfl)]; rfl
theorem sum_chars : ∀ l : List Nat, ((l.map fun c => wd [c]).map (·.length)).sum = l.length
  | [] => rfl
  | y :: r => by
    rw [List.map_cons, List.map_cons, List.sum_cons, sum_chars r, wd_len]
    show 1 + r.length = r.length + 1
    omega
theorem scWord : FnScope ["_law_bag_here", "_law_most_letters", "_law_width", "_law_k"] ["_law_bag_here", "_law_most_letters"] (defScope s_law_word) := ⟨rfl, rfl, rfl, by decide +kernel, rfl, by decide +kernel, by decide +kernel⟩
theorem widths {v : Nat} (h : v < 4) : ∃ wv : Nat, 1 ≤ wv ∧ wv ≤ 8 ∧ atI [V.int 2, V.int 2, V.int 3, V.int 8] (v : Int) = some (iV wv) := by
  have : v = 0 ∨ v = 1 ∨ v = 2 ∨ v = 3 := by omega
  rcases this with z | z | z | z <;> subst z
  · exact ⟨2, by decide, by decide, rfl⟩
  · exact ⟨2, by decide, by decide, rfl⟩
  · exact ⟨3, by decide, by decide, rfl⟩
  · exact ⟨8, by decide, by decide, rfl⟩
theorem ok_lword (T : Txt K mg) : FX P w K mg base 2 "_law_word" spWord [] := by
  refine fx_mk T.f_law_word T.g_law_word scWord (fun _ _ _ _ _ _ us hl => match us, hl with | [_, _], _ => rfl) (fun vs H Q E h => ?_) (fun cdv A outer s H vs Q E hr h => ?_)
  · obtain ⟨_, _, _, rfl, _⟩ := h
    rfl
  · obtain ⟨b, cl, m, rfl, B, m1, k⟩ := h
    refine ⟨_, (pss_cons (ps_set (i := 2) scWord.nd rfl (Or.inr rfl) (pe_ix ix_list (pe_lst (pa_cons pe_int (pa_cons pe_int (pa_cons pe_int (pa_cons pe_int pa_nil))))) (pe_f (ok_pull T) hr (pa_cons (pv 0) (pa_cons pe_int pa_nil))) (fun _ _ => rfl)))
       (pss_one (ps_ret (L2.pe_join pe_str (pe_lc (own := [("_law_k", 3)]) (g := (gName 3)) (tt := tYes) rfl scWord.nd (pi_range1 (by rfl) T.b_range (pa_cons (pe_f (ok_pull T) hr (pa_cons (pv 0) (pa_cons (pe_op op_add (pv 1) pe_int) pa_nil))) pa_nil)) (blkOk_by (N := ["_law_bag_here", "_law_most_letters", "_law_width", "_law_k"]) (sc := defScope s_law_word) (by decide +kernel)) (fun _ _ _ _ _ => (pg_name (i := 3) scWord.nd rfl (Or.inl rfl))) (fun _ _ _ _ _ => pts_nil) (fun _ _ _ _ _ => (pe_ix ix_str pe_str (pe_f (ok_pull T) hr (pa_cons (pv 0) (pa_cons (pv 2) pa_nil))) (fun _ _ => rfl)))))))), ?_⟩
    dsimp only [L2.start, List.map, List.map_cons, List.map_nil, List.append_eq, List.append, List.length_cons, List.length_nil, Nat.reduceAdd, Nat.reduceSub, List.replicate_succ, List.replicate_zero, List.cons_append, List.nil_append, cxOf]
    refine ⟨z4, fun q hq => ?_⟩
    have s1 := same_upd (o := .lst [V.int 2, V.int 2, V.int 3, V.int 8]) hq
    have hq1 : upd H q (.lst [V.int 2, V.int 2, V.int 3, V.int 8]) q = some (.lst [V.int 2, V.int 2, V.int 3, V.int 8]) := upd_same
    have B1 := B.same s1
    obtain ⟨q2, q3⟩ := B.fresh hq
    generalize upd H q (.lst [V.int 2, V.int 2, V.int 3, V.int 8]) = H1 at s1 hq1 B1
    refine ⟨_, rfl, b, cl, 4, rfl, B1, by decide, by decide, fun H2 v v4 B2 o2 => ?_⟩
    obtain ⟨wv, w1, w8, hw⟩ := widths v4
    refine ⟨q, _, _, iV wv, rfl, rfl, SqL.of (o2 _ _ q2 q3 hq1), hw, ?_⟩
    dsimp only [gName, wipe, List.set_cons_succ, List.set_cons_zero]
    refine ⟨⟨_, rfl⟩, _, rfl, _, rfl, _, _, rfl, rfl, b, cl, m + 1, rfl, B2, by omega, by rw [big18]; omega, fun H3 n n1 B3 o3 => ⟨_, rfl, by omega, by omega, fun d hd => ?_⟩⟩
    obtain ⟨d2, d3⟩ := B3.fresh hd
    refine lc_range (fun j H' => ∃ ns : List Nat, ns.length = j ∧ (∀ x ∈ ns, x < 8) ∧ BagAt H' b cl ∧ Oth b cl H3 H' ∧ H' d = some (.lst ((ns.map fun c => wd [c]).map V.str))) ⟨[], rfl, fun x hx => (nomatch hx), B3.same (same_upd hd), Oth.of (same_upd hd), upd_same⟩ ?_ ?_
    · rintro j H4 hj ⟨ns, nl, n8, B4, o4, hd4⟩
      have hj : j < n := hj
      refine ⟨rfl, _, rfl, _, rfl, b, cl, wv, rfl, B4, w1, by rw [big18]; omega, fun H5 c c1 B5 o5 => ?_⟩
      have hd5 := o5 _ _ d2 d3 hd4
      refine ⟨_, _, _, rfl, rfl, lett_len, lett_at c (by omega), _, hd5, ?_, ns ++ [c], ?_, fun x hx => ?_, B5.upd d2 d3, fun x u n m e => ?_, ?_⟩
      · rw [List.length_map, List.length_map, sizeLine_eq]
        omega
      · rw [List.length_append, nl]
        rfl
      · rcases List.mem_append.mp hx with z | z
        · exact n8 x z
        · have : x = c := by simpa using z
          omega
      · rw [upd_ne (ne_of_none e hd)]
        exact o5 _ _ n m (o4 _ _ n m e)
      · rw [upd_same, List.map_append, List.map_append]
        rfl
    · rintro H4 ⟨ns, nl, n8, B4, o4, hd4⟩
      have nl : ns.length = n := nl
      refine ⟨_, d, _, rfl, rfl, .inl (SqL.of hd4), ?_, ?_⟩
      · rw [sum_chars]
        show _ + _ * 0 ≤ _
        omega
      · rw [join_chars]
        exact k H4 ns (by omega) n8 B4 (((Oth.of s1).trans o2).trans (o3.trans o4))
end
end VT
set_option Elab.async false
set_option linter.all false
set_option maxRecDepth 100000
set_option maxHeartbeats 4000000
/-! The law's own defs: segments, vast_size, vast_letter. -/
namespace VT
open PySem PySem.Spec PyProof.Rows L2
open VW (F2 Sto Le)
abbrev Sg := List Nat × Nat
def SegAt (H : Hp) (x : Addr) (s : Sg) : Prop := H x = some (.tup [.str (wd s.1), iV s.2])
def SegsAt (H : Hp) (l : Addr) (ss : List Sg) : Prop := ∃ as : List Addr, H l = some (.lst (as.map V.ref)) ∧ F2 (SegAt H) as ss
structure SegOk (s : Sg) : Prop where
  l1 : 1 ≤ s.1.length
  l7 : s.1.length ≤ 7
  n8 : ∀ x ∈ s.1, x < 8
  m1 : 1 ≤ s.2
  m16 : s.2 ≤ 10 ^ 16
def segT (s : Sg) : List Nat := rep s.2 s.1
def vastT (ss : List Sg) : List Nat := ss.flatMap segT
theorem segT_len {s : Sg} : (segT s).length = s.1.length * s.2 := by
  unfold segT
  rw [rep_len, Nat.mul_comm]
theorem big16 : (10 : Nat) ^ 16 = 10000000000000000 := by decide
theorem SegOk.small {s : Sg} (h : SegOk s) : 1 ≤ (segT s).length ∧ (segT s).length ≤ 70000000000000000 := by
  rw [segT_len]
  have h1 := Nat.mul_le_mul h.l1 h.m1
  have h2 := Nat.mul_le_mul h.l7 h.m16
  rw [big16] at h2
  omega
theorem vast_small : ∀ {ss : List Sg}, (∀ s ∈ ss, SegOk s) → (vastT ss).length ≤ 70000000000000000 * ss.length
  | [], _ => Nat.le_refl _
  | s :: r, h => by
    have h1 := (h s (by simp)).small
    have h2 := vast_small (ss := r) fun x hx => h x (List.mem_cons_of_mem _ hx)
    show (segT s ++ vastT r).length ≤ _
    rw [List.length_append, List.length_cons]
    omega
theorem SegsAt.same {H H' : Hp} {l : Addr} {ss : List Sg} (h : SegsAt H l ss) (s : Same H H') : SegsAt H' l ss := let ⟨as, h1, h2⟩ := h; ⟨as, s _ _ h1, h2.mono fun x y e => s _ _ e⟩
theorem SegsAt.oth {H H' : Hp} {b cl l : Addr} {ss : List Sg} (h : SegsAt H l ss) (B : BagAt H b cl) (o : Oth b cl H H') (n : l ≠ b) (m : l ≠ cl) : SegsAt H' l ss := by
  obtain ⟨as, h1, h2⟩ := h
  obtain ⟨cs, i, s, b1, b2, _⟩ := B.ex
  exact ⟨as, o _ _ n m h1, h2.mono fun x y e => o _ _ (ne_of e b1 (by intro z; cases z)) (ne_of e b2 (by intro z; cases z)) e⟩
theorem SegsAt.kp {H H' : Hp} {K : PySem.W.Frag} {a : SA} {S : Sto} {l : Addr} {ss : List Sg} (h : SegsAt H l ss) (D : StoreAt K H a S) (k : Kp a H H') (n : l ∉ six a) : SegsAt H' l ss := let ⟨as, h1, h2⟩ := h; ⟨as, k _ _ h1 n, h2.mono fun x y e => D.tup k e⟩
theorem rep_get {n : Nat} {A : List Nat} {s : Nat} (h : s < n * A.length) : (rep n A)[s]? = A[s % A.length]? := by
  have ap : 0 < A.length := by
    rcases Nat.eq_zero_or_pos A.length with z | z
    · rw [z, Nat.mul_zero] at h; omega
    · exact z
  have hd : s / A.length < n := by
    rw [Nat.mul_comm] at h
    exact Nat.div_lt_of_lt_mul h
  have dm := Nat.div_add_mod s A.length
  have ml := Nat.mod_lt s ap
  have e : n = s / A.length + ((n - s / A.length - 1) + 1) := by omega
  have key : ∀ (d m r : Nat), m < A.length → (rep (d + (r + 1)) A)[d * A.length + m]? = A[m]? := by
    intro d m r hm
    rw [rep_add, rep_add', List.getElem?_append_right (by rw [rep_len]; omega), rep_len, show d * A.length + m - d * A.length = m by omega, List.getElem?_append_left hm]
  have := key (s / A.length) (s % A.length) (n - s / A.length - 1) ml
  rw [← e, Nat.mul_comm, dm] at this
  exact this
def spSegs : Sp := fun vs H Q _ => ∃ (b cl : Addr), vs = [.ref b] ∧ BagAt H b cl ∧ ∀ H' l ss, ss ≠ [] → ss.length ≤ 3 → (∀ s ∈ ss, SegOk s) → SegsAt H' l ss → BagAt H' b cl → Oth b cl H H' → H l = none → Q (.ref l) H'
def spVSize : Sp := fun vs H Q _ => ∃ (l : Addr) (ss : List Sg), vs = [.ref l] ∧ SegsAt H l ss ∧ ss.length ≤ 3 ∧ (∀ s ∈ ss, SegOk s) ∧ ∀ H', Same H H' → Q (iV (vastT ss).length) H'
def spVLetter : Sp := fun vs H Q _ => ∃ (l : Addr) (ss : List Sg) (i c : Nat), vs = [.ref l, iV i] ∧ SegsAt H l ss ∧ (∀ s ∈ ss, SegOk s) ∧ (vastT ss)[i]? = some c ∧ Q (.str (wd [c])) H
section
variable {P : Program} {w : World} {K : PySem.W.Frag} {mg : Str → Option Value} {base : Heap}
theorem scSegs : FnScope ["_law_bag_here", "_law_found", "_law_k", "_law_letters"] ["_law_bag_here"] (defScope s_law_segments) := ⟨rfl, rfl, rfl, by decide +kernel, rfl, by decide +kernel, by decide +kernel⟩
theorem lots {v : Nat} (h : v < 3) : ∃ wv : Nat, 1 ≤ wv ∧ wv ≤ 10 ^ 16 ∧ atI [V.int 5, V.int (10 ^ (6 : Int).toNat), V.int (10 ^ (16 : Int).toNat)] (v : Int) = some (iV wv) := by
  have : v = 0 ∨ v = 1 ∨ v = 2 := by omega
  rcases this with z | z | z <;> subst z
  · exact ⟨5, by decide, by decide, rfl⟩
  · exact ⟨10 ^ 6, by decide, by decide, rfl⟩
  · exact ⟨10 ^ 16, by decide, by decide, rfl⟩
theorem ok_lsegs (T : Txt K mg) : FX P w K mg base 3 "_law_segments" spSegs [] := by
  refine fx_mk T.f_law_segments T.g_law_segments scSegs (fun _ _ _ _ _ _ us hl => match us, hl with | [_], _ => rfl) (fun vs H Q E h => ?_) (fun cdv A outer s H vs Q E hr h => ?_)
  · obtain ⟨_, _, rfl, _⟩ := h
    rfl
  · obtain ⟨b, cl, rfl, B, k⟩ := h
    refine ⟨_, (pss_cons (ps_set (i := 1) scSegs.nd rfl (Or.inl rfl) (pe_lst pa_nil))
       (pss_cons (ps_for PassesOwn.never rfl (pi_range1 (by rfl) T.b_range (pa_cons (pe_op op_add pe_int (pe_f (ok_pull T) hr (pa_cons (pv 0) (pa_cons pe_int pa_nil)))) pa_nil)) (pg_name (i := 2) scSegs.nd rfl (Or.inl rfl))
       (pss_cons (ps_set (i := 3) scSegs.nd rfl (Or.inl rfl) (pe_op op_add_str (pe_ix ix_str pe_str (pe_f (ok_pull T) hr (pa_cons (pv 0) (pa_cons pe_int pa_nil))) (fun _ _ => rfl)) (pe_f (ok_lword T) hr (pa_cons (pv 0) (pa_cons pe_int pa_nil)))))
       (pss_one (ps_expr (pe_bm PySem.F.plainAttrs_list PySem.F.slot_list_append PySem.F.type_list_append mt_append (pv 1) (pa_cons (pe_tup (pa_cons (pv 3) (pa_cons (pe_op op_add pe_int (pe_f (ok_pull T) hr (pa_cons (pv 0) (pa_cons (pe_ix ix_list (pe_lst (pa_cons pe_int (pa_cons (pe_op op_pow pe_int pe_int) (pa_cons (pe_op op_pow pe_int pe_int) pa_nil)))) (pe_f (ok_pull T) hr (pa_cons (pv 0) (pa_cons pe_int pa_nil))) (fun _ _ => rfl)) pa_nil)))) pa_nil))) pa_nil))))))
       (pss_one (ps_ret (pv 1))))), ?_⟩
    dsimp only [L2.start, List.map, List.map_cons, List.map_nil, List.append_eq, List.append, List.length_cons, List.length_nil, Nat.reduceAdd, Nat.reduceSub, List.replicate_succ, List.replicate_zero, List.cons_append, List.nil_append, cxOf]
    refine ⟨Nat.zero_le _, fun fd hfd => ?_⟩
    have s1 := same_upd (o := .lst []) hfd
    have hf1 : upd H fd (.lst []) fd = some (.lst []) := upd_same
    have B1 := B.same s1
    obtain ⟨f2, f3⟩ := B.fresh hfd
    generalize upd H fd (.lst []) = H1 at s1 hf1 B1
    dsimp only [gName, wipe, List.set_cons_succ, List.set_cons_zero]
    refine ⟨_, rfl, b, cl, 3, rfl, B1, by decide, by decide, fun H2 v v3 B2 o2 => ⟨_, _, rfl, rfl, _, rfl, by omega, by omega, ?_⟩⟩
    have en : ((1 : Int) + (v : Int)).toNat = v + 1 := by omega
    rw [en]
    refine for_it (walk_range (lo := 0) (n := v + 1)) (fun i σ H' => ∃ (ss : List Sg) (v2 v3 : Option V), σ = [some (.ref b), some (.ref fd), v2, v3] ∧ ss.length = i ∧ (∀ s ∈ ss, SegOk s) ∧ BagAt H' b cl ∧ Oth b cl H H' ∧ SegsAt H' fd ss)
      ⟨[], _, _, rfl, rfl, fun s hs => (nomatch hs), B2, (Oth.of s1).trans o2, ⟨[], o2 _ _ f2 f3 hf1, .nil⟩⟩ (fun _ _ _ _ _ => trivial) ?_ ?_
    · rintro i x σ H3 H4 hi ⟨ss, v2, v3', rfl, sl, so, B3, o3, SA3⟩ ⟨rfl, rfl⟩
      dsimp only [gName, wipe, List.set_cons_succ, List.set_cons_zero]
      -- letters
      refine ⟨_, rfl, b, cl, 3, rfl, B3, by decide, by decide, fun H5 c c3 B5 o5 => ⟨_, _, _, rfl, rfl, lett_len, lett_at c (by omega), _, rfl, b, cl, 6, rfl, B5, by decide, fun H6 ns nl n8 B6 o6 => ⟨_, _, rfl, rfl, ?_, ?_⟩⟩⟩
      · rw [wd_len, sizeLine_eq]
        show 1 + _ ≤ _
        omega
      have ew : V.str (⟨#[c + 97]⟩ ++ wd ns) = V.str (wd (c :: ns)) := congrArg V.str (wd_app (a := [c]) (b := ns))
      rw [ew]
      dsimp only [gName, wipe, List.set_cons_succ, List.set_cons_zero]
      have SA6 : SegsAt H6 fd ss := (SA3.oth B3 o5 f2 f3).oth B5 o6 f2 f3
      obtain ⟨as6, ha6, hF6⟩ := id SA6
      refine ⟨_, rfl, .inl ⟨rfl, _, SqL.of ha6⟩, _, rfl, _, rfl, _, _, rfl, rfl, ⟨by decide, by decide, by decide⟩, _, _, rfl, rfl, ⟨by decide, by decide, by decide⟩, z3, fun q hq => ?_⟩
      obtain ⟨q2, q3⟩ := B6.fresh hq
      have s7 := same_upd (o := .lst [V.int 5, V.int (10 ^ (6 : Int).toNat), V.int (10 ^ (16 : Int).toNat)]) hq
      have hq7 : upd H6 q (.lst [V.int 5, V.int (10 ^ (6 : Int).toNat), V.int (10 ^ (16 : Int).toNat)]) q = some (.lst [V.int 5, V.int (10 ^ (6 : Int).toNat), V.int (10 ^ (16 : Int).toNat)]) := upd_same
      have B7 := B6.same s7
      have SA7 := SA6.same s7
      refine ⟨_, rfl, b, cl, 3, rfl, B7, by decide, by decide, fun H8 v8 v83 B8 o8 => ?_⟩
      obtain ⟨wv, w1, w16, hw⟩ := lots v83
      have SA8 := SA7.oth B7 o8 f2 f3
      refine ⟨q, _, _, iV wv, rfl, rfl, SqL.of (o8 _ _ q2 q3 hq7), hw, b, cl, wv, rfl, B8, w1, by rw [big16] at w16; rw [big18]; omega, fun H9 v9 v9l B9 o9 => ⟨_, _, rfl, rfl, z2, fun t ht => ?_⟩⟩
      have SA9 := SA8.oth B8 o9 f2 f3
      have s10 := same_upd (o := .tup [V.str (wd (c :: ns)), V.int (1 + (v9 : Int))]) ht
      have SA10 := SA9.same s10
      obtain ⟨as, ha, hF⟩ := id SA10
      have B10 := B9.same s10
      have htt : upd H9 t (.tup [V.str (wd (c :: ns)), V.int (1 + (v9 : Int))]) t = some (.tup [V.str (wd (c :: ns)), V.int (1 + (v9 : Int))]) := upd_same
      have oall : Oth b cl H (upd H9 t (.tup [V.str (wd (c :: ns)), V.int (1 + (v9 : Int))])) := ((((o3.trans o5).trans o6).trans (Oth.of s7)).trans (o8.trans o9)).trans (Oth.of s10)
      show ∃ _, _
      generalize upd H9 t (.tup [V.str (wd (c :: ns)), V.int (1 + (v9 : Int))]) = H10 at s10 ha hF B10 htt oall
      have asl : as.length = ss.length := hF.len
      refine ⟨fd, _, _, rfl, rfl, ha, ?_, ss ++ [(c :: ns, v9 + 1)], _, _, rfl, ?_, fun s hs => ?_, B10.upd f2 f3, fun y u n m e => ?_, ⟨as ++ [t], ?_, ?_⟩⟩
      · rw [List.length_map, asl, sizeLine_eq]
        omega
      · rw [List.length_append, sl]
        rfl
      · rcases List.mem_append.mp hs with z | z
        · exact so s z
        · have : s = (c :: ns, v9 + 1) := by simpa using z
          subst this
          refine ⟨Nat.succ_le_succ (Nat.zero_le _), Nat.succ_le_succ nl, fun x hx => ?_, Nat.succ_le_succ (Nat.zero_le _), by show v9 + 1 ≤ _; omega⟩
          rcases List.mem_cons.mp hx with z | z
          · omega
          · exact n8 x z
      · rw [upd_ne (ne_of_none e hfd)]
        exact oall _ _ n m e
      · rw [upd_same, List.map_append]
        rfl
      · have keep : ∀ x s, SegAt H10 x s → SegAt (upd H10 fd (.lst (as.map V.ref ++ [.ref t]))) x s := fun x s e => by
          show upd H10 fd _ x = _
          rw [upd_ne (ne_of (show H10 x = some _ from e) ha (by intro z; cases z))]
          exact e
        refine (hF.mono fun x s e => keep x s e).snoc (keep _ _ ?_)
        show H10 t = _
        rw [htt]
        congr 3
        congr 1
        congr 1
        show 1 + (v9 : Int) = ((v9 + 1 : Nat) : Int)
        omega
    · rintro σ H3 ⟨ss, v2, v3', rfl, sl, so, B3, o3, SA3⟩
      refine ⟨_, rfl, k H3 fd ss ?_ (by omega) so SA3 B3 o3 hfd⟩
      intro z
      rw [z] at sl
      simp at sl
theorem scVSize : FnScope ["_law_segments_here", "_law_letters", "_law_lot"] ["_law_segments_here"] (defScope s_law_vast_size) := ⟨rfl, rfl, rfl, by decide +kernel, rfl, by decide +kernel, by decide +kernel⟩
theorem sum_segs : ∀ ss : List Sg, (ss.map fun s => (((segT s).length : Nat) : Int)).sum = (((vastT ss).length : Nat) : Int)
  | [] => rfl
  | s :: r => by
    rw [List.map_cons, List.sum_cons, sum_segs r]
    show _ = (((segT s ++ vastT r).length : Nat) : Int)
    rw [List.length_append]
    omega
theorem ok_lvsize (T : Txt K mg) : FX P w K mg base 1 "_law_vast_size" spVSize [] := by
  refine fx_mk T.f_law_vast_size T.g_law_vast_size scVSize (fun _ _ _ _ _ _ us hl => match us, hl with | [_], _ => rfl) (fun vs H Q E h => ?_) (fun cdv A outer s H vs Q E hr h => ?_)
  · obtain ⟨_, _, rfl, _⟩ := h
    rfl
  · obtain ⟨l, ss, rfl, SA0, s3, so, k⟩ := h
    refine ⟨_, (pss_one (ps_ret (pe_callB (cr_sum rfl) (by rfl) T.b_sum (by decide +kernel) (pa_cons (pe_lc (own := [("_law_letters", 1), ("_law_lot", 2)]) (g := (gTup K 2 (gCons (gName 1) (gCons (gName 2) gNil)))) (tt := tYes) rfl scVSize.nd (pi_list (pv 0)) (blkOk_by (N := ["_law_segments_here", "_law_letters", "_law_lot"]) (sc := defScope s_law_vast_size) (by decide +kernel)) (fun _ _ _ _ _ => (pg_tup rfl (pgs_cons (pg_name (i := 1) scVSize.nd rfl (Or.inl rfl)) (pgs_cons (pg_name (i := 2) scVSize.nd rfl (Or.inl rfl)) pgs_nil)))) (fun _ _ _ _ _ => pts_nil) (fun _ _ _ _ _ => (pe_op op_mul (pe_callB call_len_str (by rfl) T.b_len PySem.boot_len (pa_cons (pv 1) pa_nil)) (pv 2)))) pa_nil)))), ?_⟩
    dsimp only [L2.start, List.map, List.map_cons, List.map_nil, List.append_eq, List.append, List.length_cons, List.length_nil, Nat.reduceAdd, Nat.reduceSub, List.replicate_succ, List.replicate_zero, List.cons_append, List.nil_append, cxOf]
    obtain ⟨as, ha, hF⟩ := id SA0
    have asl : as.length = ss.length := hF.len
    refine ⟨_, rfl, l, rfl, ⟨_, SqL.of ha⟩, fun d hd => ?_⟩
    refine lc_list (K := K) (a := l) (xs := as.map V.ref) (fun i H' => Same H H' ∧ H' d = some (.lst (((ss.take i).map fun s => (((segT s).length : Nat) : Int)).map V.int))) ⟨same_upd hd, upd_same⟩ (fun i H' _ ⟨s, _⟩ => SqL.of (s _ _ ha)) ?_ ?_
    · rintro i v H2 hi ⟨s2, hd2⟩
      obtain ⟨x, hx, rfl⟩ : ∃ x, as[i]? = some x ∧ v = V.ref x := by
        rw [List.getElem?_map] at hi
        cases e : as[i]? with
        | none => rw [e] at hi; cases hi
        | some x => rw [e] at hi; exact ⟨x, rfl, (Option.some.inj hi).symm⟩
      obtain ⟨s, hs, hxs⟩ := hF.get i x hx
      have hil : i < ss.length := (List.getElem?_eq_some_iff.mp hs).1
      have ok := so s (List.mem_of_getElem? hs)
      have l7 := ok.l7
      have m16 := ok.m16
      rw [big16] at m16
      refine ⟨x, _, rfl, SqT.of (s2 _ _ hxs), rfl, _, _, rfl, _, _, rfl, rfl, rfl, ?_⟩
      refine ⟨_, rfl, wd s.1, rfl, by rw [wd_len, sizeLine_eq]; omega, _, rfl, _, _, rfl, rfl, .inr ⟨by omega, by omega⟩, _, hd2, ?_, fun b u e => ?_, ?_⟩
      · rw [List.length_map, List.length_map, List.length_take, sizeLine_eq]
        omega
      · rw [upd_ne (ne_of_none e hd)]
        exact s2 _ _ e
      · rw [upd_same, take_snoc hs, List.map_append, List.map_append, wd_len, List.map_cons, List.map_nil, List.map_cons, List.map_nil, segT_len]
        rfl
    · rintro H2 ⟨s2, hd2⟩
      rw [List.length_map, asl, List.take_length] at hd2
      refine ⟨d, _, rfl, SqL.of hd2, ?_⟩
      rw [sum_segs]
      exact k H2 s2
theorem scVLetter : FnScope ["_law_segments_here", "_law_spot_here", "_law_letters", "_law_lot"] ["_law_segments_here", "_law_spot_here"] (defScope s_law_vast_letter) := ⟨rfl, rfl, rfl, by decide +kernel, rfl, by decide +kernel, by decide +kernel⟩
theorem ok_lvletter (T : Txt K mg) : FX P w K mg base 1 "_law_vast_letter" spVLetter [] := by
  refine fx_mk T.f_law_vast_letter T.g_law_vast_letter scVLetter (fun _ _ _ _ _ _ us hl => match us, hl with | [_, _], _ => rfl) (fun vs H Q E h => ?_) (fun cdv A outer s H vs Q E hr h => ?_)
  · obtain ⟨_, _, _, _, rfl, _⟩ := h
    rfl
  · obtain ⟨l, ss, i0, c, rfl, SA0, so, hc, k⟩ := h
    refine ⟨_, (pss_cons (ps_for PassesOwn.never rfl (pi_list (pv 0)) (pg_tup rfl (pgs_cons (pg_name (i := 2) scVLetter.nd rfl (Or.inl rfl)) (pgs_cons (pg_name (i := 3) scVLetter.nd rfl (Or.inl rfl)) pgs_nil)))
       (pss_cons (ps_if (pt_cmpR op_lt (pv 1) (pe_op op_mul (pe_callB call_len_str (by rfl) T.b_len PySem.boot_len (pa_cons (pv 2) pa_nil)) (pv 3)) (nomark _))
       (pss_one (ps_ret (pe_ix ix_str (pv 2) (pe_op op_mod (pv 1) (pe_callB call_len_str (by rfl) T.b_len PySem.boot_len (pa_cons (pv 2) pa_nil))) (fun _ _ => rfl))))
       pss_nil)
       (pss_one (ps_set (i := 1) scVLetter.nd rfl (Or.inl rfl) (pe_op op_sub (pv 1) (pe_op op_mul (pe_callB call_len_str (by rfl) T.b_len PySem.boot_len (pa_cons (pv 2) pa_nil)) (pv 3)))))))
       (pss_one (ps_ret pe_str))), ?_⟩
    dsimp only [L2.start, List.map, List.map_cons, List.map_nil, List.append_eq, List.append, List.length_cons, List.length_nil, Nat.reduceAdd, Nat.reduceSub, List.replicate_succ, List.replicate_zero, List.cons_append, List.nil_append, cxOf]
    obtain ⟨as, ha, hF⟩ := id SA0
    have asl : as.length = ss.length := hF.len
    refine ⟨_, rfl, l, rfl, ⟨_, SqL.of ha⟩, for_list (K := K) (a := l) (xs := as.map V.ref) (fun i σ H' => ∃ (sp : Nat) (v2 v3 : Option V), σ = [some (.ref l), some (iV sp), v2, v3] ∧ H' = H ∧ (vastT (ss.drop i))[sp]? = some c)
      ⟨i0, none, none, rfl, rfl, hc⟩ (fun i σ H' _ ⟨_, _, _, _, e, _⟩ => by rw [e]; exact SqL.of ha) ?_ ?_⟩
    · rintro i v σ H2 hi ⟨sp, v2, v3, rfl, rfl, hsp⟩
      obtain ⟨x, hx, rfl⟩ : ∃ x, as[i]? = some x ∧ v = V.ref x := by
        rw [List.getElem?_map] at hi
        cases e : as[i]? with
        | none => rw [e] at hi; cases hi
        | some x => rw [e] at hi; exact ⟨x, rfl, (Option.some.inj hi).symm⟩
      obtain ⟨s, hs, hxs⟩ := hF.get i x hx
      have hil : i < ss.length := (List.getElem?_eq_some_iff.mp hs).1
      have ok := so s (List.mem_of_getElem? hs)
      have l7 := ok.l7
      have l1 := ok.l1
      have m16 := ok.m16
      rw [big16] at m16
      have wl : (wd s.1).length ≤ sizeLine := by rw [wd_len, sizeLine_eq]; omega
      have hxs : H2 x = some (.tup _) := hxs
      refine ⟨x, _, rfl, SqT.of hxs, rfl, _, _, rfl, _, _, rfl, rfl, ?_⟩
      dsimp only [gName, wipe, List.set_cons_succ, List.set_cons_zero]
      have ed : vastT (ss.drop i) = segT s ++ vastT (ss.drop (i + 1)) := by
        have : ss.drop i = s :: ss.drop (i + 1) := by
          have e1 := (List.getElem?_eq_some_iff.mp hs).2
          rw [← e1]
          exact List.drop_eq_getElem_cons hil
        rw [this]
        rfl
      rw [ed] at hsp
      refine ⟨_, rfl, _, rfl, wd s.1, rfl, wl, _, rfl, _, _, rfl, rfl, .inr ⟨by omega, by omega⟩, _, _, rfl, rfl, _, rfl, ?_⟩
      have em : decide ((sp : Int) < ((wd s.1).length : Int) * (s.2 : Int)) = decide (sp < (segT s).length) := by
        rw [wd_len, segT_len]
        exact dlt
      rw [em]
      by_cases lt : sp < (segT s).length
      · rw [decide_eq_true lt]
        refine iteT ?_
        rw [List.getElem?_append_left lt] at hsp
        unfold segT at hsp
        rw [segT_len, Nat.mul_comm] at lt
        rw [rep_get lt] at hsp
        refine ⟨_, rfl, _, rfl, _, rfl, wd s.1, rfl, wl, _, _, rfl, rfl, by rw [wd_len]; omega, _, _, c + 97, rfl, rfl, wl, ?_, k⟩
        rw [wd_len]
        have : ((sp : Int) % ((s.1.length : Nat) : Int)) = ((sp % s.1.length : Nat) : Int) := rfl
        rw [this]
        refine atI_nat ?_
        unfold wd
        rw [List.toList_toArray, List.getElem?_map, hsp]
        rfl
      · rw [decide_eq_false lt]
        refine iteF ?_
        dsimp only [tNext]
        rw [List.getElem?_append_right (by omega)] at hsp
        refine ⟨_, rfl, _, rfl, wd s.1, rfl, wl, _, rfl, _, _, rfl, rfl, .inr ⟨by omega, by omega⟩, _, _, rfl, rfl, sp - (segT s).length, some (.str (wd s.1)), some (iV s.2), ?_, rfl, hsp⟩
        have : V.int ((sp : Int) - ((wd s.1).length : Int) * (s.2 : Int)) = iV (sp - (segT s).length) := by
          rw [wd_len]
          have : (((s.1.length : Nat) : Int) * ((s.2 : Nat) : Int)) = (((segT s).length : Nat) : Int) := by rw [segT_len]; rfl
          rw [this]
          exact congrArg V.int (by omega)
        rw [← this]
        rfl
    · rintro σ H2 ⟨sp, v2, v3, rfl, rfl, hsp⟩
      rw [List.length_map, asl, List.drop_length] at hsp
      simp [vastT] at hsp
end
end VT
set_option Elab.async false
set_option linter.all false
set_option maxRecDepth 100000
set_option maxHeartbeats 4000000
/-! The law's own defs: spot, vast. -/
namespace VT
open PySem PySem.Spec PyProof.Rows L2
open VW (F2 Sto Le)
def spSpot : Sp := fun vs H Q _ => ∃ (b cl l : Addr) (ss : List Sg), vs = [.ref b, .ref l] ∧ BagAt H b cl ∧ SegsAt H l ss ∧ l ≠ b ∧ l ≠ cl ∧ ss ≠ [] ∧ ss.length ≤ 3 ∧ (∀ s ∈ ss, SegOk s) ∧ ∀ H' g, g < (vastT ss).length → BagAt H' b cl → Oth b cl H H' → Q (iV g) H'
def spVast (K : PySem.W.Frag) : Sp := fun vs H Q _ => ∃ (lo l : Addr) (a : SA) (S : Sto) (ss : List Sg), vs = [.ref lo, .ref l] ∧ LW K H lo a S ∧ SegsAt H l ss ∧ l ∉ six a ∧ ss.length ≤ 3 ∧ (∀ s ∈ ss, SegOk s) ∧ S.len + 14100000 ≤ 16777216 ∧ TextK K lo a S H (vastT ss) 13646841 Q
section
variable {P : Program} {w : World} {K : PySem.W.Frag} {mg : Str → Option Value} {base : Heap}
theorem scSpot : FnScope ["_law_bag_here", "_law_segments_here", "_law_size", "_law_way"] ["_law_bag_here", "_law_segments_here"] (defScope s_law_spot) := ⟨rfl, rfl, rfl, by decide +kernel, rfl, by decide +kernel, by decide +kernel⟩
theorem ok_lspot (T : Txt K mg) : FX P w K mg base 2 "_law_spot" spSpot [] := by
  refine fx_mk T.f_law_spot T.g_law_spot scSpot (fun _ _ _ _ _ _ us hl => match us, hl with | [_, _], _ => rfl) (fun vs H Q E h => ?_) (fun cdv A outer s H vs Q E hr h => ?_)
  · obtain ⟨_, _, _, _, rfl, _⟩ := h
    rfl
  · obtain ⟨b, cl, l, ss, rfl, B, SA0, lb, lc, sne, s3, so, k⟩ := h
    refine ⟨_, (pss_cons (ps_set (i := 2) scSpot.nd rfl (Or.inl rfl) (pe_f (ok_lvsize T) hr (pa_cons (pv 1) pa_nil)))
       (pss_cons (ps_set (i := 3) scSpot.nd rfl (Or.inl rfl) (pe_f (ok_pull T) hr (pa_cons (pv 0) (pa_cons pe_int pa_nil))))
       (pss_cons (ps_if (pt_cmpR op_eq (pv 3) pe_int (nomark _))
       (pss_one (ps_ret (pe_f (ok_pull T) hr (pa_cons (pv 0) (pa_cons (pe_callB (call_min2 rfl) (by rfl) T.b_min (by decide +kernel) (pa_cons (pv 2) (pa_cons pe_int pa_nil))) pa_nil)))))
       pss_nil)
       (pss_cons (ps_if (pt_cmpR op_eq (pv 3) pe_int (nomark _))
       (pss_one (ps_ret (pe_op op_sub (pe_op op_sub (pv 2) pe_int) (pe_f (ok_pull T) hr (pa_cons (pv 0) (pa_cons (pe_callB (call_min2 rfl) (by rfl) T.b_min (by decide +kernel) (pa_cons (pv 2) (pa_cons pe_int pa_nil))) pa_nil))))))
       pss_nil)
       (pss_cons (ps_if (pt_cmpR op_eq (pv 3) pe_int (nomark _))
       (pss_one (ps_ret (pe_callB (call_max2 rfl) (by rfl) T.b_max (by decide +kernel) (pa_cons pe_int (pa_cons (pe_op op_sub (pe_op op_sub (pe_op op_mul (pe_callB call_len_str (by rfl) T.b_len PySem.boot_len (pa_cons (pe_ix ix_tup (pe_ix ix_list (pv 1) pe_int (fun _ _ => rfl)) pe_int (fun _ _ => rfl)) pa_nil)) (pe_ix ix_tup (pe_ix ix_list (pv 1) pe_int (fun _ _ => rfl)) pe_int (fun _ _ => rfl))) pe_int) (pe_f (ok_pull T) hr (pa_cons (pv 0) (pa_cons pe_int pa_nil)))) pa_nil)))))
       pss_nil)
       (pss_one (ps_ret (pe_f (ok_pull T) hr (pa_cons (pv 0) (pa_cons (pv 2) pa_nil)))))))))), ?_⟩
    dsimp only [L2.start, List.map, List.map_cons, List.map_nil, List.append_eq, List.append, List.length_cons, List.length_nil, Nat.reduceAdd, Nat.reduceSub, List.replicate_succ, List.replicate_zero, List.cons_append, List.nil_append, cxOf]
    have vs := vast_small so
    have vp : 1 ≤ (vastT ss).length := by
      match ss, sne with
      | s :: r, _ =>
        show 1 ≤ (segT s ++ vastT r).length
        rw [List.length_append]
        have := (so s (by simp)).small.1
        omega
    have v18 : (vastT ss).length ≤ 210000000000000000 := by omega
    refine ⟨_, rfl, l, ss, rfl, SA0, s3, so, fun H1 s1 => ?_⟩
    dsimp only [gName, wipe, List.set_cons_succ, List.set_cons_zero]
    have B1 := B.same s1
    refine ⟨_, rfl, b, cl, 4, rfl, B1, by decide, by decide, fun H2 wy w4 B2 o2 => ?_⟩
    dsimp only [gName, wipe, List.set_cons_succ, List.set_cons_zero]
    have SA2 := (SA0.same s1).oth B1 o2 lb lc
    have o12 : Oth b cl H H2 := (Oth.of s1).trans o2
    generalize hn : (vastT ss).length = n at *
    have di : ∀ m : Nat, decide (iV wy = V.int (m : Int)) = decide (wy = m) := fun m => dec_iV
    have emin : V.int (if (20 : Int) < (n : Int) then 20 else (n : Int)) = iV (min n 20) := by
      refine congrArg V.int ?_
      split <;> omega
    refine ⟨_, rfl, rfl, _, rfl, ?_⟩
    have d0 : decide (iV wy = V.int 0) = decide (wy = 0) := di 0
    have d1 : decide (iV wy = V.int 1) = decide (wy = 1) := di 1
    have d2 : decide (iV wy = V.int 2) = decide (wy = 2) := di 2
    rw [d0]
    by_cases w0 : wy = 0
    · rw [decide_eq_true w0]
      refine iteT ?_
      refine ⟨_, rfl, _, rfl, _, _, rfl, ?_⟩
      rw [emin]
      exact ⟨b, cl, min n 20, rfl, B2, by omega, by rw [big18]; omega, fun H3 v vl B3 o3 => k H3 v (by omega) B3 (o12.trans o3)⟩
    · rw [decide_eq_false w0]
      refine iteF ?_
      dsimp only [tNext]
      refine ⟨_, rfl, rfl, _, rfl, ?_⟩
      rw [d1]
      by_cases w1 : wy = 1
      · rw [decide_eq_true w1]
        refine iteT ?_
        refine ⟨_, rfl, _, _, rfl, rfl, _, rfl, _, rfl, _, _, rfl, ?_⟩
        rw [emin]
        refine ⟨b, cl, min n 20, rfl, B2, by omega, by rw [big18]; omega, fun H3 v vl B3 o3 => ⟨_, _, rfl, rfl, ?_⟩⟩
        have : V.int ((n : Int) - 1 - (v : Int)) = iV (n - 1 - v) := congrArg V.int (by omega)
        show Q (V.int ((n : Int) - 1 - (v : Int))) H3
        rw [this]
        exact k H3 _ (by omega) B3 (o12.trans o3)
      · rw [decide_eq_false w1]
        refine iteF ?_
        dsimp only [tNext]
        refine ⟨_, rfl, rfl, _, rfl, ?_⟩
        rw [d2]
        by_cases w2 : wy = 2
        · rw [decide_eq_true w2]
          refine iteT ?_
          obtain ⟨as, ha, hF⟩ := id SA2
          obtain ⟨s, r, es⟩ : ∃ s r, ss = s :: r := by
            cases ss with
            | nil => exact absurd rfl sne
            | cons s r => exact ⟨s, r, rfl⟩
          subst es
          cases hF with
          | @cons x y a' b' hx ht =>
            have ok := so s (by simp)
            have l7 := ok.l7
            have m16 := ok.m16
            rw [big16] at m16
            have hx : H2 x = some (.tup _) := hx
            have wl : (wd s.1).length ≤ sizeLine := by rw [wd_len, sizeLine_eq]; omega
            have sl : (segT s).length ≤ n := by
              rw [← hn]
              show _ ≤ (segT s ++ vastT r).length
              rw [List.length_append]
              omega
            have sp := ok.small.1
            refine ⟨_, rfl, l, _, _, .ref x, rfl, rfl, SqL.of ha, atI_nat (j := 0) rfl, x, _, _, .str (wd s.1), rfl, rfl, SqT.of hx, rfl, wd s.1, rfl, wl, _, rfl, l, _, _, .ref x, rfl, rfl, SqL.of ha, atI_nat (j := 0) rfl, x, _, _, iV s.2, rfl, rfl, SqT.of hx, rfl, _, _, rfl, rfl, .inr ⟨by omega, by omega⟩, _, _, rfl, rfl, _, rfl, b, cl, 8, rfl, B2, by decide, by decide, fun H3 v vl B3 o3 => ⟨_, _, rfl, rfl, _, _, rfl, ?_⟩⟩
            have em : (((wd s.1).length : Int) * (s.2 : Int)) = (((segT s).length : Nat) : Int) := by rw [wd_len, segT_len]; rfl
            rw [em]
            have : V.int (if (((segT s).length : Nat) : Int) - 1 - (v : Int) > 0 then (((segT s).length : Nat) : Int) - 1 - (v : Int) else 0) = iV ((segT s).length - 1 - v) := by
              refine congrArg V.int ?_
              split <;> omega
            show Q (V.int (if (((segT s).length : Nat) : Int) - 1 - (v : Int) > 0 then (((segT s).length : Nat) : Int) - 1 - (v : Int) else 0)) H3
            rw [this]
            exact k H3 _ (by omega) B3 (o12.trans o3)
        · rw [decide_eq_false w2]
          refine iteF ?_
          dsimp only [tNext]
          exact ⟨_, rfl, _, rfl, b, cl, n, rfl, B2, vp, by rw [big18]; omega, fun H3 v vl B3 o3 => k H3 v vl B3 (o12.trans o3)⟩
theorem scVast : FnScope ["_law_cloth", "_law_segments_here", "_law_found", "_law_letters", "_law_lot"] ["_law_cloth", "_law_segments_here"] (defScope s_law_vast) := ⟨rfl, rfl, rfl, by decide +kernel, rfl, by decide +kernel, by decide +kernel⟩
theorem ok_lvast (T : Txt K mg) : FX P w K mg base 10 "_law_vast" (spVast K) [] := by
  refine fx_mk T.f_law_vast T.g_law_vast scVast (fun _ _ _ _ _ _ us hl => match us, hl with | [_, _], _ => rfl) (fun vs H Q E h => ?_) (fun cdv A outer s H vs Q E hr h => ?_)
  · obtain ⟨_, _, _, _, _, rfl, _⟩ := h
    rfl
  · obtain ⟨lo, l, a, S, ss, rfl, L, SA0, l6, s3, so, cap, k⟩ := h
    obtain ⟨dl, hl⟩ := L.lo
    refine ⟨_, (pss_cons (ps_set (i := 2) scVast.nd rfl (Or.inl rfl) (pe_m0 (ok_text0 T) hr (pv 0)))
       (pss_cons (ps_for PassesOwn.never rfl (pi_list (pv 1)) (pg_tup rfl (pgs_cons (pg_name (i := 3) scVast.nd rfl (Or.inl rfl)) (pgs_cons (pg_name (i := 4) scVast.nd rfl (Or.inl rfl)) pgs_nil)))
       (pss_one (ps_set (i := 2) scVast.nd rfl (Or.inl rfl) (pe_m (ok_joined T) hr (pv 2) (pa_cons (pe_m (ok_times T) hr (pe_m (ok_text T) hr (pv 0) (pa_cons (pv 3) pa_nil)) (pa_cons (pv 4) pa_nil)) pa_nil)))))
       (pss_one (ps_ret (pv 2))))), ?_⟩
    dsimp only [L2.start, List.map, List.map_cons, List.map_nil, List.append_eq, List.append, List.length_cons, List.length_nil, Nat.reduceAdd, Nat.reduceSub, List.replicate_succ, List.replicate_zero, List.cons_append, List.nil_append, cxOf]
    refine ⟨_, rfl, lo, dl, _, rfl, hl, lkL_no (by decide +kernel), lo, a, S, [], by show [V.ref lo, V.str ""] = _; rw [wd_nil], L, fun x hx => (nomatch hx), by decide, by omega, fun S1 H1 x0 top0 le1 L1 k1 X1 t1 few1 => ?_⟩
    dsimp only [gName, wipe, List.set_cons_succ, List.set_cons_zero]
    obtain ⟨as, ha, hF⟩ := id (SA0.kp L.st k1 l6)
    have asl : as.length = ss.length := hF.len
    have few1 : S1.len ≤ S.len := few1
    refine ⟨_, rfl, l, rfl, ⟨_, SqL.of ha⟩, for_list (K := K) (a := l) (xs := as.map V.ref) (fun i σ H' => ∃ (Si : Sto) (x : Addr) (top : Int) (v3 v4 : Option V), σ = [some (.ref lo), some (.ref l), some (.ref x), v3, v4] ∧ Le S Si ∧ LW K H' lo a Si ∧ Kp a H H' ∧ Kp a H1 H' ∧ TextAt K H' x lo top ∧ TopIs Si top (vastT (ss.take i)) ∧ Si.len ≤ S.len + 4548947 * i)
      ⟨S1, x0, top0, none, none, rfl, le1, L1, k1, Kp.refl a H1, X1, t1, by omega⟩ (fun i σ H' _ ⟨_, _, _, _, _, _, _, _, _, k2, _⟩ => SqL.of (k2 _ _ ha l6)) ?_ ?_⟩
    · rintro i v σ H2 hi ⟨S2, x, top, v3, v4, rfl, le2, L2', k2, k12, X2, t2, few2⟩
      obtain ⟨y, hy, rfl⟩ : ∃ x, as[i]? = some x ∧ v = V.ref x := by
        rw [List.getElem?_map] at hi
        cases e : as[i]? with
        | none => rw [e] at hi; cases hi
        | some x => rw [e] at hi; exact ⟨x, rfl, (Option.some.inj hi).symm⟩
      obtain ⟨s, hs, hys⟩ := hF.get i y hy
      have hil : i < ss.length := (List.getElem?_eq_some_iff.mp hs).1
      have ok := so s (List.mem_of_getElem? hs)
      have hys : H1 y = some (.tup _) := hys
      have hy2 := L1.st.tup k12 hys
      refine ⟨y, _, rfl, SqT.of hy2, rfl, _, _, rfl, _, _, rfl, rfl, ?_⟩
      dsimp only [gName, wipe, List.set_cons_succ, List.set_cons_zero]
      obtain ⟨dx, hx⟩ := id X2
      obtain ⟨dl2, hl2⟩ := L2'.lo
      have l7 := ok.l7
      have bud : 4548947 * i ≤ 4548947 * 2 := Nat.mul_le_mul_left _ (by omega)
      have small := ok.small.2
      have txt : (vastT (ss.take i)).length ≤ 70000000000000000 * (ss.take i).length := vast_small fun z hz => so z (List.mem_of_mem_take hz)
      have til : (ss.take i).length ≤ 3 := by rw [List.length_take]; omega
      have et : vastT (ss.take (i + 1)) = vastT (ss.take i) ++ segT s := by
        unfold vastT
        rw [take_snoc hs, List.flatMap_append]
        simp
      refine ⟨_, rfl, x, dx, _, rfl, hx, lkT_no (by decide +kernel), _, rfl, lo, dl2, _, rfl, hl2, lkL_no (by decide +kernel), _, rfl, lo, a, S2, s.1, rfl, L2', ok.n8, l7, by omega, fun S3 H3 x3 top3 le3 L3 k3 X3 t3 few3 => ?_⟩
      obtain ⟨dx3, hx3⟩ := id X3
      have rc : repC s.1 ≤ 4272048 := by unfold repC; split <;> omega
      have m16 := ok.m16
      have p54 : (10 : Nat) ^ 16 < 2 ^ 54 := by decide
      have few3 : S3.len ≤ S2.len + 237343 := by omega
      refine ⟨x3, dx3, _, rfl, hx3, lkT_no (by decide +kernel), _, rfl, x3, lo, a, S3, top3, s.1, s.2, rfl, L3, X3, t3, by omega, ?_, by omega, fun S4 H4 x4 top4 le4 L4 k4 X4 t4 few4 => ?_⟩
      · rw [big18]
        show (segT s).length ≤ _
        omega
      have k34 := k3.trans k4
      refine ⟨x, x4, lo, a, S4, top, top4, _, _, rfl, L4, X2.kp L2'.st k34, X4, (t2.le le3).le le4, t4, ?_, by omega, fun S5 H5 x5 top5 le5 L5 k5 X5 t5 few5 => ?_⟩
      · rw [List.length_append, big18]
        show _ + (segT s).length ≤ _
        omega
      · refine ⟨S5, x5, top5, _, _, rfl, ((le2.trans le3).trans le4).trans le5, L5, (k2.trans k34).trans k5, (k12.trans k34).trans k5, X5, ?_, by omega⟩
        rw [et]
        exact t5
    · rintro σ H2 ⟨S2, x, top, v3, v4, rfl, le2, L2', k2, k12, X2, t2, few2⟩
      rw [List.length_map, asl, List.take_length] at t2
      rw [List.length_map, asl] at few2
      have bud : 4548947 * ss.length ≤ 4548947 * 3 := Nat.mul_le_mul_left _ s3
      exact ⟨_, rfl, k S2 H2 x top le2 L2' k2 X2 t2 (by omega)⟩
end
end VT
set_option Elab.async false
set_option linter.all false
set_option maxRecDepth 100000
set_option maxHeartbeats 4000000
/-! The law's state; standings in three runs. -/
namespace VT
open PySem PySem.Spec PyProof.Rows L2
open VW (F2 Sto Le cnt f1 l1 cnt_app cnt_rep)
theorem l1_rep {n x : Nat} (h : 1 ≤ n) : l1 (List.replicate n x) = [x] := by
  unfold VW.l1
  rw [List.drop_replicate, List.length_replicate, show n - (n - 1) = 1 by omega]
  rfl
theorem f1_rep {n x : Nat} (h : 1 ≤ n) : f1 (List.replicate n x) = [x] := by
  unfold VW.f1
  rw [List.take_replicate, Nat.min_eq_left h]
  rfl
theorem f1_app {A B : List Nat} (h : 1 ≤ A.length) : f1 (A ++ B) = f1 A := by
  unfold VW.f1
  rw [List.take_append_of_le_length h]
def three' (n m k : Nat) : List Nat := List.replicate n 0 ++ (List.replicate m 1 ++ List.replicate k 0)
theorem three_len {n m k : Nat} : (three' n m k).length = n + m + k := by
  simp [three']
  omega
theorem three_take {n m k e : Nat} : (three' n m k).take e = List.replicate (min e n) 0 ++ (List.replicate (min (e - n) m) 1 ++ List.replicate (min (e - n - m) k) 0) := by
  unfold three'
  rw [List.take_append, List.take_append, List.take_replicate, List.take_replicate, List.take_replicate, List.length_replicate, List.length_replicate]
theorem cnt_ba {n m k e : Nat} (hn : 1 ≤ n) (hm : 1 ≤ m) (hk : 1 ≤ k) : cnt 1 0 ((three' n m k).take e) = if n + m + 1 ≤ e then 1 else 0 := by
  rw [three_take, cnt_app, cnt_app, cnt_rep (by decide), cnt_rep (by decide), cnt_rep (by decide)]
  rcases Nat.lt_or_ge n e with h | h
  · rw [l1_rep (x := 0) (by omega), f1_app (A := List.replicate (min (e - n) m) 1) (by rw [List.length_replicate]; omega)]
    show 0 + (0 + 0 + _) + cnt 1 0 ([0] ++ f1 (List.replicate (min (e - n) m) 1)) = _
    rw [f1_rep (x := 1) (by omega), l1_rep (x := 1) (by omega)]
    by_cases z : n + m + 1 ≤ e
    · rw [if_pos z, f1_rep (x := 0) (by omega)]
      rfl
    · rw [if_neg z, show min (e - n - m) k = 0 by omega]
      rfl
  · rw [if_neg (by omega), show min (e - n) m = 0 by omega, show min (e - n - m) k = 0 by omega]
    show 0 + (0 + 0 + 0) + cnt 1 0 (l1 (List.replicate (min e n) 0) ++ []) = 0
    rw [List.append_nil, VW.cnt_one VW.l1_len]
theorem cnt_ab {n m k e : Nat} (hn : 1 ≤ n) (hm : 1 ≤ m) (hk : 1 ≤ k) : cnt 0 1 ((three' n m k).take e) = if n + 1 ≤ e then 1 else 0 := by
  rw [three_take, cnt_app, cnt_app, cnt_rep (by decide), cnt_rep (by decide), cnt_rep (by decide)]
  rcases Nat.lt_or_ge n e with h | h
  · rw [l1_rep (x := 0) (by omega), f1_app (A := List.replicate (min (e - n) m) 1) (by rw [List.length_replicate]; omega)]
    show 0 + (0 + 0 + _) + cnt 0 1 ([0] ++ f1 (List.replicate (min (e - n) m) 1)) = _
    rw [f1_rep (x := 1) (by omega), l1_rep (x := 1) (by omega), if_pos (by omega)]
    have : cnt 0 1 ([1] ++ f1 (List.replicate (min (e - n - m) k) 0)) = 0 := by
      rcases Nat.eq_zero_or_pos (min (e - n - m) k) with z | z
      · rw [z]; rfl
      · rw [f1_rep (x := 0) z]; rfl
    rw [this]
    rfl
  · rw [if_neg (by omega), show min (e - n) m = 0 by omega, show min (e - n - m) k = 0 by omega]
    show 0 + (0 + 0 + 0) + cnt 0 1 (l1 (List.replicate (min e n) 0) ++ []) = 0
    rw [List.append_nil, VW.cnt_one VW.l1_len]
theorem next_ba {n m k : Nat} (hn : 1 ≤ n) (hm : 1 ≤ m) (hk : 1 ≤ k) : NextIs 1 0 (three' n m k) 0 (some (n + m + 1)) := by
  have all : cnt 1 0 (three' n m k) = 1 := by
    have := cnt_ba (n := n) (m := m) (k := k) (e := n + m + k) hn hm hk
    rw [List.take_of_length_le (by rw [three_len]; exact Nat.le_refl _), if_pos (by omega)] at this
    exact this
  have c0 : cnt 1 0 ((three' n m k).take (min (0 + 1) (three' n m k).length)) = 0 := by
    rw [cnt_ba hn hm hk, three_len, if_neg (by omega)]
  refine ⟨by rw [all, c0]; decide, by omega, by rw [three_len]; omega, fun e he => ?_⟩
  rw [c0, cnt_ba hn hm hk]
  by_cases z : n + m + 1 ≤ e
  · rw [if_pos z, decide_eq_true z]; rfl
  · rw [if_neg z, decide_eq_false z]; rfl
theorem next_ab {n m k : Nat} (hn : 1 ≤ n) (hm : 1 ≤ m) (hk : 1 ≤ k) : NextIs 0 1 (three' n m k) (n + m - 1) none := by
  have all : cnt 0 1 (three' n m k) = 1 := by
    have := cnt_ab (n := n) (m := m) (k := k) (e := n + m + k) hn hm hk
    rw [List.take_of_length_le (by rw [three_len]; exact Nat.le_refl _), if_pos (by omega)] at this
    exact this
  show cnt 0 1 ((three' n m k).take (min (n + m - 1 + 1) (three' n m k).length)) = cnt 0 1 (three' n m k)
  rw [all, cnt_ab hn hm hk, three_len, if_pos (by omega)]
/-! ### what stands while the law runs -/
theorem ne_walk {K : PySem.W.Frag} {H : Hp} {x t y : Addr} {i : Nat} {u : HO} (w : WalkAt K H x t i) (e : H y = some u) (hu : ∀ C d v w, u ≠ .ins C d (kWa.zip [v, w])) : y ≠ x := by
  obtain ⟨d, h⟩ := w
  exact ne_of e h (hu _ _ _ _)
theorem nw_lst {xs : List V} : ∀ C d v w, HO.lst xs ≠ .ins C d (kWa.zip [v, w]) := fun _ _ _ _ z => by cases z
theorem nw_dT {xs} : ∀ C d v w, HO.dT xs ≠ .ins C d (kWa.zip [v, w]) := fun _ _ _ _ z => by cases z
theorem nw_tup {xs : List V} : ∀ C d v w, HO.tup xs ≠ .ins C d (kWa.zip [v, w]) := fun _ _ _ _ z => by cases z
theorem k1 : ("loom" : Str) ≠ "over" := by decide +kernel
theorem k2 : ("store" : Str) ≠ "over" := by decide +kernel
theorem k3 : ("kinds" : Str) ≠ "over" := by decide +kernel
theorem nw_text {C' d' : Addr} {v' w' : V} : ∀ C d v w, HO.ins C' d' (kTx.zip [v', w']) ≠ .ins C d (kWa.zip [v, w]) := fun _ _ _ _ z => by
  injection z with _ _ z
  injection z with z _
  injection z with z _
  exact k1 z
theorem nw_loom {C' d' : Addr} {v' : V} : ∀ C d v w, HO.ins C' d' (kLo.zip [v']) ≠ .ins C d (kWa.zip [v, w]) := fun _ _ _ _ z => by
  injection z with _ _ z
  injection z with z _
  injection z with z _
  exact k2 z
theorem nw_store {C' d' : Addr} {a : SA} : ∀ C d v w, HO.ins C' d' (kSt.zip (vSt a)) ≠ .ins C d (kWa.zip [v, w]) := fun _ _ _ _ z => by
  injection z with _ _ z
  injection z with z _
  injection z with z _
  exact k3 z
/-- loom, store, bag -/
structure Wd (K : PySem.W.Frag) (b cl lo : Addr) (a : SA) (S : Sto) (H : Hp) : Prop where
  lw : LW K H lo a S
  bag : BagAt H b cl
  nb : b ∉ six a
  nc : cl ∉ six a
section
variable {K : PySem.W.Frag} {b cl lo x t : Addr} {a : SA} {S S' : Sto} {H H' : Hp} {i : Nat} {top : Int}
theorem BagAt.lists (B : BagAt H b cl) : (∃ xs, H b = some (.lst xs)) ∧ ∃ xs, H cl = some (.lst xs) := by
  obtain ⟨cs, i, s, h1, h2, _⟩ := B.ex
  exact ⟨⟨_, h1⟩, _, h2⟩
theorem TextAt.oth (X : TextAt K H x lo top) (B : BagAt H b cl) (o : Oth b cl H H') : TextAt K H' x lo top := by
  obtain ⟨d, h⟩ := X
  obtain ⟨⟨xs, h1⟩, ys, h2⟩ := B.lists
  exact ⟨d, o _ _ (ne_of h h1 (by intro z; cases z)) (ne_of h h2 (by intro z; cases z)) h⟩
theorem WalkAt.oth (X : WalkAt K H x t i) (B : BagAt H b cl) (o : Oth b cl H H') : WalkAt K H' x t i := by
  obtain ⟨d, h⟩ := X
  obtain ⟨⟨xs, h1⟩, ys, h2⟩ := B.lists
  exact ⟨d, o _ _ (ne_of h h1 (by intro z; cases z)) (ne_of h h2 (by intro z; cases z)) h⟩
theorem WalkAt.kp (X : WalkAt K H x t i) (D : StoreAt K H a S) (k : Kp a H H') : WalkAt K H' x t i := let ⟨d, h⟩ := X; ⟨d, D.ins k h⟩
theorem TextAt.but {y t' : Addr} {top' : Int} {j : Nat} (X : TextAt K H x lo top) (w : WalkAt K H y t' j) (o : But y H H') : TextAt K H' x lo top := by
  obtain ⟨d, h⟩ := X
  exact ⟨d, o _ _ (ne_walk w h nw_text) h⟩
theorem Wd.same (W : Wd K b cl lo a S H) (s : Same H H') : Wd K b cl lo a S H' := ⟨W.lw.same s, W.bag.same s, W.nb, W.nc⟩
theorem Wd.kp (W : Wd K b cl lo a S H) (k : Kp a H H') (L : LW K H' lo a S') : Wd K b cl lo a S' H' := by
  obtain ⟨cs, i, s, h1, h2, h3⟩ := W.bag.ex
  exact ⟨L, ⟨cs, i, s, k _ _ h1 W.nb, k _ _ h2 W.nc, h3⟩, W.nb, W.nc⟩
theorem Wd.oth (W : Wd K b cl lo a S H) (B : BagAt H' b cl) (o : Oth b cl H H') : Wd K b cl lo a S H' := by
  have D := W.lw.st
  obtain ⟨⟨xs, h1⟩, ys, h2⟩ := W.bag.lists
  obtain ⟨dl, hl⟩ := W.lw.lo
  have m : ∀ y, y ∈ six a → y ≠ b := fun y hy e => W.nb (by rw [← e]; exact hy)
  have m' : ∀ y, y ∈ six a → y ≠ cl := fun y hy e => W.nc (by rw [← e]; exact hy)
  have f : ∀ y u, y ∈ six a → H y = some u → H' y = some u := fun y u hy e => o y u (m y hy) (m' y hy) e
  exact ⟨⟨⟨o _ _ (ne_of D.ob h1 (by intro z; cases z)) (ne_of D.ob h2 (by intro z; cases z)) D.ob, f _ _ (by simp [six]) D.kd, f _ _ (by simp [six]) D.lf, f _ _ (by simp [six]) D.rt, f _ _ (by simp [six]) D.sz, f _ _ (by simp [six]) D.bt, f _ _ (by simp [six]) D.kn, D.nd, D.ok, D.cap, D.small⟩,
    dl, o _ _ (ne_of hl h1 (by intro z; cases z)) (ne_of hl h2 (by intro z; cases z)) hl⟩, B, W.nb, W.nc⟩
theorem Wd.but (W : Wd K b cl lo a S H) (w : WalkAt K H x t i) (o : But x H H') : Wd K b cl lo a S H' := by
  have D := W.lw.st
  obtain ⟨cs, j, s, h1, h2, h3⟩ := W.bag.ex
  obtain ⟨dl, hl⟩ := W.lw.lo
  exact ⟨⟨⟨o _ _ (ne_walk w D.ob nw_store) D.ob, o _ _ (ne_walk w D.kd nw_lst) D.kd, o _ _ (ne_walk w D.lf nw_lst) D.lf, o _ _ (ne_walk w D.rt nw_lst) D.rt, o _ _ (ne_walk w D.sz nw_lst) D.sz, o _ _ (ne_walk w D.bt nw_lst) D.bt, o _ _ (ne_walk w D.kn nw_dT) D.kn, D.nd, D.ok, D.cap, D.small⟩,
    dl, o _ _ (ne_walk w hl nw_loom) hl⟩, ⟨cs, j, s, o _ _ (ne_walk w h1 nw_lst) h1, o _ _ (ne_walk w h2 nw_lst) h2, h3⟩, W.nb, W.nc⟩
theorem SegsAt.but {l : Addr} {ss : List Sg} (h : SegsAt H l ss) (w : WalkAt K H x t i) (o : But x H H') : SegsAt H' l ss := let ⟨as, h1, h2⟩ := h; ⟨as, o _ _ (ne_walk w h1 nw_lst) h1, h2.mono fun y s e => o _ _ (ne_walk w (show H y = some _ from e) nw_tup) e⟩
theorem WalkAt.but {y t' : Addr} {j : Nat} (h : WalkAt K H y t' j) (n : y ≠ x) (o : But x H H') : WalkAt K H' y t' j := let ⟨d, e⟩ := h; ⟨d, o _ _ n e⟩
theorem six_nil (D : StoreAt K H a Sto.empty) {y : Addr} {v : V} {vs : List V} (e : H y = some (.lst (v :: vs))) : y ∉ six a := fun hb => by
  have : y = a.kd ∨ y = a.lf ∨ y = a.rt ∨ y = a.sz ∨ y = a.bt ∨ y = a.kn := by simpa [six] using hb
  rcases this with q | q | q | q | q | q <;> subst q
  · rw [D.kd] at e; cases e
  · rw [D.lf] at e; cases e
  · rw [D.rt] at e; cases e
  · rw [D.sz] at e; cases e
  · rw [D.bt] at e; cases e
  · rw [D.kn] at e; cases e
theorem made_mid {C y dy : Addr} (hy : H y = none) (hdy : H dy = none) : Same H (L2.upd (L2.upd H dy (.own y)) y (.ins C dy [])) := fun b u e => by
  rw [upd_ne (ne_of_none e hy)]
  exact same_upd hdy _ _ e
end
/-- the first part of the law -/
structure LS (K : PySem.W.Frag) (b cl lo l t wk ot : Addr) (a : SA) (ss : List Sg) (S : Sto) (top : Int) (sp : Nat) (H : Hp) : Prop where
  w : Wd K b cl lo a S H
  nl : l ∉ six a
  lb : l ≠ b
  lc : l ≠ cl
  sg : SegsAt H l ss
  tx : TextAt K H t lo top
  tt : TopIs S top (vastT ss)
  hk : WalkAt K H wk t sp
  ho : WalkAt K H ot t (vastT ss).length
  ow : ot ≠ wk
section
variable {K : PySem.W.Frag} {b cl lo l t wk ot : Addr} {a : SA} {ss : List Sg} {S S' : Sto} {top : Int} {sp sp' : Nat} {H H' : Hp}
theorem LS.same (I : LS K b cl lo l t wk ot a ss S top sp H) (s : Same H H') : LS K b cl lo l t wk ot a ss S top sp H' := ⟨I.w.same s, I.nl, I.lb, I.lc, I.sg.same s, I.tx.same s, I.tt, I.hk.same s, I.ho.same s, I.ow⟩
theorem LS.oth (I : LS K b cl lo l t wk ot a ss S top sp H) (B : BagAt H' b cl) (o : Oth b cl H H') : LS K b cl lo l t wk ot a ss S top sp H' :=
  ⟨I.w.oth B o, I.nl, I.lb, I.lc, I.sg.oth I.w.bag o I.lb I.lc, I.tx.oth I.w.bag o, I.tt, I.hk.oth I.w.bag o, I.ho.oth I.w.bag o, I.ow⟩
theorem LS.kp (I : LS K b cl lo l t wk ot a ss S top sp H) (k : Kp a H H') (le : Le S S') (L : LW K H' lo a S') : LS K b cl lo l t wk ot a ss S' top sp H' :=
  ⟨I.w.kp k L, I.nl, I.lb, I.lc, I.sg.kp I.w.lw.st k I.nl, I.tx.kp I.w.lw.st k, I.tt.le le, I.hk.kp I.w.lw.st k, I.ho.kp I.w.lw.st k, I.ow⟩
theorem LS.but (I : LS K b cl lo l t wk ot a ss S top sp H) (o : But wk H H') (w : WalkAt K H' wk t sp') : LS K b cl lo l t wk ot a ss S top sp' H' :=
  ⟨I.w.but I.hk o, I.nl, I.lb, I.lc, I.sg.but I.hk o, I.tx.but (top' := 0) I.hk o, I.tt, w, I.ho.but I.ow o, I.ow⟩
end
end VT
set_option Elab.async false
set_option linter.all false
set_option maxRecDepth 100000
set_option maxHeartbeats 4000000
/-! The second part of the law: its state. -/
namespace VT
open PySem PySem.Spec PyProof.Rows L2
open VW (F2 Sto Le cnt f1 l1 Loc)
structure LT (K : PySem.W.Frag) (b cl lo ot t : Addr) (n : Nat) (a : SA) (ld : Addr) (ns : List Nat) (S : Sto) (H : Hp) : Prop where
  w : Wd K b cl lo a S H
  ho : WalkAt K H ot t n
  hl : H ld = some (.lst (ns.map iV))
  l6 : ld ∉ six a
  lb : ld ≠ b
  lc : ld ≠ cl
section
variable {K : PySem.W.Frag} {b cl lo ot t ld x t' : Addr} {a : SA} {S S' : Sto} {n j : Nat} {ns : List Nat} {H H' : Hp}
theorem LT.same (I : LT K b cl lo ot t n a ld ns S H) (s : Same H H') : LT K b cl lo ot t n a ld ns S H' := ⟨I.w.same s, I.ho.same s, s _ _ I.hl, I.l6, I.lb, I.lc⟩
theorem LT.oth (I : LT K b cl lo ot t n a ld ns S H) (B : BagAt H' b cl) (o : Oth b cl H H') : LT K b cl lo ot t n a ld ns S H' := ⟨I.w.oth B o, I.ho.oth I.w.bag o, o _ _ I.lb I.lc I.hl, I.l6, I.lb, I.lc⟩
theorem LT.kp (I : LT K b cl lo ot t n a ld ns S H) (k : Kp a H H') (L : LW K H' lo a S') : LT K b cl lo ot t n a ld ns S' H' := ⟨I.w.kp k L, I.ho.kp I.w.lw.st k, k _ _ I.hl I.l6, I.l6, I.lb, I.lc⟩
theorem LT.but (I : LT K b cl lo ot t n a ld ns S H) (w : WalkAt K H x t' j) (ne : ot ≠ x) (o : But x H H') : LT K b cl lo ot t n a ld ns S H' := ⟨I.w.but w o, I.ho.but ne o, o _ _ (ne_walk w I.hl nw_lst) I.hl, I.l6, I.lb, I.lc⟩
end
theorem rep_single {n x : Nat} : rep n [x] = List.replicate n x := by
  unfold rep
  induction n with
  | zero => rfl
  | succ n ih => rw [List.replicate_succ, List.flatten_cons, ih, List.replicate_succ]; rfl
theorem three_eq {n m k : Nat} : (rep n [0] ++ rep m [1]) ++ rep k [0] = three' n m k := by
  rw [rep_single, rep_single, rep_single, List.append_assoc]
  rfl
theorem three_at {n m k i : Nat} (h : i < n + m + k) : (three' n m k)[i]? = some (if i < n then 0 else if i < n + m then 1 else 0) := by
  unfold three'
  by_cases h1 : i < n
  · rw [if_pos h1, List.getElem?_append_left (by rw [List.length_replicate]; exact h1), List.getElem?_replicate, if_pos h1]
  · rw [if_neg h1, List.getElem?_append_right (by rw [List.length_replicate]; omega), List.length_replicate]
    by_cases h2 : i < n + m
    · rw [if_pos h2, List.getElem?_append_left (by rw [List.length_replicate]; omega), List.getElem?_replicate, if_pos (by omega)]
    · rw [if_neg h2, List.getElem?_append_right (by rw [List.length_replicate]; omega), List.length_replicate, List.getElem?_replicate, if_pos (by omega)]
theorem e16 : V.int ((10 : Int) ^ (16 : Int).toNat) = iV (10 ^ 16) := congrArg V.int (by decide)
def posn (v n m k : Nat) : Nat → Nat
  | 0 => v
  | 1 => n
  | 2 => n + m
  | _ => n + m + k
end VT
set_option Elab.async false
set_option linter.all false
set_option maxRecDepth 100000
set_option maxHeartbeats 4000000
/-! The law. -/
namespace VT
open PySem PySem.Spec PyProof.Rows L2
open VW (F2 Sto Le cnt f1 l1)
def spLaw (K : PySem.W.Frag) : Sp := fun vs H Q _ => ∃ (sc : Addr) (ns : List Int), vs = [.ref sc] ∧ SqL K H sc (ns.map V.int) ∧ ∀ H', Q (.bl true) H'
theorem wd_a : ("a" : Str) = wd [0] := by decide +kernel
theorem wd_b : ("b" : Str) = wd [1] := by decide +kernel
theorem wd_g : ("g" : Str) = wd [6] := by decide +kernel
theorem wd_ba : ("ba" : Str) = wd [1, 0] := by decide +kernel
theorem wd_ab : ("ab" : Str) = wd [0, 1] := by decide +kernel
theorem widths2 {v : Nat} (h : v < 2) : ∃ wv : Nat, 1 ≤ wv ∧ wv ≤ 200 ∧ atI [V.int 30, V.int 200] (v : Int) = some (iV wv) := by
  have : v = 0 ∨ v = 1 := by omega
  rcases this with z | z <;> subst z
  · exact ⟨30, by decide, by decide, rfl⟩
  · exact ⟨200, by decide, by decide, rfl⟩
section
variable {P : Program} {w : World} {K : PySem.W.Frag} {mg : Str → Option Value} {base : Heap}
theorem scLaw : FnScope ["_law_script", "_law_bag_here", "_law_cloth", "_law_segments_here", "_law_text", "_law_size", "_law_walk", "_law_other", "_law_spot_here", "_law_turn", "_law_goal", "_law_high", "_law_due", "_law_k", "_law_lots", "_law_runs", "_law_back"] ["_law_script"] (defScope s_law) := ⟨rfl, rfl, rfl, by decide +kernel, rfl, by decide +kernel, by decide +kernel⟩
theorem ok_law (T : Txt K mg) {fd : FuncData} (F : FunD K d_law.name d_law.qual (defArgs s_law) (defBody s_law) (defScope s_law) (d_law.dvs K) (d_law.kws K) (He.fAd K d_law.at_) fd) : FnOk P w K mg base CX0 11 (He.fAd K d_law.at_) fd ["_law_script"] (spLaw K) := by
  refine fn_mk F scLaw (fun vs H Q E h => ?_) (fun cdv A outer s H vs Q E hr h => ?_)
  · obtain ⟨_, _, rfl, _⟩ := h
    rfl
  · obtain ⟨sc, ns, rfl, hsc, k⟩ := h
    obtain ⟨fdW, gW, okW, kbW⟩ := kb_walk (P := P) (w := w) (base := base) T
    obtain ⟨fdC, gC, okC, kbC⟩ := kb_cut (P := P) (w := w) (base := base) T
    have hr3 := hr.mono (by decide : 3 ≤ 10)
    have hr7 := hr.mono (by decide : 7 ≤ 10)
    refine ⟨_, (pss_cons (ps_set (i := 1) scLaw.nd rfl (Or.inr rfl) (pe_f (ok_lbag T) hr (pa_cons (pv 0) pa_nil)))
       (pss_cons (ps_set (i := 2) scLaw.nd rfl (Or.inl rfl) (pe_k0 (mk_loom T) hr))
       (pss_cons (ps_set (i := 3) scLaw.nd rfl (Or.inr rfl) (pe_f (ok_lsegs T) hr (pa_cons (pv 1) pa_nil)))
       (pss_cons (ps_set (i := 4) scLaw.nd rfl (Or.inl rfl) (pe_f (ok_lvast T) hr (pa_cons (pv 2) (pa_cons (pv 3) pa_nil))))
       (pss_cons (ps_set (i := 5) scLaw.nd rfl (Or.inl rfl) (pe_f (ok_lvsize T) hr (pa_cons (pv 3) pa_nil)))
       (pss_cons (ps_set (i := 6) scLaw.nd rfl (Or.inr rfl) (pe_k (mk_walk0 T) hr (pa_cons (pv 4) pa_nil)))
       (pss_cons (ps_set (i := 7) scLaw.nd rfl (Or.inl rfl) (pe_makeK T.k_Walk okW hr3 (by rfl) T.g_Walk kbW pass0 (pa_cons (pv 4) pa_nil) (pk_cons (pv 5) pk_nil)))
       (pss_cons (ps_set (i := 8) scLaw.nd rfl (Or.inl rfl) pe_int)
       (pss_cons (ps_for PassesOwn.never rfl (pi_range1 (by rfl) T.b_range (pa_cons pe_int pa_nil)) (pg_name (i := 9) scLaw.nd rfl (Or.inl rfl))
       (pss_cons (ps_set (i := 10) scLaw.nd rfl (Or.inl rfl) (pe_f (ok_lspot T) hr (pa_cons (pv 1) (pa_cons (pv 3) pa_nil))))
       (pss_cons (ps_if (pt_not (pt_val (pe_f (ok_same0 T) hr (pa_cons (pe_m (ok_go T) hr (pv 6) (pa_cons (pe_op op_sub (pv 10) (pv 8)) pa_nil)) (pa_cons (pv 10) pa_nil)))))
       (pss_one (ps_ret pe_bl))
       pss_nil)
       (pss_cons (ps_set (i := 11) scLaw.nd rfl (Or.inl rfl) (pe_callB (call_min2 rfl) (by rfl) T.b_min (by decide +kernel) (pa_cons (pv 5) (pa_cons (pe_op op_add (pe_op op_add (pv 10) pe_int) (pe_f (ok_pull T) hr (pa_cons (pv 1) (pa_cons (pe_ix ix_list (pe_lst (pa_cons pe_int (pa_cons pe_int pa_nil))) (pe_f (ok_pull T) hr (pa_cons (pv 1) (pa_cons pe_int pa_nil))) (fun _ _ => rfl)) pa_nil)))) pa_nil))))
       (pss_cons (ps_set (i := 12) scLaw.nd rfl (Or.inl rfl) (L2.pe_join pe_str (pe_lc (own := [("_law_k", 13)]) (g := (gName 13)) (tt := tYes) rfl scLaw.nd (pi_range2 (by rfl) T.b_range (pa_cons (pv 10) (pa_cons (pv 11) pa_nil))) (blkOk_by (N := ["_law_script", "_law_bag_here", "_law_cloth", "_law_segments_here", "_law_text", "_law_size", "_law_walk", "_law_other", "_law_spot_here", "_law_turn", "_law_goal", "_law_high", "_law_due", "_law_k", "_law_lots", "_law_runs", "_law_back"]) (sc := defScope s_law) (by decide +kernel)) (fun _ _ _ _ _ => (pg_name (i := 13) scLaw.nd rfl (Or.inl rfl))) (fun _ _ _ _ _ => pts_nil) (fun _ _ _ _ _ => (pe_f (ok_lvletter T) hr (pa_cons (pv 3) (pa_cons (pv 13) pa_nil)))))))
       (pss_cons (ps_if (PW.pt (pw_or (pt_cmpR op_ne (pe_m (ok_step T) hr (pv 6) (pa_cons (pe_op op_sub (pv 11) (pv 10)) pa_nil)) (pv 12) (nomark _)) (pw_or1 (pt_not (pt_val (pe_f (ok_same0 T) hr (pa_cons (pe_m0 (ok_wplace T) hr (pv 6)) (pa_cons (pv 11) pa_nil))))))))
       (pss_one (ps_ret pe_bl))
       pss_nil)
       (pss_cons (ps_set (i := 8) scLaw.nd rfl (Or.inl rfl) (pv 11))
       (pss_one (ps_expr (pe_methK (pe_m (ok_joined T) hr (pv 4) (pa_cons (pe_m (ok_text T) hr (pv 2) (pa_cons pe_str pa_nil)) pa_nil)) T.c_Text T.m_Text_cut okC hr7 kbC pass0 (pk_cons (pv 10) pk_nil)))))))))))
       (pss_cons (ps_setLc (i := 14) (own := [("_law_k", 13)]) (g := (gName 13)) (tt := tYes) rfl scLaw.nd rfl rfl (sw_true rfl rfl rfl (by decide +kernel)) (pi_range1 (by rfl) T.b_range (pa_cons pe_int pa_nil)) (blkOk_by (N := ["_law_script", "_law_bag_here", "_law_cloth", "_law_segments_here", "_law_text", "_law_size", "_law_walk", "_law_other", "_law_spot_here", "_law_turn", "_law_goal", "_law_high", "_law_due", "_law_k", "_law_lots", "_law_runs", "_law_back"]) (sc := defScope s_law) (by decide +kernel)) (fun _ _ _ _ _ => (pg_name (i := 13) scLaw.nd rfl (Or.inl rfl))) (fun _ _ _ _ _ => pts_nil) (fun _ _ _ _ _ => (pe_op op_add pe_int (pe_f (ok_pull T) hr (pa_cons (pv 1) (pa_cons (pe_op op_pow pe_int pe_int) pa_nil))))))
       (pss_cons (ps_set (i := 15) scLaw.nd rfl (Or.inl rfl) (pe_m (ok_joined T) hr (pe_m (ok_times T) hr (pe_m (ok_text T) hr (pv 2) (pa_cons pe_str pa_nil)) (pa_cons (pe_ix ix_list (pv 14) pe_int (fun _ _ => rfl)) pa_nil)) (pa_cons (pe_m (ok_times T) hr (pe_m (ok_text T) hr (pv 2) (pa_cons pe_str pa_nil)) (pa_cons (pe_ix ix_list (pv 14) pe_int (fun _ _ => rfl)) pa_nil)) pa_nil)))
       (pss_cons (ps_set (i := 15) scLaw.nd rfl (Or.inl rfl) (pe_m (ok_joined T) hr (pv 15) (pa_cons (pe_m (ok_times T) hr (pe_m (ok_text T) hr (pv 2) (pa_cons pe_str pa_nil)) (pa_cons (pe_ix ix_list (pv 14) pe_int (fun _ _ => rfl)) pa_nil)) pa_nil)))
       (pss_cons (ps_set (i := 6) scLaw.nd rfl (Or.inr rfl) (pe_makeK T.k_Walk okW hr3 (by rfl) T.g_Walk kbW pass0 (pa_cons (pv 15) pa_nil) (pk_cons (pe_f (ok_pull T) hr (pa_cons (pv 1) (pa_cons (pe_ix ix_list (pv 14) pe_int (fun _ _ => rfl)) pa_nil))) pk_nil)))
       (pss_cons (ps_set (i := 12) scLaw.nd rfl (Or.inl rfl) (pe_lst (pa_cons (pe_tup (pa_cons pe_str (pa_cons (pe_op op_sub (pe_ix ix_list (pv 14) pe_int (fun _ _ => rfl)) (pe_m0 (ok_wplace T) hr (pv 6))) pa_nil))) (pa_cons (pe_tup (pa_cons pe_str (pa_cons (pe_ix ix_list (pv 14) pe_int (fun _ _ => rfl)) pa_nil))) (pa_cons (pe_tup (pa_cons pe_str (pa_cons (pe_ix ix_list (pv 14) pe_int (fun _ _ => rfl)) pa_nil))) (pa_cons pe_non pa_nil))))))
       (pss_cons (ps_set (i := 16) scLaw.nd rfl (Or.inl rfl) (pe_k (mk_walk0 T) hr (pa_cons (pv 15) pa_nil)))
       (pss_cons (ps_if (PW.pt (pw_or (pt_cmpR op_ne (pe_m (ok_seek T) hr (pv 16) (pa_cons pe_str pa_nil)) (pe_op op_sub (pe_op op_add (pe_ix ix_list (pv 14) pe_int (fun _ _ => rfl)) (pe_ix ix_list (pv 14) pe_int (fun _ _ => rfl))) pe_int) (nomark _)) (pw_or1 (pt_cmpR op_notN (pe_m (ok_seek T) hr (pv 16) (pa_cons pe_str pa_nil)) pe_non (nomark _)))))
       (pss_one (ps_ret pe_bl))
       pss_nil)
       (pss_cons (ps_if (pt_not (pt_val (pe_f (ok_same2 T) hr (pa_cons (pe_lc (own := [("_law_k", 13)]) (g := (gName 13)) (tt := tYes) rfl scLaw.nd (pi_range1 (by rfl) T.b_range (pa_cons pe_int pa_nil)) (blkOk_by (N := ["_law_script", "_law_bag_here", "_law_cloth", "_law_segments_here", "_law_text", "_law_size", "_law_walk", "_law_other", "_law_spot_here", "_law_turn", "_law_goal", "_law_high", "_law_due", "_law_k", "_law_lots", "_law_runs", "_law_back"]) (sc := defScope s_law) (by decide +kernel)) (fun _ _ _ _ _ => (pg_name (i := 13) scLaw.nd rfl (Or.inl rfl))) (fun _ _ _ _ _ => pts_nil) (fun _ _ _ _ _ => (pe_m0 (ok_rest T) hr (pv 6)))) (pa_cons (pv 12) pa_nil)))))
       (pss_one (ps_ret pe_bl))
       pss_nil)
       (pss_one (ps_ret (pe_and (pe_cmpR op_eq (pe_m0 (ok_wplace T) hr (pv 7)) (pv 5) (nomark _)) (pe_one (pe_cmpR op_eq (pe_m0 (ok_wplace T) hr (pv 16)) (pe_op op_sub (pe_op op_add (pe_ix ix_list (pv 14) pe_int (fun _ _ => rfl)) (pe_ix ix_list (pv 14) pe_int (fun _ _ => rfl))) pe_int) (nomark _))))))))))))))))))))))), ?_⟩
    dsimp only [L2.start, List.map, List.map_cons, List.map_nil, List.append_eq, List.append, List.length_cons, List.length_nil, Nat.reduceAdd, Nat.reduceSub, List.replicate_succ, List.replicate_zero, List.cons_append, List.nil_append, cxOf]
    refine ⟨_, rfl, sc, ns, rfl, hsc, fun H1 b cl s1 B1 => ?_⟩
    dsimp only [gName, wipe, List.set_cons_succ, List.set_cons_zero]
    -- Loom()
    refine fun lo dl hlo hdl ne => ⟨lo, dl, rfl, upd_same, fun a H2 D2 hlo2 out2 => ⟨rfl, ?_⟩⟩
    have s2 := made_same hlo hdl out2
    have B2 := B1.same s2
    obtain ⟨bcs, bi, bs, hb2, hcl2, bne, _⟩ := id B2.ex
    have nb : b ∉ six a := six_nil D2 hb2
    have nc : cl ∉ six a := by
      cases bcs with
      | nil => exact absurd rfl bne
      | cons c r => rw [List.map_cons] at hcl2; exact six_nil D2 hcl2
    have W2 : Wd K b cl lo a Sto.empty H2 := ⟨⟨D2, dl, hlo2⟩, B2, nb, nc⟩
    clear hb2 hcl2 bne out2 ne s1 s2 hlo hdl
    dsimp only [gName, wipe, List.set_cons_succ, List.set_cons_zero]
    -- segments
    refine ⟨_, rfl, b, cl, rfl, B2, fun H3 l ss sne s3 so SA3 B3 o3 hl => ?_⟩
    have W3 := W2.oth B3 o3
    have l6 := D2.out_new hl
    obtain ⟨lb, lc⟩ := B2.fresh hl
    dsimp only [gName, wipe, List.set_cons_succ, List.set_cons_zero]
    -- vast
    refine ⟨_, rfl, _, rfl, lo, l, a, Sto.empty, ss, rfl, W3.lw, SA3, l6, s3, so, (show 0 + 14100000 ≤ 16777216 by decide), fun S4 H4 t top le4 L4 k4 X4 t4 few4 => ?_⟩
    have W4 := W3.kp k4 L4
    have SA4 := SA3.kp W3.lw.st k4 l6
    have few4 : S4.len ≤ 0 + 13646841 := few4
    have vs := vast_small so
    have vp : 1 ≤ (vastT ss).length := by
      match ss, sne with
      | s :: r, _ =>
        show 1 ≤ (segT s ++ vastT r).length
        rw [List.length_append]
        have := (so s (by simp)).small.1
        omega
    have v18 : (vastT ss).length ≤ 210000000000000000 := by omega
    clear W3 W2 B2 SA3 o3 k4 le4 hl hlo2 D2
    dsimp only [gName, wipe, List.set_cons_succ, List.set_cons_zero]
    refine ⟨_, rfl, l, ss, rfl, SA4, s3, so, fun H5 s5 => ?_⟩
    dsimp only [gName, wipe, List.set_cons_succ, List.set_cons_zero]
    -- Walk(text)
    refine ⟨_, rfl, fun wk dw hwk hdw ne6 => ⟨wk, dw, t, lo, a, S4, top, vastT ss, 0, rfl, upd_same, (L4.same s5).same (made_mid hwk hdw), (X4.same s5).same (made_mid hwk hdw), t4, Nat.zero_le _, fun H6 WA6 out6 => ⟨rfl, ?_⟩⟩⟩
    have s6 := made_same hwk hdw out6
    dsimp only [gName, wipe, List.set_cons_succ, List.set_cons_zero]
    -- Walk(text, at=size)
    refine ⟨_, rfl, _, rfl, rfl, rfl, fun ot dot hot hdot ne7 => ⟨ot, dot, t, lo, a, S4, top, vastT ss, (vastT ss).length, rfl, upd_same, ((L4.same s5).same s6).same (made_mid hot hdot), ((X4.same s5).same s6).same (made_mid hot hdot), t4, Nat.le_refl _, fun H7 OA7 out7 => ⟨rfl, ?_⟩⟩⟩
    have s7 := made_same hot hdot out7
    have s567 := (s5.trans s6).trans s7
    have ow : ot ≠ wk := by
      obtain ⟨d, h⟩ := WA6
      exact (ne_of_none h hot).symm
    have I0 : LS K b cl lo l t wk ot a ss S4 top 0 H7 := ⟨W4.same s567, l6, lb, lc, SA4.same s567, X4.same s567, t4, WA6.same s7, OA7, ow⟩
    clear W4 SA4 X4 L4 WA6 OA7 s5 s6 s7 s567 out6 out7 hwk hdw hot hdot ne6 ne7
    generalize hn : (vastT ss).length = n at *
    dsimp only [gName, wipe, List.set_cons_succ, List.set_cons_zero]
    -- for turn in range(4)
    refine ⟨4, rfl, by decide, by decide, ?_⟩
    refine for_it (walk_range (lo := 0) (n := 4)) (fun i σ H' => ∃ (S : Sto) (sp : Nat) (v9 v10 v11 v12 : Option V), σ = [some (.ref sc), some (.ref b), some (.ref lo), some (.ref l), some (.ref t), some (iV n), some (.ref wk), some (.ref ot), some (iV sp), v9, v10, v11, v12, none, none, none, none] ∧ LS K b cl lo l t wk ot a ss S top sp H' ∧ S.len ≤ 13646841 + 59335 * i ∧ sp ≤ n)
      ⟨S4, 0, _, _, _, _, rfl, I0, by omega, Nat.zero_le _⟩ (fun _ _ _ _ _ => trivial) ?_ ?_
    · rintro i x σ G0 G1 hi ⟨S, sp, v9, v10, v11, v12, rfl, I, few, spn⟩ ⟨rfl, rfl⟩
      dsimp only [gName, wipe, List.set_cons_succ, List.set_cons_zero]
      have hi : i < 4 := hi
      have bud : 59335 * i ≤ 59335 * 3 := Nat.mul_le_mul_left _ (by omega)
      -- goal
      refine ⟨_, rfl, _, rfl, b, cl, l, ss, rfl, I.w.bag, I.sg, I.lb, I.lc, sne, s3, so, fun H1 g gl B1 o1 => ?_⟩
      have I1 := I.oth B1 o1
      rw [hn] at gl
      clear I
      dsimp only [gName, wipe, List.set_cons_succ, List.set_cons_zero]
      -- go
      obtain ⟨dw, hw⟩ := id I1.hk
      refine ⟨_, rfl, wk, dw, _, rfl, hw, lkW_no (by decide +kernel), _, rfl, _, rfl, _, _, rfl, rfl, wk, t, lo, a, S, top, vastT ss, sp, g, _, rfl, by omega, I1.hk, I1.w.lw, I1.tx, I1.tt, by rw [hn]; omega, fun H2 bt WA2 => ⟨_, rfl, iV g, iV g, rfl, ⟨.int _, rfl⟩, fun H3 s3' => ⟨_, rfl, ?_⟩⟩⟩
      have I3 := (I1.but bt WA2).same s3'
      clear I1 bt WA2 hw
      refine iteF ?_
      dsimp only [tNext, gName, wipe, List.set_cons_succ, List.set_cons_zero]
      -- high
      refine ⟨_, rfl, _, rfl, _, _, rfl, rfl, _, rfl, z2, fun q hq => ?_⟩
      have sq := same_upd (o := .lst [V.int 30, V.int 200]) hq
      have hq1 : upd H3 q (.lst [V.int 30, V.int 200]) q = some (.lst [V.int 30, V.int 200]) := upd_same
      have I4 := I3.same sq
      obtain ⟨q2, q3⟩ := I3.w.bag.fresh hq
      generalize upd H3 q (.lst [V.int 30, V.int 200]) = H4 at sq hq1 I4
      clear I3 sq
      refine ⟨_, rfl, b, cl, 2, rfl, I4.w.bag, by decide, by decide, fun H5 v5 v52 B5 o5 => ?_⟩
      obtain ⟨wv, w1, w200, hwv⟩ := widths2 v52
      have I5 := I4.oth B5 o5
      have hq5 := o5 _ _ q2 q3 hq1
      clear I4
      refine ⟨q, _, _, iV wv, rfl, rfl, SqL.of hq5, hwv, b, cl, wv, rfl, I5.w.bag, w1, by rw [big18]; omega, fun H6 v6 v6l B6 o6 => ⟨_, _, rfl, rfl, _, _, rfl, ?_⟩⟩
      have I6 := I5.oth B6 o6
      clear I5 hq5 hq1
      have eh : V.int (if (g : Int) + 1 + (v6 : Int) < (n : Int) then (g : Int) + 1 + (v6 : Int) else (n : Int)) = iV (min n (g + 1 + v6)) := by
        refine congrArg V.int ?_
        split <;> omega
      rw [eh]
      have gh : g ≤ min n (g + 1 + v6) := by omega
      have hh : min n (g + 1 + v6) ≤ n := by omega
      have h200 : min n (g + 1 + v6) - g ≤ 200 := by omega
      generalize min n (g + 1 + v6) = hgh at gh hh h200 eh
      dsimp only [gName, wipe, List.set_cons_succ, List.set_cons_zero]
      -- due
      refine ⟨⟨_, rfl⟩, _, rfl, _, rfl, _, _, rfl, ⟨by omega, by omega, by omega, by omega⟩, fun d hd => ?_⟩
      have en : ((hgh : Int) - (g : Int)).toNat = hgh - g := by omega
      rw [en]
      refine lc_range (fun j H' => Same H6 H' ∧ H' d = some (.lst (((((vastT ss).drop g).take j).map fun c => wd [c]).map V.str))) ⟨same_upd hd, upd_same⟩ ?_ ?_
      · rintro j H7 hj ⟨s7, hd7⟩
        have hgj : g + j < (vastT ss).length := by omega
        have hc : (vastT ss)[g + j]? = some ((vastT ss)[g + j]'hgj) := List.getElem?_eq_getElem hgj
        generalize (vastT ss)[g + j]'hgj = c at hc
        refine ⟨rfl, _, rfl, _, rfl, l, ss, g + j, c, rfl, I6.sg.same s7, so, hc, _, hd7, ?_, fun y u e => ?_, ?_⟩
        · rw [List.length_map, List.length_map, List.length_take, sizeLine_eq]
          omega
        · rw [upd_ne (ne_of_none e hd)]
          exact s7 _ _ e
        · have : ((vastT ss).drop g)[j]? = some c := by rw [List.getElem?_drop]; exact hc
          rw [upd_same, take_snoc this, List.map_append, List.map_append]
          rfl
      · rintro H7 ⟨s7, hd7⟩
        have I7 := I6.same s7
        clear I6
        refine ⟨_, d, _, rfl, rfl, .inl (SqL.of hd7), ?_, ?_⟩
        · rw [sum_chars, List.length_map, List.length_take]
          show _ + _ * 0 ≤ _
          omega
        rw [join_chars]
        dsimp only [gName, wipe, List.set_cons_succ, List.set_cons_zero]
        -- step
        obtain ⟨dw, hw⟩ := id I7.hk
        have em : V.int ((hgh : Int) - (g : Int)) = iV (hgh - g) := congrArg V.int (by omega)
        refine ⟨_, rfl, wk, dw, _, rfl, hw, lkW_no (by decide +kernel), _, rfl, _, rfl, _, _, rfl, rfl, wk, t, lo, a, S, top, vastT ss, g, hgh - g, (by show [V.ref wk, V.int ((hgh : Int) - (g : Int))] = _; rw [em]), I7.hk, I7.w.lw, I7.tx, I7.tt, by rw [big18]; omega, h200, by omega, fun H8 bt8 WA8 => ⟨_, rfl, rfl, _, rfl, ?_⟩⟩
        rw [show g + (hgh - g) = hgh by omega] at WA8
        have I8 := I7.but bt8 WA8
        clear I7 bt8 WA8 hw
        have ns : ∀ z : Str, (!decide (V.str z = V.str z)) = false := fun z => by rw [decide_eq_true rfl]; rfl
        rw [ns]
        refine iteF ?_
        obtain ⟨dw, hw⟩ := id I8.hk
        refine ⟨_, rfl, wk, dw, _, rfl, hw, lkW_no (by decide +kernel), wk, t, hgh, rfl, I8.hk, _, rfl, iV hgh, iV hgh, rfl, ⟨.int _, rfl⟩, fun H9 s9 => ⟨_, rfl, ?_⟩⟩
        have I9 := I8.same s9
        clear I8 hw
        refine iteF ?_
        dsimp only [tNext, gName, wipe, List.set_cons_succ, List.set_cons_zero]
        refine ⟨_, rfl, ?_⟩
        dsimp only [gName, wipe, List.set_cons_succ, List.set_cons_zero]
        -- text.joined(cloth.text('g')).cut(start=goal)
        obtain ⟨dx, hx⟩ := id I9.tx
        obtain ⟨dl, hl⟩ := I9.w.lw.lo
        refine ⟨_, rfl, t, dx, _, rfl, hx, lkT_no (by decide +kernel), _, rfl, lo, dl, _, rfl, hl, lkL_no (by decide +kernel), lo, a, S, [6], (by show [V.ref lo, V.str "g"] = _; rw [wd_g]), I9.w.lw, (fun x hx => by rw [List.mem_singleton.mp hx]; decide), by decide, by omega, fun S1 H10 x1 top1 le1 L1 k1 X1 t1 few1 => ?_⟩
        have I10 := I9.kp k1 le1 L1
        have few1 : S1.len ≤ S.len + 1 := few1
        refine ⟨t, x1, lo, a, S1, top, top1, _, _, rfl, L1, I10.tx, X1, I10.tt, t1, ?_, by omega, fun S2 H11 x2 top2 le2 L2' k2 X2 t2 few2 => ?_⟩
        · rw [List.length_append, hn, big18]
          show n + 1 ≤ _
          omega
        have I11 := I10.kp k2 le2 L2'
        obtain ⟨dx2, hx2⟩ := id X2
        refine ⟨x2, dx2, _, rfl, hx2, lkT_no (by decide +kernel), _, rfl, rfl, x2, lo, a, S2, top2, _, g, rfl, L2', X2, t2, ?_, ?_, by omega, fun S3 H12 x3 top3 le3 L3 k3 X3 t3 few3 => ?_⟩
        · rw [List.length_append, hn]
          omega
        · rw [List.length_append, hn, big18]
          show n + 1 ≤ _
          omega
        exact ⟨S3, hgh, _, _, _, _, rfl, I11.kp k3 le3 L3, by omega, hh⟩
    · rintro σ H8 ⟨S, sp, v9, v10, v11, v12, rfl, I, few, spn⟩
      dsimp only [gName, wipe, List.set_cons_succ, List.set_cons_zero]
      have few : S.len ≤ 13884181 := by omega
      -- lots
      refine ⟨3, rfl, by decide, by decide, fun ld hld => ?_⟩
      have l6' := I.w.lw.st.out_new hld
      obtain ⟨ldb, ldc⟩ := I.w.bag.fresh hld
      refine lc_range (fun j H' => ∃ ns : List Nat, ns.length = j ∧ (∀ x ∈ ns, 1 ≤ x ∧ x ≤ 10 ^ 16) ∧ BagAt H' b cl ∧ Oth b cl H8 H' ∧ H' ld = some (.lst (ns.map iV))) ⟨[], rfl, fun x hx => (nomatch hx), I.w.bag.same (same_upd hld), Oth.of (same_upd hld), upd_same⟩ ?_ ?_
      · rintro j H9 hj ⟨ns, nl, n16, B9, o9, hl9⟩
        have hj : j < 3 := hj
        refine ⟨rfl, _, rfl, _, _, rfl, rfl, ⟨by decide, by decide, by decide⟩, b, cl, 10 ^ 16, (by show [V.ref b, V.int ((10 : Int) ^ (16 : Int).toNat)] = _; rw [e16]), B9, by decide, by decide, fun H10 v vl B10 o10 => ⟨_, _, rfl, rfl, ?_⟩⟩
        have hl10 := o10 _ _ ldb ldc hl9
        refine ⟨_, hl10, ?_, ns ++ [v + 1], by rw [List.length_append, nl]; rfl, fun x hx => ?_, B10.upd ldb ldc, fun y u n m e => ?_, ?_⟩
        · rw [List.length_map, sizeLine_eq]
          omega
        · rcases List.mem_append.mp hx with z | z
          · exact n16 x z
          · have : x = v + 1 := by simpa using z
            omega
        · rw [upd_ne (ne_of_none e hld)]
          exact o10 _ _ n m (o9 _ _ n m e)
        · rw [upd_same, List.map_append]
          have : V.int (1 + (v : Int)) = iV (v + 1) := congrArg V.int (by omega)
          show some (HO.lst (ns.map iV ++ [V.int (1 + (v : Int))])) = _
          rw [this]
          rfl
      · rintro H9 ⟨ns, nl, n16, B9, o9, hl9⟩
        have I9 : LT K b cl lo ot t n a ld ns S H9 := ⟨I.w.oth B9 o9, by have := I.ho; rw [hn] at this; exact this.oth I.w.bag o9, hl9, l6', ldb, ldc⟩
        clear I o9 hld B9 hl9
        obtain ⟨n0, n1, n2, en⟩ : ∃ n0 n1 n2, ns = [n0, n1, n2] := by
          match ns, nl with
          | [n0, n1, n2], _ => exact ⟨n0, n1, n2, rfl⟩
        subst en
        obtain ⟨p0, q0⟩ := n16 n0 (by simp)
        obtain ⟨p1, q1⟩ := n16 n1 (by simp)
        obtain ⟨p2, q2⟩ := n16 n2 (by simp)
        have b16 : (10 : Nat) ^ 16 = 10000000000000000 := big16
        rw [b16] at q0 q1 q2
        have t54 : 10000000000000000 < 2 ^ 54 := by decide
        have at0 : atI ([n0, n1, n2].map iV) (0 : Int) = some (iV n0) := rfl
        have at1 : atI ([n0, n1, n2].map iV) (1 : Int) = some (iV n1) := rfl
        have at2 : atI ([n0, n1, n2].map iV) (2 : Int) = some (iV n2) := rfl
        have one8 : ∀ y : Nat, y < 8 → ∀ x ∈ [y], x < 8 := fun y hy x hx => by rw [List.mem_singleton.mp hx]; exact hy
        have r1 : ∀ y, repC [y] = 79112 := fun y => rfl
        dsimp only [gName, wipe, List.set_cons_succ, List.set_cons_zero]
        -- runs
        obtain ⟨dl, hl⟩ := I9.w.lw.lo
        refine ⟨_, rfl, lo, dl, _, rfl, hl, lkL_no (by decide +kernel), lo, a, S, [0], (by show [V.ref lo, V.str "a"] = _; rw [wd_a]), I9.w.lw, one8 0 (by decide), by decide, by omega, fun S1 G1 x1 top1 le1 L1 k1 X1 t1 few1 => ?_⟩
        have I10 := I9.kp k1 L1
        have few1 : S1.len ≤ S.len + 1 := few1
        obtain ⟨dx1, hx1⟩ := id X1
        refine ⟨x1, dx1, _, rfl, hx1, lkT_no (by decide +kernel), _, rfl, ld, _, _, iV n0, rfl, rfl, SqL.of I10.hl, at0, x1, lo, a, S1, top1, [0], n0, rfl, L1, X1, t1, by omega, by rw [rep_len, big18]; show n0 * 1 ≤ _; omega, by rw [r1]; omega, fun S2 G2 x2 top2 le2 L2' k2 X2 t2 few2 => ?_⟩
        have I11 := I10.kp k2 L2'
        rw [r1] at few2
        obtain ⟨dx2, hx2⟩ := id X2
        obtain ⟨dl2, hl2⟩ := I11.w.lw.lo
        refine ⟨x2, dx2, _, rfl, hx2, lkT_no (by decide +kernel), _, rfl, lo, dl2, _, rfl, hl2, lkL_no (by decide +kernel), lo, a, S2, [1], (by show [V.ref lo, V.str "b"] = _; rw [wd_b]), I11.w.lw, one8 1 (by decide), by decide, by omega, fun S3 G3 x3 top3 le3 L3 k3 X3 t3 few3 => ?_⟩
        have I12 := I11.kp k3 L3
        have few3 : S3.len ≤ S2.len + 1 := few3
        obtain ⟨dx3, hx3⟩ := id X3
        refine ⟨x3, dx3, _, rfl, hx3, lkT_no (by decide +kernel), _, rfl, ld, _, _, iV n1, rfl, rfl, SqL.of I12.hl, at1, x3, lo, a, S3, top3, [1], n1, rfl, L3, X3, t3, by omega, by rw [rep_len, big18]; show n1 * 1 ≤ _; omega, by rw [r1]; omega, fun S4 G4 x4 top4 le4 L4 k4 X4 t4 few4 => ?_⟩
        have I13 := I12.kp k4 L4
        rw [r1] at few4
        have k34 := k3.trans k4
        have X24 := X2.kp L2'.st k34
        refine ⟨x2, x4, lo, a, S4, top2, top4, _, _, rfl, L4, X24, X4, (t2.le le3).le le4, t4, ?_, by omega, fun S5 G5 r1' top5 le5 L5 k5 X5 t5 few5 => ?_⟩
        · rw [List.length_append, rep_len, rep_len, big18]
          show n0 * 1 + n1 * 1 ≤ _
          omega
        have I14 := I13.kp k5 L5
        clear I9 I10 I11 I12 I13 X1 X2 X3 X4 X24 hx1 hx2 hx3 t1 t2 t3 t4 L1 L2' L3 L4 k1 k2 k3 k4 k34 k5 hl hl2 le1 le2 le3 le4 le5
        dsimp only [gName, wipe, List.set_cons_succ, List.set_cons_zero]
        -- runs = runs.joined(..)
        obtain ⟨dl, hl⟩ := I14.w.lw.lo
        obtain ⟨dx5, hx5⟩ := id X5
        refine ⟨_, rfl, r1', dx5, _, rfl, hx5, lkT_no (by decide +kernel), _, rfl, lo, dl, _, rfl, hl, lkL_no (by decide +kernel), lo, a, S5, [0], (by show [V.ref lo, V.str "a"] = _; rw [wd_a]), I14.w.lw, one8 0 (by decide), by decide, by omega, fun S6 G6 x6 top6 le6 L6 k6 X6 t6 few6 => ?_⟩
        have I15 := I14.kp k6 L6
        have few6 : S6.len ≤ S5.len + 1 := few6
        obtain ⟨dx6, hx6⟩ := id X6
        refine ⟨x6, dx6, _, rfl, hx6, lkT_no (by decide +kernel), _, rfl, ld, _, _, iV n2, rfl, rfl, SqL.of I15.hl, at2, x6, lo, a, S6, top6, [0], n2, rfl, L6, X6, t6, by omega, by rw [rep_len, big18]; show n2 * 1 ≤ _; omega, by rw [r1]; omega, fun S7 G7 x7 top7 le7 L7 k7 X7 t7 few7 => ?_⟩
        have I16 := I15.kp k7 L7
        rw [r1] at few7
        refine ⟨r1', x7, lo, a, S7, top5, top7, _, _, rfl, L7, X5.kp L5.st (k6.trans k7), X7, (t5.le le6).le le7, t7, ?_, by omega, fun S8 G8 rr top8 le8 L8 k8 X8 t8 few8 => ?_⟩
        · rw [List.length_append, List.length_append, rep_len, rep_len, rep_len, big18]
          show n0 * 1 + n1 * 1 + n2 * 1 ≤ _
          omega
        have I17 := I16.kp k8 L8
        rw [three_eq] at t8
        clear I14 I15 I16 X5 X6 X7 hx5 hx6 t5 t6 t7 L5 L6 L7 k6 k7 k8 hl
        obtain ⟨nt, ent, hnt, ect⟩ : ∃ nt : Nat, top8 = nt ∧ nt < S8.len ∧ S8.cont nt = three' n0 n1 n2 := by
          rcases t8 with ⟨z, _⟩ | z
          · have := congrArg List.length z
            rw [three_len] at this
            simp at this
            omega
          · exact z
        subst ent
        have szt : S8.size nt = n0 + n1 + n2 := by rw [← VW.cont_len L8.st.ok hnt, ect, three_len]
        have ect' : S8.cont nt = List.replicate n0 0 ++ (List.replicate n1 1 ++ List.replicate n2 0) := ect
        obtain ⟨R, FW⟩ := three_few L8.st.ok hnt (by decide : (0 : Nat) ≠ 1) p0 p1 p2 ect'
        have loc := fun {nm st i : Nat} (h : VW.Loc S8 nt 1 nm st i) => three_loc L8.st.ok hnt (by decide : (0 : Nat) ≠ 1) p0 p1 p2 ect' h
        dsimp only [gName, wipe, List.set_cons_succ, List.set_cons_zero]
        -- Walk(runs, at=pull)
        refine ⟨_, rfl, _, rfl, _, rfl, ld, _, _, iV n0, rfl, rfl, SqL.of I17.hl, at0, b, cl, n0, rfl, I17.w.bag, p0, by rw [big18]; omega, fun H10 v vl B10 o10 => ⟨rfl, rfl, fun wk2 dw2 hwk hdw ne2 => ?_⟩⟩
        have I18 := I17.oth B10 o10
        have X10 := X8.oth I17.w.bag o10
        refine ⟨wk2, dw2, rr, lo, a, S8, (nt : Int), _, v, rfl, upd_same, I18.w.lw.same (made_mid hwk hdw), X10.same (made_mid hwk hdw), t8, by rw [three_len]; omega, fun H11 WA11 out11 => ⟨rfl, ?_⟩⟩
        have s11 := made_same hwk hdw out11
        have I19 := I18.same s11
        have X11 := X10.same s11
        have ow2 : ot ≠ wk2 := by
          obtain ⟨d, h⟩ := I18.ho
          exact ne_of_none h hwk
        clear I17 I18 X8 X10 B10 o10 out11 s11 hwk hdw ne2
        dsimp only [gName, wipe, List.set_cons_succ, List.set_cons_zero]
        -- due
        obtain ⟨dw, hw⟩ := id WA11
        refine ⟨_, rfl, ld, _, _, iV n0, rfl, rfl, SqL.of I19.hl, at0, _, rfl, wk2, dw, _, rfl, hw, lkW_no (by decide +kernel), wk2, rr, v, rfl, WA11, _, _, rfl, rfl, z2, fun d1 hd1 => ?_⟩
        dsimp only []
        have ev : V.int ((n0 : Int) - (v : Int)) = iV (n0 - v) := congrArg V.int (by omega)
        rw [ev]
        have u1 := same_upd (o := .tup [V.str "a", iV (n0 - v)]) hd1
        have e1 : upd H11 d1 (.tup [V.str "a", iV (n0 - v)]) d1 = some (.tup [V.str "a", iV (n0 - v)]) := upd_same
        generalize upd H11 d1 (.tup [V.str "a", iV (n0 - v)]) = J1 at u1 e1
        refine ⟨_, rfl, ld, _, _, iV n1, rfl, rfl, SqL.of (u1 _ _ I19.hl), at1, z2, fun d2 hd2 => ?_⟩
        have u2 := same_upd (o := .tup [V.str "b", iV n1]) hd2
        have e2 : upd J1 d2 (.tup [V.str "b", iV n1]) d2 = some (.tup [V.str "b", iV n1]) := upd_same
        generalize upd J1 d2 (.tup [V.str "b", iV n1]) = J2 at u2 e2
        refine ⟨_, rfl, ld, _, _, iV n2, rfl, rfl, SqL.of (u2 _ _ (u1 _ _ I19.hl)), at2, z2, fun d3 hd3 => ?_⟩
        have u3 := same_upd (o := .tup [V.str "a", iV n2]) hd3
        have e3 : upd J2 d3 (.tup [V.str "a", iV n2]) d3 = some (.tup [V.str "a", iV n2]) := upd_same
        generalize upd J2 d3 (.tup [V.str "a", iV n2]) = J3 at u3 e3
        refine ⟨z4, fun dd hdd => ?_⟩
        have u4 := same_upd (o := .lst [V.ref d1, V.ref d2, V.ref d3, V.non]) hdd
        have e4 : upd J3 dd (.lst [V.ref d1, V.ref d2, V.ref d3, V.non]) dd = some (.lst [V.ref d1, V.ref d2, V.ref d3, V.non]) := upd_same
        generalize upd J3 dd (.lst [V.ref d1, V.ref d2, V.ref d3, V.non]) = J4 at u4 e4
        have u := ((u1.trans u2).trans u3).trans u4
        have I20 := I19.same u
        have X20 := X11.same u
        have W20 := WA11.same u
        have e1 := u4 _ _ (u3 _ _ (u2 _ _ e1))
        have e2 := u4 _ _ (u3 _ _ e2)
        have e3 := u4 _ _ e3
        clear I19 X11 WA11 u u1 u2 u3 u4 hd1 hd2 hd3 hdd hw
        dsimp only [gName, wipe, List.set_cons_succ, List.set_cons_zero]
        -- back = Walk(runs)
        refine ⟨_, rfl, fun bk dbk hbk hdbk ne3 => ⟨bk, dbk, rr, lo, a, S8, (nt : Int), _, 0, rfl, upd_same, I20.w.lw.same (made_mid hbk hdbk), X20.same (made_mid hbk hdbk), t8, Nat.zero_le _, fun J5 BA5 out5 => ⟨rfl, ?_⟩⟩⟩
        have s5 := made_same hbk hdbk out5
        have I21 := I20.same s5
        have X21 := X20.same s5
        have W21 := W20.same s5
        have e1 := s5 _ _ e1
        have e2 := s5 _ _ e2
        have e3 := s5 _ _ e3
        have e4 := s5 _ _ e4
        have bo : ot ≠ bk := by
          obtain ⟨d, h⟩ := I20.ho
          exact ne_of_none h hbk
        have bw : wk2 ≠ bk := by
          obtain ⟨d, h⟩ := W20
          exact ne_of_none h hbk
        clear I20 X20 W20 s5 out5 hbk hdbk ne3
        dsimp only [gName, wipe, List.set_cons_succ, List.set_cons_zero]
        -- seek('ba')
        obtain ⟨db, hb⟩ := id BA5
        refine ⟨_, rfl, bk, db, _, rfl, hb, lkW_no (by decide +kernel), bk, rr, lo, a, S8, nt, 1, 0, 0, R, some (n0 + n1 + 1), (by show [V.ref bk, V.str "ba"] = _; rw [wd_ba]), by decide, by decide, BA5, I21.w.lw, X21, hnt, FW, Nat.zero_le _, (by rw [ect]; exact next_ba p0 p1 p2), fun J6 bt6 BA6 => ?_⟩
        have BA6 : WalkAt K J6 bk rr (n0 + n1 + 1 - 2) := BA6
        have I22 := I21.but BA5 bo bt6
        have X22 := X21.but (top' := 0) BA5 bt6
        have W22 := W21.but bw bt6
        have e1 := bt6 _ _ (ne_walk BA5 e1 nw_tup) e1
        have e2 := bt6 _ _ (ne_walk BA5 e2 nw_tup) e2
        have e3 := bt6 _ _ (ne_walk BA5 e3 nw_tup) e3
        have e4 := bt6 _ _ (ne_walk BA5 e4 nw_lst) e4
        clear I21 X21 W21 bt6 hb
        refine ⟨_, rfl, ld, _, _, iV n0, rfl, rfl, SqL.of I22.hl, at0, _, rfl, ld, _, _, iV n1, rfl, rfl, SqL.of I22.hl, at1, _, _, rfl, rfl, _, _, rfl, rfl, rfl, _, rfl, ?_⟩
        have eb : V.int ((n0 : Int) + (n1 : Int) - 1) = iV (n0 + n1 + 1 - 2) := congrArg V.int (by omega)
        have db1 : (!decide (gV (some (n0 + n1 + 1)) = V.int ((n0 : Int) + (n1 : Int) - 1))) = false := by
          rw [eb, decide_eq_true (show gV (some (n0 + n1 + 1)) = iV (n0 + n1 + 1 - 2) from rfl)]
          rfl
        rw [db1]
        refine iteF ?_
        -- seek('ab')
        obtain ⟨db, hb⟩ := id BA6
        refine ⟨_, rfl, bk, db, _, rfl, hb, lkW_no (by decide +kernel), bk, rr, lo, a, S8, nt, 0, 1, n0 + n1 + 1 - 2, R, none, (by show [V.ref bk, V.str "ab"] = _; rw [wd_ab]), by decide, by decide, BA6, I22.w.lw, X22, hnt, FW, by omega, (by rw [ect]; exact next_ab p0 p1 p2), fun J7 bt7 BA7 => ⟨rfl, _, rfl, ?_⟩⟩
        have BA7 : WalkAt K J7 bk rr (n0 + n1 + 1 - 2) := BA7
        have I23 := I22.but BA6 bo bt7
        have X23 := X22.but (top' := 0) BA6 bt7
        have W23 := W22.but bw bt7
        have e1 := bt7 _ _ (ne_walk BA6 e1 nw_tup) e1
        have e2 := bt7 _ _ (ne_walk BA6 e2 nw_tup) e2
        have e3 := bt7 _ _ (ne_walk BA6 e3 nw_tup) e3
        have e4 := bt7 _ _ (ne_walk BA6 e4 nw_lst) e4
        clear I22 X22 W22 bt7 hb BA5 BA6
        refine iteF ?_
        dsimp only [tNext, gName, wipe, List.set_cons_succ, List.set_cons_zero]
        -- rest_of_run, four times
        have pz : ∀ j, posn v n0 n1 n2 j ≤ S8.size nt := fun j => by
          rw [szt]
          match j with
          | 0 => show v ≤ _; omega
          | 1 => show n0 ≤ _; omega
          | 2 => show n0 + n1 ≤ _; omega
          | j + 3 => exact Nat.le_refl _
        obtain ⟨dA, cj, ln, hdue, hdt, key⟩ : ∃ (dA : Nat → Addr) (cj ln : Nat → Nat), (∀ j, j < 3 → [V.ref d1, V.ref d2, V.ref d3, V.non][j]? = some (V.ref (dA j))) ∧ (∀ j, j < 3 → J7 (dA j) = some (.tup [.str (ltr (cj j)), iV (ln j)])) ∧
            ∀ j nm st c, j < 3 → VW.Loc S8 nt 1 nm st (posn v n0 n1 n2 j) → (S8.cont nt)[posn v n0 n1 n2 j]? = some c → c = cj j ∧ st + S8.size nm = posn v n0 n1 n2 (j + 1) ∧ st + S8.size nm - posn v n0 n1 n2 j = ln j := by
          refine ⟨fun j => match j with | 0 => d1 | 1 => d2 | _ => d3, fun j => match j with | 0 => 0 | 1 => 1 | _ => 0, fun j => match j with | 0 => n0 - v | 1 => n1 | _ => n2, fun j hj => ?_, fun j hj => ?_, fun j nm st c hj lc hc => ?_⟩
          · match j, hj with
            | 0, _ => rfl
            | 1, _ => rfl
            | 2, _ => rfl
          · match j, hj with
            | 0, _ => rw [wd_a] at e1; exact e1
            | 1, _ => rw [wd_b] at e2; exact e2
            | 2, _ => rw [wd_a] at e3; exact e3
          · obtain ⟨h1, h2, h3⟩ := loc lc
            rw [ect] at hc
            match j, hj with
            | 0, _ =>
              have hc : (three' n0 n1 n2)[v]? = some c := hc
              obtain ⟨g1, g2⟩ := h1 (show v < n0 from vl)
              rw [three_at (by omega), if_pos vl] at hc
              exact ⟨(Option.some.inj hc).symm, (show st + S8.size nm = n0 by omega), (show st + S8.size nm - v = n0 - v by omega)⟩
            | 1, _ =>
              have hc : (three' n0 n1 n2)[n0]? = some c := hc
              obtain ⟨g1, g2⟩ := h2 (show n0 ≤ n0 from Nat.le_refl _) (show n0 < n0 + n1 by omega)
              rw [three_at (by omega), if_neg (by omega), if_pos (by omega)] at hc
              exact ⟨(Option.some.inj hc).symm, (show st + S8.size nm = n0 + n1 by omega), (show st + S8.size nm - n0 = n1 by omega)⟩
            | 2, _ =>
              have hc : (three' n0 n1 n2)[n0 + n1]? = some c := hc
              obtain ⟨g1, g2⟩ := h3 (show n0 + n1 ≤ n0 + n1 from Nat.le_refl _)
              rw [three_at (by omega), if_neg (by omega), if_neg (by omega)] at hc
              exact ⟨(Option.some.inj hc).symm, (show st + S8.size nm = n0 + n1 + n2 by omega), (show st + S8.size nm - (n0 + n1) = n2 by omega)⟩
        have plt : ∀ j, j < 3 → posn v n0 n1 n2 j < S8.size nt := fun j hj => by
          rw [szt]
          match j, hj with
          | 0, _ => show v < _; omega
          | 1, _ => show n0 < _; omega
          | 2, _ => show n0 + n1 < _; omega
        have p3 : posn v n0 n1 n2 3 = S8.size nt := szt.symm
        refine ⟨4, rfl, by decide, by decide, fun d hd => ?_⟩
        refine lc_range (fun j H' => ∃ xs : List V, H' d = some (.lst xs) ∧ xs.length = j ∧ But wk2 J7 H' ∧ WalkAt K H' wk2 rr (posn v n0 n1 n2 j) ∧ F2 (fun x y => Eq0 x y ∨ Eq1 H' x y) xs ([V.ref d1, V.ref d2, V.ref d3, V.non].take j))
          ⟨[], upd_same, rfl, But.of (same_upd hd), W23.same (same_upd hd), .nil⟩ ?_ ?_
        · rintro j G1 hj ⟨xs, hd1, xl, bt, WA, FF⟩
          have hj : j < 4 := hj
          obtain ⟨dw, hw⟩ := id WA
          have X := X23.but (top' := 0) W23 bt
          have L := (I23.w.but W23 bt).lw
          have mono : ∀ {Ga : Hp} {o : List V}, (∀ y zs, G1 y = some (.tup zs) → Ga y = some (.tup zs)) → F2 (fun x y => Eq0 x y ∨ Eq1 Ga x y) xs ([V.ref d1, V.ref d2, V.ref d3, V.non].take j) := fun h => F2_imp FF fun x _ y _ q => q.imp id fun ⟨a1, b1, zs, f1, f2, f3, f4, f5⟩ => ⟨a1, b1, zs, f1, f2, h _ _ f3, h _ _ f4, f5⟩
          have wd_ : ∀ {Ga : Hp}, Ga d = some (.lst xs) → ∀ (i : Nat), WalkAt K Ga wk2 rr i → wk2 ≠ d := fun hg i ⟨_, h⟩ => ne_of h hg (by intro z; cases z)
          have after : ∀ (G2 : Hp) (y z : V) (i : Nat), But wk2 G1 G2 → WalkAt K G2 wk2 rr i → i = posn v n0 n1 n2 (j + 1) → [V.ref d1, V.ref d2, V.ref d3, V.non][j]? = some z → (Eq0 y z ∨ Eq1 G2 y z) → ∃ acc, G2 d = some (.lst acc) ∧ acc.length < sizeLine ∧ ∃ xs : List V, L2.upd G2 d (.lst (acc ++ [y])) d = some (.lst xs) ∧ xs.length = j + 1 ∧ But wk2 J7 (L2.upd G2 d (.lst (acc ++ [y]))) ∧ WalkAt K (L2.upd G2 d (.lst (acc ++ [y]))) wk2 rr (posn v n0 n1 n2 (j + 1)) ∧ F2 (fun x y' => Eq0 x y' ∨ Eq1 (L2.upd G2 d (.lst (acc ++ [y]))) x y') xs ([V.ref d1, V.ref d2, V.ref d3, V.non].take (j + 1)) := by
            intro G2 y z i b2 w2 ei hz q
            have hd2 := b2 _ _ (ne_walk WA hd1 nw_lst) hd1
            have wd2 := wd_ hd2 i w2
            have tup : ∀ x zs, G2 x = some (.tup zs) → L2.upd G2 d (.lst (xs ++ [y])) x = some (.tup zs) := fun x zs e => by
              rw [upd_ne (ne_of e hd2 (by intro z; cases z))]
              exact e
            refine ⟨xs, hd2, by rw [xl, sizeLine_eq]; omega, xs ++ [y], upd_same, by rw [List.length_append, xl]; rfl, fun x u n e => ?_, ?_, ?_⟩
            · rw [upd_ne (ne_of_none e hd)]
              exact b2 _ _ n (bt _ _ n e)
            · obtain ⟨dw', hw'⟩ := w2
              rw [← ei]
              exact ⟨dw', by rw [upd_ne wd2]; exact hw'⟩
            · rw [take_snoc hz]
              refine (mono (o := []) fun x zs e => tup x zs (b2 _ _ (ne_walk WA e nw_tup) e)).snoc ?_
              exact q.imp id fun ⟨a1, b1, zs, f1, f2, f3, f4, f5⟩ => ⟨a1, b1, zs, f1, f2, tup _ _ f3, tup _ _ f4, f5⟩
          refine ⟨rfl, _, rfl, wk2, dw, _, rfl, hw, lkW_no (by decide +kernel), wk2, rr, lo, a, S8, nt, posn v n0 n1 n2 j, rfl, WA, L, X, hnt, pz j, fun ep G2 s2 => ?_, fun ep nm st c G2 p lc hc b2 w2 hp => ?_⟩
          · have j3 : j = 3 := by
              rcases Nat.lt_or_ge j 3 with z | z
              · have := plt j z
                omega
              · omega
            subst j3
            exact after G2 .non .non _ (But.of s2) (WA.same s2) rfl rfl (.inl ⟨.non, rfl⟩)
          · have j3 : j < 3 := by
              rcases Nat.lt_or_ge j 3 with z | z
              · exact z
              · have : j = 3 := by omega
                subst this
                omega
            obtain ⟨g1, g2, g3⟩ := key j nm st c j3 lc hc
            subst g1
            rw [g3] at hp
            refine after G2 (.ref p) (.ref (dA j)) _ b2 w2 g2 (hdue j j3) (.inr ⟨p, dA j, _, rfl, rfl, hp, ?_, fun z hz => ?_, (show 2 ≤ 1000 by decide)⟩)
            · have h1 := hdt j j3
              have h2 := bt _ _ (ne_walk W23 h1 nw_tup) h1
              exact b2 _ _ (ne_walk WA h2 nw_tup) h2
            · have : z = .str (ltr (cj j)) ∨ z = iV (ln j) := by simpa using hz
              rcases this with q | q
              · rw [q]; exact .str _
              · rw [q]; exact .int _
        · rintro G1 ⟨xs, hd1, xl, bt, WA, FF⟩
          have xl : xs.length = 4 := xl
          refine ⟨_, rfl, .ref d, .ref dd, rfl, ⟨d, dd, xs, _, rfl, rfl, hd1, bt _ _ (ne_walk W23 e4 nw_lst) e4, FF, by omega⟩, fun G2 s2 => ⟨_, rfl, ?_⟩⟩
          refine iteF ?_
          dsimp only [tNext, gName, wipe, List.set_cons_succ, List.set_cons_zero]
          have I24 := (I23.but W23 ow2 bt).same s2
          have BA8 := (BA7.but bw.symm bt).same s2
          obtain ⟨do_, ho⟩ := id I24.ho
          obtain ⟨db, hb⟩ := id BA8
          refine ⟨_, rfl, ot, do_, _, rfl, ho, lkW_no (by decide +kernel), ot, t, n, rfl, I24.ho, _, rfl, rfl, ?_⟩
          rw [decide_eq_true (rfl : iV n = iV n)]
          refine ⟨true, rfl, ?_⟩
          refine iteT ?_
          refine ⟨_, rfl, bk, db, _, rfl, hb, lkW_no (by decide +kernel), bk, rr, _, rfl, BA8, _, rfl, ld, _, _, iV n0, rfl, rfl, SqL.of I24.hl, at0, _, rfl, ld, _, _, iV n1, rfl, rfl, SqL.of I24.hl, at1, _, _, rfl, rfl, _, _, rfl, rfl, rfl, ?_⟩
          have : decide (iV (n0 + n1 + 1 - 2) = V.int ((n0 : Int) + (n1 : Int) - 1)) = true := decide_eq_true eb.symm
          show Q (.bl (decide (iV (n0 + n1 + 1 - 2) = V.int ((n0 : Int) + (n1 : Int) - 1)))) G2
          rw [this]
          exact k G2
end
end VT
set_option Elab.async false
set_option linter.all false
set_option maxRecDepth 100000
set_option maxHeartbeats 0
/-! The head and the law, joined. -/
namespace VT
open PySem PySem.Spec PyProof.Rows L2
theorem facts {P : Program} {w : World} {K : PySem.W.Frag} {h : Heap} {mg : Str → Option Value} {f : Addr} (X : K.In h) (G : h.Ns mainGlobals mg) (hfa : mg ("law" : Str) = some (.ref f)) (c : He.SaysD fa fn K) (pe : plainEq K = true) :
    ∃ fd : FuncData, (∀ (s : Shared) (v : Value), BindsTo s fd ⟨[v], []⟩ [("_law_script", v)]) ∧ ∀ base : Heap, K.In base → base.Ns mainGlobals mg → FnOk P w K mg base CX0 11 f fd ["_law_script"] (spLaw K) := by
  have T : Txt K mg := ⟨c, ⟨h, X, G⟩, pe⟩
  obtain ⟨fd, F⟩ := T.f_law
  have e := hfa.symm.trans T.g_law
  have ea : He.ga K "law" = He.fAd K d_law.at_ := rfl
  rw [ea] at e
  cases e
  have b := FunD.bindsA (ps := ["_law_script"]) F fun _ _ _ _ _ _ us hl => match us, hl with | [_], _ => rfl
  exact ⟨fd, fun s v => b s [v] rfl, fun base _ _ => ok_law T F⟩
end VT
open PySem PySem.W PySem.Calls PyProof.Rows
theorem PySem.Challenge.cw_vastword_k31_whole_walks_over_vast_texts_holds : PySem.Challenge.rw_vastword_k31_whole_walks_over_vast_texts.Holds := by
  w_on; o_law
  refine HandSHeadRun.head_any (r := OpenLaw.row PySem.Challenge.rw_vastword_k31_whole_walks_over_vast_texts) (q := VT.qv) (H := VT.hk) (ob := VT.ob) (M := 6000) (loose := VT.names) (d := HandSHeadRun.topDef (OpenLaw.row PySem.Challenge.rw_vastword_k31_whole_walks_over_vast_texts).prog 63) (kwd := []) VT.ob_eq
    (by kernel_rfl) (fun s => by kernel_rfl) VT.run (by kernel_rfl) (by kernel_rfl) (by kernel_rfl) (by rfl) (by first | assumption | decide +kernel) (by decide +kernel) ⟨rfl, rfl, rfl, rfl, rfl, by decide +kernel⟩ ?hw ?hc
  case hw => w_witness2
  case hc =>
    refine L2.walk_ofE (l := PySem.Challenge.rw_vastword_k31_whole_walks_over_vast_texts) (n := 63) (k := 11) (x := "_law_script") (CX := L2.CX0) rfl (by decide) (by kernel_rfl) ⟨rfl, by decide, by decide⟩ ?F (fun _ _ _ _ z => z)
    intro w mg fa h Y G hmg0
    obtain ⟨K, KX, c, pe⟩ := Y
    have hmg : mg ("law" : PySem.Str) = some (.ref fa) := by
      have e : (HandSHeadRun.topDef (OpenLaw.row PySem.Challenge.rw_vastword_k31_whole_walks_over_vast_texts).prog 63).name = ("law" : PySem.Str) := by kernel_rfl
      rw [← e]
      exact hmg0
    obtain ⟨fd, hb, hF⟩ := VT.facts (P := (PySem.Challenge.rw_vastword_k31_whole_walks_over_vast_texts).prog) (w := w) KX G hmg c pe
    exact ⟨K, fd, VT.spLaw K, KX, hb, fun H a ns hl _ hS => ⟨a, ns, rfl, hS, fun _ => rfl⟩, hF⟩
