import PyProof.Rows.All
import Wide.All
import OpenK.AllK
import Wide.FinOn
import PyProof.StrOps2
import PyProof.P3Eq
import HandS.ForMost
import HandS.IsInst
import HandS.TupAny
import HandS.Walk
import HandS.Codes
import KE.GoesMore
import PyProof.WalkInts
import PyProof.FString5
import PySem.Challenge.RW_steadycover_k58_whole_sharing_never_flic
set_option linter.all false
set_option maxHeartbeats 4000000
/-! P1: words, plain: what the gates do to words, cuts. No program here. -/
namespace Sc
def alt : Bool → Nat → List Bool
  | _, 0 => []
  | b, n + 1 => b :: alt (!b) n
def exch (l : List Bool) : List Bool := l.map (!·)
def wtext (f : Bool) (z : Nat) (l : Bool) : List Bool := (if f = true then [true] else []) ++ [false] ++ (List.replicate (z - 1) [true, false]).flatten ++ (if l = true then [true] else [])
def orW (v w : List Bool) : List Bool :=
  if v = [true] ∨ w = [true] then [true]
  else wtext (v.headD false || w.headD false) (v.count false + w.count false - 1) (v.getLastD false || w.getLastD false)
def andW (v w : List Bool) : List Bool := exch (orW (exch v) (exch w))
def tn (b : Bool) : Nat := if b = true then 1 else 0
def zer (b : Bool) (n : Nat) : Nat := (n + 1 - tn b) / 2
def lst (b : Bool) (n : Nat) : Bool := if n % 2 = 1 then b else !b

theorem alt_len : ∀ (b : Bool) (n : Nat), (alt b n).length = n
  | _, 0 => rfl
  | b, n + 1 => by rw [alt, List.length_cons, alt_len]
theorem alt_exch : ∀ (b : Bool) (n : Nat), exch (alt b n) = alt (!b) n
  | _, 0 => rfl
  | b, n + 1 => by
    show (!b) :: exch (alt (!b) n) = (!b) :: alt (!!b) n
    rw [alt_exch]
theorem alt_zer : ∀ (b : Bool) (n : Nat), (alt b n).count false = zer b n
  | true, 0 => rfl
  | false, 0 => rfl
  | true, n + 1 => by
    show (true :: alt false n).count false = zer true (n + 1)
    rw [List.count_cons_of_ne (by decide), alt_zer false n]; simp [zer, tn]
  | false, n + 1 => by
    show (false :: alt true n).count false = zer false (n + 1)
    rw [List.count_cons_self, alt_zer true n]
    simp only [zer, tn]; simp; omega
theorem alt_head (b : Bool) (n : Nat) (h : 1 ≤ n) : (alt b n).headD false = b := by
  obtain ⟨k, rfl⟩ : ∃ k, n = k + 1 := ⟨n - 1, by omega⟩
  rfl
theorem alt_ne (b : Bool) (n : Nat) (h : 1 ≤ n) : alt b n ≠ [] := by
  obtain ⟨k, rfl⟩ : ∃ k, n = k + 1 := ⟨n - 1, by omega⟩
  intro q; cases q
theorem alt_last : ∀ (b : Bool) (n : Nat), 1 ≤ n → (alt b n).getLastD false = lst b n
  | b, 0, h => absurd h (by decide)
  | b, 1, _ => by cases b <;> rfl
  | b, n + 2, _ => by
    have ih := alt_last (!b) (n + 1) (by omega)
    have e : (alt b (n + 2)).getLastD false = (alt (!b) (n + 1)).getLastD false := by
      show (b :: (!b) :: alt (!!b) n).getLastD false = ((!b) :: alt (!!b) n).getLastD false
      simp [List.getLastD_cons]
    rw [e, ih]
    unfold lst
    by_cases h : (n + 1) % 2 = 1
    · rw [if_pos h, if_neg (by omega)]
    · rw [if_neg h, if_pos (by omega)]; simp
theorem alt_add : ∀ (b : Bool) (n m : Nat), alt b (2 * n + m) = alt b (2 * n) ++ alt b m
  | b, 0, m => by simp [alt]
  | b, n + 1, m => by
    have e : 2 * (n + 1) + m = (2 * n + m) + 2 := by omega
    have e2 : 2 * (n + 1) = 2 * n + 2 := by omega
    rw [e, e2]
    show b :: (!b) :: alt (!!b) (2 * n + m) = (b :: (!b) :: alt (!!b) (2 * n)) ++ alt b m
    rw [Bool.not_not, alt_add b n m]; rfl
theorem alt_rep : ∀ n : Nat, (List.replicate n [true, false]).flatten = alt true (2 * n)
  | 0 => rfl
  | n + 1 => by
    rw [List.replicate_succ, List.flatten_cons, alt_rep n]
    have e2 : 2 * (n + 1) = 2 * n + 2 := by omega
    rw [e2]; rfl
theorem wtext_alt (f l : Bool) (z : Nat) (h : 1 ≤ z) : wtext f z l = alt f (2 * z - 1 + tn f + tn l) := by
  unfold wtext
  rw [alt_rep]
  obtain ⟨k, rfl⟩ : ∃ k, z = k + 1 := ⟨z - 1, by omega⟩
  have e0 : k + 1 - 1 = k := by omega
  rw [e0]
  have e1 : ∀ t : Nat, alt true (2 * k + t) = alt true (2 * k) ++ alt true t := fun t => alt_add true k t
  cases f <;> cases l
  · show [] ++ [false] ++ alt true (2 * k) ++ [] = alt false (2 * (k + 1) - 1 + 0 + 0)
    have e : 2 * (k + 1) - 1 + 0 + 0 = 2 * k + 1 := by omega
    rw [e]; simp [alt]
  · show [] ++ [false] ++ alt true (2 * k) ++ [true] = alt false (2 * (k + 1) - 1 + 0 + 1)
    have e : 2 * (k + 1) - 1 + 0 + 1 = (2 * k + 1) + 1 := by omega
    rw [e]
    show [] ++ [false] ++ alt true (2 * k) ++ [true] = false :: alt true (2 * k + 1)
    rw [e1]; simp [alt]
  · show [true] ++ [false] ++ alt true (2 * k) ++ [] = alt true (2 * (k + 1) - 1 + 1 + 0)
    have e : 2 * (k + 1) - 1 + 1 + 0 = (2 * k + 1) + 1 := by omega
    rw [e]
    simp [alt]
  · show [true] ++ [false] ++ alt true (2 * k) ++ [true] = alt true (2 * (k + 1) - 1 + 1 + 1)
    have e : 2 * (k + 1) - 1 + 1 + 1 = (2 * k + 1 + 1) + 1 := by omega
    rw [e]
    show [true] ++ [false] ++ alt true (2 * k) ++ [true] = true :: false :: alt true (2 * k + 1)
    rw [e1]; simp [alt]

/-- a word -/
def IsW (v : List Bool) : Prop := ∃ b n, 1 ≤ n ∧ v = alt b n
def Cut (v w : List Bool) : Prop := ∃ b n m, 1 ≤ n ∧ n ≤ m ∧ n % 2 = m % 2 ∧ v = alt b n ∧ w = alt b m
/-- an or of two words, by first sign and length -/
def orF (b c : Bool) : Bool := b || c
def orN (b : Bool) (n : Nat) (c : Bool) (m : Nat) : Nat := if zer b n = 0 ∨ zer c m = 0 then 1 else 2 * (zer b n + zer c m - 1) - 1 + tn (b || c) + tn (lst b n || lst c m)
theorem one_iff (b : Bool) (n : Nat) (h : 1 ≤ n) : alt b n = [true] ↔ zer b n = 0 := by
  constructor
  · intro e
    have hl := congrArg List.length e
    rw [alt_len] at hl
    have : n = 1 := hl
    subst this
    cases b
    · cases e
    · rfl
  · intro e
    cases b
    · simp [zer, tn] at e; omega
    · simp [zer, tn] at e
      have : n = 1 := by omega
      subst this; rfl
theorem one_b {b : Bool} {n : Nat} (h : 1 ≤ n) (e : zer b n = 0) : b = true ∧ n = 1 := by
  cases b
  · simp [zer, tn] at e; omega
  · simp [zer, tn] at e
    exact ⟨rfl, by omega⟩
theorem orW_alt (b c : Bool) (n m : Nat) (hn : 1 ≤ n) (hm : 1 ≤ m) : orW (alt b n) (alt c m) = alt (b || c) (orN b n c m) := by
  unfold orW orN
  by_cases h : zer b n = 0 ∨ zer c m = 0
  · rw [if_pos h, if_pos (by rw [one_iff b n hn, one_iff c m hm]; exact h)]
    rcases h with h | h
    · obtain ⟨rfl, _⟩ := one_b hn h; rfl
    · obtain ⟨rfl, _⟩ := one_b hm h; simp [alt]
  · rw [if_neg h, if_neg (by rw [one_iff b n hn, one_iff c m hm]; exact h), alt_head b n hn, alt_head c m hm, alt_zer, alt_zer, alt_last b n hn, alt_last c m hm, wtext_alt _ _ _ (by omega)]
theorem orN_pos (b c : Bool) (n m : Nat) (hn : 1 ≤ n) (hm : 1 ≤ m) : 1 ≤ orN b n c m := by
  unfold orN
  split
  · exact Nat.le_refl _
  · omega
theorem andW_alt (b c : Bool) (n m : Nat) (hn : 1 ≤ n) (hm : 1 ≤ m) : andW (alt b n) (alt c m) = alt (!(!b || !c)) (orN (!b) n (!c) m) := by
  unfold andW
  rw [alt_exch, alt_exch, orW_alt _ _ _ _ hn hm, alt_exch]
theorem IsW.or {v w : List Bool} (hv : IsW v) (hw : IsW w) : IsW (orW v w) := by
  obtain ⟨b, n, hn, rfl⟩ := hv
  obtain ⟨c, m, hm, rfl⟩ := hw
  exact ⟨_, _, orN_pos b c n m hn hm, orW_alt b c n m hn hm⟩
theorem IsW.ex {v : List Bool} (hv : IsW v) : IsW (exch v) := by
  obtain ⟨b, n, hn, rfl⟩ := hv
  exact ⟨_, n, hn, alt_exch b n⟩
theorem IsW.and {v w : List Bool} (hv : IsW v) (hw : IsW w) : IsW (andW v w) := (hv.ex.or hw.ex).ex
theorem IsW.ne {v : List Bool} (hv : IsW v) : v ≠ [] := by
  obtain ⟨b, n, hn, rfl⟩ := hv
  exact alt_ne b n hn
theorem orN_len (b c : Bool) (n m : Nat) (hn : 1 ≤ n) (hm : 1 ≤ m) : orN b n c m + 1 ≤ (n + 1) + (m + 1) := by
  unfold orN zer lst
  split
  · omega
  · cases b <;> cases c <;> simp only [tn] <;> simp <;> (repeat' split) <;> omega
theorem orW_len {v w : List Bool} (hv : IsW v) (hw : IsW w) : (orW v w).length + 1 ≤ (v.length + 1) + (w.length + 1) := by
  obtain ⟨b, n, hn, rfl⟩ := hv
  obtain ⟨c, m, hm, rfl⟩ := hw
  rw [orW_alt b c n m hn hm, alt_len, alt_len, alt_len]
  exact orN_len b c n m hn hm
theorem exch_len (v : List Bool) : (exch v).length = v.length := by unfold exch; rw [List.length_map]
theorem andW_len {v w : List Bool} (hv : IsW v) (hw : IsW w) : (andW v w).length + 1 ≤ (v.length + 1) + (w.length + 1) := by
  have h := orW_len hv.ex hw.ex
  rw [exch_len, exch_len] at h
  unfold andW
  rw [exch_len]
  exact h

/-! ### cuts -/
theorem Cut.refl {v : List Bool} (h : IsW v) : Cut v v := by
  obtain ⟨b, n, hn, rfl⟩ := h
  exact ⟨b, n, n, hn, Nat.le_refl _, rfl, rfl, rfl⟩
theorem Cut.left {v w : List Bool} (h : Cut v w) : IsW v := by obtain ⟨b, n, m, h1, h2, h3, rfl, rfl⟩ := h; exact ⟨b, n, h1, rfl⟩
theorem Cut.right {v w : List Bool} (h : Cut v w) : IsW w := by obtain ⟨b, n, m, h1, h2, h3, rfl, rfl⟩ := h; exact ⟨b, m, by omega, rfl⟩
theorem Cut.trans {u v w : List Bool} (h : Cut u v) (h' : Cut v w) : Cut u w := by
  obtain ⟨b, n, m, h1, h2, h3, rfl, rfl⟩ := h
  obtain ⟨c, k, l, g1, g2, g3, e, rfl⟩ := h'
  have el := congrArg List.length e
  rw [alt_len, alt_len] at el
  subst el
  have eb : b = c := by
    have q := congrArg (fun l => l.headD false) e
    rw [alt_head b m (by omega), alt_head c m (by omega)] at q
    exact q
  subst eb
  exact ⟨b, n, l, h1, by omega, by omega, rfl, rfl⟩
theorem Cut.ex {v w : List Bool} (h : Cut v w) : Cut (exch v) (exch w) := by
  obtain ⟨b, n, m, h1, h2, h3, rfl, rfl⟩ := h
  exact ⟨!b, n, m, h1, h2, h3, alt_exch b n, alt_exch b m⟩
theorem orN_mono (b c : Bool) (n n' m m' : Nat) (hn : 1 ≤ n) (hm : 1 ≤ m) (a1 : n ≤ n') (a2 : n % 2 = n' % 2) (a3 : m ≤ m') (a4 : m % 2 = m' % 2) : orN b n c m ≤ orN b n' c m' ∧ orN b n c m % 2 = orN b n' c m' % 2 := by
  unfold orN lst
  rw [a2, a4]
  cases b <;> cases c <;> simp only [zer, tn] <;> simp <;> (repeat' split) <;> (constructor <;> omega)
theorem Cut.or {v w v' w' : List Bool} (h : Cut v v') (h' : Cut w w') : Cut (orW v w) (orW v' w') := by
  obtain ⟨b, n, n', h1, h2, h3, rfl, rfl⟩ := h
  obtain ⟨c, m, m', g1, g2, g3, rfl, rfl⟩ := h'
  have q := orN_mono b c n n' m m' h1 g1 h2 h3 g2 g3
  exact ⟨_, _, _, orN_pos b c n m h1 g1, q.1, q.2, orW_alt b c n m h1 g1, orW_alt b c n' m' (by omega) (by omega)⟩
theorem Cut.and {v w v' w' : List Bool} (h : Cut v v') (h' : Cut w w') : Cut (andW v w) (andW v' w') := (h.ex.or h'.ex).ex
theorem Cut.len {v w : List Bool} (h : Cut v w) : v.length ≤ w.length := by
  obtain ⟨b, n, m, h1, h2, h3, rfl, rfl⟩ := h
  rw [alt_len, alt_len]; exact h2
theorem Cut.head {v w : List Bool} (h : Cut v w) : v.headD false = w.headD false := by
  obtain ⟨b, n, m, h1, h2, h3, rfl, rfl⟩ := h
  rw [alt_head b n h1, alt_head b m (by omega)]
theorem Cut.last {v w : List Bool} (h : Cut v w) : v.getLastD false = w.getLastD false := by
  obtain ⟨b, n, m, h1, h2, h3, rfl, rfl⟩ := h
  rw [alt_last b n h1, alt_last b m (by omega)]
  unfold lst
  rw [h3]
/-- zeros of an or, an and; last signs -/
theorem zer_orN (b c : Bool) (n m : Nat) (hn : 1 ≤ n) (hm : 1 ≤ m) : zer (b || c) (orN b n c m) = if zer b n = 0 ∨ zer c m = 0 then 0 else zer b n + zer c m - 1 := by
  unfold orN
  by_cases h : zer b n = 0 ∨ zer c m = 0
  · rw [if_pos h, if_pos h]
    rcases h with h | h
    · obtain ⟨rfl, _⟩ := one_b hn h; simp [zer, tn]
    · obtain ⟨rfl, _⟩ := one_b hm h; simp [zer, tn]
  · rw [if_neg h, if_neg h]
    generalize (lst b n || lst c m) = l
    generalize zer b n = p at *
    generalize zer c m = q at *
    cases b <;> cases c <;> cases l <;> simp [zer, tn] <;> omega
theorem lst_orN (b c : Bool) (n m : Nat) (hn : 1 ≤ n) (hm : 1 ≤ m) : lst (b || c) (orN b n c m) = (lst b n || lst c m) := by
  unfold orN
  by_cases h : zer b n = 0 ∨ zer c m = 0
  · rw [if_pos h]
    rcases h with h | h
    · obtain ⟨rfl, rfl⟩ := one_b hn h; simp [lst]
    · obtain ⟨rfl, rfl⟩ := one_b hm h; simp [lst]
  · rw [if_neg h]
    generalize (lst b n || lst c m) = l
    generalize zer b n = p at *
    generalize zer c m = q at *
    cases b <;> cases c <;> cases l <;> simp [lst, tn] <;> omega
theorem zer_not (b : Bool) (n : Nat) (hn : 1 ≤ n) : zer (!b) n + 1 = zer b n + tn b + tn (lst b n) := by
  unfold zer lst
  obtain ⟨k, rfl | rfl⟩ : ∃ k, n = 2 * k + 1 ∨ n = 2 * k + 2 := ⟨(n - 1) / 2, by omega⟩
  · cases b <;> simp [tn] <;> omega
  · cases b <;> simp [tn] <;> omega
theorem lst_not (b : Bool) (n : Nat) : lst (!b) n = !lst b n := by
  unfold lst
  split <;> simp
theorem len_of (b : Bool) (n : Nat) (hn : 1 ≤ n) : n = zer b n + zer (!b) n := by
  unfold zer
  cases b <;> simp [tn] <;> omega
theorem par_of (b : Bool) (n m : Nat) (h : lst b n = lst b m) : n % 2 = m % 2 := by
  unfold lst at h
  rcases Nat.mod_two_eq_zero_or_one n with e | e <;> rcases Nat.mod_two_eq_zero_or_one m with e' | e' <;> rw [e, e'] at h <;> simp at h <;> rw [e, e']
theorem tn_le (b : Bool) : tn b ≤ 1 := by cases b <;> simp [tn]
theorem fact_and (x y z : Bool) : tn (x && y) + tn (x && z) + tn (y || z) ≤ tn (x && y || x && z) + tn y + tn z := by cases x <;> cases y <;> cases z <;> simp [tn]
theorem tn_or (x y : Bool) : tn x ≤ tn (x || y) ∧ tn y ≤ tn (x || y) := by cases x <;> cases y <;> simp [tn]
theorem tn_and (x y : Bool) : tn (x && y) ≤ tn x ∧ tn (x && y) ≤ tn y := by cases x <;> cases y <;> simp [tn]
/-- none is constant -/
theorem distr_gen {X Y Z X' Y' Z' x lx y ly z lz p q a b r s u v O A B AB O' T' A' B' AB' : Nat} (hx : X' + 1 = X + x + lx) (hy : Y' + 1 = Y + y + ly) (hz : Z' + 1 = Z + z + lz) (f1 : a + r + p ≤ u + y + z) (f2 : b + s + q ≤ v + ly + lz)
    (gX : 1 ≤ X') (gY : 1 ≤ Y') (gZ : 1 ≤ Z') (nY : 1 ≤ Y) (nZ : 1 ≤ Z) (gA : 1 ≤ A) (gB : 1 ≤ B) (gO : 1 ≤ O')
    (hO : O = Y + Z - 1) (hO' : O' + 1 = O + p + q) (hT' : T' = X' + O' - 1) (hA' : A' = X' + Y' - 1) (hA : A + a + b = A' + 1) (hB' : B' = X' + Z' - 1) (hB : B + r + s = B' + 1)
    (hAB : AB = A + B - 1) (hAB' : AB' + 1 = AB + u + v) : T' ≤ AB' := by omega
theorem distr_z (x y z lx ly lz : Bool) (X Y Z X' Y' Z' : Nat) (hx : X' + 1 = X + tn x + tn lx) (hy : Y' + 1 = Y + tn y + tn ly) (hz : Z' + 1 = Z + tn z + tn lz)
    (gx : X = 0 → x = true ∧ lx = true) (gy : Y = 0 → y = true ∧ ly = true) (gz : Z = 0 → z = true ∧ lz = true)
    (gy' : Y' = 0 → y = false ∧ ly = false) (gz' : Z' = 0 → z = false ∧ lz = false)
    (O A B AB : Nat) (O' T' A' B' AB' : Nat)
    (hO : O = if Y = 0 ∨ Z = 0 then 0 else Y + Z - 1) (hO' : O' + 1 = O + tn (y || z) + tn (ly || lz))
    (hT' : T' = if X' = 0 ∨ O' = 0 then 0 else X' + O' - 1)
    (hA' : A' = if X' = 0 ∨ Y' = 0 then 0 else X' + Y' - 1) (hA : A + tn (x && y) + tn (lx && ly) = A' + 1)
    (hB' : B' = if X' = 0 ∨ Z' = 0 then 0 else X' + Z' - 1) (hB : B + tn (x && z) + tn (lx && lz) = B' + 1)
    (hAB : AB = if A = 0 ∨ B = 0 then 0 else A + B - 1) (hAB' : AB' + 1 = AB + tn (x && y || x && z) + tn (lx && ly || lx && lz)) : T' ≤ AB' := by
  by_cases c1 : X' = 0
  · rw [if_pos (.inl c1)] at hT'; rw [hT']; exact Nat.zero_le _
  by_cases c2 : O' = 0
  · rw [if_pos (.inr c2)] at hT'; rw [hT']; exact Nat.zero_le _
  rw [if_neg (fun h => h.elim c1 c2)] at hT'
  by_cases d1 : X = 0
  · obtain ⟨rfl, rfl⟩ := gx d1
    have eX : X' = 1 := by simp [tn] at hx; omega
    simp only [Bool.true_and] at hA hB hAB'
    have eA : A' = Y' := by rw [hA', eX]; split <;> omega
    have eB : B' = Z' := by rw [hB', eX]; split <;> omega
    have e1 : A = Y := by omega
    have e2 : B = Z := by omega
    rw [e1, e2] at hAB
    have e3 : AB = O := by rw [hAB, hO]
    omega
  have tx := tn_le x
  have tlx := tn_le lx
  by_cases d2 : Y = 0
  · obtain ⟨rfl, rfl⟩ := gy d2
    have eY : Y' = 1 := by simp [tn] at hy; omega
    rw [if_pos (.inl d2)] at hO
    have eO : O' = 1 := by rw [hO] at hO'; simp [tn] at hO'; omega
    rw [if_neg (by omega)] at hA'
    simp only [Bool.and_true] at hA hAB'
    have e1 : A = X := by omega
    have u1 := (tn_or x (x && z)).1
    have v1 := (tn_or lx (lx && lz)).1
    have w1 := (tn_and x z).1
    have w2 := (tn_and lx lz).1
    have gB : 1 ≤ B := by
      by_cases c4 : Z' = 0
      · rw [if_pos (.inr c4)] at hB'
        obtain ⟨rfl, rfl⟩ := gz' c4
        simp [tn] at hB; omega
      · rw [if_neg (by omega)] at hB'; omega
    rw [if_neg (by omega)] at hAB
    omega
  by_cases d3 : Z = 0
  · obtain ⟨rfl, rfl⟩ := gz d3
    have eZ : Z' = 1 := by simp [tn] at hz; omega
    rw [if_pos (.inr d3)] at hO
    have eO : O' = 1 := by rw [hO] at hO'; simp [tn] at hO'; omega
    rw [if_neg (by omega)] at hB'
    simp only [Bool.and_true] at hB hAB'
    have e1 : B = X := by omega
    have u1 := (tn_or (x && y) x).2
    have v1 := (tn_or (lx && ly) lx).2
    have w1 := (tn_and x y).1
    have w2 := (tn_and lx ly).1
    have gA : 1 ≤ A := by
      by_cases c4 : Y' = 0
      · rw [if_pos (.inr c4)] at hA'
        obtain ⟨rfl, rfl⟩ := gy' c4
        simp [tn] at hA; omega
      · rw [if_neg (by omega)] at hA'; omega
    rw [if_neg (by omega)] at hAB
    omega
  rw [if_neg (by omega)] at hO
  by_cases c3 : Y' = 0
  · obtain ⟨rfl, rfl⟩ := gy' c3
    rw [if_pos (.inr c3)] at hA'
    have eA : A = 1 := by simp [tn] at hA; omega
    simp only [Bool.false_or, Bool.and_false] at hO' hAB'
    have eY : Y = 1 := by simp [tn] at hy; omega
    by_cases c4 : Z' = 0
    · omega
    · rw [if_neg (by omega)] at hB'
      have w1 := (tn_and x z).1
      have w2 := (tn_and lx lz).1
      have gB : 1 ≤ B := by omega
      rw [if_neg (by omega)] at hAB
      omega
  · rw [if_neg (by omega)] at hA'
    have w1 := (tn_and x y).1
    have w2 := (tn_and lx ly).1
    have gA : 1 ≤ A := by omega
    by_cases c4 : Z' = 0
    · obtain ⟨rfl, rfl⟩ := gz' c4
      rw [if_pos (.inr c4)] at hB'
      have eB : B = 1 := by simp [tn] at hB; omega
      simp only [Bool.or_false, Bool.and_false] at hO' hAB'
      have eZ : Z = 1 := by simp [tn] at hz; omega
      rw [if_neg (by omega)] at hAB
      omega
    · rw [if_neg (by omega)] at hB'
      have w3 := (tn_and x z).1
      have w4 := (tn_and lx lz).1
      have gB : 1 ≤ B := by omega
      rw [if_neg (by omega)] at hAB
      exact distr_gen hx hy hz (fact_and x y z) (fact_and lx ly lz) (by omega) (by omega) (by omega) (by omega) (by omega) gA gB (by omega) hO hO' hT' hA' hA hB' hB hAB hAB'
theorem tn_not (b : Bool) : tn (!b) + tn b = 1 := by cases b <;> simp [tn]
theorem lst_pos {b : Bool} {n : Nat} (hn : 1 ≤ n) (h : zer (!b) n = 0) : b = false ∧ lst b n = false := by
  obtain ⟨h1, h2⟩ := one_b hn h
  have hb : b = false := by cases b <;> first | rfl | cases h1
  subst hb; subst h2
  exact ⟨rfl, rfl⟩
theorem lst_one {b : Bool} {n : Nat} (hn : 1 ≤ n) (h : zer b n = 0) : b = true ∧ lst b n = true := by
  obtain ⟨rfl, rfl⟩ := one_b hn h
  exact ⟨rfl, rfl⟩
theorem and_ones (x y : Bool) (a b : Nat) (ha : 1 ≤ a) (hb : 1 ≤ b) :
    zer (!x || !y) (orN (!x) a (!y) b) = (if zer (!x) a = 0 ∨ zer (!y) b = 0 then 0 else zer (!x) a + zer (!y) b - 1) ∧
    zer (!(!x || !y)) (orN (!x) a (!y) b) + tn (x && y) + tn (lst x a && lst y b) = zer (!x || !y) (orN (!x) a (!y) b) + 1 := by
  refine ⟨zer_orN _ _ _ _ ha hb, ?_⟩
  have h := zer_not (!x || !y) (orN (!x) a (!y) b) (orN_pos _ _ _ _ ha hb)
  rw [lst_orN _ _ _ _ ha hb, lst_not, lst_not] at h
  have h1 := tn_not (x && y)
  have h2 := tn_not (lst x a && lst y b)
  rw [Bool.not_and] at h1 h2
  omega
theorem distr {x y z : List Bool} (hx : IsW x) (hy : IsW y) (hz : IsW z) : Cut (andW x (orW y z)) (orW (andW x y) (andW x z)) := by
  obtain ⟨x, a, ha, rfl⟩ := hx
  obtain ⟨y, b, hb, rfl⟩ := hy
  obtain ⟨z, c, hc, rfl⟩ := hz
  have pO := orN_pos y z b c hb hc
  have p1 := orN_pos (!x) (!y) a b ha hb
  have p2 := orN_pos (!x) (!z) a c ha hc
  rw [orW_alt y z b c hb hc, andW_alt x y a b ha hb, andW_alt x z a c ha hc, andW_alt _ _ _ _ ha pO, orW_alt _ _ _ _ p1 p2]
  have e1 : (!(!x || !(y || z))) = (!(!x || !y) || !(!x || !z)) := by cases x <;> cases y <;> cases z <;> rfl
  have pT := orN_pos (!x) (!(y || z)) a (orN y b z c) ha pO
  have pW := orN_pos (!(!x || !y)) (!(!x || !z)) _ _ p1 p2
  have A := and_ones x y a b ha hb
  have B := and_ones x z a c ha hc
  have hO' := zer_not (y || z) (orN y b z c) pO
  rw [lst_orN _ _ _ _ hb hc] at hO'
  have hT' := (and_ones x (y || z) a (orN y b z c) ha pO).1
  have hAB := zer_orN (!(!x || !y)) (!(!x || !z)) _ _ p1 p2
  have hAB' := zer_not (!(!x || !y) || !(!x || !z)) _ pW
  rw [lst_orN _ _ _ _ p1 p2, lst_not (!x || !y), lst_not (!x || !z), lst_orN _ _ _ _ ha hb, lst_orN _ _ _ _ ha hc, lst_not, lst_not, lst_not] at hAB'
  have f1 : (!(!x || !y)) = (x && y) := by cases x <;> cases y <;> rfl
  have f2 : (!(!x || !z)) = (x && z) := by cases x <;> cases z <;> rfl
  have f3 : ∀ p q : Bool, (!(!p || !q)) = (p && q) := fun p q => by cases p <;> cases q <;> rfl
  have g1 : tn (!(!x || !y) || !(!x || !z)) = tn (x && y || x && z) := by rw [f1, f2]
  have g2 : tn (!(!lst x a || !lst y b) || !(!lst x a || !lst z c)) = tn (lst x a && lst y b || lst x a && lst z c) := by rw [f3, f3]
  rw [g1, g2] at hAB'
  have key := distr_z x y z (lst x a) (lst y b) (lst z c) (zer x a) (zer y b) (zer z c) (zer (!x) a) (zer (!y) b) (zer (!z) c)
    (zer_not x a ha) (zer_not y b hb) (zer_not z c hc) (lst_one ha) (lst_one hb) (lst_one hc) (lst_pos hb) (lst_pos hc)
    _ _ _ _ _ _ _ _ _ (zer_orN y z b c hb hc) hO' hT' A.1 A.2 B.1 B.2 hAB hAB'
  -- the lasts
  have l1 : lst (!(!x || !(y || z))) (orN (!x) a (!(y || z)) (orN y b z c)) = (lst x a && (lst y b || lst z c)) := by
    rw [lst_not, lst_orN _ _ _ _ ha pO, lst_not, lst_not, lst_orN _ _ _ _ hb hc]
    cases lst x a <;> cases lst y b <;> cases lst z c <;> rfl
  have l2 : lst (!(!x || !y) || !(!x || !z)) (orN (!(!x || !y)) (orN (!x) a (!y) b) (!(!x || !z)) (orN (!x) a (!z) c)) = (lst x a && (lst y b || lst z c)) := by
    rw [lst_orN _ _ _ _ p1 p2, lst_not (!x || !y), lst_not (!x || !z), lst_orN _ _ _ _ ha hb, lst_orN _ _ _ _ ha hc, lst_not, lst_not, lst_not]
    cases lst x a <;> cases lst y b <;> cases lst z c <;> rfl
  have n1 := zer_not (!(!x || !(y || z))) _ pT
  have n2 := zer_not (!(!x || !y) || !(!x || !z)) _ pW
  rw [l1] at n1
  rw [l2] at n2
  have m1 := len_of (!(!x || !(y || z))) _ pT
  have m2 := len_of (!(!x || !y) || !(!x || !z)) _ pW
  rw [e1] at n1 m1 l1
  have hk : zer (!(!(!x || !y) || !(!x || !z))) (orN (!x) a (!(y || z)) (orN y b z c)) ≤ zer (!(!(!x || !y) || !(!x || !z))) (orN (!(!x || !y)) (orN (!x) a (!y) b) (!(!x || !z)) (orN (!x) a (!z) c)) := by
    have e2 : (!(!(!x || !y) || !(!x || !z))) = (!x || !(y || z)) := by rw [← e1, Bool.not_not]
    have key2 := key
    rw [e2] at key2
    rw [e2]
    exact key2
  refine ⟨!(!x || !y) || !(!x || !z), _, _, pT, by omega, par_of _ _ _ (l1.trans l2.symm), by rw [e1], rfl⟩
end Sc

set_option maxHeartbeats 4000000
/-! P2: trees, plain: signs, words, paths, the sharing's law. No program here. -/
namespace Sc
/-- a sign of a cube: some true is 1, some false is 0, none is - -/
abbrev Sg := Option Bool
inductive T where
  | one
  | zero
  | inp (i : Nat)
  | neg (t : T)
  | gate (a : Bool) (ps : List T)
inductive Al2 {α β : Type} (R : α → β → Prop) : List α → List β → Prop
  | nil : Al2 R [] []
  | cons {a : α} {b : β} {l : List α} {m : List β} : R a b → Al2 R l m → Al2 R (a :: l) (b :: m)
mutual
def T.leaves : T → Nat
  | .one => 1
  | .zero => 1
  | .inp _ => 1
  | .neg t => t.leaves
  | .gate _ ps => leavesL ps
def leavesL : List T → Nat
  | [] => 0
  | t :: r => t.leaves + leavesL r
end
mutual
def T.depth : T → Nat
  | .one => 1
  | .zero => 1
  | .inp _ => 1
  | .neg t => t.depth + 1
  | .gate _ ps => depthL ps + 1
def depthL : List T → Nat
  | [] => 0
  | t :: r => max t.depth (depthL r)
end
mutual
def T.wf (n : Nat) : T → Prop
  | .one => True
  | .zero => True
  | .inp i => i < n
  | .neg t => t.wf n
  | .gate _ ps => ps ≠ [] ∧ wfL n ps
def wfL (n : Nat) : List T → Prop
  | [] => True
  | t :: r => t.wf n ∧ wfL n r
end
def gsg (a : Bool) (l : List Sg) : Sg := if some (!a) ∈ l then some (!a) else if none ∈ l then none else some a
mutual
def sgn (c : List Sg) : T → Sg
  | .one => some true
  | .zero => some false
  | .inp i => c.getD i none
  | .neg t => (sgn c t).map (!·)
  | .gate a ps => gsg a (sgns c ps)
def sgns (c : List Sg) : List T → List Sg
  | [] => []
  | t :: r => sgn c t :: sgns c r
end
def bit (c : List Sg) (t : T) : Bool := sgn c t == some true
def leafW (a b : List Sg) (t : T) : List Bool := if bit a t = bit b t then [bit a t] else [bit a t, bit b t]
def gateW (a : Bool) (v w : List Bool) : List Bool := if a = true then andW v w else orW v w
def foldW (a : Bool) : List (List Bool) → List Bool
  | [] => []
  | w :: ws => ws.foldl (gateW a) w
mutual
def wrd (a b : List Sg) : T → List Bool
  | .one => leafW a b .one
  | .zero => leafW a b .zero
  | .inp i => leafW a b (.inp i)
  | .neg t => exch (wrd a b t)
  | .gate k ps => foldW k (wrds a b ps)
def wrds (a b : List Sg) : List T → List (List Bool)
  | [] => []
  | t :: r => wrd a b t :: wrds a b r
end
theorem sgns_map (c : List Sg) : ∀ ps, sgns c ps = ps.map (sgn c)
  | [] => rfl
  | t :: r => by rw [sgns, sgns_map, List.map_cons]
theorem wrds_map (a b : List Sg) : ∀ ps, wrds a b ps = ps.map (wrd a b)
  | [] => rfl
  | t :: r => by rw [wrds, wrds_map, List.map_cons]
theorem wfL_iff (n : Nat) : ∀ ps, wfL n ps ↔ ∀ t ∈ ps, t.wf n
  | [] => by simp [wfL]
  | t :: r => by rw [wfL, wfL_iff]; simp
theorem depthL_le {m : Nat} : ∀ {ps : List T}, depthL ps ≤ m ↔ ∀ t ∈ ps, t.depth ≤ m
  | [] => by simp [depthL]
  | t :: r => by rw [depthL, Nat.max_le, depthL_le]; simp
theorem leavesL_sum : ∀ ps, leavesL ps = (ps.map T.leaves).sum
  | [] => rfl
  | t :: r => by rw [leavesL, leavesL_sum, List.map_cons, List.sum_cons]
theorem depth_pos : ∀ t : T, 1 ≤ t.depth
  | .one => Nat.le_refl _
  | .zero => Nat.le_refl _
  | .inp _ => Nat.le_refl _
  | .neg t => by rw [T.depth]; omega
  | .gate _ ps => by rw [T.depth]; omega
mutual
theorem leaves_pos {n : Nat} : ∀ t : T, t.wf n → 1 ≤ t.leaves
  | .one, _ => Nat.le_refl _
  | .zero, _ => Nat.le_refl _
  | .inp _, _ => Nat.le_refl _
  | .neg t, h => leaves_pos t h
  | .gate _ ps, h => leavesL_pos ps h.1 h.2
theorem leavesL_pos {n : Nat} : ∀ ps : List T, ps ≠ [] → wfL n ps → 1 ≤ leavesL ps
  | [], h, _ => absurd rfl h
  | t :: r, _, h => by
    have := leaves_pos t h.1
    rw [leavesL]; omega
end

/-! ### words -/
theorem IsW.alt {b : Bool} {n : Nat} (h : 1 ≤ n) : IsW (alt b n) := ⟨b, n, h, rfl⟩
theorem leafW_isW (a b : List Sg) (t : T) : IsW (leafW a b t) := by
  unfold leafW
  generalize bit a t = p
  generalize bit b t = q
  cases p <;> cases q
  · exact ⟨false, 1, Nat.le_refl _, rfl⟩
  · exact ⟨false, 2, by decide, rfl⟩
  · exact ⟨true, 2, by decide, rfl⟩
  · exact ⟨true, 1, Nat.le_refl _, rfl⟩
theorem leafW_len (a b : List Sg) (t : T) : (leafW a b t).length ≤ 2 := by
  unfold leafW
  split <;> simp
theorem IsW.gate {a : Bool} {v w : List Bool} (hv : IsW v) (hw : IsW w) : IsW (gateW a v w) := by
  unfold gateW
  split
  · exact hv.and hw
  · exact hv.or hw
theorem Cut.gate {a : Bool} {v w v' w' : List Bool} (hv : Cut v v') (hw : Cut w w') : Cut (gateW a v w) (gateW a v' w') := by
  unfold gateW
  split
  · exact hv.and hw
  · exact hv.or hw
theorem gateW_len {a : Bool} {v w : List Bool} (hv : IsW v) (hw : IsW w) : (gateW a v w).length + 1 ≤ (v.length + 1) + (w.length + 1) := by
  unfold gateW
  split
  · exact andW_len hv hw
  · exact orW_len hv hw
theorem foldl_isW {a : Bool} : ∀ (ws : List (List Bool)) (w : List Bool), IsW w → (∀ v ∈ ws, IsW v) → IsW (ws.foldl (gateW a) w)
  | [], w, h, _ => h
  | v :: r, w, h, h' => foldl_isW r _ (h.gate (h' v (by simp))) fun u hu => h' u (by simp [hu])
theorem foldW_isW {a : Bool} {ws : List (List Bool)} (h0 : ws ≠ []) (h : ∀ v ∈ ws, IsW v) : IsW (foldW a ws) := by
  cases ws with
  | nil => exact absurd rfl h0
  | cons w r => exact foldl_isW r w (h w (by simp)) fun u hu => h u (by simp [hu])
theorem foldl_len {a : Bool} : ∀ (ws : List (List Bool)) (w : List Bool), IsW w → (∀ v ∈ ws, IsW v) → (ws.foldl (gateW a) w).length + 1 ≤ (w.length + 1) + (ws.map fun v => v.length + 1).sum
  | [], w, h, _ => by simp
  | v :: r, w, h, h' => by
    have h1 := foldl_len (a := a) r _ (h.gate (a := a) (h' v (by simp))) fun u hu => h' u (by simp [hu])
    have h2 := gateW_len (a := a) h (h' v (by simp))
    rw [List.foldl_cons, List.map_cons, List.sum_cons]
    omega
mutual
theorem wrd_isW {n : Nat} (a b : List Sg) : ∀ t : T, t.wf n → IsW (wrd a b t)
  | .one, _ => leafW_isW a b _
  | .zero, _ => leafW_isW a b _
  | .inp _, _ => leafW_isW a b _
  | .neg t, h => (wrd_isW a b t h).ex
  | .gate k [], h => absurd rfl h.1
  | .gate k (t :: r), h => foldl_isW _ _ (wrd_isW a b t h.2.1) (wrds_isW a b r h.2.2)
theorem wrds_isW {n : Nat} (a b : List Sg) : ∀ ps : List T, wfL n ps → ∀ v ∈ wrds a b ps, IsW v
  | [], _, v, hv => by simp [wrds] at hv
  | t :: r, h, v, hv => by
    rw [wrds, List.mem_cons] at hv
    rcases hv with rfl | hv
    · exact wrd_isW a b t h.1
    · exact wrds_isW a b r h.2 v hv
end
mutual
theorem wrd_len {n : Nat} (a b : List Sg) : ∀ t : T, t.wf n → (wrd a b t).length + 1 ≤ 3 * t.leaves
  | .one, _ => Nat.succ_le_succ (leafW_len a b _)
  | .zero, _ => Nat.succ_le_succ (leafW_len a b _)
  | .inp _, _ => Nat.succ_le_succ (leafW_len a b _)
  | .neg t, h => by
    rw [wrd, exch_len]
    exact wrd_len a b t h
  | .gate k [], h => absurd rfl h.1
  | .gate k (t :: r), h => by
    have h1 := wrd_len a b t h.2.1
    have h2 := wrds_len a b r h.2.2
    have h3 := foldl_len (a := k) (wrds a b r) _ (wrd_isW a b t h.2.1) (wrds_isW a b r h.2.2)
    show (((wrds a b r).foldl (gateW k) (wrd a b t))).length + 1 ≤ 3 * (t.leaves + leavesL r)
    omega
theorem wrds_len {n : Nat} (a b : List Sg) : ∀ ps : List T, wfL n ps → ((wrds a b ps).map fun v => v.length + 1).sum ≤ 3 * leavesL ps
  | [], _ => by simp [wrds, leavesL]
  | t :: r, h => by
    have h1 := wrd_len a b t h.1
    have h2 := wrds_len a b r h.2
    rw [wrds, List.map_cons, List.sum_cons, leavesL]
    omega
end
/-- the folds of a part stay short -/
theorem foldl_take_len {n : Nat} (a b : List Sg) (k : Bool) (t : T) (r : List T) (h : (T.gate k (t :: r)).wf n) (j : Nat) : IsW (((wrds a b r).take j).foldl (gateW k) (wrd a b t)) ∧ (((wrds a b r).take j).foldl (gateW k) (wrd a b t)).length + 1 ≤ 3 * (T.gate k (t :: r)).leaves := by
  have h1 := wrd_len a b t h.2.1
  have hi : ∀ v ∈ (wrds a b r).take j, IsW v := fun v hv => wrds_isW a b r h.2.2 v (List.mem_of_mem_take hv)
  have h3 := foldl_len (a := k) ((wrds a b r).take j) _ (wrd_isW a b t h.2.1) hi
  have h2 := wrds_len a b r h.2.2
  have h4 : (((wrds a b r).take j).map fun v => v.length + 1).sum ≤ ((wrds a b r).map fun v => v.length + 1).sum := by
    have e := List.take_append_drop j (wrds a b r)
    conv => rhs; rw [← e, List.map_append, List.sum_append]
    omega
  refine ⟨foldl_isW _ _ (wrd_isW a b t h.2.1) hi, ?_⟩
  show _ ≤ 3 * (t.leaves + leavesL r)
  omega

theorem foldl_take_len2 {n : Nat} (a b : List Sg) (k : Bool) (t : T) (r : List T) (h : (T.gate k (t :: r)).wf n) (j : Nat) (w : List Bool) (hj : (wrds a b r)[j]? = some w) :
    (((wrds a b r).take j).foldl (gateW k) (wrd a b t)).length + w.length + 2 ≤ 3 * (T.gate k (t :: r)).leaves := by
  have h1 := wrd_len a b t h.2.1
  have hi : ∀ v ∈ (wrds a b r).take j, IsW v := fun v hv => wrds_isW a b r h.2.2 v (List.mem_of_mem_take hv)
  have h3 := foldl_len (a := k) ((wrds a b r).take j) _ (wrd_isW a b t h.2.1) hi
  have h2 := wrds_len a b r h.2.2
  have h4 : (((wrds a b r).take (j + 1)).map fun v => v.length + 1).sum ≤ ((wrds a b r).map fun v => v.length + 1).sum := by
    have e := List.take_append_drop (j + 1) (wrds a b r)
    conv => rhs; rw [← e, List.map_append, List.sum_append]
    omega
  have h5 : (((wrds a b r).take (j + 1)).map fun v => v.length + 1).sum = (((wrds a b r).take j).map fun v => v.length + 1).sum + (w.length + 1) := by
    rw [List.take_add_one, hj, List.map_append, List.sum_append]
    simp
  show _ ≤ 3 * (t.leaves + leavesL r)
  omega

/-! ### points -/
def Pt (c : List Sg) : Prop := ∀ s ∈ c, s ≠ none
mutual
theorem sgn_pt {c : List Sg} (hc : Pt c) : ∀ t : T, t.wf c.length → sgn c t ≠ none
  | .one, _ => by simp [sgn]
  | .zero, _ => by simp [sgn]
  | .inp i, h => by
    have h' : i < c.length := h
    rw [sgn, List.getD_eq_getElem?_getD, List.getElem?_eq_getElem h']
    exact hc _ (List.getElem_mem h')
  | .neg t, h => by
    have := sgn_pt hc t h
    rw [sgn]
    cases e : sgn c t with
    | none => exact absurd e this
    | some b => simp
  | .gate k ps, h => by
    have := sgns_pt hc ps h.2
    rw [sgn]
    unfold gsg
    split
    · simp
    · split
      · rename_i q
        exact absurd rfl (this none q)
      · simp
theorem sgns_pt {c : List Sg} (hc : Pt c) : ∀ ps : List T, wfL c.length ps → ∀ s ∈ sgns c ps, s ≠ none
  | [], _, s, hs => by simp [sgns] at hs
  | t :: r, h, s, hs => by
    rw [sgns, List.mem_cons] at hs
    rcases hs with rfl | hs
    · exact sgn_pt hc t h.1
    · exact sgns_pt hc r h.2 s hs
end
theorem sgn_bit {c : List Sg} (hc : Pt c) {t : T} (h : t.wf c.length) : sgn c t = some (bit c t) := by
  have := sgn_pt hc t h
  unfold bit
  cases e : sgn c t with
  | none => exact absurd e this
  | some b => cases b <;> rfl

/-! ### paths -/
def T.at : List Nat → T → Option T
  | [], t => some t
  | k :: p, .neg t => if k = 0 then T.at p t else none
  | k :: p, .gate _ ps => match ps[k]? with
    | some t => T.at p t
    | none => none
  | _ :: _, _ => none
def T.repl : List Nat → T → T → T
  | [], _, f => f
  | _ :: p, .neg t, f => .neg (T.repl p t f)
  | k :: p, .gate b ps, f => match ps[k]? with
    | some t => .gate b (ps.set k (T.repl p t f))
    | none => .gate b ps
  | _ :: _, t, _ => t
theorem at_gate {k : Nat} {p : List Nat} {b : Bool} {ps : List T} {u : T} (h : T.at (k :: p) (.gate b ps) = some u) : ∃ t, ps[k]? = some t ∧ T.at p t = some u := by
  rw [T.at] at h
  cases e : ps[k]? with
  | none => rw [e] at h; cases h
  | some t => rw [e] at h; exact ⟨t, rfl, h⟩
theorem at_neg {k : Nat} {p : List Nat} {t u : T} (h : T.at (k :: p) (.neg t) = some u) : k = 0 ∧ T.at p t = some u := by
  rw [T.at] at h
  by_cases e : k = 0
  · rw [if_pos e] at h; exact ⟨e, h⟩
  · rw [if_neg e] at h; cases h
theorem repl_gate {k : Nat} {p : List Nat} {b : Bool} {ps : List T} {t : T} (h : ps[k]? = some t) (f : T) : T.repl (k :: p) (.gate b ps) f = .gate b (ps.set k (T.repl p t f)) := by
  rw [T.repl, h]
theorem at_repl : ∀ (p : List Nat) (t f u : T), T.at p t = some u → T.at p (T.repl p t f) = some f
  | [], t, f, u, _ => rfl
  | k :: p, .neg t, f, u, h => by
    obtain ⟨h1, h2⟩ := at_neg h
    rw [T.repl, T.at, if_pos h1]
    exact at_repl p t f u h2
  | k :: p, .gate b ps, f, u, h => by
    obtain ⟨t, h1, h2⟩ := at_gate h
    have hk := (List.getElem?_eq_some_iff.mp h1).1
    rw [repl_gate h1, T.at, List.getElem?_set_self hk]
    exact at_repl p t f u h2
  | k :: p, .one, f, u, h => by cases h
  | k :: p, .zero, f, u, h => by cases h
  | k :: p, .inp _, f, u, h => by cases h
theorem repl_repl : ∀ (p : List Nat) (t f g u : T), T.at p t = some u → T.repl p (T.repl p t f) g = T.repl p t g
  | [], t, f, g, u, _ => rfl
  | k :: p, .neg t, f, g, u, h => by
    obtain ⟨h1, h2⟩ := at_neg h
    rw [T.repl, T.repl, T.repl, repl_repl p t f g u h2]
  | k :: p, .gate b ps, f, g, u, h => by
    obtain ⟨t, h1, h2⟩ := at_gate h
    have hk := (List.getElem?_eq_some_iff.mp h1).1
    rw [repl_gate h1, repl_gate (List.getElem?_set_self hk), repl_gate h1, List.set_set, repl_repl p t f g u h2]
  | k :: p, .one, f, g, u, h => by cases h
  | k :: p, .zero, f, g, u, h => by cases h
  | k :: p, .inp _, f, g, u, h => by cases h
theorem at_depth : ∀ (p : List Nat) (t u : T), T.at p t = some u → p.length + u.depth ≤ t.depth
  | [], t, u, h => by obtain rfl := Option.some.inj h; simp
  | k :: p, .neg t, u, h => by
    have := at_depth p t u (at_neg h).2
    rw [T.depth, List.length_cons]; omega
  | k :: p, .gate b ps, u, h => by
    obtain ⟨t, h1, h2⟩ := at_gate h
    have h3 := at_depth p t u h2
    have h4 := depthL_le.mp (Nat.le_refl (depthL ps)) t (List.mem_of_getElem? h1)
    rw [T.depth, List.length_cons]; omega
  | k :: p, .one, u, h => by cases h
  | k :: p, .zero, u, h => by cases h
  | k :: p, .inp _, u, h => by cases h
theorem mem_set' {α : Type} {l : List α} {k : Nat} {x y : α} (h : y ∈ l.set k x) : y = x ∨ y ∈ l := by
  rcases List.mem_or_eq_of_mem_set h with h | h
  · exact .inr h
  · exact .inl h
theorem repl_wf {n : Nat} : ∀ (p : List Nat) (t f u : T), T.at p t = some u → t.wf n → f.wf n → (T.repl p t f).wf n
  | [], t, f, u, _, _, h => h
  | k :: p, .neg t, f, u, h, h1, h2 => repl_wf p t f u (at_neg h).2 h1 h2
  | k :: p, .gate b ps, f, u, h, h1, h2 => by
    obtain ⟨t, g1, g2⟩ := at_gate h
    rw [repl_gate g1]
    have hw := (wfL_iff n ps).mp h1.2
    have hk := (List.getElem?_eq_some_iff.mp g1).1
    refine ⟨fun e => ?_, (wfL_iff n _).mpr fun v hv => ?_⟩
    · have := congrArg List.length e
      rw [List.length_set] at this
      simp at this
      exact h1.1 this
    · rcases mem_set' hv with rfl | hv
      · exact repl_wf p t f u g2 (hw t (List.mem_of_getElem? g1)) h2
      · exact hw v hv
  | k :: p, .one, f, u, h, _, _ => by cases h
  | k :: p, .zero, f, u, h, _, _ => by cases h
  | k :: p, .inp _, f, u, h, _, _ => by cases h
theorem repl_depth : ∀ (p : List Nat) (t f u : T), T.at p t = some u → (T.repl p t f).depth ≤ max t.depth (p.length + f.depth)
  | [], t, f, u, _ => by simp [T.repl]; omega
  | k :: p, .neg t, f, u, h => by
    have := repl_depth p t f u (at_neg h).2
    rw [T.repl, T.depth, T.depth, List.length_cons]; omega
  | k :: p, .gate b ps, f, u, h => by
    obtain ⟨t, g1, g2⟩ := at_gate h
    have h1 := repl_depth p t f u g2
    have h2 := depthL_le.mp (Nat.le_refl (depthL ps))
    have h3 := h2 t (List.mem_of_getElem? g1)
    rw [repl_gate g1, T.depth, T.depth, List.length_cons]
    have h4 : depthL (ps.set k (T.repl p t f)) ≤ max (depthL ps) (p.length + f.depth) := depthL_le.mpr fun v hv => by
      rcases mem_set' hv with rfl | hv
      · omega
      · have := h2 v hv; omega
    omega
  | k :: p, .one, f, u, h => by cases h
  | k :: p, .zero, f, u, h => by cases h
  | k :: p, .inp _, f, u, h => by cases h
theorem leavesL_set : ∀ (ps : List T) (k : Nat) (x : T), leavesL (ps.set k x) ≤ leavesL ps + x.leaves
  | [], k, x => by simp [leavesL]
  | t :: r, 0, x => by rw [List.set_cons_zero, leavesL, leavesL]; omega
  | t :: r, k + 1, x => by
    have := leavesL_set r k x
    rw [List.set_cons_succ, leavesL, leavesL]; omega
theorem leavesL_set2 : ∀ (ps : List T) (k : Nat) (t x : T), ps[k]? = some t → leavesL (ps.set k x) + t.leaves = leavesL ps + x.leaves
  | [], k, t, x, h => by simp at h
  | a :: r, 0, t, x, h => by
    obtain rfl : a = t := by simpa using h
    rw [List.set_cons_zero, leavesL, leavesL]; omega
  | a :: r, k + 1, t, x, h => by
    have := leavesL_set2 r k t x (by simpa using h)
    rw [List.set_cons_succ, leavesL, leavesL]; omega
theorem repl_leaves : ∀ (p : List Nat) (t f u : T), T.at p t = some u → (T.repl p t f).leaves ≤ t.leaves + f.leaves
  | [], t, f, u, _ => by simp [T.repl]
  | k :: p, .neg t, f, u, h => repl_leaves p t f u (at_neg h).2
  | k :: p, .gate b ps, f, u, h => by
    obtain ⟨t, g1, g2⟩ := at_gate h
    have h1 := repl_leaves p t f u g2
    have h2 := leavesL_set2 ps k t (T.repl p t f) g1
    rw [repl_gate g1]
    show leavesL (ps.set k (T.repl p t f)) ≤ leavesL ps + f.leaves
    omega
  | k :: p, .one, f, u, h => by cases h
  | k :: p, .zero, f, u, h => by cases h
  | k :: p, .inp _, f, u, h => by cases h

/-! ### what stands at a path may be changed: signs, cuts -/
theorem Al2.map_set {α β : Type} {f : α → β} {R : β → β → Prop} : ∀ (l : List α) (k : Nat) (x y : α), (∀ a ∈ l, R (f a) (f a)) → R (f x) (f y) → Al2 R ((l.set k x).map f) ((l.set k y).map f)
  | [], k, x, y, _, _ => .nil
  | a :: l, 0, x, y, h, h' => by
    rw [List.set_cons_zero, List.set_cons_zero, List.map_cons, List.map_cons]
    refine .cons h' ?_
    have : ∀ l : List α, (∀ a ∈ l, R (f a) (f a)) → Al2 R (l.map f) (l.map f) := by
      intro l
      induction l with
      | nil => intro _; exact .nil
      | cons b l ih => intro h; exact .cons (h b (by simp)) (ih fun a ha => h a (by simp [ha]))
    exact this l fun b hb => h b (by simp [hb])
  | a :: l, k + 1, x, y, h, h' => by
    rw [List.set_cons_succ, List.set_cons_succ, List.map_cons, List.map_cons]
    exact .cons (h a (by simp)) (Al2.map_set l k x y (fun b hb => h b (by simp [hb])) h')
theorem foldl_cut {a : Bool} : ∀ {ws vs : List (List Bool)}, Al2 Cut ws vs → ∀ {w v : List Bool}, Cut w v → Cut (ws.foldl (gateW a) w) (vs.foldl (gateW a) v)
  | _, _, .nil, _, _, h => h
  | _, _, .cons h1 h2, _, _, h => foldl_cut h2 (h.gate h1)
theorem foldW_cut {a : Bool} {ws vs : List (List Bool)} (h : Al2 Cut ws vs) (h0 : ws ≠ []) : Cut (foldW a ws) (foldW a vs) := by
  cases h with
  | nil => exact absurd rfl h0
  | cons h1 h2 => exact foldl_cut h2 h1
theorem repl_sgn (c : List Sg) (f g : T) (hfg : sgn c f = sgn c g) : ∀ (p : List Nat) (t : T), sgn c (T.repl p t f) = sgn c (T.repl p t g)
  | [], t => hfg
  | k :: p, .neg t => by rw [T.repl, T.repl, sgn, sgn, repl_sgn c f g hfg p t]
  | k :: p, .gate b ps => by
    cases e : ps[k]? with
    | none => rw [T.repl, T.repl, e]
    | some t =>
      rw [repl_gate e, repl_gate e, sgn, sgn, sgns_map, sgns_map, List.map_set, List.map_set, repl_sgn c f g hfg p t]
  | k :: p, .one => rfl
  | k :: p, .zero => rfl
  | k :: p, .inp _ => rfl
theorem repl_cut {n : Nat} (a b : List Sg) (f g : T) (hfg : Cut (wrd a b f) (wrd a b g)) : ∀ (p : List Nat) (t u : T), T.at p t = some u → t.wf n → Cut (wrd a b (T.repl p t f)) (wrd a b (T.repl p t g))
  | [], t, u, _, _ => hfg
  | k :: p, .neg t, u, h, hw => by
    rw [T.repl, T.repl, wrd, wrd]
    exact (repl_cut a b f g hfg p t u (at_neg h).2 hw).ex
  | k :: p, .gate q ps, u, h, hw => by
    obtain ⟨t, g1, g2⟩ := at_gate h
    have hl := (wfL_iff n ps).mp hw.2
    rw [repl_gate g1, repl_gate g1, wrd, wrd, wrds_map, wrds_map]
    refine foldW_cut (Al2.map_set ps k _ _ (fun v hv => Cut.refl (wrd_isW a b v (hl v hv))) (repl_cut a b f g hfg p t u g2 (hl t (List.mem_of_getElem? g1)))) fun e => ?_
    have := congrArg List.length e
    rw [List.length_map, List.length_set] at this
    simp at this
    exact hw.1 this
  | k :: p, .one, u, h, _ => by cases h
  | k :: p, .zero, u, h, _ => by cases h
  | k :: p, .inp _, u, h, _ => by cases h

/-! ### the sharing -/
def wideT (x : T) (ys : List T) : T := .gate false (ys.map fun y => .gate true [x, y])
def tightT (x : T) (ys : List T) : T := .gate true [x, .gate false ys]
theorem share_cut (a b : List Sg) (x : T) {n : Nat} (hx : x.wf n) : ∀ (ys : List T) (Y W : List Bool), IsW Y → (∀ y ∈ ys, y.wf n) → Cut (andW (wrd a b x) Y) W →
    Cut (andW (wrd a b x) ((wrds a b ys).foldl (gateW false) Y)) ((wrds a b (ys.map fun y => .gate true [x, y])).foldl (gateW false) W)
  | [], Y, W, _, _, h => h
  | y :: ys, Y, W, hY, hw, h => by
    have wx := wrd_isW a b x hx
    have wy := wrd_isW a b y (hw y (by simp))
    rw [List.map_cons, wrds, wrds, List.foldl_cons, List.foldl_cons]
    refine share_cut a b x hx ys _ _ (hY.gate wy) (fun z hz => hw z (by simp [hz])) ?_
    exact (distr wx hY wy).trans (Cut.or h (Cut.refl (wx.and wy)))
theorem tight_cut {n : Nat} (a b : List Sg) (x : T) (ys : List T) (hx : x.wf n) (hy : ∀ y ∈ ys, y.wf n) (h0 : ys ≠ []) : Cut (wrd a b (tightT x ys)) (wrd a b (wideT x ys)) := by
  cases ys with
  | nil => exact absurd rfl h0
  | cons y r =>
    have wx := wrd_isW a b x hx
    have wy := wrd_isW a b y (hy y (by simp))
    exact share_cut a b x hx r _ _ wy (fun z hz => hy z (by simp [hz])) (Cut.refl (wx.and wy))
theorem share_sgn (c : List Sg) (x : T) (ys : List T) (h0 : ys ≠ []) : sgn c (tightT x ys) = sgn c (wideT x ys) := by
  unfold tightT wideT
  rw [sgn, sgn, sgns, sgns, sgns, sgn, sgns_map, sgns_map, List.map_map]
  have e : (sgn c ∘ fun y => T.gate true [x, y]) = fun y => gsg true [sgn c x, sgn c y] := by
    funext y
    show sgn c (T.gate true [x, y]) = _
    rw [sgn, sgns, sgns, sgns]
  rw [e]
  generalize sgn c x = s
  have e2 : (ys.map fun y => gsg true [s, sgn c y]) = (ys.map (sgn c)).map fun v => gsg true [s, v] := by rw [List.map_map]; rfl
  rw [e2]
  have h1 : ys.map (sgn c) ≠ [] := fun q => h0 (List.map_eq_nil_iff.mp q)
  generalize ys.map (sgn c) = l at h1
  rcases s with _ | _ | _
  · -- -
    have e3 : ∀ v : Sg, gsg true [none, v] = if v = some false then some false else none := by
      intro v; rcases v with _ | _ | _ <;> rfl
    have e4 : (l.map fun v => gsg true [none, v]) = l.map fun v => if v = some false then some false else none := List.map_congr_left fun v _ => e3 v
    rw [e3, e4]
    unfold gsg
    have n1 : some true ∉ l.map fun v : Sg => if v = some false then (some false : Sg) else none := by
      intro q
      obtain ⟨v, _, hv⟩ := List.mem_map.mp q
      split at hv <;> cases hv
    by_cases c1 : ∀ v ∈ l, v = some false
    · have a1 : some true ∉ l := fun q => by have := c1 _ q; cases this
      have a2 : none ∉ l := fun q => by have := c1 _ q; cases this
      have a3 : (none : Sg) ∉ l.map fun v : Sg => if v = some false then (some false : Sg) else none := by
        intro q
        obtain ⟨v, hv, e⟩ := List.mem_map.mp q
        rw [if_pos (c1 v hv)] at e; cases e
      simp only [Bool.not_false]
      rw [if_neg a1, if_neg a2, if_pos rfl, if_neg n1, if_neg a3]
    · have a3 : (none : Sg) ∈ l.map fun v : Sg => if v = some false then (some false : Sg) else none := by
        have : ∃ v ∈ l, v ≠ some false := by
          refine Classical.byContradiction fun q => c1 fun v hv => Classical.byContradiction fun q2 => q ⟨v, hv, q2⟩
        obtain ⟨v, hv, e⟩ := this
        exact List.mem_map.mpr ⟨v, hv, if_neg e⟩
      simp only [Bool.not_false]
      rw [if_neg n1, if_pos a3]
      refine if_neg fun q => c1 fun v hv => ?_
      split at q
      · cases q
      · rename_i m1
        split at q
        · cases q
        · rename_i m2
          rcases v with _ | _ | _
          · exact absurd hv m2
          · rfl
          · exact absurd hv m1
  · -- 0
    have e3 : ∀ v : Sg, gsg true [some false, v] = some false := by
      intro v; rcases v with _ | _ | _ <;> rfl
    have e4 : (l.map fun v => gsg true [some false, v]) = l.map fun _ => some false := List.map_congr_left fun v _ => e3 v
    rw [e3, e4]
    unfold gsg
    have n1 : some true ∉ l.map fun _ : Sg => (some false : Sg) := by
      intro q; obtain ⟨v, _, hv⟩ := List.mem_map.mp q; cases hv
    have n2 : none ∉ l.map fun _ : Sg => (some false : Sg) := by
      intro q; obtain ⟨v, _, hv⟩ := List.mem_map.mp q; cases hv
    simp only [Bool.not_false]
    rw [if_neg n1, if_neg n2]
  · -- 1
    have e3 : ∀ v : Sg, gsg true [some true, v] = v := by
      intro v; rcases v with _ | _ | _ <;> rfl
    have e4 : (l.map fun v => gsg true [some true, v]) = l := by
      rw [List.map_congr_left (g := id) fun v _ => e3 v, List.map_id]
    rw [e3, e4]
end Sc

set_option Elab.async false
set_option maxRecDepth 100000
set_option maxHeartbeats 4000000
/-! S0: the common layer: calls by name, texts of signs, comprehensions, trees. -/
namespace Sc
open PySem PySem.Spec PyProof.Rows L2 TL
abbrev St := L2.St

def top (i : Nat) : Stmt := PySem.Challenge.pw_steadycover_k58_whole_sharing_never_flic.main.body.getD i (.Pass ⟨0, 0, 0, 0⟩)

/-! ### a def of the text, a call's promise -/
structure Df (K : PySem.W.Frag) (mg : Str → Option Value) (x : Str) (st : Stmt) (ps : List Str) : Prop where
  ex : ∃ f fd, Fun K x x st f fd ∧ mg x = some (.ref f) ∧ Binds K fd ps []
structure Cal (P : Program) (w : World) (K : PySem.W.Frag) (mg : Str → Option Value) (base : Heap) (k : Nat) (x : Str) (ps : List Str) (sp : Sp) : Prop where
  ex : ∃ f fd, FnOk P w K mg base CX0 k f fd ps sp ∧ mg x = some (.ref f) ∧ PySem.W.keepIn K (.ref f) = true ∧ Binds K fd ps [] ∧ ∃ st, Fun K x x st f fd
section
variable {P : Program} {w : World} {K : PySem.W.Frag} {mg : Str → Option Value} {base : Heap}
theorem Df.ok {x : Str} {st : Stmt} {N ps : List Str} {k : Nat} {sp : Sp} (D : Df K mg x st ps) (S : FnScope N ps (defScope st)) (len : ∀ vs H Q E, sp vs H Q E → vs.length = ps.length)
    (hbody : ∀ (f : Addr) (cdv : Value) (A : Around) (outer : List Env) (s : Shared) (H : Hp) (vs : List V) (Q : VK) (E : XK), Room k (A.deeper (envOfC x (defScope st) s.heap.objs.size f cdv)) → sp vs H Q E →
      ∃ t, PSs (cxOf CX0 P w K mg base N x (defScope st) f cdv A outer s H E).nox (defBody st) t ∧ t { nx := fun _ H' => Q .non H', rt := Q } (start N vs) H) : Cal P w K mg base (k + 1) x ps sp := by
  obtain ⟨f, fd, F, m, b⟩ := D.ex
  exact ⟨f, fd, F.ok S len (hbody f), m, F.kp, b, st, F⟩
theorem Df.none {x : Str} {st : Stmt} {ps : List Str} {sp : Sp} (D : Df K mg x st ps) (no : ∀ vs H Q E, ¬ sp vs H Q E) : Cal P w K mg base 0 x ps sp := by
  obtain ⟨f, fd, F, m, b⟩ := D.ex
  exact ⟨f, fd, ⟨fun vs H Q E h => absurd h (no vs H Q E), fun A outer s H args us vs Q E _ _ _ _ h => absurd h (no vs H Q E)⟩, m, F.kp, b, st, F⟩
theorem Cal.mono {j k : Nat} {x : Str} {ps : List Str} {sp : Sp} (C : Cal P w K mg base j x ps sp) (h : j ≤ k) : Cal P w K mg base k x ps sp := by
  obtain ⟨f, fd, F, m, q, b, r⟩ := C.ex
  exact ⟨f, fd, F.mono h, m, q, b, r⟩
theorem Cal.imp {k : Nat} {x : Str} {ps : List Str} {sp sp' : Sp} (C : Cal P w K mg base k x ps sp) (h : ∀ vs H Q E, sp' vs H Q E → sp vs H Q E) : Cal P w K mg base k x ps sp' := by
  obtain ⟨f, fd, F, m, q, b, r⟩ := C.ex
  exact ⟨f, fd, F.imp h, m, q, b, r⟩
end
theorem pe_cal {X : Cx} {x : Str} {p pos : Pos} {e : Expr} {es : List Expr} {t : TA} {j k : Nat} {ps : List Str} {sp : Sp} (C : Cal X.prog X.w X.K X.mg X.base j x ps sp) (hr : Room k X.A) (hg : Gl X x) (ha : PA X (e :: es) t)
    (hjk : j ≤ k := by omega) (hdb : (x == ("__debug__" : Str)) = false := by decide) (he : starEach (e :: es) X.env = (false, eval e X.env) :: starEach es X.env := by rfl) (hpl : (backTo pos (starEach es X.env)).any (·.1) = false := by rfl) :
    PE X (.Call (.Name x p) (e :: es) [] pos) (tCall sp [] E0 t) := by
  obtain ⟨f, fd, F, m, q, b, _⟩ := C.ex
  exact pe_call F (hr.mono hjk) hg m q b .nil pass0 ha hdb he hpl

/-- the built-ins' names are not taken; the constants of the top -/
structure Bn (mg : Str → Option Value) : Prop where
  len_ : mg "len" = none
  isinstance_ : mg "isinstance" = none
  str_ : mg "str" = none
  int_ : mg "int" = none
  bool_ : mg "bool" = none
  tuple_ : mg "tuple" = none
  list_ : mg "list" = none
  range_ : mg "range" = none
  enumerate_ : mg "enumerate" = none
  max_ : mg "max" = none
  sum_ : mg "sum" = none
  mi : ∃ t, mg "MOST_INPUTS" = some (.int 4 t)
  ml : ∃ t, mg "MOST_LEAVES" = some (.int 240 t)
  md : ∃ t, mg "MOST_DEEP" = some (.int 8 t)

/-! ### heaps -/
theorem same_new {H : Hp} {p : Addr} (h : H p = none) (o : HO) : Same H (upd H p o) := fun b u q => by rw [upd_ne (ne_of_none q h)]; exact q
theorem _root_.L2.Same.upd_out {H H' : Hp} {p : Addr} (s : Same H H') (h : H p = none) (o : HO) : Same H (upd H' p o) := fun b u q => by rw [upd_ne (ne_of_none q h)]; exact s b u q
theorem _root_.L2.Same.tup {K : PySem.W.Frag} {H H' : Hp} {a : Addr} {xs : List V} (e : Same H H') (h : SqT K H a xs) : SqT K H' a xs := by
  rcases h with (h | ⟨o, h⟩) | h
  · exact .inl (.inl (e _ _ h))
  · exact .inl (.inr ⟨o, e _ _ h⟩)
  · exact .inr h

/-! ### signs, texts of signs -/
def cd : Sg → Nat
  | some true => 49
  | some false => 48
  | none => 45
def tx (l : List Sg) : Str := ⟨(l.map cd).toArray⟩
def wd (l : List Bool) : Str := tx (l.map some)
theorem cd_inj : ∀ {a b : Sg}, cd a = cd b → a = b := by
  intro a b h
  rcases a with _ | _ | _ <;> rcases b with _ | _ | _ <;> first | rfl | (exact absurd h (by decide))
theorem map_inj {α β : Type} {f : α → β} (hf : ∀ {a b}, f a = f b → a = b) : ∀ {l m : List α}, l.map f = m.map f → l = m
  | [], [], _ => rfl
  | [], _ :: _, h => by cases h
  | _ :: _, [], h => by cases h
  | a :: l, b :: m, h => by
    rw [List.map_cons, List.map_cons] at h
    injection h with h1 h2
    rw [hf h1, map_inj hf h2]
theorem tl_tx (l : List Sg) : tl (tx l) = l.map cd := rfl
theorem tx_inj {a b : List Sg} (h : tx a = tx b) : a = b := map_inj cd_inj (congrArg tl h)
theorem wd_inj {a b : List Bool} (h : wd a = wd b) : a = b := map_inj (fun h => Option.some.inj h) (tx_inj h)
theorem dec_tx (a b : List Sg) : decide (V.str (tx a) = V.str (tx b)) = decide (a = b) := by
  by_cases h : a = b
  · rw [decide_eq_true h, h]; exact decide_eq_true rfl
  · rw [decide_eq_false h]
    refine decide_eq_false fun q => h (tx_inj ?_)
    injection q
theorem dec_wd (a b : List Bool) : decide (V.str (wd a) = V.str (wd b)) = decide (a = b) := by
  by_cases h : a = b
  · rw [decide_eq_true h, h]; exact decide_eq_true rfl
  · rw [decide_eq_false h]
    refine decide_eq_false fun q => h (wd_inj ?_)
    injection q
theorem len_tx (l : List Sg) : (tx l).length = l.length := by
  show (l.map cd).toArray.size = l.length
  rw [List.size_toArray, List.length_map]
theorem len_wd (l : List Bool) : (wd l).length = l.length := by rw [wd, len_tx, List.length_map]
theorem tx_app (a b : List Sg) : tx a ++ tx b = tx (a ++ b) := ext_tl (by rw [tl_append, tl_tx, tl_tx, tl_tx, List.map_append])
theorem wd_app (a b : List Bool) : wd a ++ wd b = wd (a ++ b) := by rw [wd, wd, tx_app, wd, List.map_append]
theorem k0 : ("0" : Str) = wd [false] := by decide +kernel
theorem k1 : ("1" : Str) = wd [true] := by decide +kernel
theorem k10 : ("10" : Str) = wd [true, false] := by decide +kernel
theorem k01 : ("01" : Str) = wd [false, true] := by decide +kernel
theorem kE : ("" : Str) = wd [] := by decide +kernel
theorem kM : ("-" : Str) = tx [none] := by decide +kernel
theorem k01M : ("01-" : Str) = tx [some false, some true, none] := by decide +kernel
theorem kM01 : ("-01" : Str) = tx [none, some false, some true] := by decide +kernel
theorem wd_eq (l : List Bool) : wd l = tx (l.map some) := rfl
theorem tx_at {l : List Sg} {i : Nat} {s : Sg} (h : l[i]? = some s) : (tx l).cps.toList[i]? = some (cd s) := by
  show (l.map cd)[i]? = _
  rw [List.getElem?_map, h]; rfl
theorem wd_at {l : List Bool} {i : Nat} {s : Bool} (h : l[i]? = some s) : (wd l).cps.toList[i]? = some (cd (some s)) := tx_at (by rw [List.getElem?_map, h]; rfl)
theorem tx_of {l : List Sg} {i c : Nat} (h : (tx l).cps[i]? = some c) : ∃ s, l[i]? = some s ∧ c = cd s := by
  have h' : (l.map cd)[i]? = some c := by
    have e : (tx l).cps[i]? = ((l.map cd).toArray)[i]? := rfl
    rw [e, List.getElem?_toArray] at h
    exact h
  rw [List.getElem?_map] at h'
  cases e : l[i]? with
  | none => rw [e] at h'; cases h'
  | some s => rw [e] at h'; exact ⟨s, rfl, (Option.some.inj h').symm⟩
theorem tx_size (l : List Sg) : (tx l).cps.size = l.length := len_tx l
/-- a text of signs, sign by sign -/
theorem walk_tx (l : List Sg) : Walk (Its (tx l)) l.length (fun _ => True) (fun i H v H' => H' = H ∧ ∃ s, l[i]? = some s ∧ v = .str (tx [s])) := by
  have w := walk_str (z := tx l)
  rw [tx_size] at w
  refine w.mono (fun _ h => h) fun i H x H' _ _ y => ?_
  obtain ⟨e, c, hc, ev⟩ := y
  obtain ⟨s, hs, rfl⟩ := tx_of hc
  exact ⟨e, s, hs, ev⟩
theorem walk_wd (l : List Bool) : Walk (Its (wd l)) l.length (fun _ => True) (fun i H v H' => H' = H ∧ ∃ s, l[i]? = some s ∧ v = .str (wd [s])) := by
  have w := walk_tx (l.map some)
  rw [List.length_map] at w
  refine w.mono (fun _ h => h) fun i H x H' _ _ y => ?_
  obtain ⟨e, s, hs, ev⟩ := y
  rw [List.getElem?_map] at hs
  cases q : l[i]? with
  | none => rw [q] at hs; cases hs
  | some b => rw [q] at hs; cases hs; exact ⟨e, b, rfl, ev⟩

/-- what never changes: tuples, and what is known to the object -/
def Fix : HO → Prop
  | .tup _ => True
  | .frz _ _ => True
  | _ => False
def SameT (H H' : Hp) : Prop := ∀ b o, H b = some o → Fix o → H' b = some o
theorem _root_.L2.Same.fix {H H' : Hp} (s : Same H H') : SameT H H' := fun b o q _ => s b o q
theorem SameT.refl (H : Hp) : SameT H H := fun _ _ q _ => q
theorem SameT.trans {H H1 H2 : Hp} (a : SameT H H1) (b : SameT H1 H2) : SameT H H2 := fun c o q f => b c o (a c o q f) f
theorem SameT.upd {H : Hp} {p : Addr} {xs : List V} {o : HO} (h : H p = some (.lst xs)) : SameT H (upd H p o) := fun b u q f => by
  have nb : b ≠ p := fun e => by rw [e, h] at q; cases q; exact f
  rw [upd_ne nb]; exact q
theorem SameT.tup {K : PySem.W.Frag} {H H' : Hp} {a : Addr} {xs : List V} (e : SameT H H') (h : SqT K H a xs) : SqT K H' a xs := by
  rcases h with (h | ⟨o, h⟩) | h
  · exact .inl (.inl (e _ _ h trivial))
  · exact .inl (.inr ⟨o, e _ _ h trivial⟩)
  · exact .inr h

/-! ### a comprehension without tests whose element leaves all as it is: the new list told item by item -/
theorem lc_map {J : It} {n : Nat} {G : Hp → Prop} {Y : Nat → Hp → V → Hp → Prop} (w : Walk J n G Y) {k : Nat} {te : TE} {vs : List Nat} {σ : St} {H1 : Hp} {D : Addr} {Qd : Hp → Prop}
    (P : Nat → V → Prop) (hY : ∀ i H x H', Y i H x H' → H' = H ∧ P i x) (R : Nat → V → Hp → Prop) (mono : ∀ i y H H', SameT H H' → R i y H → R i y H')
    (hG : ∀ H, Same H1 H → G H) (hn : n < sizeLine) (hD : H1 D = none) (hw : ∀ x, wipe ((wipe σ vs).set k (some x)) vs = wipe σ vs)
    (turn : ∀ i x H (Q : VK), i < n → P i x → Same H1 H → (∀ y H', Same H H' → R i y H' → Q y H') → te ((wipe σ vs).set k (some x)) H Q)
    (hd : ∀ ys H', Same H1 H' → H' D = some (.lst ys) → ys.length = n → (∀ i y, ys[i]? = some y → R i y H') → Qd H') :
    ∃ W : Nat → Nat → Hp → Prop, (∃ m, W 0 m (upd H1 D (.lst []))) ∧ ∀ i m H, W i m H →
      (J.stop i H ∧ Qd H) ∨ (J.go i H ∧ ∃ Nx : Hp → Prop, (∀ H', Nx H' → ∃ m', m' < m ∧ W (i + 1) m' H') ∧ ∀ x H', J.yld i H x H' → gName k x (wipe σ vs) H' fun σ2 H2 => wipe σ2 vs = wipe σ vs ∧ tYes σ2 H2 fun b H3 =>
        if b = true then te σ2 H3 fun y H4 => ∃ acc, H4 D = some (.lst acc) ∧ acc.length < sizeLine ∧ Nx (upd H4 D (.lst (acc ++ [y]))) else Nx H3) := by
  refine lc_it w (fun i H => ∃ ys, Same H1 H ∧ H D = some (.lst ys) ∧ ys.length = i ∧ ∀ j y, ys[j]? = some y → R j y H) ⟨[], same_new hD _, upd_same, rfl, fun j y q => by simp at q⟩ (fun i H _ ⟨_, s, _⟩ => hG H s) ?_ ?_
  · rintro i x H H' hi ⟨ys, s, hL, hl, hR⟩ y
    obtain ⟨rfl, hp⟩ := hY _ _ _ _ y
    refine ⟨hw x, ?_⟩
    show te ((wipe σ vs).set k (some x)) H' _
    refine turn i x _ _ hi hp s fun z H2 s2 r => ?_
    have hL2 := s2 _ _ hL
    refine ⟨ys, hL2, by omega, ys ++ [z], (s.trans s2).upd_out hD _, upd_same, by rw [List.length_append, hl]; rfl, fun j y q => ?_⟩
    have up : SameT H2 (upd H2 D (.lst (ys ++ [z]))) := SameT.upd hL2
    by_cases hj : j < ys.length
    · rw [List.getElem?_append_left hj] at q
      exact mono _ _ _ _ (s2.fix.trans up) (hR j y q)
    · have h2 := (List.getElem?_eq_some_iff.mp q).1
      rw [List.length_append, List.length_singleton] at h2
      have ej : j = ys.length := by omega
      subst ej
      rw [List.getElem?_concat_length] at q
      obtain rfl := Option.some.inj q
      rw [hl]
      exact mono _ _ _ _ up r
  · rintro H ⟨ys, s, hL, hl, hR⟩
    exact hd ys H s hL hl hR

/-! ### text * int, max of two texts, enumerate(tuple) -/
theorem foldl_app (x : Array Nat) : ∀ (n : Nat) (acc : Array Nat), ((List.replicate n x).foldl (· ++ ·) acc).toList = acc.toList ++ (List.replicate n x.toList).flatten
  | 0, acc => by simp
  | n + 1, acc => by
    rw [List.replicate_succ, List.foldl_cons, foldl_app x n, List.replicate_succ, List.flatten_cons, Array.toList_append, List.append_assoc]
/-- x * n as a text -/
def repS (x : Str) (n : Nat) : Str := ⟨(List.replicate n x.cps.toList).flatten.toArray⟩
theorem op_repS {X : Cx} : OpR X (binaryOp .Mult) (fun x y H Q => ∃ (z : Str) (n : Int), x = .str z ∧ y = .int n ∧ z.length ≤ 1000 ∧ -1000 ≤ n ∧ n ≤ 1000 ∧ Q (.str (repS z n.toNat)) H) := by
  intro pins s σ H x y v u Q I rx ry h
  obtain ⟨z, n, rfl, rfl, hz, h0, h1, q⟩ := h
  obtain ⟨t, rfl⟩ := rx
  obtain ⟨t', rfl⟩ := ry
  have fin : ∀ (w' : Str) (tk : Nat) (t'' : Tok), w' = repS z n.toNat → EP X pins σ Q (.str w' t'') { s with toks := tk } := fun w' tk t'' e => ⟨.str w', H, I.tok tk, ⟨_, rfl⟩, by rw [e]; exact q⟩
  refine PySem.P.mul_str (by rw [decide_eq_false (by omega), decide_eq_false (by omega)]; rfl) (fun h2 _ => ?_) (fun h2 h3 => ?_) ?_
  · have hn : 1 ≤ n := by omega
    intro hgt
    have e1 : (2 ^ 63 - 1 : Int) / n ≥ (2 ^ 63 - 1) / 1000 := by
      refine Int.le_ediv_of_mul_le (by omega) ?_
      have : (2 ^ 63 - 1 : Int) / 1000 * n ≤ (2 ^ 63 - 1) / 1000 * 1000 := Int.mul_le_mul_of_nonneg_left h1 (by decide)
      exact Int.le_trans this (by decide)
    have e2 : ((2 : Int) ^ 63 - 1) / 1000 ≥ 1001 := by decide
    omega
  · have hb : z.length * n.toNat ≤ 1000 * 1000 := Nat.mul_le_mul hz (by omega)
    unfold PySem.Builtin.Str.tooLong
    first
      | exact decide_eq_false (Nat.not_lt.mpr (Nat.le_trans hb (by rw [sizeLine_eq]; decide)))
      | (simp only [sizeLine_eq, decide_eq_false_iff_not]; omega)
  · by_cases c1 : n < 1
    · rw [if_pos c1]
      have e0 : n.toNat = 0 := by omega
      refine ⟨by decide, fin _ _ _ ?_⟩
      rw [e0]; rfl
    · rw [if_neg c1]
      by_cases c2 : (n == 1 || z.length == 0) = true
      · rw [if_pos c2]
        refine fin z s.toks t ?_
        refine TL.ext_tl ?_
        show z.cps.toList = (List.replicate n.toNat z.cps.toList).flatten
        rw [Bool.or_eq_true, beq_iff_eq, beq_iff_eq] at c2
        rcases c2 with e | e
        · rw [e]; simp
        · have e' : z.cps.toList = [] := by
            have : z.cps.size = 0 := e
            exact List.eq_nil_of_length_eq_zero (by rw [Array.length_toList]; exact this)
          rw [e']; simp
      · rw [if_neg c2]
        have ee : (⟨(List.replicate n.toNat z.cps).foldl (· ++ ·) #[]⟩ : Str) = repS z n.toNat := TL.ext_tl (by
          show ((List.replicate n.toNat z.cps).foldl (· ++ ·) #[]).toList = _
          rw [foldl_app]; rfl)
        refine ⟨?_, fin _ _ _ ee⟩
        rw [ee]
        have hl : (repS z n.toNat).length ≤ 1000000 := by
          rw [TL.len_tl]
          show ((List.replicate n.toNat z.cps.toList).flatten).length ≤ 1000000
          rw [List.length_flatten, List.map_replicate, List.sum_replicate_nat, Array.length_toList]
          exact Nat.mul_le_mul (show n.toNat ≤ 1000 by omega) hz
        exact Nat.le_trans hl (by rw [sizeLine_eq]; decide)
theorem repS_wd (l : List Bool) (n : Nat) : repS (wd l) n = wd (List.replicate n l).flatten := by
  refine TL.ext_tl ?_
  show (List.replicate n ((l.map some).map cd)).flatten = ((List.replicate n l).flatten.map some).map cd
  rw [List.map_flatten, List.map_flatten, List.map_replicate, List.map_replicate]
theorem repS_tx (l : List Sg) (n : Nat) : repS (tx l) n = tx (List.replicate n l).flatten := by
  refine TL.ext_tl ?_
  show (List.replicate n (l.map cd)).flatten = (List.replicate n l).flatten.map cd
  rw [List.map_flatten, List.map_replicate]
/-- the greater of two texts -/
def maxS (x y : Str) : Str := if x.cps.toList < y.cps.toList then y else x
theorem max_two_strs {prog : Program} {w : World} {A : Around} {E : Value → Shared → Prop} {s : Shared} {a b : Str} {t u : Tok} {Q : Value → Shared → Prop} (hh : A.handled = none)
    (h : ∀ h' tk, (∀ c o, s.heap.get? c = some o → h'.get? c = some o) → Q (if a.cps.toList < b.cps.toList then .str b u else .str a t) { s with heap := h', toks := tk }) :
    wpAny (model prog w) A (call (.builtin "max") [.str a t, .str b u]) Q E s := by
  have hT : (s.heap.push { cls := .type "tuple", data := .seq #[.str a t, .str b u] }).IsTuple s.heap.objs.size #[.str a t, .str b u] := ⟨_, Heap.get?_push_size _ rfl, rfl, 0, rfl⟩
  refine call_max_two (wpAny_pyIter_tuple hT ?_)
  have hsz : (s.heap.push { cls := .type "tuple", data := .seq #[.str a t, .str b u] }).objs.size = s.heap.objs.size + 1 := Heap.size_push ..
  have cmp : CmpOf prog w A.in1 .Gt (fun i v => (#[Value.str a t, Value.str b u] : Array Value)[i]? = some v) (fun i j => decide ((if j = 0 then a else b).cps.toList < (if i = 0 then a else b).cps.toList)) := by
    intro i j vi vj s' Q' E' hi hj hq
    have sh : ∀ (k : Nat) (v : Value), (#[Value.str a t, Value.str b u] : Array Value)[k]? = some v → ∃ t', v = .str (if k = 0 then a else b) t' := by
      intro k v hv
      match k, hv with
      | 0, hv => exact ⟨t, by simpa using hv.symm⟩
      | 1, hv => exact ⟨u, by simpa using hv.symm⟩
      | k + 2, hv => simp at hv
    obtain ⟨t1, rfl⟩ := sh i vi hi
    obtain ⟨t2, rfl⟩ := sh j vj hj
    exact richCompare_gives (op := .Gt) (typeIs_str s' _ t1) (typeIs_str s' _ t2) F.slot_str_gt F.entry_str_gt (F.args_str_gt_2 _ _) (PySem.gives_str_gt _ _ t1 t2) (fun x => nomatch x) hq
  refine ⟨_, [_, s.heap.objs.size], [_], _, _, _, _, rfl, Walks.tuple (A := A.in1) hh _ s.heap.objs.size (by rw [hsz]; exact Nat.ne_of_lt (Nat.lt_succ_self _)) #[.str a t, .str b u],
    ⟨⟨_, Heap.get?_push_size _ rfl, rfl, rfl⟩, hT.push _⟩, fun c hc => ?_, by simp, cmp, fun v h' tk hP hk => ?_⟩
  · show c < ((s.heap.push _).push _).objs.size
    rw [Heap.size_push, hsz]
    rcases List.mem_cons.mp hc with rfl | hc
    · rw [hsz]; exact Nat.lt_succ_self _
    · rcases List.mem_cons.mp hc with rfl | hc
      · exact Nat.lt_succ_of_lt (Nat.lt_succ_self _)
      · cases hc
  · have hold : ∀ c o, s.heap.get? c = some o → h'.get? c = some o := fun c o e => by
      refine hk c o (fun hm => ?_) (Heap.get?_push_of_some _ (Heap.get?_push_of_some _ e))
      rcases List.mem_cons.mp hm with e1 | hm
      · have := Heap.lt_size e; rw [e1, hsz] at this; exact Nat.lt_irrefl _ (Nat.lt_of_succ_lt this)
      · cases hm
    have := h h' tk hold
    have hv : v = if a.cps.toList < b.cps.toList then Value.str b u else Value.str a t := by
      have hP' : (#[Value.str a t, Value.str b u] : Array Value)[argBest (fun i j => decide ((if j = 0 then a else b).cps.toList < (if i = 0 then a else b).cps.toList)) 1]? = some v := hP
      by_cases hba : a.cps.toList < b.cps.toList
      · have e : argBest (fun i j => decide ((if j = 0 then a else b).cps.toList < (if i = 0 then a else b).cps.toList)) 1 = 1 := by simp [argBest, hba]
        rw [e] at hP'
        rw [if_pos hba]
        simpa using hP'.symm
      · have e : argBest (fun i j => decide ((if j = 0 then a else b).cps.toList < (if i = 0 then a else b).cps.toList)) 1 = 0 := by simp [argBest, hba]
        rw [e] at hP'
        rw [if_neg hba]
        simpa using hP'.symm
    rw [hv]; exact this
theorem call_maxS {X : Cx} (hc : X.calm = true) : CallR X (.builtin "max") (fun xs H Q => ∃ i j, xs = [.str i, .str j] ∧ Q (.str (maxS i j)) H) := by
  intro pins s σ H xs us Q I r h
  obtain ⟨i, j, rfl, q⟩ := h
  obtain ⟨u, w', rfl, ⟨t, rfl⟩, ⟨t', rfl⟩⟩ := vals2 r
  refine max_two_strs (I.ok.hd hc) fun h' tk k => ⟨_, H, I.kept k, ?_, q⟩
  unfold maxS
  by_cases hj : i.cps.toList < j.cps.toList
  · rw [if_pos hj, if_pos hj]; exact ⟨_, rfl⟩
  · rw [if_neg hj, if_neg hj]; exact ⟨_, rfl⟩
theorem maxS_wd (a b : Bool) : maxS (wd [a]) (wd [b]) = wd [a || b] := by cases a <;> cases b <;> decide +kernel

open AutoSeq1 (wpAny_loadPart') in
set_option maxHeartbeats 1000000 in
theorem meets_enumerate_newT {v : Value} {o : Obj} {H : Heap → Prop} (B : Begins v o H) :
    Meets (Builtin.«enumerate.__new__» ⟨[.type "enumerate", v], []⟩) (fun _ R s => H s.heap ∧
      R (.ok (.ret (.ref (s.heap.push o).objs.size))) { s with heap := (s.heap.push o).push { cls := .type "enumerate", data := .fields #[.none, .bool false, .ref s.heap.objs.size, rawInt 0, .none, .none] } }) :=
  .of_wp fun prog w A R s h => by
    obtain ⟨hp, g, d, tk, os⟩ := s; obtain ⟨h1, h⟩ := h
    have hsub := sub_enumerate
    have q1 : ∀ {A' : Around} {E : Value → Shared → Prop} {Q : Value → Shared → Prop}, Q (.ref hp.objs.size) ⟨hp.push o, g, d, tk, os⟩ → wpAny (model prog w) A' (pyIter v) Q E ⟨hp, g, d, tk, os⟩ :=
      fun q => B.iter prog w _ _ ⟨hp, g, d, tk, os⟩ _ h1 q
    wp_walk using q1
    refine wpAny_stack_any fun st => wpAny_pure ?_
    split
    · rename_i c _ _ _ _ _
      cases (c == Value.type "enumerate")
      · wp_walk using q1
        exact ⟨_, rfl, h⟩
      · wp_walk using q1
        exact ⟨_, rfl, h⟩
    · wp_walk using q1
      exact ⟨_, rfl, h⟩
theorem enum_begins1 {prog : Program} {w : World} {A : Around} {E : Value → Shared → Prop} {s : Shared} {v : Value} {o : Obj} {H : Heap → Prop} {Q : Value → Shared → Prop} (B : Begins v o H) (h1 : H s.heap)
    (h : ∀ h', IsEnum h' (s.heap.objs.size + 1) s.heap.objs.size 0 .none → h'.get? s.heap.objs.size = some o → h'.objs.size = s.heap.objs.size + 2 →
      (∀ b o, s.heap.get? b = some o → h'.get? b = some o) → Q (.ref (s.heap.objs.size + 1)) { s with heap := h' }) :
    wpAny (model prog w) A (call (.type "enumerate") [v]) Q E s := by
  refine callType_new F.called_enumerate (by decide) (F.typeCall_enumerate_1 _) (F.newCall_enumerate_1 _) (fun obj => F.args_object_init_2 obj _) F.entry_enumerate_new
    (meets_enumerate_newT B) ⟨h1, ?_⟩
  have hz : (s.heap.push o).objs.size = s.heap.objs.size + 1 := Heap.size_push ..
  show _ ∧ _
  rw [hz]
  have he : IsEnum ((s.heap.push o).push { cls := .type "enumerate", data := .fields #[.none, .bool false, .ref s.heap.objs.size, rawInt 0, .none, .none] }) (s.heap.objs.size + 1) s.heap.objs.size 0 .none := by
    have := Heap.get?_push_size (s.heap.push o) (o := { cls := .type "enumerate", data := .fields #[.none, .bool false, .ref s.heap.objs.size, rawInt 0, .none, .none] }) rfl
    rw [hz] at this; exact this
  refine ⟨⟨_, he, rfl⟩, h _ he (Heap.get?_push_of_some _ (Heap.get?_push_size _ B.free)) (by rw [Heap.size_push, hz]) fun b o x => Heap.get?_push_of_some _ (Heap.get?_push_of_some _ x)⟩
/-- enumerate(tuple): the tuple at a, each item in a new pair -/
def Itet (K : PySem.W.Frag) (a : Addr) : It :=
  ⟨fun i H => ∃ (xs : List V) (x : V), SqT K H a xs ∧ xs[i]? = some x, fun i H v H' => ∃ T x, v = .ref T ∧ H T = none ∧ H' = upd H T (.tup [.int (i : Nat), x]) ∧ ∀ xs, SqT K H a xs → xs[i]? = some x, fun i H => ∃ xs : List V, SqT K H a xs ∧ xs.length ≤ i⟩
theorem turn_enumT {P : Program} {w : World} {K : PySem.W.Frag} {elts : List Expr} {kk : Nat} {tpos : Pos} (a e it : Addr) :
    Turn P w K (.Tuple elts kk tpos) (Itet K a) [e, it] e (fun i h => (∃ old, IsEnum h e it ((i : Nat) : Int) old) ∧ h.IsTupleIter it a i ∧ e ≠ it ∧ a ≠ it ∧ a ≠ e) where
  mem := by simp
  obj := fun i h st b hb => by
    obtain ⟨⟨old, he⟩, ⟨o, ho, hc, hd⟩, _⟩ := st
    have e' : b = e ∨ b = it := by simpa using hb
    rcases e' with z | z
    · rw [z]; exact ⟨_, he, fun v q => nomatch q⟩
    · rw [z]; exact ⟨o, ho, fun v q => by rw [hd] at q; cases q⟩
  keep := fun i h h' st k => let ⟨⟨old, he⟩, hi, hne⟩ := st; ⟨⟨old, k e (by simp) _ he⟩, hi.at fun o q => k it (by simp) o q, hne⟩
  item := by
    intro X hP hw hK hc i pins s σ H E I hf st hg
    subst hP hw hK
    obtain ⟨⟨old, he⟩, hit, hne, hai, hae⟩ := st
    obtain ⟨xs, x, hq, hx⟩ := hg
    obtain ⟨its, rv, p, hz⟩ := I.tuple hq
    obtain ⟨u, hu, ru⟩ := rv.get hx
    have hel : e < s.heap.objs.size := Heap.lt_size he
    have hil : it < s.heap.objs.size := by obtain ⟨_, q, _⟩ := hit; exact Heap.lt_size q
    have hT : s.heap.IsTuple a its.toArray := p
    have hlt : i < its.toArray.size := by
      have := (List.getElem?_eq_some_iff.mp hu).1
      simpa using this
    have D := Draws.tuple (prog := X.prog) (w := X.w) (A := X.A.in1) (I.ok.hd hc) it a hai its.toArray
    refine wpAny_pyNext_enum_itemD (A := X.A) (fp := [it, a]) D he ⟨hit, hT⟩ hlt hne (by simp [hne, Ne.symm hae]) fun x' h' tk hx' ho hit' hT' hsz hk => ?_
    have ex : x' = u := by
      have h1 : its.toArray[i]? = some u := by simpa using hu
      exact Option.some.inj (hx'.symm.trans h1)
    subst ex
    refine ⟨_, rfl, wpAny_letOwnedTupleGo_enum (s := { s with heap := h', toks := tk + 1 }) ho fun h'' he' sb => ?_⟩
    have hT2 : h''.get? s.heap.objs.size = some { cls := .type "tuple", data := .seq #[.int i tk, x'] } := (sb.2 _ (Nat.ne_of_gt hel)).trans hT'
    have new : ObjOk X.prog X.w (upd H s.heap.objs.size (.tup [.int (i : Nat), x])) h'' s.heap.objs.size (.tup [.int (i : Nat), x]) :=
      ⟨by show 2 ≤ sizeLine; decide, [.int i tk, x'], .cons ⟨_, rfl⟩ (.cons ru .nil), ⟨_, hT2, rfl, _, rfl⟩⟩
    have I1 : Inv X pins σ (upd H s.heap.objs.size (.tup [.int (i : Nat), x])) { s with heap := h'', toks := tk + 1 } :=
      I.turnedNew (ch := [e, it]) (fun b ob hb q => (sb.2 b (fun z => hb (by simp [z]))).trans (hk b ob (fun z => hb (by simp [z])) (fun z => hb (by simp [z])) q)) hf (Nat.le_refl _) new
    refine ⟨.ref s.heap.objs.size, _, I1, rfl, ⟨_, x, rfl, I.hok.fresh (Nat.le_refl _), rfl, fun ys hy => by rw [I.tuple_inj hy hq]; exact hx⟩, ⟨⟨x', ?_⟩, hit'.1.at fun o q => (sb.2 it (Ne.symm hne)).trans q, hne, hai, hae⟩, fun b hb => ?_⟩
    · have e1 : ((i + 1 : Nat) : Int) = (i : Int) + 1 := by omega
      rw [e1]; exact he'
    · have hb' : b < s.heap.objs.size := by
        have e' : b = e ∨ b = it := by simpa using hb
        rcases e' with z | z
        · rw [z]; exact hel
        · rw [z]; exact hil
      rw [upd_ne (Nat.ne_of_lt hb')]
      exact (hf b hb).1
  done := by
    intro X hP hw hK hc i pins s σ H E I hf st hg
    subst hP hw hK
    obtain ⟨⟨old, he⟩, hit, hne, hai, hae⟩ := st
    obtain ⟨xs, hq, hx⟩ := hg
    obtain ⟨its, rv, p, hz⟩ := I.tuple hq
    obtain ⟨f0, f1, f2, f3, f4, f5⟩ := hf it (by simp)
    have hl := rv.length
    have hT : s.heap.IsTuple a its.toArray := p
    have D : Draws X.prog X.w X.A.in1 it [it, a] i (fun _ _ => False) (fun j h => j = i ∧ h.IsTupleIter it a i ∧ h.IsTuple a its.toArray) :=
      { live := fun _ _ st => let ⟨o, ho, _⟩ := st.2.1; ⟨o, ho⟩
        frame := fun _ _ _ st hk => ⟨st.1, st.2.1.at fun o e => hk it (by simp) o e, st.2.2.at fun o e => hk a (by simp) o e⟩
        item := fun j s Q E hj st _ => absurd st.1 (Nat.ne_of_lt hj)
        done := fun s Q E st hE => wpAny_nextOf_tuple_end (I.ok.hd hc) st.2.1 st.2.2 (by simp; omega) hE }
    exact wpAny_pyNext_enum_endD (A := X.A) D he ⟨rfl, hit, hT⟩ fun h' eb => ⟨rfl, I.turned (t' := s.toks) (fun b o hb q => eb b o hb q) f0 f1 f3 f4 f5⟩
  self := fun A i s Q E st h => let ⟨⟨_, he⟩, _⟩ := st; wpAny_pyIter_enum he h
def iEnumT (K : PySem.W.Frag) (ta : TA) : TI := fun σ H R => ta σ H fun vs H1 => ∃ a xs, vs = [.ref a] ∧ SqT K H1 a xs ∧ R (Itet K a) H1
theorem pi_enumT {X : Cx} {e : Expr} {ta : TA} {p pos tpos : Pos} {elts : List Expr} {kk : Nat} (hg : Gl X "enumerate") (hm : X.mg "enumerate" = none) (ha : PA X [e] ta) (hs : starEach [e] X.env = [(false, eval e X.env)] := by rfl) :
    PI X (.Tuple elts kk tpos) (.Call (.Name "enumerate" p) [e] [] pos) (iEnumT X.K ta) := by
  refine ⟨fun pins s σ H R I h => ?_⟩
  refine Call_ (ld_blt I hg hm boot_enumerate (PyProof.Rows.callWith_type1 (thn (ha.run pos pins s σ H _ I h) fun us s1 ⟨vs, H1, I1, r1, q1⟩ => ?_) hs rfl))
  obtain ⟨a, xs, ex, hq, q⟩ := q1
  subst ex
  cases r1 with
  | cons r rr =>
    cases rr
    cases r
    obtain ⟨its, rv, p', hz⟩ := I1.tuple hq
    have hT : s1.heap.IsTuple a its.toArray := p'
    have hal : a < s1.heap.objs.size := by obtain ⟨o, ho, _⟩ := hT; exact Heap.lt_size ho
    refine enum_begins1 (begins_tuple a its.toArray) hT fun h' he hit hsz hk => wpAny_pyIter_enum he ?_
    have I2 : Inv X pins σ H1 { s1 with heap := h' } := I1.kept (t' := s1.toks) hk
    refine ⟨s1.heap.objs.size + 1, [s1.heap.objs.size + 1, s1.heap.objs.size], _, _, H1, rfl, I2, turn_enumT a (s1.heap.objs.size + 1) s1.heap.objs.size, ⟨⟨.none, he⟩, ⟨_, hit, rfl, rfl⟩, Nat.succ_ne_self _, Nat.ne_of_lt hal, Nat.ne_of_lt (Nat.lt_succ_of_lt hal)⟩, fun b hb => ?_, q⟩
    have e' : b = s1.heap.objs.size + 1 ∨ b = s1.heap.objs.size := by simpa using hb
    have hle : s1.heap.objs.size ≤ b := by
      rcases e' with z | z
      · rw [z]; exact Nat.le_add_right _ _
      · rw [z]; exact Nat.le_refl _
    exact I1.fpOk hle (I1.hok.fresh hle)
theorem walk_enumT {K : PySem.W.Frag} {a : Addr} {xs : List V} : Walk (Itet K a) xs.length (fun H => SqT K H a xs) (fun i H v H' => ∃ T x, v = .ref T ∧ H T = none ∧ H' = upd H T (.tup [.int (i : Nat), x]) ∧ xs[i]? = some x) :=
  ⟨fun i _ hi q => ⟨xs, xs[i], q, by simp [hi]⟩, fun _ q => ⟨xs, q, Nat.le_refl _⟩, fun _ _ _ _ _ q y => by
    obtain ⟨T, x, e1, e2, e3, e4⟩ := y
    exact ⟨T, x, e1, e2, e3, e4 xs q⟩⟩
end Sc

set_option maxHeartbeats 4000000
/-! S1: how the heap bears a tree. -/
namespace Sc
open PySem PySem.Spec PyProof.Rows L2 TL
/-- the word of a gate -/
def gw (a : Bool) : Str := if a = true then "and" else "or"
mutual
def T.enc : T → PyData
  | .one => .tuple [.str "one"]
  | .zero => .tuple [.str "zero"]
  | .inp i => .tuple [.str "in", .int (i : Int)]
  | .neg t => .tuple [.str "not", t.enc]
  | .gate a ps => .tuple [.str (gw a), .tuple (encs ps)]
def encs : List T → List PyData
  | [] => []
  | t :: r => t.enc :: encs r
end
abbrev TA (K : PySem.W.Frag) (H : Hp) (v : V) (t : T) : Prop := Dp K H v t.enc
abbrev TAs (K : PySem.W.Frag) (H : Hp) (vs : List V) (ts : List T) : Prop := DpAll K H vs (encs ts)
section
variable {K : PySem.W.Frag} {H H' : Hp}
mutual
theorem Dp.up (s : SameT H H') (sl : ∀ a xs, SqL K H a xs → SqL K H' a xs) : ∀ (d : PyData) (v : V), Dp K H v d → Dp K H' v d
  | .none, _, h => by cases h; exact .non
  | .bool b, _, h => by cases h; exact .bl b
  | .int i, _, h => by cases h; exact .int i
  | .str x, _, h => by cases h; exact .str x
  | .list ds, _, h => by
    cases h with
    | lst h1 h2 => exact .lst (sl _ _ h1) (DpAll.up s sl ds _ h2)
  | .tuple ds, _, h => by
    cases h with
    | tup h1 h2 => exact .tup (s.tup h1) (DpAll.up s sl ds _ h2)
  | .dict _, _, h => by cases h
theorem DpAll.up (s : SameT H H') (sl : ∀ a xs, SqL K H a xs → SqL K H' a xs) : ∀ (ds : List PyData) (vs : List V), DpAll K H vs ds → DpAll K H' vs ds
  | [], _, h => by cases h; exact .nil
  | d :: ds, _, h => by
    cases h with
    | cons h1 h2 => exact .cons (Dp.up s sl d _ h1) (DpAll.up s sl ds _ h2)
end
mutual
theorem TA.fix (s : SameT H H') : ∀ (t : T) (v : V), TA K H v t → TA K H' v t
  | .one, _, h => by
    cases h with
    | tup h1 h2 =>
      cases h2 with
      | cons a b =>
        cases b; cases a
        exact .tup (s.tup h1) (.cons (.str _) .nil)
  | .zero, _, h => by
    cases h with
    | tup h1 h2 =>
      cases h2 with
      | cons a b =>
        cases b; cases a
        exact .tup (s.tup h1) (.cons (.str _) .nil)
  | .inp i, _, h => by
    cases h with
    | tup h1 h2 =>
      cases h2 with
      | cons a b =>
        cases a
        cases b with
        | cons c d =>
          cases c; cases d
          exact .tup (s.tup h1) (.cons (.str _) (.cons (.int _) .nil))
  | .neg t, _, h => by
    cases h with
    | tup h1 h2 =>
      cases h2 with
      | cons a b =>
        cases a
        cases b with
        | cons c d =>
          cases d
          exact .tup (s.tup h1) (.cons (.str _) (.cons (TA.fix s t _ c) .nil))
  | .gate a ps, _, h => by
    cases h with
    | tup h1 h2 =>
      cases h2 with
      | cons a b =>
        cases a
        cases b with
        | cons c d =>
          cases d
          cases c with
          | tup g1 g2 => exact .tup (s.tup h1) (.cons (.str _) (.cons (.tup (s.tup g1) (TAs.fix s ps _ g2)) .nil))
theorem TAs.fix (s : SameT H H') : ∀ (ts : List T) (vs : List V), TAs K H vs ts → TAs K H' vs ts
  | [], _, h => by cases h; exact .nil
  | t :: r, _, h => by
    cases h with
    | cons h1 h2 => exact .cons (TA.fix s t _ h1) (TAs.fix s r _ h2)
end
theorem TA.up (s : Same H H') {t : T} {v : V} (h : TA K H v t) : TA K H' v t := TA.fix s.fix t v h
theorem TAs.up (s : Same H H') {t : List T} {v : List V} (h : TAs K H v t) : TAs K H' v t := TAs.fix s.fix t v h

/-! ### what a tree's tuple is -/
theorem TA.one (h : TA K H v .one) : ∃ a, v = .ref a ∧ SqT K H a [.str "one"] := by
  cases h with
  | tup h1 h2 =>
    cases h2 with
    | cons a b => cases b; cases a; exact ⟨_, rfl, h1⟩
theorem TA.zero (h : TA K H v .zero) : ∃ a, v = .ref a ∧ SqT K H a [.str "zero"] := by
  cases h with
  | tup h1 h2 =>
    cases h2 with
    | cons a b => cases b; cases a; exact ⟨_, rfl, h1⟩
theorem TA.inp {i : Nat} (h : TA K H v (.inp i)) : ∃ a, v = .ref a ∧ SqT K H a [.str "in", .int (i : Int)] := by
  cases h with
  | tup h1 h2 =>
    cases h2 with
    | cons a b =>
      cases a
      cases b with
      | cons c d => cases c; cases d; exact ⟨_, rfl, h1⟩
theorem TA.neg {t : T} (h : TA K H v (.neg t)) : ∃ a u, v = .ref a ∧ SqT K H a [.str "not", u] ∧ TA K H u t := by
  cases h with
  | tup h1 h2 =>
    cases h2 with
    | cons a b =>
      cases a
      cases b with
      | cons c d => cases d; exact ⟨_, _, rfl, h1, c⟩
theorem TA.gate {k : Bool} {ps : List T} (h : TA K H v (.gate k ps)) : ∃ a q vs, v = .ref a ∧ SqT K H a [.str (gw k), .ref q] ∧ SqT K H q vs ∧ TAs K H vs ps := by
  cases h with
  | tup h1 h2 =>
    cases h2 with
    | cons a b =>
      cases a
      cases b with
      | cons c d =>
        cases d
        cases c with
        | tup g1 g2 => exact ⟨_, _, _, rfl, h1, g1, g2⟩
theorem TA.mkOne {a : Addr} (h : SqT K H a [.str "one"]) : TA K H (.ref a) .one := .tup h (.cons (.str _) .nil)
theorem TA.mkZero {a : Addr} (h : SqT K H a [.str "zero"]) : TA K H (.ref a) .zero := .tup h (.cons (.str _) .nil)
theorem TA.mkInp {a : Addr} {i : Nat} (h : SqT K H a [.str "in", .int (i : Int)]) : TA K H (.ref a) (.inp i) := .tup h (.cons (.str _) (.cons (.int _) .nil))
theorem TA.mkNeg {a : Addr} {u : V} {t : T} (h : SqT K H a [.str "not", u]) (hu : TA K H u t) : TA K H (.ref a) (.neg t) := .tup h (.cons (.str _) (.cons hu .nil))
theorem TA.mkGate {a q : Addr} {k : Bool} {vs : List V} {ps : List T} (h : SqT K H a [.str (gw k), .ref q]) (hq : SqT K H q vs) (hv : TAs K H vs ps) : TA K H (.ref a) (.gate k ps) := .tup h (.cons (.str _) (.cons (.tup hq hv) .nil))
theorem TAs.len : ∀ {ts : List T} {vs : List V}, TAs K H vs ts → vs.length = ts.length
  | [], _, h => by cases h; rfl
  | t :: r, _, h => by
    cases h with
    | cons h1 h2 => rw [List.length_cons, List.length_cons, TAs.len h2]
theorem TAs.getX : ∀ (ts : List T) (vs : List V) (i : Nat) (v : V), TAs K H vs ts → vs[i]? = some v → ∃ t, ts[i]? = some t ∧ TA K H v t
  | [], _, _, _, h, e => by cases h; simp at e
  | t :: r, _, 0, _, h, e => by
    cases h with
    | cons h1 h2 =>
      obtain rfl := Option.some.inj e
      exact ⟨t, rfl, h1⟩
  | t :: r, _, i + 1, v, h, e => by
    cases h with
    | @cons _ vs' _ _ h1 h2 =>
      obtain ⟨s, g1, g2⟩ := TAs.getX r vs' i v h2 (by simpa using e)
      exact ⟨s, by simpa using g1, g2⟩
theorem TAs.get {ts : List T} {vs : List V} {i : Nat} {v : V} (h : TAs K H vs ts) (e : vs[i]? = some v) : ∃ t, ts[i]? = some t ∧ TA K H v t := TAs.getX ts vs i v h e
theorem TAs.get' {ts : List T} {vs : List V} {i : Nat} {t : T} (h : TAs K H vs ts) (e : ts[i]? = some t) : ∃ v, vs[i]? = some v ∧ TA K H v t := by
  have hi := (List.getElem?_eq_some_iff.mp e).1
  rw [← h.len] at hi
  obtain ⟨t', e', ht⟩ := h.get (List.getElem?_eq_getElem hi)
  rw [e] at e'
  obtain rfl := Option.some.inj e'
  exact ⟨_, List.getElem?_eq_getElem hi, ht⟩
theorem TAs.of : ∀ {ts : List T} {vs : List V}, vs.length = ts.length → (∀ (i : Nat) (v : V) (t : T), vs[i]? = some v → ts[i]? = some t → TA K H v t) → TAs K H vs ts
  | [], [], _, _ => .nil
  | [], _ :: _, h, _ => by simp at h
  | _ :: _, [], h, _ => by simp at h
  | t :: r, v :: vs, h, g => .cons (g 0 v t rfl rfl) (TAs.of (by simpa using h) fun i v t a b => g (i + 1) v t (by simpa using a) (by simpa using b))
theorem TAs.set {ts : List T} {vs : List V} {k : Nat} {v : V} {t : T} (h : TAs K H vs ts) (hv : TA K H v t) : TAs K H (vs.set k v) (ts.set k t) := by
  refine TAs.of (by rw [List.length_set, List.length_set, h.len]) fun i u s a b => ?_
  by_cases e : k = i
  · subst e
    have hk := (List.getElem?_eq_some_iff.mp b).1
    rw [List.length_set] at hk
    rw [List.getElem?_set_self hk] at b
    rw [List.getElem?_set_self (by rw [h.len]; exact hk)] at a
    obtain rfl := Option.some.inj a
    obtain rfl := Option.some.inj b
    exact hv
  · rw [List.getElem?_set_ne e] at a b
    obtain ⟨s', e1, e2⟩ := h.get a
    rw [b] at e1
    obtain rfl := Option.some.inj e1
    exact e2
theorem TAs.len_of {ts : List T} {vs : List V} (h : TAs K H vs ts) (l : ts.length ≤ 100000) : vs.length < sizeLine := by
  rw [h.len, sizeLine_eq]; omega
end
theorem len_leaves {n : Nat} : ∀ ps : List T, wfL n ps → ps.length ≤ leavesL ps
  | [], _ => Nat.le_refl _
  | t :: r, h => by
    have h1 := leaves_pos t h.1
    have h2 := len_leaves r h.2
    rw [leavesL, List.length_cons]; omega
mutual
theorem enc_lay : ∀ t : T, t.enc.canLay0 = true
  | .one => by decide +kernel
  | .zero => by decide +kernel
  | .inp i => by show (PyData.strOk "in" && (true && true)) = true; decide +kernel
  | .neg t => by
    show (PyData.strOk "not" && (t.enc.canLay0 && true)) = true
    rw [enc_lay t]; decide +kernel
  | .gate a ps => by
    show (PyData.strOk (gw a) && (PyData.canLayAll0 (encs ps) && true)) = true
    rw [encs_lay ps]; cases a <;> decide +kernel
theorem encs_lay : ∀ ts : List T, PyData.canLayAll0 (encs ts) = true
  | [] => rfl
  | t :: r => by
    show (t.enc.canLay0 && PyData.canLayAll0 (encs r)) = true
    rw [enc_lay t, encs_lay r]; rfl
end
mutual
theorem enc_depth : ∀ t : T, t.enc.depth ≤ 2 * t.depth
  | .one => by decide +kernel
  | .zero => by decide +kernel
  | .inp i => by show max 0 (max 0 0) + 1 ≤ 2; decide
  | .neg t => by
    have := enc_depth t
    show max 0 (max t.enc.depth 0) + 1 ≤ 2 * (t.depth + 1)
    omega
  | .gate a ps => by
    have := encs_depth ps
    show max 0 (max (PyData.depthAll (encs ps) + 1) 0) + 1 ≤ 2 * (depthL ps + 1)
    omega
theorem encs_depth : ∀ ts : List T, PyData.depthAll (encs ts) ≤ 2 * depthL ts
  | [] => Nat.le_refl _
  | t :: r => by
    have h1 := enc_depth t
    have h2 := encs_depth r
    show max t.enc.depth (PyData.depthAll (encs r)) ≤ 2 * max t.depth (depthL r)
    omega
end
theorem enc_shaped {t : T} (h : t.depth ≤ 8) : SeqAt.shaped t.enc = true := by
  unfold SeqAt.shaped
  rw [enc_lay, decide_eq_true (by have := enc_depth t; omega)]; rfl
theorem enc_eqv (t : T) : PyData.eqv t.enc t.enc = true := SeqAt.eqv_refl _ (enc_lay t)
end Sc

set_option maxHeartbeats 4000000
/-! S2: what each def promises. -/
namespace Sc
open PySem PySem.Spec PyProof.Rows L2 TL
/-- v comes back, all that was tracked stands -/
def pur (H : Hp) (Q : VK) (v : V) : Prop := ∀ H', Same H H' → Q v H'
theorem pur.at {H : Hp} {Q : VK} {v : V} (h : pur H Q v) : Q v H := h H (Same.refl H)
theorem pur.on {H H1 : Hp} {Q : VK} {v : V} (s : Same H H1) (h : pur H Q v) : pur H1 Q v := fun H' s' => h H' (s.trans s')
abbrev vI (p : List Nat) : List V := p.map fun (i : Nat) => V.int (i : Int)
/-- a change at a -/
structure Chg (K : PySem.W.Frag) (H : Hp) (a : Addr) (la lb : List Sg) : Prop where
  sq : SqT K H a [.str (tx la), .str (tx lb)]
  pa : Pt la
  pb : Pt lb
  len : la.length = lb.length
  one : 1 ≤ la.length
  four : la.length ≤ 4
  ne : la ≠ lb
theorem Chg.fix {K : PySem.W.Frag} {H H' : Hp} {a : Addr} {la lb : List Sg} (c : Chg K H a la lb) (s : SameT H H') : Chg K H' a la lb := ⟨s.tup c.sq, c.pa, c.pb, c.len, c.one, c.four, c.ne⟩
theorem Chg.up {K : PySem.W.Frag} {H H' : Hp} {a : Addr} {la lb : List Sg} (c : Chg K H a la lb) (s : Same H H') : Chg K H' a la lb := c.fix s.fix
/-- a tree of n inputs, within the program's bounds -/
structure Ok (n : Nat) (t : T) : Prop where
  wf : t.wf n
  dp : t.depth ≤ 8
  lv : t.leaves ≤ 240
def T.leaf : T → Bool
  | .one => true
  | .zero => true
  | .inp _ => true
  | _ => false
def T.parts : T → List T
  | .neg t => [t]
  | .gate _ ps => ps
  | _ => []
def bits : Nat → Int → List Bool
  | 0, _ => []
  | n + 1, z => decide (z % 2 = 1) :: bits n (z / 2)

def spSignsFit : Sp := fun vs H Q _ => ∃ (l sg : List Sg), vs = [.str (tx l), .int (l.length : Int), .str (tx sg)] ∧ l.length ≤ 100 ∧ (∀ s ∈ l, s ∈ sg) ∧ pur H Q (.bl true)
def spIsPoint : Sp := fun vs H Q _ => ∃ (l : List Sg), vs = [.str (tx l), .int (l.length : Int)] ∧ l.length ≤ 100 ∧ Pt l ∧ pur H Q (.bl true)
def spIsCube : Sp := fun vs H Q _ => ∃ (l : List Sg), vs = [.str (tx l), .int (l.length : Int)] ∧ l.length ≤ 100 ∧ pur H Q (.bl true)
def spSomeSize : Sp := fun vs H Q _ => ∃ (l : List Sg), vs = [.str (tx l)] ∧ l.length ≤ 4 ∧ pur H Q (.int (l.length : Int))
def spIsCount : Sp := fun vs H Q _ => ∃ (n : Nat), vs = [.int (n : Int)] ∧ 1 ≤ n ∧ n ≤ 4 ∧ pur H Q (.bl true)
def spFilled : Sp := fun vs H Q _ => ∃ (n : Nat), vs = [.str (tx (List.replicate n none)), .str (wd [false, true])] ∧ n ≤ 4 ∧
  ∀ (p : Addr) (H' : Hp) (ls : List (List Sg)), Same H H' → H' p = some (.lst (ls.map fun l => V.str (tx l))) → (∀ l ∈ ls, l.length = n ∧ Pt l) → ls.length ≤ 1000 → Q (.ref p) H'
def spIsChange (K : PySem.W.Frag) : Sp := fun vs H Q _ => ∃ (a : Addr) (la lb : List Sg), vs = [.ref a, .int (la.length : Int)] ∧ Chg K H a la lb ∧ pur H Q (.bl true)
def spSizeOfChange (K : PySem.W.Frag) : Sp := fun vs H Q _ => ∃ (a : Addr) (la lb : List Sg), vs = [.ref a] ∧ Chg K H a la lb ∧ pur H Q (.int (la.length : Int))
def spExch : Sp := fun vs H Q _ => ∃ (l : List Bool), vs = [.str (wd l)] ∧ l.length ≤ 10000 ∧ pur H Q (.str (wd (exch l)))
def spWordText : Sp := fun vs H Q _ => ∃ (f : Bool) (z : Nat) (l : Bool), vs = [.str (wd [f]), .int (z : Int), .str (wd [l])] ∧ 1 ≤ z ∧ z ≤ 1000 ∧ pur H Q (.str (wd (wtext f z l)))
def spOrText : Sp := fun vs H Q _ => ∃ (v w : List Bool), vs = [.str (wd v), .str (wd w)] ∧ IsW v ∧ IsW w ∧ v.length + w.length ≤ 1000 ∧ pur H Q (.str (wd (orW v w)))
def spAndText : Sp := fun vs H Q _ => ∃ (v w : List Bool), vs = [.str (wd v), .str (wd w)] ∧ IsW v ∧ IsW w ∧ v.length + w.length ≤ 1000 ∧ pur H Q (.str (wd (andW v w)))
def spIsNumber : Sp := fun vs H Q _ => ∃ (i : Int), vs = [.int i] ∧ pur H Q (.bl true)
def spNodeFits (K : PySem.W.Frag) : Sp := fun vs H Q _ => ∃ (v : V) (t : T) (n : Nat), vs = [v, .int (n : Int)] ∧ TA K H v t ∧ t.wf n ∧ pur H Q (.bl true)
def spIsLeaf (K : PySem.W.Frag) : Sp := fun vs H Q _ => ∃ (v : V) (t : T), vs = [v] ∧ TA K H v t ∧ pur H Q (.bl t.leaf)
def spPartsOf (K : PySem.W.Frag) : Sp := fun vs H Q _ => ∃ (v : V) (t : T), vs = [v] ∧ TA K H v t ∧ ∀ (q : Addr) (H' : Hp) (us : List V), Same H H' → SqT K H' q us → TAs K H' us t.parts → Q (.ref q) H'
def spFault (K : PySem.W.Frag) (k : Nat) : Sp := fun vs H Q _ => ∃ (v : V) (t : T) (n : Nat) (a : Addr) (p : List V) (lv : Nat), vs = [v, .int (n : Int), .ref a, .int (lv : Int)] ∧ TA K H v t ∧ t.wf n ∧ SqT K H a p ∧ p.length + t.depth ≤ 8 ∧ lv + t.leaves ≤ 240 ∧ t.depth ≤ k ∧
  ∀ (q : Addr) (H' : Hp), Same H H' → SqT K H' q [.non, .int ((lv + t.leaves : Nat) : Int)] → Q (.ref q) H'
def spCheckTree (K : PySem.W.Frag) : Sp := fun vs H Q _ => ∃ (v : V) (t : T) (n : Nat), vs = [v, .int (n : Int)] ∧ TA K H v t ∧ Ok n t ∧ pur H Q .non
def spSizeOf (K : PySem.W.Frag) (k : Nat) : Sp := fun vs H Q _ => ∃ (v : V) (t : T) (n : Nat), vs = [v] ∧ TA K H v t ∧ t.wf n ∧ t.leaves ≤ 240 ∧ t.depth ≤ k ∧
  ∀ (q : Addr) (H' : Hp), Same H H' → SqT K H' q [.int (t.leaves : Int), .int (t.depth : Int)] → Q (.ref q) H'
def spSignOf (K : PySem.W.Frag) (k : Nat) : Sp := fun vs H Q _ => ∃ (v : V) (t : T) (c : List Sg), vs = [v, .str (tx c)] ∧ TA K H v t ∧ t.wf c.length ∧ c.length ≤ 4 ∧ t.leaves ≤ 240 ∧ t.depth ≤ k ∧ pur H Q (.str (tx [sgn c t]))
def spSettled (K : PySem.W.Frag) : Sp := fun vs H Q _ => ∃ (v : V) (t : T) (c : List Sg), vs = [.str (tx c), v] ∧ TA K H v t ∧ Ok c.length t ∧ 1 ≤ c.length ∧ c.length ≤ 4 ∧ pur H Q (.str (tx [sgn c t]))
def spLeafWord (K : PySem.W.Frag) : Sp := fun vs H Q _ => ∃ (a : Addr) (la lb : List Sg) (v : V) (t : T), vs = [.ref a, v] ∧ Chg K H a la lb ∧ TA K H v t ∧ Ok la.length t ∧ pur H Q (.str (wd (leafW la lb t)))
def spLongWord (K : PySem.W.Frag) (k : Nat) : Sp := fun vs H Q _ => ∃ (a : Addr) (la lb : List Sg) (v : V) (t : T), vs = [.ref a, v] ∧ Chg K H a la lb ∧ TA K H v t ∧ Ok la.length t ∧ t.depth ≤ k ∧ pur H Q (.str (wd (wrd la lb t)))
def spLongestOf (K : PySem.W.Frag) : Sp := fun vs H Q _ => ∃ (a : Addr) (la lb : List Sg) (v : V) (t : T), vs = [.ref a, v] ∧ Chg K H a la lb ∧ TA K H v t ∧ Ok la.length t ∧ pur H Q (.str (wd (wrd la lb t)))
def spNodeAt (K : PySem.W.Frag) : Sp := fun vs H Q _ => ∃ (v : V) (t u : T) (a : Addr) (p : List Nat), vs = [v, .ref a] ∧ TA K H v t ∧ SqT K H a (vI p) ∧ T.at p t = some u ∧ ∀ (x : V) (H' : Hp), Same H H' → TA K H' x u → Q x H'
def spReplaced (K : PySem.W.Frag) (k : Nat) : Sp := fun vs H Q _ => ∃ (v f : V) (t u g : T) (a : Addr) (p : List Nat), vs = [v, .ref a, f] ∧ TA K H v t ∧ SqT K H a (vI p) ∧ T.at p t = some u ∧ TA K H f g ∧ p.length < k ∧
  ∀ (x : V) (H' : Hp), Same H H' → TA K H' x (T.repl p t g) → Q x H'
def spCanShared (K : PySem.W.Frag) : Sp := fun vs H Q _ => ∃ (v : V) (x : T) (ys : List T), vs = [v] ∧ TA K H v (wideT x ys) ∧ ys ≠ [] ∧ x.depth ≤ 8 ∧ pur H Q (.bl true)
def spShared (K : PySem.W.Frag) : Sp := fun vs H Q _ => ∃ (v : V) (t x : T) (ys : List T) (a : Addr) (p : List Nat), vs = [v, .ref a] ∧ TA K H v t ∧ Ok 4 t ∧ SqT K H a (vI p) ∧ T.at p t = some (wideT x ys) ∧ ys ≠ [] ∧ ys.length ≤ 1000 ∧
  ∀ (z : V) (H' : Hp), Same H H' → TA K H' z (T.repl p t (tightT x ys)) → Q z H'
def spCanSpread (K : PySem.W.Frag) : Sp := fun vs H Q _ => ∃ (v : V) (x : T) (ys : List T), vs = [v] ∧ TA K H v (tightT x ys) ∧ pur H Q (.bl true)
def spSpread (K : PySem.W.Frag) : Sp := fun vs H Q _ => ∃ (v : V) (t x : T) (ys : List T) (a : Addr) (p : List Nat), vs = [v, .ref a] ∧ TA K H v t ∧ Ok 4 t ∧ SqT K H a (vI p) ∧ T.at p t = some (tightT x ys) ∧ Ok 4 (T.repl p t (wideT x ys)) ∧ ys.length ≤ 1000 ∧
  ∀ (z : V) (H' : Hp), Same H H' → TA K H' z (T.repl p t (wideT x ys)) → Q z H'
def spCalmer (K : PySem.W.Frag) : Sp := fun vs H Q _ => ∃ (n : Nat) (v w : V) (t u : T), vs = [.int (n : Int), v, w] ∧ 1 ≤ n ∧ n ≤ 4 ∧ TA K H v t ∧ TA K H w u ∧ Ok n t ∧ Ok n u ∧
  (∀ la lb : List Sg, Pt la → Pt lb → la.length = n → lb.length = n → (wrd la lb t).length ≤ (wrd la lb u).length) ∧ pur H Q .non

def spMixed : Sp := fun vs H Q _ => ∃ (s k : Int), vs = [.int s, .int k] ∧ 0 ≤ s ∧ s < 2147483648 ∧ 0 ≤ k ∧ k ≤ 1000 ∧ ∀ (z : Int), pur H Q (.int z)
def spDraws (K : PySem.W.Frag) : Sp := fun vs H Q _ => ∃ (a : Addr) (ns : List Int), vs = [.ref a, .int 76] ∧ SqL K H a (ns.map V.int) ∧ ns.length ≤ 63 ∧
  ∀ (p : Addr) (H' : Hp) (ds : List Int), Same H H' → H' p = some (.lst (ds.map V.int)) → ds.length = 76 → Q (.ref p) H'
def spStrings : Sp := fun vs H Q _ => ∃ (n : Nat) (sg : List Sg), vs = [.int (n : Int), .str (tx sg)] ∧ n ≤ 4 ∧ sg.length ≤ 3 ∧
  ∀ (p : Addr) (H' : Hp) (ls : List (List Sg)), Same H H' → H p = none → H' p = some (.lst (ls.map fun l => V.str (tx l))) → (∀ l ∈ ls, l.length = n ∧ ∀ s ∈ l, s ∈ sg) → ls.length ≤ 1000 → Q (.ref p) H'
def spPoint : Sp := fun vs H Q _ => ∃ (z : Int) (n : Nat), vs = [.int z, .int (n : Int)] ∧ n ≤ 4 ∧ pur H Q (.str (wd (bits n z)))
def spChange (K : PySem.W.Frag) : Sp := fun vs H Q _ => ∃ (z : Int) (n : Nat), vs = [.int z, .int (n : Int)] ∧ 1 ≤ n ∧ n ≤ 4 ∧ ∀ (q : Addr) (H' : Hp) (la lb : List Sg), Same H H' → Chg K H' q la lb → la.length = n → Q (.ref q) H'
def spTree (K : PySem.W.Frag) (k : Nat) : Sp := fun vs H Q _ => ∃ (a : Addr) (ds : List Int) (d n : Nat), vs = [.ref a, .int (d : Int), .int (n : Int)] ∧ H a = some (.lst (ds.map V.int)) ∧ ds.length ≤ 1000 ∧ 1 ≤ d ∧ d ≤ 3 ∧ d ≤ k ∧ 1 ≤ n ∧ n ≤ 4 ∧
  ∀ (v : V) (H' : Hp) (ds' : List Int) (t : T), (∀ b o, b ≠ a → H b = some o → H' b = some o) → H' a = some (.lst (ds'.map V.int)) → ds'.length ≤ 1000 → TA K H' v t → t.wf n → t.depth ≤ d → t.leaves ≤ 4 ^ (d - 1) → Q v H'
def spGrown (K : PySem.W.Frag) : Sp := fun vs H Q _ => ∃ (a : Addr) (ds : List Int) (d n : Nat), vs = [.ref a, .int (d : Int), .int (n : Int)] ∧ SqL K H a (ds.map V.int) ∧ ds.length ≤ 1000 ∧ 1 ≤ d ∧ d ≤ 3 ∧ 1 ≤ n ∧ n ≤ 4 ∧
  ∀ (v : V) (H' : Hp) (t : T), Same H H' → TA K H' v t → t.wf n → t.depth ≤ 3 → t.leaves ≤ 16 → Q v H'
def spLParts (K : PySem.W.Frag) : Sp := fun vs H Q _ => ∃ (v : V) (t : T), vs = [v] ∧ TA K H v t ∧ ∀ (p : Addr) (H' : Hp) (us : List V), Same H H' → H p = none → H' p = some (.lst us) → TAs K H' us t.parts → Q (.ref p) H'
def spLeafPaths (K : PySem.W.Frag) (k : Nat) : Sp := fun vs H Q _ => ∃ (v : V) (t : T) (n : Nat) (a : Addr) (pr : List Nat), vs = [v, .ref a] ∧ TA K H v t ∧ t.wf n ∧ t.leaves ≤ 1000 ∧ t.depth ≤ k ∧ SqT K H a (vI pr) ∧ pr.length + t.depth ≤ 100 ∧
  ∀ (p : Addr) (H' : Hp) (us : List V), Same H H' → H' p = some (.lst us) → 1 ≤ us.length → us.length ≤ t.leaves → (∀ u ∈ us, ∃ (b : Addr) (q : List Nat) (x : T), u = .ref b ∧ SqT K H' b (vI (pr ++ q)) ∧ T.at q t = some x) → Q (.ref p) H'
def spLSettled (K : PySem.W.Frag) (k : Nat) : Sp := fun vs H Q _ => ∃ (v : V) (t : T) (c : List Sg), vs = [.str (tx c), v] ∧ TA K H v t ∧ t.wf c.length ∧ c.length ≤ 4 ∧ t.leaves ≤ 240 ∧ t.depth ≤ k ∧ pur H Q (.str (tx [sgn c t]))
def spLChanges (K : PySem.W.Frag) : Sp := fun vs H Q _ => ∃ (a : Addr) (ds : List Int) (n : Nat), vs = [.ref a, .int (n : Int)] ∧ SqL K H a (ds.map V.int) ∧ ds.length ≤ 100 ∧ 1 ≤ n ∧ n ≤ 4 ∧
  ∀ (p : Addr) (H' : Hp) (us : List V), Same H H' → H' p = some (.lst us) → (∀ u ∈ us, ∃ (q : Addr) (la lb : List Sg), u = .ref q ∧ Chg K H' q la lb ∧ la.length = n) → Q (.ref p) H'
def spLaw (K : PySem.W.Frag) : Sp := fun vs H Q _ => ∃ (a : Addr) (ns : List Int), vs = [.ref a] ∧ SqL K H a (ns.map V.int) ∧ ns.length ≤ 63 ∧ ∀ H', Q (.bl true) H'

/-! ### the ways of values -/
theorem tyX_tup {K : PySem.W.Frag} {H : Hp} {a : Addr} {xs : List V} (h : SqT K H a xs) : TyX K H (.ref a) (.type "tuple") := by
  rcases h with (h | ⟨o, h⟩) | ⟨o, its, n, hk, hc, _⟩
  · exact .base (.tup h)
  · exact .fTuple h
  · exact .kTuple hk hc
theorem isT {K : PySem.W.Frag} {a : String} : PySem.W.kitOne K (.type a) (.type a) = some true := kit_ty (by unfold kitB; rw [if_pos (beq_self_eq_true _)])
theorem at0 {x : V} {xs : List V} : atI (x :: xs) 0 = some x := atI_nat (j := 0) rfl
theorem at1 {x y : V} {xs : List V} : atI (x :: y :: xs) 1 = some y := atI_nat (j := 1) rfl
theorem hS {n : Nat} (h : n ≤ 1000000) : n ≤ sizeLine := by rw [sizeLine_eq]; omega
theorem hS' {n : Nat} (h : n ≤ 1000000) : n < sizeLine := by rw [sizeLine_eq]; omega
theorem bTrue {b : Bool} (h : b = true) {H : Hp} {Q : VK} (q : Q (.bl true) H) : Q (.bl b) H := by rw [h]; exact q
theorem ifb {b c : Bool} {A B : Prop} (h : b = c) (h' : if c = true then A else B) : if b = true then A else B := by rw [h]; exact h'
theorem isStr {K : PySem.W.Frag} {H : Hp} {z : Str} : TyX K H (.str z) (.type "str") := .base (.str _)
theorem isInt {K : PySem.W.Frag} {H : Hp} {i : Int} : TyX K H (.int i) (.type "int") := .base (.int _)
theorem ne_self (v : V) : (!decide (v = v)) = false := by rw [decide_eq_true rfl]; rfl
theorem eq_self' (v : V) : decide (v = v) = true := decide_eq_true rfl
theorem ne_int {i j : Int} (h : i = j) : (!decide (V.int i = V.int j)) = false := by rw [h]; exact ne_self _
theorem eq_int' {i j : Int} (h : i = j) : decide (V.int i = V.int j) = true := by rw [h]; exact eq_self' _
theorem eq_intF {i j : Int} (h : i ≠ j) : decide (V.int i = V.int j) = false := decide_eq_false fun e => h (by injection e)
theorem in_tx {s : Sg} {l : List Sg} (h : s ∈ l) : (!decide (cd s ∈ (tx l).cps.toList)) = false := by
  have : cd s ∈ (tx l).cps.toList := List.mem_map.mpr ⟨s, h, rfl⟩
  rw [decide_eq_true this]; rfl
theorem eqM (s : Sg) : decide (V.str (tx [s]) = V.str "-") = decide (s = none) := by
  rw [kM, dec_tx]
  rcases s with _ | _ | _ <;> rfl
theorem eqT0 (s : Sg) : decide (V.str (tx [s]) = V.str "0") = decide (s = some false) := by
  rw [k0, wd_eq, dec_tx]
  rcases s with _ | _ | _ <;> rfl
theorem eqT1 (s : Sg) : decide (V.str (tx [s]) = V.str "1") = decide (s = some true) := by
  rw [k1, wd_eq, dec_tx]
  rcases s with _ | _ | _ <;> rfl
theorem eqB0 (b : Bool) : decide (V.str (wd [b]) = V.str "0") = !b := by
  rw [k0, dec_wd]; cases b <;> rfl
theorem eqB1 (b : Bool) : decide (V.str (wd [b]) = V.str "1") = b := by
  rw [k1, dec_wd]; cases b <;> rfl
theorem eqW1 (l : List Bool) : decide (V.str (wd l) = V.str "1") = decide (l = [true]) := by
  rw [k1, dec_wd]
theorem join_tx : ∀ ls : List (List Sg), Txt.join "" (ls.map tx) = tx ls.flatten
  | [] => by
    show PySem.Builtin.Str.glued "" [] = tx []
    rw [StrLaws.glued_eq_join]; rfl
  | [l] => by
    show PySem.Builtin.Str.glued "" [tx l] = tx [l].flatten
    rw [StrLaws.glued_eq_join]
    show tx l = tx [l].flatten
    simp
  | l :: m :: r => by
    have ih := join_tx (m :: r)
    have e1 : Txt.join "" ((m :: r).map tx) = Str.join "" ((m :: r).map tx) := StrLaws.glued_eq_join _ _
    rw [e1] at ih
    show PySem.Builtin.Str.glued "" (tx l :: tx m :: r.map tx) = _
    rw [StrLaws.glued_eq_join]
    show tx l ++ "" ++ Str.join "" ((m :: r).map tx) = _
    rw [ih, kE, wd_eq, tx_app, tx_app]
    congr 1
    simp
theorem join_wd (l : List Bool) : Txt.join "" (l.map fun b => wd [b]) = wd l := by
  have h := join_tx (l.map fun b => [some b])
  rw [List.map_map] at h
  have e : (l.map fun b => wd [b]) = l.map (tx ∘ fun b => [some b]) := rfl
  rw [e, h, wd_eq]
  congr 1
  clear h e
  induction l with
  | nil => rfl
  | cons a l ih => rw [List.map_cons, List.flatten_cons, ih, List.map_cons]; rfl
theorem count_wd (l : List Bool) (b : Bool) : Txt.count (wd l) (wd [b]) = (l.count b : Int) := by
  have h := PyProof.Rows.count_is (wd l) (cd (some b))
  have e : (⟨#[cd (some b)]⟩ : Str) = wd [b] := rfl
  rw [e] at h
  rw [h]
  clear h e
  show Spec.countIn (.str (wd [b])) (((l.map some).map cd).map fun n => PyData.str ⟨#[n]⟩) = _
  induction l with
  | nil => rfl
  | cons a l ih =>
    rw [List.map_cons, List.map_cons, List.map_cons, Spec.countIn, ih]
    have e : (⟨#[cd (some a)]⟩ : Str) = wd [a] := rfl
    rw [e]
    have e2 : Spec.same (.str (wd [a])) (.str (wd [b])) = (a == b) := by
      show (wd [a] == wd [b]) = (a == b)
      cases a <;> cases b <;> decide +kernel
    rw [e2, List.count_cons]
    cases a <;> cases b <;> simp <;> omega
theorem at0_wd {v : List Bool} (h : v ≠ []) : atI (wd v).cps.toList 0 = some (cd (some (v.headD false))) := by
  cases v with
  | nil => exact absurd rfl h
  | cons a r => exact atI_nat (j := 0) rfl
theorem atL_wd {v : List Bool} (h : v ≠ []) : atI (wd v).cps.toList (-1) = some (cd (some (v.getLastD false))) := by
  have e : v = v.dropLast ++ [v.getLastD false] := by
    have := List.dropLast_concat_getLast h
    rw [List.getLastD_eq_getLast?, List.getLast?_eq_some_getLast h]
    exact this.symm
  have e2 : (wd v).cps.toList = (wd v.dropLast).cps.toList ++ [cd (some (v.getLastD false))] := by
    conv => lhs; rw [e, ← wd_app]
    exact TL.tl_append _ _
  rw [e2]
  exact atI_last _ _
/-! ### tuples: + and slices, the same or new -/
def rCatU (K : PySem.W.Frag) : R2 := fun x y H Q => ∃ a b xs ys, x = .ref a ∧ y = .ref b ∧ SqT K H a xs ∧ SqT K H b ys ∧ ys ≠ [] ∧ xs.length + ys.length ≤ sizeLine ∧ ∀ (p : Addr) (H' : Hp), Same H H' → SqT K H' p (xs ++ ys) → Q (.ref p) H'
theorem op_catU {X : Cx} : OpR X (binaryOp .Add) (rCatU X.K) := by
  intro pins s σ H x y v u Q I rx ry h
  obtain ⟨a, b, xs, ys, rfl, rfl, ha, hb, hne, hz, q⟩ := h
  exact op_catA pins s σ H _ _ v u Q I rx ry ⟨a, b, xs, ys, rfl, rfl, ha, hb, hz, fun e => q b H (Same.refl _) (by rw [e]; exact hb), fun _ e => absurd e hne, fun _ _ p hp => q p _ (same_new hp _) (SqT.of upd_same)⟩
def rSlU (K : PySem.W.Frag) : V → Option Int → Option Int → Hp → VK → Prop := fun x lo hi H Q => ∃ a xs, x = .ref a ∧ SqT K H a xs ∧ ∀ (p : Addr) (H' : Hp), Same H H' → SqT K H' p (cutV xs lo hi) → Q (.ref p) H'
theorem sl_tupU {X : Cx} : SlR X (rSlU X.K) := by
  intro pins s σ H x v vl vu lo hi sl Q I rx hs pl pu h
  obtain ⟨a, xs, rfl, hx, q⟩ := h
  refine sl_tupA pins s σ H _ v vl vu lo hi sl Q I rx hs pl pu ⟨a, xs, rfl, hx, fun e => q a H (Same.refl _) ?_, fun _ p hp => q p _ (same_new hp _) (SqT.of upd_same)⟩
  have : cutV xs lo hi = xs := by
    unfold cutV
    rw [e.1, e.2, List.drop_zero, Nat.sub_zero, List.take_length]
  rw [this]; exact hx
theorem cut_tail (xs : List V) : cutV xs (some 1) none = xs.drop 1 := by
  unfold cutV
  rw [show HT.sIx xs.length 0 (some 1) = min 1 xs.length from HT.sIx_nat xs.length 0 1, HT.sIx_none]
  cases xs with
  | nil => rfl
  | cons x r =>
    rw [show min 1 (x :: r).length = 1 by rw [List.length_cons]; omega]
    show (List.take ((x :: r).length - 1) r) = r
    rw [List.length_cons, Nat.add_sub_cancel]
    exact List.take_length

/-! ### the first word of a node, its parts -/
def T.hd : T → Str
  | .one => "one"
  | .zero => "zero"
  | .inp _ => "in"
  | .neg _ => "not"
  | .gate a _ => gw a
theorem TA.hd {K : PySem.W.Frag} {H : Hp} {v : V} : ∀ {t : T}, TA K H v t → ∃ a xs, v = .ref a ∧ SqT K H a (.str t.hd :: xs)
  | .one, h => let ⟨a, e, q⟩ := TA.one h; ⟨a, _, e, q⟩
  | .zero, h => let ⟨a, e, q⟩ := TA.zero h; ⟨a, _, e, q⟩
  | .inp i, h => let ⟨a, e, q⟩ := TA.inp h; ⟨a, _, e, q⟩
  | .neg t, h => let ⟨a, _, e, q, _⟩ := TA.neg h; ⟨a, _, e, q⟩
  | .gate k ps, h => let ⟨a, _, _, e, q, _⟩ := TA.gate h; ⟨a, _, e, q⟩
theorem hd_leaf (t : T) : inV (.str t.hd) [.str "in", .str "one", .str "zero"] = t.leaf := by
  cases t with
  | gate a ps =>
    show inV (.str (gw a)) [.str "in", .str "one", .str "zero"] = false
    cases a <;> decide +kernel
  | one => show inV (.str "one") [.str "in", .str "one", .str "zero"] = true; decide +kernel
  | zero => show inV (.str "zero") [.str "in", .str "one", .str "zero"] = true; decide +kernel
  | inp i => show inV (.str "in") [.str "in", .str "one", .str "zero"] = true; decide +kernel
  | neg t => show inV (.str "not") [.str "in", .str "one", .str "zero"] = false; decide +kernel
def T.isNot : T → Bool
  | .neg _ => true
  | _ => false
def T.isIn : T → Bool
  | .inp _ => true
  | _ => false
theorem hd_not (t : T) : decide (V.str t.hd = V.str "not") = t.isNot := by
  cases t with
  | gate a ps =>
    show decide (V.str (gw a) = V.str "not") = false
    cases a <;> decide +kernel
  | one => show decide (V.str "one" = V.str "not") = false; decide +kernel
  | zero => show decide (V.str "zero" = V.str "not") = false; decide +kernel
  | inp i => show decide (V.str "in" = V.str "not") = false; decide +kernel
  | neg t => show decide (V.str "not" = V.str "not") = true; decide +kernel
theorem hd_in (t : T) : decide (V.str t.hd = V.str "in") = t.isIn := by
  cases t with
  | gate a ps =>
    show decide (V.str (gw a) = V.str "in") = false
    cases a <;> decide +kernel
  | one => show decide (V.str "one" = V.str "in") = false; decide +kernel
  | zero => show decide (V.str "zero" = V.str "in") = false; decide +kernel
  | inp i => show decide (V.str "in" = V.str "in") = true; decide +kernel
  | neg t => show decide (V.str "not" = V.str "in") = false; decide +kernel
theorem gw_and (a : Bool) : decide (V.str (gw a) = V.str "and") = a := by cases a <;> decide +kernel
theorem parts_leaves {t : T} (h : t.leaf = false) : leavesL t.parts = t.leaves := by
  cases t with
  | neg t => show t.leaves + 0 = t.leaves; omega
  | gate a ps => rfl
  | _ => cases h
theorem parts_wf {n : Nat} {t : T} (h : t.wf n) : wfL n t.parts := by
  cases t with
  | neg t => exact ⟨h, trivial⟩
  | gate a ps => exact h.2
  | _ => trivial
theorem parts_depth {t : T} (h : t.leaf = false) : depthL t.parts + 1 = t.depth := by
  cases t with
  | neg t => show max t.depth 0 + 1 = t.depth + 1; omega
  | gate a ps => rfl
  | _ => cases h
theorem parts_ne {n : Nat} {t : T} (h : t.leaf = false) (hw : t.wf n) : t.parts ≠ [] := by
  cases t with
  | neg t => intro e; cases e
  | gate a ps => exact hw.1
  | _ => cases h
theorem leaf_leaves {t : T} (h : t.leaf = true) : t.leaves = 1 := by cases t <;> first | rfl | cases h
theorem leaf_depth {t : T} (h : t.leaf = true) : t.depth = 1 := by cases t <;> first | rfl | cases h
theorem leavesL_take : ∀ (ts : List T) (i : Nat) (t : T), ts[i]? = some t → leavesL (ts.take (i + 1)) = leavesL (ts.take i) + t.leaves
  | [], i, t, h => by simp at h
  | a :: r, 0, t, h => by
    obtain rfl : a = t := by simpa using h
    simp [leavesL]
  | a :: r, i + 1, t, h => by
    have := leavesL_take r i t (by simpa using h)
    show a.leaves + leavesL (r.take (i + 1)) = a.leaves + leavesL (r.take i) + t.leaves
    omega
theorem leavesL_le : ∀ (ts : List T) (i : Nat), leavesL (ts.take i) ≤ leavesL ts
  | [], i => by simp
  | a :: r, 0 => by simp [leavesL]
  | a :: r, i + 1 => by
    have := leavesL_le r i
    show a.leaves + leavesL (r.take i) ≤ a.leaves + leavesL r
    omega
theorem sum_leaves : ∀ ts : List T, (ts.map fun t => (t.leaves : Int)).sum = (leavesL ts : Int)
  | [] => rfl
  | t :: r => by
    rw [List.map_cons, List.sum_cons, sum_leaves, leavesL]; omega
theorem max_depth {ts : List T} {m : Int} (h1 : m ∈ ts.map fun t => (t.depth : Int)) (h2 : ∀ y, y ∈ (ts.map fun t => (t.depth : Int)) → y ≤ m) : m = (depthL ts : Int) := by
  have a : (depthL ts : Int) ≤ m := by
    obtain ⟨t, _, rfl⟩ := List.mem_map.mp h1
    have : depthL ts ≤ t.depth := depthL_le.mpr fun u hu => by
      have := h2 _ (List.mem_map.mpr ⟨u, hu, rfl⟩); omega
    omega
  have b : m ≤ (depthL ts : Int) := by
    obtain ⟨t, ht, rfl⟩ := List.mem_map.mp h1
    have := depthL_le.mp (Nat.le_refl (depthL ts)) t ht
    omega
  omega
/-- what a comprehension made, by an equation -/
theorem made_eq {ys ws : List V} (hl : ys.length = ws.length) (h : ∀ (i : Nat) y, ys[i]? = some y → ws[i]? = some y) : ys = ws := by
  refine List.ext_getElem? fun i => ?_
  cases e : ys[i]? with
  | none =>
    have := List.getElem?_eq_none_iff.mp e
    rw [List.getElem?_eq_none (by omega)]
  | some y => rw [h i y e]
/-- the same rules where the context is a comprehension's block -/
theorem ix_tupK {X : Cx} (K : PySem.W.Frag) (h : X.K = K) : IxR X (rIxT K) := by subst h; exact ix_tup
theorem ix_listK {X : Cx} (K : PySem.W.Frag) (h : X.K = K) : IxR X (rIxL K) := by subst h; exact ix_list
theorem sl_listK {X : Cx} (K : PySem.W.Frag) (h : X.K = K) : SlR X (rSlL K) := by subst h; exact sl_list
theorem tx_get {c : List Sg} {i : Nat} (h : i < c.length) : atI (tx c).cps.toList (i : Int) = some (cd (c.getD i none)) := by
  refine atI_nat (tx_at ?_)
  rw [List.getD_eq_getElem?_getD, List.getElem?_eq_getElem h]; rfl
theorem inV_sg (x : Sg) : ∀ l : List Sg, inV (.str (tx [x])) (l.map fun s => V.str (tx [s])) = decide (x ∈ l)
  | [] => rfl
  | s :: l => by
    have ih := inV_sg x l
    have e : eqV (.str (tx [s])) (.str (tx [x])) = decide (x = s) := by
      rcases x with _ | _ | _ <;> rcases s with _ | _ | _ <;> decide +kernel
    show (eqV (.str (tx [s])) (.str (tx [x])) || inV (.str (tx [x])) (l.map fun s => V.str (tx [s]))) = _
    rw [ih, e]
    by_cases h : x = s <;> simp [h]
theorem inV_0 (l : List Sg) : inV (.str "0") (l.map fun s => V.str (tx [s])) = decide (some false ∈ l) := by rw [k0]; exact inV_sg (some false) l
theorem inV_1 (l : List Sg) : inV (.str "1") (l.map fun s => V.str (tx [s])) = decide (some true ∈ l) := by rw [k1]; exact inV_sg (some true) l
theorem inV_M (l : List Sg) : inV (.str "-") (l.map fun s => V.str (tx [s])) = decide (none ∈ l) := by rw [kM]; exact inV_sg none l
theorem flat_sg (l : List Sg) : (l.map fun s => V.str (tx [s])).all flatV = true := by
  rw [List.all_map, List.all_eq_true]
  intro x _; rfl
theorem at_cons {k : Nat} {p : List Nat} {t u : T} (h : T.at (k :: p) t = some u) : ∃ s, t.parts[k]? = some s ∧ T.at p s = some u := by
  cases t with
  | neg t =>
    obtain ⟨rfl, h2⟩ := at_neg h
    exact ⟨t, rfl, h2⟩
  | gate b ps => exact at_gate h
  | _ => cases h
theorem ixN_nat {n k : Nat} (h : k < n) : ixN n (k : Int) = some k := by
  unfold ixN
  rw [if_pos (by omega), if_pos (by omega)]; rfl
theorem vI_at {p : List Nat} {i k : Nat} (h : p[i]? = some k) : (vI p)[i]? = some (V.int (k : Int)) := by
  show (p.map _)[i]? = _
  rw [List.getElem?_map, h]; rfl
theorem ref_non (a : Addr) : decide (V.ref a = V.non) = false := decide_eq_false (fun h => by cases h)
theorem ifn {b c : Bool} {A B : Prop} (h : b = !c) (h' : if c = true then B else A) : if b = true then A else B := by
  rw [h]; cases c <;> exact h'
theorem gw_or (a : Bool) : decide (V.str (gw a) = V.str "or") = !a := by cases a <;> decide +kernel
theorem rep_flat : ∀ n : Nat, (List.replicate n [(none : Sg)]).flatten = List.replicate n none
  | 0 => rfl
  | n + 1 => by rw [List.replicate_succ, List.flatten_cons, rep_flat n, List.replicate_succ]; rfl
/-! ### the law's own helpers -/
theorem at_ofA {α : Type} {xs : List α} {z : Int} {j : Nat} {v : α} (e : z = (j : Int)) (h : xs[j]? = some v) : atI xs z = some v := by
  rw [e]
  exact atI_nat h
theorem cut_int (ds : List Int) (lo hi : Option Int) : ∃ es : List Int, cutV (ds.map V.int) lo hi = es.map V.int ∧ es.length ≤ ds.length := by
  refine ⟨(ds.drop (HT.sIx (ds.map V.int).length 0 lo)).take (HT.sIx (ds.map V.int).length (ds.map V.int).length hi - HT.sIx (ds.map V.int).length 0 lo), ?_, ?_⟩
  · unfold cutV
    rw [List.map_take, List.map_drop]
  · rw [List.length_take, List.length_drop]; omega
theorem cut_76 {ds : List Int} (h : 76 ≤ ds.length) : cutV (ds.map V.int) none (some 76) = (ds.take 76).map V.int := by
  unfold cutV
  rw [HT.sIx_none, show HT.sIx (ds.map V.int).length (ds.map V.int).length (some 76) = min 76 (ds.map V.int).length from HT.sIx_nat _ _ 76, List.length_map, List.drop_zero, Nat.sub_zero, Nat.min_eq_left h, List.map_take]
theorem at01 (z : Int) : atI ("01" : Str).cps.toList (z % 2) = some (cd (some (decide (z % 2 = 1)))) := by
  rcases Int.emod_two_eq z with e | e
  · rw [e]; decide +kernel
  · rw [e]; decide +kernel
theorem at10 (b : Bool) : atI ("10" : Str).cps.toList (if b = true then 1 else 0) = some (cd (some (!b))) := by cases b <;> decide +kernel
theorem int_wd (b : Bool) : PySem.intText? (wd [b]) = some (if b = true then 1 else 0) := by cases b <;> decide +kernel
theorem bits_len : ∀ (n : Nat) (z : Int), (bits n z).length = n
  | 0, _ => rfl
  | n + 1, z => by rw [bits, List.length_cons, bits_len]
theorem bits_true : ∀ (n : Nat) (z : Int), 1 ≤ z → z < 2 ^ n → true ∈ bits n z
  | 0, z, h1, h2 => by rw [Int.pow_zero] at h2; omega
  | n + 1, z, h1, h2 => by
    rw [bits]
    by_cases e : z % 2 = 1
    · rw [decide_eq_true e]; exact List.mem_cons_self
    · refine List.mem_cons_of_mem _ (bits_true n (z / 2) (by omega) ?_)
      rw [Int.pow_succ] at h2
      omega
def flip2 (m s : List Bool) : List Bool := List.zipWith (fun a b => a != b) m s
theorem flip2_len {m s : List Bool} (h : m.length = s.length) : (flip2 m s).length = m.length := by
  unfold flip2
  rw [List.length_zipWith]; omega
theorem flip2_ne : ∀ {m s : List Bool}, m.length = s.length → true ∈ m → s ≠ flip2 m s
  | [], _, _, h => by cases h
  | a :: m, [], h, _ => by simp at h
  | a :: m, b :: s, h, ht => by
    intro e
    unfold flip2 at e
    rw [List.zipWith_cons_cons] at e
    injection e with e1 e2
    rw [List.mem_cons] at ht
    rcases ht with rfl | ht
    · cases b <;> cases e1
    · exact flip2_ne (by simpa using h) ht e2
theorem flip2_at {m s : List Bool} {i : Nat} {a b : Bool} (h1 : m[i]? = some a) (h2 : s[i]? = some b) : (flip2 m s)[i]? = some (a != b) := by
  unfold flip2
  rw [List.getElem?_zipWith, h1, h2]
theorem wd_snoc {l : List Bool} {i : Nat} {b : Bool} (h : l[i]? = some b) : wd (l.take i) ++ wd [b] = wd (l.take (i + 1)) := by
  rw [wd_app, List.take_add_one, h]; rfl
theorem pt_wd (l : List Bool) : Pt (l.map some) := by
  intro s hs
  obtain ⟨b, _, rfl⟩ := List.mem_map.mp hs
  exact fun h => nomatch h
/-- all but what stands at a -/
def Ex1 (a : Addr) (H H' : Hp) : Prop := ∀ b o, b ≠ a → H b = some o → H' b = some o
theorem Ex1.refl (a : Addr) (H : Hp) : Ex1 a H H := fun _ _ _ h => h
theorem Ex1.trans {a : Addr} {H H1 H2 : Hp} (h : Ex1 a H H1) (h' : Ex1 a H1 H2) : Ex1 a H H2 := fun b o n q => h' b o n (h b o n q)
theorem Ex1.of {a : Addr} {H H' : Hp} (s : Same H H') : Ex1 a H H' := fun b o _ q => s b o q
theorem Ex1.upd (a : Addr) (H : Hp) (o : HO) : Ex1 a H (upd H a o) := fun b u n q => by rw [upd_ne n]; exact q
theorem Ex1.fix {a : Addr} {H H' : Hp} {xs : List V} (h : Ex1 a H H') (ha : H a = some (.lst xs)) : SameT H H' := fun b o q f => by
  refine h b o (fun e => ?_) q
  rw [e, ha] at q
  cases q
  exact f
theorem Ex1.same {a : Addr} {H H1 H' : Hp} (s : Same H H1) (h : Ex1 a H1 H') (ha : H a = none) : Same H H' := fun b o q => h b o (fun e => by rw [e, ha] at q; cases q) (s b o q)
theorem seq0 {n : Nat} (h : 0 < n) : seqIndex? 0 n = some 0 := by
  unfold seqIndex?
  simp; omega
theorem leavesL_mul : ∀ (ts : List T) (m : Nat), (∀ t ∈ ts, t.leaves ≤ m) → leavesL ts ≤ ts.length * m
  | [], m, _ => by simp [leavesL]
  | t :: r, m, h => by
    have h1 := h t (by simp)
    have h2 := leavesL_mul r m fun u hu => h u (by simp [hu])
    rw [leavesL, List.length_cons, Nat.succ_mul]; omega
theorem TAs.snoc {K : PySem.W.Frag} {H : Hp} : ∀ {ts : List T} {vs : List V} {v : V} {t : T}, TAs K H vs ts → TA K H v t → TAs K H (vs ++ [v]) (ts ++ [t]) := by
  intro ts vs v t h hv
  refine TAs.of (by rw [List.length_append, List.length_append, h.len]; rfl) fun i u s e1 e2 => ?_
  by_cases hi : i < vs.length
  · rw [List.getElem?_append_left hi] at e1
    rw [List.getElem?_append_left (by rw [← h.len]; exact hi)] at e2
    obtain ⟨s', g1, g2⟩ := h.get e1
    rw [e2] at g1
    obtain rfl := Option.some.inj g1
    exact g2
  · have hl := (List.getElem?_eq_some_iff.mp e1).1
    rw [List.length_append, List.length_singleton] at hl
    have ei : i = vs.length := by omega
    subst ei
    rw [List.getElem?_concat_length] at e1
    rw [h.len, List.getElem?_concat_length] at e2
    obtain rfl := Option.some.inj e1
    obtain rfl := Option.some.inj e2
    exact hv
theorem parts_leaf {t : T} (h : t.leaf = true) : t.parts = [] := by cases t <;> first | rfl | cases h
theorem at_of_parts {k : Nat} {p : List Nat} {t s u : T} (h : t.parts[k]? = some s) (h2 : T.at p s = some u) : T.at (k :: p) t = some u := by
  cases t with
  | neg t =>
    have hk := (List.getElem?_eq_some_iff.mp h).1
    have e : k = 0 := by simp [T.parts] at hk; omega
    subst e
    obtain rfl : t = s := Option.some.inj h
    rw [T.at, if_pos rfl]; exact h2
  | gate b ps =>
    have h' : ps[k]? = some s := h
    rw [T.at, h']; exact h2
  | _ => simp [T.parts] at h
end Sc

set_option maxHeartbeats 4000000
namespace Sc
open PySem PySem.Spec PyProof.Rows L2 TL
section
variable {P : Program} {w : World} {K : PySem.W.Frag} {mg : Str → Option Value} {base : Heap}
abbrev s_signs_fit : Stmt := top 9
theorem sc_signs_fit : FnScope ["thing", "n", "signs", "sign"] ["thing", "n", "signs"] (defScope s_signs_fit) := ⟨rfl, rfl, rfl, by decide +kernel, rfl, by decide +kernel, by decide +kernel⟩
theorem ok_signs_fit (D : Df K mg "signs_fit" s_signs_fit ["thing", "n", "signs"]) (B : Bn mg) : Cal P w K mg base (1) "signs_fit" ["thing", "n", "signs"] spSignsFit := by
  have S := sc_signs_fit
  refine D.ok S (fun vs H Q E h => ?_) (fun f cdv A outer s H vs Q E hr h => ?_)
  · obtain ⟨l, sg, rfl, _⟩ := h; rfl
  · obtain ⟨l, sg, rfl, hl, hs, q⟩ := h
    refine ⟨_, (pss_cons (ps_if (PW.pt (pw_or (pt_not (pt_val (pe_callB call_isi (by rfl) B.isinstance_ (by decide +kernel) (pa_cons (pv 0) (pa_cons (pe_bltn (by rfl) B.str_ (by decide +kernel) (v := .ty "str") rfl) pa_nil))))) (pw_or1 (pt_cmpR op_ne (pe_callB call_len_str (by rfl) B.len_ PySem.boot_len (pa_cons (pv 0) pa_nil)) (pv 1) (nomark _))))) (pss_one (ps_ret pe_bl)) pss_nil)
    (pss_cons (ps_for PassesOwn.never rfl (pi_str (pv 0)) (pg_name (i := 3) S.nd rfl (Or.inl rfl))
      (pss_one (ps_if (pt_cmpR op_notIn_sign (pv 3) (pv 2) (by rfl)) (pss_one (ps_ret pe_bl)) pss_nil)))
    (pss_one (ps_ret pe_bl)))), ?_⟩
    refine ⟨_, rfl, _, _, _, _, true, rfl, .ty "str", isStr, isT, _, rfl, _, rfl, _, rfl, hS (by rw [len_tx]; omega), _, rfl, rfl, _, rfl, ?_⟩
    refine ifb (ne_int (by rw [len_tx])) ?_
    refine ⟨_, rfl, _, rfl, for_it (walk_tx l) (fun i σ H' => ∃ y, σ = [some (.str (tx l)), some (.int (l.length : Int)), some (.str (tx sg)), y] ∧ Same H H') ⟨none, rfl, Same.refl H⟩ (fun _ _ _ _ _ => trivial) ?_ ?_⟩
    · rintro i x σ H1 H2 hi ⟨y, rfl, s1⟩ ⟨rfl, s0, hs0, rfl⟩
      refine ⟨_, rfl, _, rfl, cd s0, tx sg, rfl, rfl, _, rfl, ?_⟩
      refine ifb (in_tx (hs s0 (List.mem_of_getElem? hs0))) ?_
      exact ⟨_, rfl, s1⟩
    · rintro σ H1 ⟨y, rfl, s1⟩
      exact q H1 s1
abbrev s_is_point : Stmt := top 10
theorem sc_is_point : FnScope ["thing", "n"] ["thing", "n"] (defScope s_is_point) := ⟨rfl, rfl, rfl, by decide +kernel, rfl, by decide +kernel, by decide +kernel⟩
theorem ok_is_point (D : Df K mg "is_point" s_is_point ["thing", "n"]) (B : Bn mg) (Csigns_fit : Cal P w K mg base (1) "signs_fit" ["thing", "n", "signs"] spSignsFit) : Cal P w K mg base (2) "is_point" ["thing", "n"] spIsPoint := by
  have S := sc_is_point
  refine D.ok S (fun vs H Q E h => ?_) (fun f cdv A outer s H vs Q E hr h => ?_)
  · obtain ⟨l, rfl, _⟩ := h; rfl
  · obtain ⟨l, rfl, hl, hp, q⟩ := h
    refine ⟨_, (pss_one (ps_ret (pe_cal Csigns_fit hr rfl (pa_cons (pv 0) (pa_cons (pv 1) (pa_cons pe_str pa_nil)))))), ?_⟩
    refine ⟨_, rfl, _, rfl, l, [some false, some true], by rw [k01]; rfl, hl, fun s hs => ?_, q⟩
    rcases s with _ | _ | _
    · exact absurd rfl (hp none hs)
    · simp
    · simp
abbrev s_is_cube : Stmt := top 11
theorem sc_is_cube : FnScope ["thing", "n"] ["thing", "n"] (defScope s_is_cube) := ⟨rfl, rfl, rfl, by decide +kernel, rfl, by decide +kernel, by decide +kernel⟩
theorem ok_is_cube (D : Df K mg "is_cube" s_is_cube ["thing", "n"]) (B : Bn mg) (Csigns_fit : Cal P w K mg base (1) "signs_fit" ["thing", "n", "signs"] spSignsFit) : Cal P w K mg base (2) "is_cube" ["thing", "n"] spIsCube := by
  have S := sc_is_cube
  refine D.ok S (fun vs H Q E h => ?_) (fun f cdv A outer s H vs Q E hr h => ?_)
  · obtain ⟨l, rfl, _⟩ := h; rfl
  · obtain ⟨l, rfl, hl, q⟩ := h
    refine ⟨_, (pss_one (ps_ret (pe_cal Csigns_fit hr rfl (pa_cons (pv 0) (pa_cons (pv 1) (pa_cons pe_str pa_nil)))))), ?_⟩
    refine ⟨_, rfl, _, rfl, l, [some false, some true, none], by rw [k01M]; rfl, hl, fun s hs => ?_, q⟩
    rcases s with _ | _ | _ <;> simp
abbrev s_some_size : Stmt := top 12
theorem sc_some_size : FnScope ["thing"] ["thing"] (defScope s_some_size) := ⟨rfl, rfl, rfl, by decide +kernel, rfl, by decide +kernel, by decide +kernel⟩
theorem ok_some_size (D : Df K mg "some_size" s_some_size ["thing"]) (B : Bn mg) : Cal P w K mg base (1) "some_size" ["thing"] spSomeSize := by
  obtain ⟨ti, bi⟩ := B.mi
  have S := sc_some_size
  refine D.ok S (fun vs H Q E h => ?_) (fun f cdv A outer s H vs Q E hr h => ?_)
  · obtain ⟨l, rfl, _⟩ := h; rfl
  · obtain ⟨l, rfl, hl, q⟩ := h
    refine ⟨_, (pss_cons (ps_if (PW.pt (pw_and (pt_val (pe_callB call_isi (by rfl) B.isinstance_ (by decide +kernel) (pa_cons (pv 0) (pa_cons (pe_bltn (by rfl) B.str_ (by decide +kernel) (v := .ty "str") rfl) pa_nil)))) (pw_and1 (pt_cmpR op_le (pe_callB call_len_str (by rfl) B.len_ PySem.boot_len (pa_cons (pv 0) pa_nil)) (pe_glob (v := .int 4) rfl bi ⟨_, rfl⟩) (nomark _))))) (pss_one (ps_ret (pe_callB call_len_str (by rfl) B.len_ PySem.boot_len (pa_cons (pv 0) pa_nil)))) pss_nil)
    (pss_one (ps_ret pe_int))), ?_⟩
    refine ⟨_, rfl, _, _, _, _, true, rfl, .ty "str", isStr, isT, _, rfl, _, rfl, _, rfl, hS (by rw [len_tx]; omega), _, _, rfl, rfl, _, rfl, ?_⟩
    refine ifb (decide_eq_true (by rw [len_tx]; omega)) ?_
    refine ⟨_, rfl, _, rfl, hS (by rw [len_tx]; omega), ?_⟩
    rw [len_tx]
    exact q.at
abbrev s_is_count : Stmt := top 13
theorem sc_is_count : FnScope ["thing"] ["thing"] (defScope s_is_count) := ⟨rfl, rfl, rfl, by decide +kernel, rfl, by decide +kernel, by decide +kernel⟩
theorem ok_is_count (D : Df K mg "is_count" s_is_count ["thing"]) (B : Bn mg) : Cal P w K mg base (1) "is_count" ["thing"] spIsCount := by
  obtain ⟨ti, bi⟩ := B.mi
  have S := sc_is_count
  refine D.ok S (fun vs H Q E h => ?_) (fun f cdv A outer s H vs Q E hr h => ?_)
  · obtain ⟨l, rfl, _⟩ := h; rfl
  · obtain ⟨n, rfl, h1, h4, q⟩ := h
    refine ⟨_, (pss_one (ps_ret (pe_and (pe_callB call_isi (by rfl) B.isinstance_ (by decide +kernel) (pa_cons (pv 0) (pa_cons (pe_bltn (by rfl) B.int_ (by decide +kernel) (v := .ty "int") rfl) pa_nil))) (pe_and (pe_not (pe_callB call_isi (by rfl) B.isinstance_ (by decide +kernel) (pa_cons (pv 0) (pa_cons (pe_bltn (by rfl) B.bool_ (by decide +kernel) (v := .ty "bool") rfl) pa_nil)))) (pe_one (pe_chain op_le op_le pe_int (pv 0) (pe_glob (v := .int 4) rfl bi ⟨_, rfl⟩))))))), ?_⟩
    refine ⟨_, rfl, _, _, _, _, true, rfl, .ty "int", isInt, isT, _, rfl, _, rfl, _, _, _, _, false, rfl, .ty "bool", isInt, kit_ty (by decide +kernel), _, rfl, ?_⟩
    refine ⟨_, rfl, _, rfl, 1, (n : Int), rfl, rfl, _, rfl, ?_⟩
    refine ifb (decide_eq_true (by omega)) ?_
    refine ⟨(n : Int), 4, rfl, rfl, ?_⟩
    exact bTrue (decide_eq_true (by omega)) q.at
end
end Sc

set_option maxHeartbeats 4000000
namespace Sc
open PySem PySem.Spec PyProof.Rows L2 TL
section
variable {P : Program} {w : World} {K : PySem.W.Frag} {mg : Str → Option Value} {base : Heap}
abbrev s_filled : Stmt := top 14
theorem sc_filled : FnScope ["cube", "signs", "rows", "sign", "choices", "row", "choice"] ["cube", "signs"] (defScope s_filled) := ⟨rfl, rfl, rfl, by decide +kernel, rfl, by decide +kernel, by decide +kernel⟩
theorem ok_filled (D : Df K mg "filled" s_filled ["cube", "signs"]) (B : Bn mg) : Cal P w K mg base (1) "filled" ["cube", "signs"] spFilled := by
  have S := sc_filled
  refine D.ok S (fun vs H Q E h => ?_) (fun f cdv A outer s H vs Q E hr h => ?_)
  · obtain ⟨n, rfl, _⟩ := h; rfl
  · obtain ⟨n, rfl, h4, q⟩ := h
    refine ⟨_, (pss_cons (ps_set (i := 2) S.nd rfl (Or.inl rfl) (pe_lst (pa_cons pe_str pa_nil)))
    (pss_cons (ps_for PassesOwn.never rfl (pi_str (pv 0)) (pg_name (i := 3) S.nd rfl (Or.inl rfl))
      (pss_cons (ps_set (i := 4) S.nd rfl (Or.inr rfl) (pe_ifExp (pt_cmpR op_eq (pv 3) pe_str (nomark _)) (pv 1) (pv 3)))
      (pss_one (ps_setLc2 (i := 2) (own := [(("row" : Str), 5), (("choice" : Str), 6)]) (vs1 := [6]) (g := gName 5) (tt := tYes) (g1 := gName 6) (tt1 := tYes) rfl S.nd rfl rfl (sw_true rfl rfl rfl (by decide +kernel)) (pi_list (pv 2)) (blkOk_by (own := [(("row" : Str), 5), (("choice" : Str), 6)]) (N := ["cube", "signs", "rows", "sign", "choices", "row", "choice"]) (sc := defScope s_filled) (by decide +kernel)) (by decide) (fun _ _ _ _ _ => pg_name (i := 5) S.nd rfl (Or.inl rfl)) (fun _ _ _ _ _ => pts_nil) (fun _ _ _ _ _ => (pi_str (pv 4))) (fun _ _ _ _ _ => pg_name (i := 6) S.nd rfl (Or.inl rfl)) (fun _ _ _ _ _ => pts_nil) (fun _ _ _ _ _ => (pe_op op_add_str (pv 5) (pv 6)))))))
    (pss_one (ps_ret (pv 2))))), ?_⟩
    refine ⟨Nat.succ_le_of_lt (hS' (by decide)), fun r0 hr0 => ?_⟩
    have s0 : Same H (upd H r0 (.lst [.str ""])) := same_new hr0 _
    refine ⟨_, rfl, _, rfl, for_it (walk_tx (List.replicate n none)) (fun i σ H' => ∃ (r : Addr) (y3 y4 : Option V) (ls : List (List Sg)), σ = [some (.str (tx (List.replicate n none))), some (.str (wd [false, true])), some (.ref r), y3, y4, none, none] ∧
      Same H H' ∧ H' r = some (.lst (ls.map fun l => V.str (tx l))) ∧ (∀ l ∈ ls, l.length = i ∧ Pt l) ∧ ls.length ≤ 2 ^ i) ⟨r0, none, none, [[]], rfl, s0, ?_, ?_, Nat.le_refl _⟩ (fun _ _ _ _ _ => trivial) ?_ ?_⟩
    · rw [upd_same, kE]; rfl
    · intro l hl
      rw [List.mem_singleton] at hl
      subst hl
      exact ⟨rfl, fun s hs => by cases hs⟩
    · rintro i x σ H1 H2 hi ⟨r, y3, y4, ls, rfl, s1, hL, hP, hn⟩ ⟨rfl, s2, hs2, rfl⟩
      have e2 : s2 = none := by
        rw [List.getElem?_replicate] at hs2
        split at hs2
        · exact (Option.some.inj hs2).symm
        · cases hs2
      subst e2
      rw [List.length_replicate] at hi
      have hn' : ls.length ≤ 8 := Nat.le_trans hn (Nat.le_trans (Nat.pow_le_pow_right (by decide) (show i ≤ 3 by omega)) (by decide))
      refine ⟨_, rfl, rfl, _, rfl, ?_⟩
      refine ifb (eqM none) ?_
      refine ⟨_, rfl, ?_⟩
      refine ⟨_, rfl, r, rfl, ⟨_, SqL.of hL⟩, fun D hD => ?_⟩
      have nDr : r ≠ D := ne_of_none hL hD
      have hlen : (ls.map fun l => V.str (tx l)).length = ls.length := List.length_map _
      let Iv : Nat → Hp → Prop := fun k H' => ∃ ms : List (List Sg), Same H2 H' ∧ H' r = some (.lst (ls.map fun l => V.str (tx l))) ∧ H' D = some (.lst (ms.map fun l => V.str (tx l))) ∧ (∀ m ∈ ms, m.length = i + 1 ∧ Pt m) ∧ ms.length = k
      refine ⟨fun j m H' => m = ls.length - j ∧ j ≤ ls.length ∧ Iv (2 * j) H', ⟨ls.length, by simp, Nat.zero_le _, [], same_new hD _, (by rw [upd_ne nDr]; exact hL), upd_same, fun m hm => (nomatch hm), rfl⟩, ?_⟩
      rintro j m H3 ⟨rfl, hj, ms, s3, hr3, hD3, hm3, hl3⟩
      by_cases hjl : j < ls.length
      · refine .inr ⟨⟨_, V.str (tx ls[j]), SqL.of hr3, by rw [List.getElem?_map, List.getElem?_eq_getElem hjl]; rfl⟩, fun H' => Iv (2 * (j + 1)) H', fun H' p => ⟨ls.length - (j + 1), by omega, rfl, hjl, p⟩, ?_⟩
        rintro x H4 ⟨rfl, hx⟩
        have ex : x = V.str (tx ls[j]) := by
          have := hx _ (SqL.of hr3)
          rw [List.getElem?_map, List.getElem?_eq_getElem hjl] at this
          exact (Option.some.inj this).symm
        subst ex
        refine ⟨rfl, ?_⟩
        have w2 := walk_wd [false, true]
        refine ⟨_, rfl, wd [false, true], rfl, fun c k H' => k = 2 - c ∧ c ≤ 2 ∧ Iv (2 * j + c) H', ⟨2, rfl, Nat.zero_le _, ms, s3, hr3, hD3, hm3, hl3⟩, ?_⟩
        rintro c k H5 ⟨rfl, hc, ms5, s5, hr5, hD5, hm5, hl5⟩
        by_cases hc2 : c < 2
        · refine .inr ⟨w2.goes c H5 hc2 trivial, fun H' => Iv (2 * j + (c + 1)) H', fun H' p => ⟨2 - (c + 1), by omega, rfl, hc2, p⟩, ?_⟩
          intro y H6 hy
          obtain ⟨rfl, b, hb, rfl⟩ := w2.yields c H5 y H6 hc2 trivial hy
          refine ⟨rfl, ?_⟩
          have hlj := hP ls[j] (List.getElem_mem hjl)
          refine ⟨_, rfl, _, rfl, _, _, rfl, rfl, hS (by rw [len_tx, len_wd, hlj.1]; simp; omega), ?_⟩
          refine ⟨_, hD5, hS' (by rw [List.length_map, hl5]; omega), ms5 ++ [ls[j] ++ [some b]], s5.upd_out hD _, by rw [upd_ne nDr]; exact hr5, ?_, ?_, by rw [List.length_append, hl5]; rfl⟩
          · rw [upd_same, List.map_append]
            show _ = some (HO.lst (_ ++ [V.str (tx (ls[j] ++ [some b]))]))
            rw [← tx_app]; rfl
          · intro m hm
            rw [List.mem_append, List.mem_singleton] at hm
            rcases hm with hm | rfl
            · exact hm5 m hm
            · refine ⟨by rw [List.length_append, hlj.1]; rfl, fun s hs => ?_⟩
              rw [List.mem_append, List.mem_singleton] at hs
              rcases hs with hs | rfl
              · exact hlj.2 s hs
              · exact fun z => nomatch z
        · have ec : c = 2 := by omega
          subst ec
          exact .inl ⟨w2.stops H5 trivial, ms5, s5, hr5, hD5, hm5, hl5⟩
      · have ej : j = ls.length := by omega
        subst ej
        refine .inl ⟨⟨_, SqL.of hr3, by rw [hlen]; exact Nat.le_refl _⟩, ?_⟩
        refine ⟨D, _, _, ms, rfl, s1.trans s3, hD3, hm3, ?_⟩
        rw [hl3, Nat.pow_succ]; omega
    · rintro σ H1 ⟨r, y3, y4, ls, rfl, s1, hL, hP, hn⟩
      rw [List.length_replicate] at hP hn
      refine ⟨_, rfl, q r H1 ls s1 hL hP (Nat.le_trans hn (Nat.le_trans (Nat.pow_le_pow_right (by decide) h4) (by decide)))⟩
abbrev s_is_change : Stmt := top 16
theorem sc_is_change : FnScope ["thing", "n"] ["thing", "n"] (defScope s_is_change) := ⟨rfl, rfl, rfl, by decide +kernel, rfl, by decide +kernel, by decide +kernel⟩
theorem ok_is_change (D : Df K mg "is_change" s_is_change ["thing", "n"]) (B : Bn mg) (Cis_point : Cal P w K mg base (2) "is_point" ["thing", "n"] spIsPoint) : Cal P w K mg base (3) "is_change" ["thing", "n"] (spIsChange K) := by
  have S := sc_is_change
  refine D.ok S (fun vs H Q E h => ?_) (fun f cdv A outer s H vs Q E hr h => ?_)
  · obtain ⟨a, la, lb, rfl, _⟩ := h; rfl
  · obtain ⟨a, la, lb, rfl, c, q⟩ := h
    refine ⟨_, (pss_cons (ps_if (PW.pt (pw_or (pt_not (pt_val (pe_callB call_isi (by rfl) B.isinstance_ (by decide +kernel) (pa_cons (pv 0) (pa_cons (pe_bltn (by rfl) B.tuple_ (by decide +kernel) (v := .ty "tuple") rfl) pa_nil))))) (pw_or1 (pt_cmpR op_ne (pe_callB call_len_seq (by rfl) B.len_ PySem.boot_len (pa_cons (pv 0) pa_nil)) pe_int (nomark _))))) (pss_one (ps_ret pe_bl)) pss_nil)
    (pss_one (ps_ret (pe_and (pe_cal Cis_point hr rfl (pa_cons (pe_ix ix_tup (pv 0) pe_int (fun _ _ => rfl)) (pa_cons (pv 1) pa_nil))) (pe_and (pe_cal Cis_point hr rfl (pa_cons (pe_ix ix_tup (pv 0) pe_int (fun _ _ => rfl)) (pa_cons (pv 1) pa_nil))) (pe_one (pe_cmpR op_ne (pe_ix ix_tup (pv 0) pe_int (fun _ _ => rfl)) (pe_ix ix_tup (pv 0) pe_int (fun _ _ => rfl)) (nomark _)))))))), ?_⟩
    refine ⟨_, rfl, _, _, _, _, true, rfl, .ty "tuple", tyX_tup c.sq, isT, _, rfl, _, rfl, a, _, rfl, .inr c.sq, rfl, _, rfl, ?_⟩
    refine ifb (ne_int rfl) ?_
    refine ⟨_, rfl, a, _, _, _, rfl, rfl, c.sq, at0, _, rfl, la, rfl, by have := c.four; omega, c.pa, fun H1 s1 => ?_⟩
    refine ⟨_, rfl, _, rfl, a, _, _, _, rfl, rfl, s1.tup c.sq, at1, _, rfl, lb, by rw [c.len]; rfl, by have := c.four; have := c.len; omega, c.pb, fun H2 s2 => ?_⟩
    have sq2 := s2.tup (s1.tup c.sq)
    refine ⟨_, rfl, _, rfl, a, _, _, _, rfl, rfl, sq2, at0, _, rfl, a, _, _, _, rfl, rfl, sq2, at1, rfl, ?_⟩
    rw [dec_tx, decide_eq_false c.ne]
    exact q H2 (s1.trans s2)
abbrev s_size_of_change : Stmt := top 17
theorem sc_size_of_change : FnScope ["change", "size"] ["change"] (defScope s_size_of_change) := ⟨rfl, rfl, rfl, by decide +kernel, rfl, by decide +kernel, by decide +kernel⟩
theorem ok_size_of_change (D : Df K mg "size_of_change" s_size_of_change ["change"]) (B : Bn mg) (Csome_size : Cal P w K mg base (1) "some_size" ["thing"] spSomeSize) (Cis_change : Cal P w K mg base (3) "is_change" ["thing", "n"] (spIsChange K)) : Cal P w K mg base (4) "size_of_change" ["change"] (spSizeOfChange K) := by
  have S := sc_size_of_change
  refine D.ok S (fun vs H Q E h => ?_) (fun f cdv A outer s H vs Q E hr h => ?_)
  · obtain ⟨a, la, lb, rfl, _⟩ := h; rfl
  · obtain ⟨a, la, lb, rfl, c, q⟩ := h
    refine ⟨_, (pss_cons (ps_if (PW.pt (pw_or (pt_not (pt_val (pe_callB call_isi (by rfl) B.isinstance_ (by decide +kernel) (pa_cons (pv 0) (pa_cons (pe_bltn (by rfl) B.tuple_ (by decide +kernel) (v := .ty "tuple") rfl) pa_nil))))) (pw_or1 (pt_cmpR op_ne (pe_callB call_len_seq (by rfl) B.len_ PySem.boot_len (pa_cons (pv 0) pa_nil)) pe_int (nomark _))))) (pss_one ps_never) pss_nil)
    (pss_cons (ps_set (i := 1) S.nd rfl (Or.inl rfl) (pe_cal Csome_size hr rfl (pa_cons (pe_ix ix_tup (pv 0) pe_int (fun _ _ => rfl)) pa_nil)))
    (pss_cons (ps_if (PW.pt (pw_or (pt_cmpR op_eq (pv 1) pe_int (nomark _)) (pw_or1 (pt_not (pt_val (pe_cal Cis_change hr rfl (pa_cons (pv 0) (pa_cons (pv 1) pa_nil)))))))) (pss_one ps_never) pss_nil)
    (pss_one (ps_ret (pv 1)))))), ?_⟩
    refine ⟨_, rfl, _, _, _, _, true, rfl, .ty "tuple", tyX_tup c.sq, isT, _, rfl, _, rfl, a, _, rfl, .inr c.sq, rfl, _, rfl, ?_⟩
    refine ifb (ne_int rfl) ?_
    refine ⟨_, rfl, a, _, _, _, rfl, rfl, c.sq, at0, la, rfl, c.four, fun H1 s1 => ?_⟩
    refine ⟨_, rfl, rfl, _, rfl, ?_⟩
    refine ifb (eq_intF (by have := c.one; omega)) ?_
    refine ⟨_, rfl, _, rfl, a, la, lb, rfl, c.up s1, fun H2 s2 => ?_⟩
    exact ⟨_, rfl, _, rfl, q H2 (s1.trans s2)⟩
end
end Sc

set_option maxHeartbeats 4000000
namespace Sc
open PySem PySem.Spec PyProof.Rows L2 TL
section
variable {P : Program} {w : World} {K : PySem.W.Frag} {mg : Str → Option Value} {base : Heap}
abbrev s_exchanged : Stmt := top 19
theorem sc_exchanged : FnScope ["text", "sign"] ["text"] (defScope s_exchanged) := ⟨rfl, rfl, rfl, by decide +kernel, rfl, by decide +kernel, by decide +kernel⟩
theorem ok_exchanged (D : Df K mg "exchanged" s_exchanged ["text"]) (B : Bn mg) : Cal P w K mg base (1) "exchanged" ["text"] spExch := by
  have S := sc_exchanged
  refine D.ok S (fun vs H Q E h => ?_) (fun f cdv A outer s H vs Q E hr h => ?_)
  · obtain ⟨l, rfl, _⟩ := h; rfl
  · obtain ⟨l, rfl, hl, q⟩ := h
    refine ⟨_, (pss_one (ps_ret (pe_join pe_str (pe_lc (own := [(("sign" : Str), 1)]) (g := gName 1) (tt := tYes) rfl S.nd (pi_str (pv 0)) (blkOk_by (own := [(("sign" : Str), 1)]) (N := ["text", "sign"]) (sc := defScope s_exchanged) (by decide +kernel)) (fun _ _ _ _ _ => pg_name (i := 1) S.nd rfl (Or.inl rfl)) (fun _ _ _ _ _ => pts_nil) (fun _ _ _ _ _ => (pe_ifExp (pt_cmpR op_eq (pv 1) pe_str (nomark _)) pe_str pe_str)))))), ?_⟩
    refine ⟨⟨_, rfl⟩, _, rfl, wd l, rfl, fun DD hD => lc_map (walk_wd l) (fun i x => ∃ s, l[i]? = some s ∧ x = .str (wd [s])) (fun i H x H' y => y) (fun i y _ => ∃ s, l[i]? = some s ∧ y = .str (wd [!s])) (fun _ _ _ _ _ h => h) (fun _ _ => trivial) (hS' (by omega)) hD (fun _ => rfl) ?_ ?_⟩
    · rintro i x H1 Q1 hi ⟨s0, hs, rfl⟩ s1 q1
      refine ⟨_, rfl, rfl, _, rfl, ?_⟩
      refine ifb (eqB0 s0) ?_
      cases s0
      · exact q1 _ _ (Same.refl _) ⟨false, hs, by rw [k1]; rfl⟩
      · exact q1 _ _ (Same.refl _) ⟨true, hs, by rw [k0]; rfl⟩
    · intro ys H1 s1 hL hlen hy
      have e : ys = (l.map fun b => wd [!b]).map V.str := by
        refine List.ext_getElem? fun i => ?_
        cases e1 : ys[i]? with
        | none =>
          have := List.getElem?_eq_none_iff.mp e1
          rw [List.map_map, List.getElem?_map, List.getElem?_eq_none (by omega)]; rfl
        | some y =>
          obtain ⟨s0, h0, rfl⟩ := hy i y e1
          rw [List.map_map, List.getElem?_map, h0]; rfl
      have e2 : (l.map fun b => wd [!b]) = (exch l).map fun b => wd [b] := by
        unfold exch
        rw [List.map_map]; rfl
      refine ⟨_, DD, _, rfl, rfl, .inl (SqL.of (by rw [hL, e])), ?_, ?_⟩
      · have : ∀ l : List Bool, ((l.map fun b => wd [!b]).map (·.length)).sum = l.length := by
          intro l
          induction l with
          | nil => rfl
          | cons a l ih =>
            rw [List.map_cons, List.map_cons, List.sum_cons, ih, len_wd, List.length_cons]
            show 1 + l.length = l.length + 1
            omega
        rw [this, List.length_map, kE, len_wd]
        show l.length + l.length * 0 ≤ 16777216
        omega
      · rw [e2, join_wd]
        exact q H1 s1
abbrev s_word_text : Stmt := top 20
theorem sc_word_text : FnScope ["first", "zeros", "last", "front", "back"] ["first", "zeros", "last"] (defScope s_word_text) := ⟨rfl, rfl, rfl, by decide +kernel, rfl, by decide +kernel, by decide +kernel⟩
theorem ok_word_text (D : Df K mg "word_text" s_word_text ["first", "zeros", "last"]) (B : Bn mg) : Cal P w K mg base (1) "word_text" ["first", "zeros", "last"] spWordText := by
  have S := sc_word_text
  refine D.ok S (fun vs H Q E h => ?_) (fun f cdv A outer s H vs Q E hr h => ?_)
  · obtain ⟨f, z, l, rfl, _⟩ := h; rfl
  · obtain ⟨f, z, l, rfl, h1, h2, q⟩ := h
    refine ⟨_, (pss_cons (ps_set (i := 3) S.nd rfl (Or.inl rfl) (pe_ifExp (pt_cmpR op_eq (pv 0) pe_str (nomark _)) pe_str pe_str))
    (pss_cons (ps_set (i := 4) S.nd rfl (Or.inl rfl) (pe_ifExp (pt_cmpR op_eq (pv 2) pe_str (nomark _)) pe_str pe_str))
    (pss_one (ps_ret (pe_op op_add_str (pe_op op_add_str (pe_op op_add_str (pv 3) pe_str) (pe_op op_repS pe_str (pe_op op_sub (pv 1) pe_int))) (pv 4)))))), ?_⟩
    have ez : ((z : Int) - 1).toNat = z - 1 := by omega
    have fin : ∀ a b : List Bool, a.length ≤ 1 → b.length ≤ 1 → wtext f z l = a ++ [false] ++ (List.replicate (z - 1) [true, false]).flatten ++ b →
        (∃ i j, V.str (wd a) = V.str i ∧ V.str "0" = V.str j ∧ i.length + j.length ≤ sizeLine ∧
          ∃ (y : Str) (n : Int), V.str "10" = V.str y ∧ V.int ((z : Int) - 1) = V.int n ∧ y.length ≤ 1000 ∧ -1000 ≤ n ∧ n ≤ 1000 ∧
          ∃ i' j', V.str (i ++ j) = V.str i' ∧ V.str (repS y n.toNat) = V.str j' ∧ i'.length + j'.length ≤ sizeLine ∧
          ∃ i'' j'', V.str (i' ++ j') = V.str i'' ∧ V.str (wd b) = V.str j'' ∧ i''.length + j''.length ≤ sizeLine ∧ Q (.str (i'' ++ j'')) H) := by
      intro a b ha hb e
      have hz : (List.replicate (z - 1) [true, false]).flatten.length ≤ 2000 := by
        rw [List.length_flatten, List.map_replicate, List.sum_replicate_nat]
        show (z - 1) * 2 ≤ 2000
        omega
      refine ⟨_, _, rfl, rfl, hS (by rw [k0, len_wd, len_wd]; simp; omega), _, _, rfl, rfl, by rw [k10, len_wd]; decide, by omega, by omega, _, _, rfl, rfl, ?_, _, _, rfl, rfl, ?_, ?_⟩
      · refine hS ?_
        rw [ez, k0, k10, repS_wd, wd_app, len_wd, len_wd, List.length_append]; simp only [List.length_singleton]; omega
      · refine hS ?_
        rw [ez, k0, k10, repS_wd, wd_app, wd_app, len_wd, len_wd, List.length_append, List.length_append]; simp only [List.length_singleton]; omega
      · rw [ez, k0, k10, repS_wd, wd_app, wd_app, wd_app, ← e]
        exact q.at
    cases f <;> cases l
    · refine ⟨_, rfl, rfl, _, rfl, ?_⟩
      refine ifb (eqB1 false) ?_
      refine ⟨_, rfl, rfl, _, rfl, ?_⟩
      refine ifb (eqB1 false) ?_
      obtain ⟨i, j, e1, e2, e3, y, n, e4, e5, e6, e7, e8, i', j', e9, e10, e11, i'', j'', e12, e13, e14, e15⟩ := fin [] [] (by decide) (by decide) rfl
      rw [← kE] at e1 e13
      exact ⟨_, rfl, i, j, e1, e2, e3, _, rfl, _, _, rfl, rfl, y, n, e4, e5, e6, e7, e8, i', j', e9, e10, e11, _, rfl, i'', j'', e12, e13, e14, e15⟩
    · refine ⟨_, rfl, rfl, _, rfl, ?_⟩
      refine ifb (eqB1 false) ?_
      refine ⟨_, rfl, rfl, _, rfl, ?_⟩
      refine ifb (eqB1 true) ?_
      obtain ⟨i, j, e1, e2, e3, y, n, e4, e5, e6, e7, e8, i', j', e9, e10, e11, i'', j'', e12, e13, e14, e15⟩ := fin [] [true] (by decide) (by decide) rfl
      rw [← kE] at e1
      rw [← k1] at e13
      exact ⟨_, rfl, i, j, e1, e2, e3, _, rfl, _, _, rfl, rfl, y, n, e4, e5, e6, e7, e8, i', j', e9, e10, e11, _, rfl, i'', j'', e12, e13, e14, e15⟩
    · refine ⟨_, rfl, rfl, _, rfl, ?_⟩
      refine ifb (eqB1 true) ?_
      refine ⟨_, rfl, rfl, _, rfl, ?_⟩
      refine ifb (eqB1 false) ?_
      obtain ⟨i, j, e1, e2, e3, y, n, e4, e5, e6, e7, e8, i', j', e9, e10, e11, i'', j'', e12, e13, e14, e15⟩ := fin [true] [] (by decide) (by decide) rfl
      rw [← kE] at e13
      rw [← k1] at e1
      exact ⟨_, rfl, i, j, e1, e2, e3, _, rfl, _, _, rfl, rfl, y, n, e4, e5, e6, e7, e8, i', j', e9, e10, e11, _, rfl, i'', j'', e12, e13, e14, e15⟩
    · refine ⟨_, rfl, rfl, _, rfl, ?_⟩
      refine ifb (eqB1 true) ?_
      refine ⟨_, rfl, rfl, _, rfl, ?_⟩
      refine ifb (eqB1 true) ?_
      obtain ⟨i, j, e1, e2, e3, y, n, e4, e5, e6, e7, e8, i', j', e9, e10, e11, i'', j'', e12, e13, e14, e15⟩ := fin [true] [true] (by decide) (by decide) rfl
      rw [← k1] at e1 e13
      exact ⟨_, rfl, i, j, e1, e2, e3, _, rfl, _, _, rfl, rfl, y, n, e4, e5, e6, e7, e8, i', j', e9, e10, e11, _, rfl, i'', j'', e12, e13, e14, e15⟩
abbrev s_or_text : Stmt := top 21
theorem sc_or_text : FnScope ["v", "w", "first", "last"] ["v", "w"] (defScope s_or_text) := ⟨rfl, rfl, rfl, by decide +kernel, rfl, by decide +kernel, by decide +kernel⟩
theorem ok_or_text (D : Df K mg "or_text" s_or_text ["v", "w"]) (B : Bn mg) (Cword_text : Cal P w K mg base (1) "word_text" ["first", "zeros", "last"] spWordText) : Cal P w K mg base (2) "or_text" ["v", "w"] spOrText := by
  have S := sc_or_text
  refine D.ok S (fun vs H Q E h => ?_) (fun f cdv A outer s H vs Q E hr h => ?_)
  · obtain ⟨v, w, rfl, _⟩ := h; rfl
  · obtain ⟨v, w, rfl, hv, hw, hl, q⟩ := h
    refine ⟨_, (pss_cons (ps_if (PW.pt (pw_or (pt_cmpR op_eq (pv 0) pe_str (nomark _)) (pw_or1 (pt_cmpR op_eq (pv 1) pe_str (nomark _))))) (pss_one (ps_ret pe_str)) pss_nil)
    (pss_cons (ps_set (i := 2) S.nd rfl (Or.inl rfl) (pe_callB (call_maxS rfl) (by rfl) B.max_ (by decide +kernel) (pa_cons (pe_ix ix_str (pv 0) pe_int (fun _ _ => rfl)) (pa_cons (pe_ix ix_str (pv 1) pe_int (fun _ _ => rfl)) pa_nil))))
    (pss_cons (ps_set (i := 3) S.nd rfl (Or.inl rfl) (pe_callB (call_maxS rfl) (by rfl) B.max_ (by decide +kernel) (pa_cons (pe_ix ix_str (pv 0) (pe_un un_neg pe_int) (fun _ _ => rfl)) (pa_cons (pe_ix ix_str (pv 1) (pe_un un_neg pe_int) (fun _ _ => rfl)) pa_nil))))
    (pss_one (ps_ret (pe_cal Cword_text hr rfl (pa_cons (pv 2) (pa_cons (pe_op op_sub (pe_op op_add (pe_m1 PySem.F.slot_str_count PySem.F.type_str_count mt_count (pv 0) pe_str) (pe_m1 PySem.F.slot_str_count PySem.F.type_str_count mt_count (pv 1) pe_str)) pe_int) (pa_cons (pv 3) pa_nil))))))))), ?_⟩
    refine ⟨_, rfl, rfl, _, rfl, ?_⟩
    by_cases c1 : v = [true]
    · refine ifb ((eqW1 v).trans (decide_eq_true c1)) ?_
      have e : orW v w = [true] := if_pos (.inl c1)
      rw [e, ← k1] at q
      exact q.at
    refine ifb ((eqW1 v).trans (decide_eq_false c1)) ?_
    refine ⟨_, rfl, rfl, _, rfl, ?_⟩
    by_cases c2 : w = [true]
    · refine ifb ((eqW1 w).trans (decide_eq_true c2)) ?_
      have e : orW v w = [true] := if_pos (.inr c2)
      rw [e, ← k1] at q
      exact q.at
    refine ifb ((eqW1 w).trans (decide_eq_false c2)) ?_
    have e : orW v w = wtext (v.headD false || w.headD false) (v.count false + w.count false - 1) (v.getLastD false || w.getLastD false) := if_neg (fun h => h.elim c1 c2)
    have lv : (wd v).length ≤ sizeLine := hS (by rw [len_wd]; omega)
    have lw : (wd w).length ≤ sizeLine := hS (by rw [len_wd]; omega)
    refine ⟨_, rfl, _, _, _, rfl, rfl, lv, at0_wd hv.ne, _, rfl, _, _, _, rfl, rfl, lw, at0_wd hw.ne, _, _, rfl, ?_⟩
    refine ⟨_, rfl, 1, rfl, _, _, _, rfl, rfl, lv, atL_wd hv.ne, _, rfl, 1, rfl, _, _, _, rfl, rfl, lw, atL_wd hw.ne, _, _, rfl, ?_⟩
    have z1 : 1 ≤ v.count false := by
      obtain ⟨b, n, hn, rfl⟩ := hv
      rw [alt_zer]
      have : ¬ zer b n = 0 := fun z => c1 ((one_iff b n hn).mpr z)
      omega
    have z2 : 1 ≤ w.count false := by
      obtain ⟨b, n, hn, rfl⟩ := hw
      rw [alt_zer]
      have : ¬ zer b n = 0 := fun z => c2 ((one_iff b n hn).mpr z)
      omega
    have l1 := List.count_le_length (a := false) (l := v)
    have l2 := List.count_le_length (a := false) (l := w)
    refine ⟨_, rfl, _, rfl, ⟨_, rfl⟩, _, _, rfl, rfl, _, rfl, ⟨_, rfl⟩, _, _, rfl, rfl, _, _, rfl, rfl, _, _, rfl, rfl, _, rfl, ?_⟩
    refine ⟨v.headD false || w.headD false, v.count false + w.count false - 1, v.getLastD false || w.getLastD false, ?_, by omega, by omega, ?_⟩
    · show [V.str (maxS (wd [v.headD false]) (wd [w.headD false])), V.int (Txt.count (wd v) "0" + Txt.count (wd w) "0" - 1), V.str (maxS (wd [v.getLastD false]) (wd [w.getLastD false]))] = _
      rw [maxS_wd, maxS_wd, k0, count_wd, count_wd]
      have ei : ((v.count false : Nat) : Int) + (w.count false : Nat) - 1 = ((v.count false + w.count false - 1 : Nat) : Int) := by omega
      rw [ei]
    · rw [← e]
      exact q
abbrev s_and_text : Stmt := top 22
theorem sc_and_text : FnScope ["v", "w"] ["v", "w"] (defScope s_and_text) := ⟨rfl, rfl, rfl, by decide +kernel, rfl, by decide +kernel, by decide +kernel⟩
theorem ok_and_text (D : Df K mg "and_text" s_and_text ["v", "w"]) (B : Bn mg) (Cexchanged : Cal P w K mg base (1) "exchanged" ["text"] spExch) (Cor_text : Cal P w K mg base (2) "or_text" ["v", "w"] spOrText) : Cal P w K mg base (3) "and_text" ["v", "w"] spAndText := by
  have S := sc_and_text
  refine D.ok S (fun vs H Q E h => ?_) (fun f cdv A outer s H vs Q E hr h => ?_)
  · obtain ⟨v, w, rfl, _⟩ := h; rfl
  · obtain ⟨v, w, rfl, hv, hw, hl, q⟩ := h
    refine ⟨_, (pss_one (ps_ret (pe_cal Cexchanged hr rfl (pa_cons (pe_cal Cor_text hr rfl (pa_cons (pe_cal Cexchanged hr rfl (pa_cons (pv 0) pa_nil)) (pa_cons (pe_cal Cexchanged hr rfl (pa_cons (pv 1) pa_nil)) pa_nil))) pa_nil)))), ?_⟩
    refine ⟨_, rfl, v, rfl, by omega, fun H1 s1 => ?_⟩
    refine ⟨_, rfl, w, rfl, by omega, fun H2 s2 => ?_⟩
    refine ⟨exch v, exch w, rfl, hv.ex, hw.ex, by rw [exch_len, exch_len]; omega, fun H3 s3 => ?_⟩
    refine ⟨orW (exch v) (exch w), rfl, ?_, fun H4 s4 => q H4 (((s1.trans s2).trans s3).trans s4)⟩
    have := orW_len hv.ex hw.ex
    rw [exch_len, exch_len] at this
    omega
end
end Sc

set_option maxHeartbeats 4000000
namespace Sc
open PySem PySem.Spec PyProof.Rows L2 TL
section
variable {P : Program} {w : World} {K : PySem.W.Frag} {mg : Str → Option Value} {base : Heap}
abbrev s_is_number : Stmt := top 26
theorem sc_is_number : FnScope ["thing"] ["thing"] (defScope s_is_number) := ⟨rfl, rfl, rfl, by decide +kernel, rfl, by decide +kernel, by decide +kernel⟩
theorem ok_is_number (D : Df K mg "is_number" s_is_number ["thing"]) (B : Bn mg) : Cal P w K mg base (1) "is_number" ["thing"] spIsNumber := by
  have S := sc_is_number
  refine D.ok S (fun vs H Q E h => ?_) (fun f cdv A outer s H vs Q E hr h => ?_)
  · obtain ⟨i, rfl, _⟩ := h; rfl
  · obtain ⟨i, rfl, q⟩ := h
    refine ⟨_, (pss_one (ps_ret (pe_and (pe_callB call_isi (by rfl) B.isinstance_ (by decide +kernel) (pa_cons (pv 0) (pa_cons (pe_bltn (by rfl) B.int_ (by decide +kernel) (v := .ty "int") rfl) pa_nil))) (pe_one (pe_not (pe_callB call_isi (by rfl) B.isinstance_ (by decide +kernel) (pa_cons (pv 0) (pa_cons (pe_bltn (by rfl) B.bool_ (by decide +kernel) (v := .ty "bool") rfl) pa_nil)))))))), ?_⟩
    exact ⟨_, rfl, _, _, _, _, true, rfl, .ty "int", isInt, isT, _, rfl, _, rfl, _, _, _, _, false, rfl, .ty "bool", isInt, kit_ty (by decide +kernel), _, rfl, q.at⟩
abbrev s_node_fits : Stmt := top 27
theorem sc_node_fits : FnScope ["node", "n"] ["node", "n"] (defScope s_node_fits) := ⟨rfl, rfl, rfl, by decide +kernel, rfl, by decide +kernel, by decide +kernel⟩
theorem ok_node_fits (D : Df K mg "node_fits" s_node_fits ["node", "n"]) (B : Bn mg) (Cis_number : Cal P w K mg base (1) "is_number" ["thing"] spIsNumber) : Cal P w K mg base (2) "node_fits" ["node", "n"] (spNodeFits K) := by
  have S := sc_node_fits
  refine D.ok S (fun vs H Q E h => ?_) (fun f cdv A outer s H vs Q E hr h => ?_)
  · obtain ⟨v, t, n, rfl, _⟩ := h; rfl
  · obtain ⟨v, t, n, rfl, hT, hw, q⟩ := h
    refine ⟨_, (pss_cons (ps_if (PW.pt (pw_or (pt_not (pt_val (pe_callB call_isi (by rfl) B.isinstance_ (by decide +kernel) (pa_cons (pv 0) (pa_cons (pe_bltn (by rfl) B.tuple_ (by decide +kernel) (v := .ty "tuple") rfl) pa_nil))))) (pw_or (pt_cmpR op_eq (pe_callB call_len_seq (by rfl) B.len_ PySem.boot_len (pa_cons (pv 0) pa_nil)) pe_int (nomark _)) (pw_or1 (pt_not (pt_val (pe_callB call_isi (by rfl) B.isinstance_ (by decide +kernel) (pa_cons (pe_ix ix_tup (pv 0) pe_int (fun _ _ => rfl)) (pa_cons (pe_bltn (by rfl) B.str_ (by decide +kernel) (v := .ty "str") rfl) pa_nil))))))))) (pss_one (ps_ret pe_bl)) pss_nil)
    (pss_cons (ps_if (pt_cmpR op_in_seq (pe_ix ix_tup (pv 0) pe_int (fun _ _ => rfl)) (pe_tup (pa_cons pe_str (pa_cons pe_str pa_nil))) (by rfl)) (pss_one (ps_ret (pe_cmpR op_eq (pe_callB call_len_seq (by rfl) B.len_ PySem.boot_len (pa_cons (pv 0) pa_nil)) pe_int (nomark _)))) pss_nil)
    (pss_cons (ps_if (pt_cmpR op_ne (pe_callB call_len_seq (by rfl) B.len_ PySem.boot_len (pa_cons (pv 0) pa_nil)) pe_int (nomark _)) (pss_one (ps_ret pe_bl)) pss_nil)
    (pss_cons (ps_if (pt_cmpR op_eq (pe_ix ix_tup (pv 0) pe_int (fun _ _ => rfl)) pe_str (nomark _)) (pss_one (ps_ret (pe_and (pe_cal Cis_number hr rfl (pa_cons (pe_ix ix_tup (pv 0) pe_int (fun _ _ => rfl)) pa_nil)) (pe_one (pe_chain op_le op_lt pe_int (pe_ix ix_tup (pv 0) pe_int (fun _ _ => rfl)) (pv 1)))))) pss_nil)
    (pss_cons (ps_if (pt_cmpR op_in_seq (pe_ix ix_tup (pv 0) pe_int (fun _ _ => rfl)) (pe_tup (pa_cons pe_str (pa_cons pe_str pa_nil))) (by rfl)) (pss_one (ps_ret (pe_and (pe_callB call_isi (by rfl) B.isinstance_ (by decide +kernel) (pa_cons (pe_ix ix_tup (pv 0) pe_int (fun _ _ => rfl)) (pa_cons (pe_bltn (by rfl) B.tuple_ (by decide +kernel) (v := .ty "tuple") rfl) pa_nil))) (pe_one (pe_cmpR op_gt (pe_callB call_len_seq (by rfl) B.len_ PySem.boot_len (pa_cons (pe_ix ix_tup (pv 0) pe_int (fun _ _ => rfl)) pa_nil)) pe_int (nomark _)))))) pss_nil)
    (pss_one (ps_ret (pe_cmpR op_eq (pe_ix ix_tup (pv 0) pe_int (fun _ _ => rfl)) pe_str (nomark _))))))))), ?_⟩
    cases t with
    | one =>
      obtain ⟨a, rfl, sq⟩ := TA.one hT
      refine ⟨_, rfl, _, _, _, _, true, rfl, .ty "tuple", tyX_tup sq, isT, _, rfl, _, rfl, a, _, rfl, .inr sq, rfl, _, rfl, ?_⟩
      refine ifb (eq_intF (by decide)) ?_
      refine ⟨_, rfl, a, _, _, _, rfl, rfl, sq, at0, _, _, _, _, true, rfl, .ty "str", isStr, isT, _, rfl, ?_⟩
      refine ⟨_, rfl, a, _, _, _, rfl, rfl, sq, at0, hS (by decide), fun p hp => ?_⟩
      have s1 := same_new hp (.tup [.str "one", .str "zero"])
      refine ⟨p, _, rfl, .inr (SqT.of upd_same), rfl, rfl, _, rfl, ?_⟩
      refine ifb (c := true) (by decide +kernel) ?_
      refine ⟨_, rfl, a, _, rfl, .inr (s1.tup sq), rfl, ?_⟩
      exact bTrue (eq_int' (by decide)) (q _ s1)
    | zero =>
      obtain ⟨a, rfl, sq⟩ := TA.zero hT
      refine ⟨_, rfl, _, _, _, _, true, rfl, .ty "tuple", tyX_tup sq, isT, _, rfl, _, rfl, a, _, rfl, .inr sq, rfl, _, rfl, ?_⟩
      refine ifb (eq_intF (by decide)) ?_
      refine ⟨_, rfl, a, _, _, _, rfl, rfl, sq, at0, _, _, _, _, true, rfl, .ty "str", isStr, isT, _, rfl, ?_⟩
      refine ⟨_, rfl, a, _, _, _, rfl, rfl, sq, at0, hS (by decide), fun p hp => ?_⟩
      have s1 := same_new hp (.tup [.str "one", .str "zero"])
      refine ⟨p, _, rfl, .inr (SqT.of upd_same), rfl, rfl, _, rfl, ?_⟩
      refine ifb (c := true) (by decide +kernel) ?_
      refine ⟨_, rfl, a, _, rfl, .inr (s1.tup sq), rfl, ?_⟩
      exact bTrue (eq_int' (by decide)) (q _ s1)
    | inp i =>
      obtain ⟨a, rfl, sq⟩ := TA.inp hT
      refine ⟨_, rfl, _, _, _, _, true, rfl, .ty "tuple", tyX_tup sq, isT, _, rfl, _, rfl, a, _, rfl, .inr sq, rfl, _, rfl, ?_⟩
      refine ifb (eq_intF (by simp)) ?_
      refine ⟨_, rfl, a, _, _, _, rfl, rfl, sq, at0, _, _, _, _, true, rfl, .ty "str", isStr, isT, _, rfl, ?_⟩
      refine ⟨_, rfl, a, _, _, _, rfl, rfl, sq, at0, hS (by decide), fun p hp => ?_⟩
      have s1 := same_new hp (.tup [.str "one", .str "zero"])
      refine ⟨p, _, rfl, .inr (SqT.of upd_same), rfl, rfl, _, rfl, ?_⟩
      refine ifb (c := false) (by decide +kernel) ?_
      have sq1 := s1.tup sq
      refine ⟨_, rfl, a, _, rfl, .inr sq1, rfl, _, rfl, ?_⟩
      refine ifb (ne_int (by simp)) ?_
      refine ⟨_, rfl, a, _, _, _, rfl, rfl, sq1, at0, rfl, _, rfl, ?_⟩
      refine ifb (hd_in (.inp i)) ?_
      refine ⟨_, rfl, a, _, _, _, rfl, rfl, sq1, at1, _, rfl, fun H2 s2 => ?_⟩
      have sq2 := s2.tup sq1
      refine ⟨_, rfl, _, rfl, a, _, _, _, rfl, rfl, sq2, at1, 0, _, rfl, rfl, _, rfl, ?_⟩
      refine ifb (decide_eq_true (by omega)) ?_
      refine ⟨_, rfl, _, _, rfl, rfl, ?_⟩
      exact bTrue (decide_eq_true (by have : i < n := hw; omega)) (q _ (s1.trans s2))
    | neg t =>
      obtain ⟨a, u, rfl, sq, hu⟩ := TA.neg hT
      refine ⟨_, rfl, _, _, _, _, true, rfl, .ty "tuple", tyX_tup sq, isT, _, rfl, _, rfl, a, _, rfl, .inr sq, rfl, _, rfl, ?_⟩
      refine ifb (eq_intF (by simp)) ?_
      refine ⟨_, rfl, a, _, _, _, rfl, rfl, sq, at0, _, _, _, _, true, rfl, .ty "str", isStr, isT, _, rfl, ?_⟩
      refine ⟨_, rfl, a, _, _, _, rfl, rfl, sq, at0, hS (by decide), fun p hp => ?_⟩
      have s1 := same_new hp (.tup [.str "one", .str "zero"])
      refine ⟨p, _, rfl, .inr (SqT.of upd_same), rfl, rfl, _, rfl, ?_⟩
      refine ifb (c := false) (by decide +kernel) ?_
      have sq1 := s1.tup sq
      refine ⟨_, rfl, a, _, rfl, .inr sq1, rfl, _, rfl, ?_⟩
      refine ifb (ne_int (by simp)) ?_
      refine ⟨_, rfl, a, _, _, _, rfl, rfl, sq1, at0, rfl, _, rfl, ?_⟩
      refine ifb (hd_in (.neg t)) ?_
      refine ⟨_, rfl, a, _, _, _, rfl, rfl, sq1, at0, hS (by decide), fun p2 hp2 => ?_⟩
      have s2 := same_new hp2 (.tup [.str "and", .str "or"])
      refine ⟨p2, _, rfl, .inr (SqT.of upd_same), rfl, rfl, _, rfl, ?_⟩
      refine ifb (c := false) (by decide +kernel) ?_
      refine ⟨_, rfl, a, _, _, _, rfl, rfl, s2.tup sq1, at0, rfl, ?_⟩
      exact bTrue (hd_not (.neg t)) (q _ (s1.trans s2))
    | gate k ps =>
      obtain ⟨a, b, us, rfl, sq, sb, hu⟩ := TA.gate hT
      have hin : inV (.str (gw k)) [.str "and", .str "or"] = true := by cases k <;> decide +kernel
      have hno : inV (.str (gw k)) [.str "one", .str "zero"] = false := by cases k <;> decide +kernel
      refine ⟨_, rfl, _, _, _, _, true, rfl, .ty "tuple", tyX_tup sq, isT, _, rfl, _, rfl, a, _, rfl, .inr sq, rfl, _, rfl, ?_⟩
      refine ifb (eq_intF (by simp)) ?_
      refine ⟨_, rfl, a, _, _, _, rfl, rfl, sq, at0, _, _, _, _, true, rfl, .ty "str", isStr, isT, _, rfl, ?_⟩
      refine ⟨_, rfl, a, _, _, _, rfl, rfl, sq, at0, hS (by decide), fun p hp => ?_⟩
      have s1 := same_new hp (.tup [.str "one", .str "zero"])
      refine ⟨p, _, rfl, .inr (SqT.of upd_same), rfl, rfl, _, rfl, ?_⟩
      refine ifb (c := false) hno ?_
      have sq1 := s1.tup sq
      refine ⟨_, rfl, a, _, rfl, .inr sq1, rfl, _, rfl, ?_⟩
      refine ifb (ne_int (by simp)) ?_
      refine ⟨_, rfl, a, _, _, _, rfl, rfl, sq1, at0, rfl, _, rfl, ?_⟩
      refine ifb (hd_in (.gate k ps)) ?_
      refine ⟨_, rfl, a, _, _, _, rfl, rfl, sq1, at0, hS (by decide), fun p2 hp2 => ?_⟩
      have s2 := same_new hp2 (.tup [.str "and", .str "or"])
      refine ⟨p2, _, rfl, .inr (SqT.of upd_same), rfl, rfl, _, rfl, ?_⟩
      refine ifb (c := true) hin ?_
      have sq2 := s2.tup sq1
      have sb2 := s2.tup (s1.tup sb)
      refine ⟨_, rfl, a, _, _, _, rfl, rfl, sq2, at1, _, _, _, _, true, rfl, .ty "tuple", tyX_tup sb2, isT, _, rfl, ?_⟩
      refine ⟨_, rfl, a, _, _, _, rfl, rfl, sq2, at1, b, _, rfl, .inr sb2, _, _, rfl, rfl, ?_⟩
      refine bTrue (decide_eq_true ?_) (q _ (s1.trans s2))
      have h0 : ps ≠ [] := hw.1
      have h1 := hu.len
      have h2 := List.length_pos_iff.mpr h0
      omega
abbrev s_is_leaf : Stmt := top 28
theorem sc_is_leaf : FnScope ["node"] ["node"] (defScope s_is_leaf) := ⟨rfl, rfl, rfl, by decide +kernel, rfl, by decide +kernel, by decide +kernel⟩
theorem ok_is_leaf (D : Df K mg "is_leaf" s_is_leaf ["node"]) (B : Bn mg) : Cal P w K mg base (1) "is_leaf" ["node"] (spIsLeaf K) := by
  have S := sc_is_leaf
  refine D.ok S (fun vs H Q E h => ?_) (fun f cdv A outer s H vs Q E hr h => ?_)
  · obtain ⟨v, t, rfl, _⟩ := h; rfl
  · obtain ⟨v, t, rfl, hT, q⟩ := h
    refine ⟨_, (pss_one (ps_ret (pe_cmpR op_in_seq (pe_ix ix_tup (pv 0) pe_int (fun _ _ => rfl)) (pe_tup (pa_cons pe_str (pa_cons pe_str (pa_cons pe_str pa_nil)))) (by rfl)))), ?_⟩
    obtain ⟨a, xs, rfl, sq⟩ := TA.hd hT
    refine ⟨_, rfl, a, _, _, _, rfl, rfl, sq, at0, hS (by decide), fun p hp => ?_⟩
    refine ⟨p, _, rfl, .inr (SqT.of upd_same), rfl, rfl, ?_⟩
    show Q (.bl (inV (.str t.hd) [.str "in", .str "one", .str "zero"])) _
    rw [hd_leaf]
    exact q _ (same_new hp _)
abbrev s_parts_of : Stmt := top 29
theorem sc_parts_of : FnScope ["node"] ["node"] (defScope s_parts_of) := ⟨rfl, rfl, rfl, by decide +kernel, rfl, by decide +kernel, by decide +kernel⟩
theorem ok_parts_of (D : Df K mg "parts_of" s_parts_of ["node"]) (B : Bn mg) (Cis_leaf : Cal P w K mg base (1) "is_leaf" ["node"] (spIsLeaf K)) : Cal P w K mg base (2) "parts_of" ["node"] (spPartsOf K) := by
  have S := sc_parts_of
  refine D.ok S (fun vs H Q E h => ?_) (fun f cdv A outer s H vs Q E hr h => ?_)
  · obtain ⟨v, t, rfl, _⟩ := h; rfl
  · obtain ⟨v, t, rfl, hT, q⟩ := h
    refine ⟨_, (pss_cons (ps_if (pt_val (pe_cal Cis_leaf hr rfl (pa_cons (pv 0) pa_nil))) (pss_one (ps_ret (pe_tup pa_nil))) pss_nil)
    (pss_cons (ps_if (pt_cmpR op_eq (pe_ix ix_tup (pv 0) pe_int (fun _ _ => rfl)) pe_str (nomark _)) (pss_one (ps_ret (pe_tup (pa_cons (pe_ix ix_tup (pv 0) pe_int (fun _ _ => rfl)) pa_nil)))) pss_nil)
    (pss_one (ps_ret (pe_ix ix_tup (pv 0) pe_int (fun _ _ => rfl)))))), ?_⟩
    refine ⟨_, rfl, v, t, rfl, hT, fun H1 s1 => ⟨_, rfl, ?_⟩⟩
    cases hl : t.leaf with
    | true =>
      refine ⟨hS (by decide), fun p hp => q p _ [] (s1.trans (same_new hp _)) (SqT.of upd_same) ?_⟩
      cases t with
      | neg t => cases hl
      | gate k ps => cases hl
      | _ => exact .nil
    | false =>
      cases t with
      | neg t =>
        obtain ⟨a, u, rfl, sq, hu⟩ := TA.neg (TA.up s1 hT)
        refine ⟨_, rfl, a, _, _, _, rfl, rfl, sq, at0, rfl, _, rfl, ?_⟩
        refine ifb (hd_not (.neg t)) ?_
        refine ⟨_, rfl, a, _, _, _, rfl, rfl, sq, at1, hS (by simp), fun p hp => ?_⟩
        have s2 := same_new hp (.tup [u])
        exact q p _ [u] (s1.trans s2) (SqT.of upd_same) (.cons (TA.up s2 hu) .nil)
      | gate k ps =>
        obtain ⟨a, b, us, rfl, sq, sb, hu⟩ := TA.gate (TA.up s1 hT)
        refine ⟨_, rfl, a, _, _, _, rfl, rfl, sq, at0, rfl, _, rfl, ?_⟩
        refine ifb (hd_not (.gate k ps)) ?_
        exact ⟨_, rfl, a, _, _, _, rfl, rfl, sq, at1, q b _ us s1 sb hu⟩
      | _ => cases hl
end
end Sc

set_option maxHeartbeats 4000000
namespace Sc
open PySem PySem.Spec PyProof.Rows L2 TL
section
variable {P : Program} {w : World} {K : PySem.W.Frag} {mg : Str → Option Value} {base : Heap}
abbrev s_fault_from : Stmt := top 30
theorem sc_fault_from : FnScope ["node", "n", "path", "leaves", "at", "part", "fault"] ["node", "n", "path", "leaves"] (defScope s_fault_from) := ⟨rfl, rfl, rfl, by decide +kernel, rfl, by decide +kernel, by decide +kernel⟩
theorem ok_fault_from {k : Nat} (D : Df K mg "fault_from" s_fault_from ["node", "n", "path", "leaves"]) (B : Bn mg) (Cnode_fits : Cal P w K mg base (2) "node_fits" ["node", "n"] (spNodeFits K)) (Cis_leaf : Cal P w K mg base (1) "is_leaf" ["node"] (spIsLeaf K)) (Cparts_of : Cal P w K mg base (2) "parts_of" ["node"] (spPartsOf K)) (Cfault_from : Cal P w K mg base (k+3) "fault_from" ["node", "n", "path", "leaves"] (spFault K k)) : Cal P w K mg base (k+1+3) "fault_from" ["node", "n", "path", "leaves"] (spFault K (k + 1)) := by
  obtain ⟨tl, bl⟩ := B.ml
  obtain ⟨td, bd⟩ := B.md
  have S := sc_fault_from
  refine D.ok S (fun vs H Q E h => ?_) (fun f cdv A outer s H vs Q E hr h => ?_)
  · obtain ⟨v, t, n, a, p, lv, rfl, _⟩ := h; rfl
  · obtain ⟨v, t, n, a, p, lv, rfl, hT, hw, hp, hd, hlv, hk, q⟩ := h
    refine ⟨_, (pss_cons (ps_if (PW.pt (pw_or (pt_cmpR op_ge (pe_callB call_len_seq (by rfl) B.len_ PySem.boot_len (pa_cons (pv 2) pa_nil)) (pe_glob (v := .int 8) rfl bd ⟨_, rfl⟩) (nomark _)) (pw_or1 (pt_not (pt_val (pe_cal Cnode_fits hr rfl (pa_cons (pv 0) (pa_cons (pv 1) pa_nil)))))))) (pss_one (ps_ret (pe_tup (pa_cons (pv 2) (pa_cons (pv 3) pa_nil))))) pss_nil)
    (pss_cons (ps_if (pt_val (pe_cal Cis_leaf hr rfl (pa_cons (pv 0) pa_nil))) (pss_cons (ps_if (pt_cmpR op_ge (pv 3) (pe_glob (v := .int 240) rfl bl ⟨_, rfl⟩) (nomark _)) (pss_one (ps_ret (pe_tup (pa_cons (pv 2) (pa_cons (pv 3) pa_nil))))) pss_nil)
      (pss_one (ps_ret (pe_tup (pa_cons pe_non (pa_cons (pe_op op_add (pv 3) pe_int) pa_nil)))))) pss_nil)
    (pss_cons (ps_for PassesOwn.never rfl (pi_enumT (by rfl) B.enumerate_ (pa_cons (pe_cal Cparts_of hr rfl (pa_cons (pv 0) pa_nil)) pa_nil)) (pg_tup rfl (pgs_cons (pg_name (i := 4) S.nd rfl (Or.inl rfl)) (pgs_cons (pg_name (i := 5) S.nd rfl (Or.inl rfl)) pgs_nil)))
      (pss_cons (ps_asg (pe_cal Cfault_from hr rfl (pa_cons (pv 5) (pa_cons (pv 1) (pa_cons (pe_op op_catU (pv 2) (pe_tup (pa_cons (pv 4) pa_nil))) (pa_cons (pv 3) pa_nil))))) (pg_tup rfl (pgs_cons (pg_name (i := 6) S.nd rfl (Or.inl rfl)) (pgs_cons (pg_name (i := 3) S.nd rfl (Or.inl rfl)) pgs_nil))))
      (pss_one (ps_if (pt_cmpR op_notN (pv 6) pe_non (nomark _)) (pss_one (ps_ret (pe_tup (pa_cons (pv 6) (pa_cons (pv 3) pa_nil))))) pss_nil))))
    (pss_one (ps_ret (pe_tup (pa_cons pe_non (pa_cons (pv 3) pa_nil)))))))), ?_⟩
    have dp := depth_pos t
    have lp := leaves_pos t hw
    refine ⟨_, rfl, a, _, rfl, .inr hp, _, _, rfl, rfl, _, rfl, ?_⟩
    refine ifb (decide_eq_false (by omega)) ?_
    refine ⟨_, rfl, _, rfl, v, t, n, rfl, hT, hw, fun H1 s1 => ⟨_, rfl, ?_⟩⟩
    have hT1 := TA.up s1 hT
    refine ⟨_, rfl, v, t, rfl, hT1, fun H2 s2 => ⟨_, rfl, ?_⟩⟩
    have hT2 := TA.up s2 hT1
    cases hl : t.leaf with
    | true =>
      have l1 := leaf_leaves hl
      refine ⟨_, rfl, _, _, rfl, rfl, _, rfl, ?_⟩
      refine ifb (decide_eq_false (by omega)) ?_
      refine ⟨_, rfl, _, _, rfl, rfl, hS (by simp), fun b hb => q b _ ((s1.trans s2).trans (same_new hb _)) ?_⟩
      have e : ((lv + t.leaves : Nat) : Int) = (lv : Int) + 1 := by rw [l1]; omega
      rw [e]
      exact SqT.of upd_same
    | false =>
      refine ⟨_, rfl, v, t, rfl, hT2, fun b H3 us s3 hb hus => ⟨b, us, rfl, hb, ?_⟩⟩
      have s03 := (s1.trans s2).trans s3
      have pl := parts_leaves hl
      have pd := parts_depth hl
      have pw := (wfL_iff n _).mp (parts_wf hw)
      have ul := hus.len
      refine for_it walk_enumT (fun i σ H' => ∃ y4 y5 y6, σ = [some v, some (.int (n : Int)), some (.ref a), some (.int ((lv + leavesL (t.parts.take i) : Nat) : Int)), y4, y5, y6] ∧ Same H3 H') ⟨none, none, none, rfl, Same.refl _⟩ (fun i σ H' _ ⟨_, _, _, _, s4⟩ => s4.tup hb) ?_ ?_
      · rintro i x σ H4 H5 hi ⟨y4, y5, y6, rfl, s4⟩ ⟨TT, u, rfl, nT, rfl, hu⟩
        obtain ⟨tu, ht, hTu⟩ := hus.get hu
        have s5 := same_new nT (.tup [V.int (i : Int), u])
        have s35 := s4.trans s5
        have du := depthL_le.mp (Nat.le_refl (depthL t.parts)) tu (List.mem_of_getElem? ht)
        have lu := leavesL_take t.parts i tu ht
        have lu2 := leavesL_le t.parts (i + 1)
        refine ⟨TT, _, rfl, SqT.of upd_same, rfl, _, _, rfl, _, _, rfl, rfl, ?_⟩
        refine ⟨_, rfl, _, rfl, _, rfl, _, rfl, hS (by simp), fun p2 hp2 => ?_⟩
        have s6 := same_new hp2 (.tup [V.int (i : Int)])
        have hp5 := (s35.trans s6).tup (s03.tup hp)
        refine ⟨a, p2, p, [V.int (i : Int)], rfl, rfl, hp5, SqT.of upd_same, by simp, hS (by simp; omega), fun b2 H7 s7 hb2 => ?_⟩
        have s37 := (s35.trans s6).trans s7
        refine ⟨_, rfl, u, tu, n, b2, _, lv + leavesL (t.parts.take i), rfl, TA.up s37 hTu, pw tu (List.mem_of_getElem? ht), hb2, by rw [List.length_append]; simp; omega, by omega, by omega, fun b3 H8 s8 hb3 => ?_⟩
        refine ⟨b3, _, rfl, hb3, rfl, _, _, rfl, _, _, rfl, rfl, ?_⟩
        refine ⟨_, rfl, rfl, _, rfl, ?_⟩
        refine ifb (ne_self _) ?_
        refine ⟨some (.int (i : Int)), some u, some .non, ?_, s37.trans s8⟩
        have e : lv + leavesL (t.parts.take (i + 1)) = lv + leavesL (t.parts.take i) + tu.leaves := by omega
        rw [e]; rfl
      · rintro σ H4 ⟨y4, y5, y6, rfl, s4⟩
        refine ⟨_, rfl, hS (by simp), fun b4 hb4 => q b4 _ ((s03.trans s4).trans (same_new hb4 _)) ?_⟩
        have e : lv + t.leaves = lv + leavesL (t.parts.take us.length) := by
          rw [List.take_of_length_le (by omega), pl]
        rw [e]
        exact SqT.of upd_same
theorem all_fault_from (D : Df K mg "fault_from" s_fault_from ["node", "n", "path", "leaves"]) (B : Bn mg) (Cnode_fits : Cal P w K mg base (2) "node_fits" ["node", "n"] (spNodeFits K)) (Cis_leaf : Cal P w K mg base (1) "is_leaf" ["node"] (spIsLeaf K)) (Cparts_of : Cal P w K mg base (2) "parts_of" ["node"] (spPartsOf K)) : ∀ k : Nat, Cal P w K mg base (k+3) "fault_from" ["node", "n", "path", "leaves"] (spFault K k)
  | 0 => (D.none (sp := spFault K 0) fun vs H Q E h => by
      obtain ⟨v, t, n, a, p, lv, _, _, _, _, _, _, hk, _⟩ := h
      have := depth_pos t
      omega).mono (by omega)
  | k + 1 => ok_fault_from D B Cnode_fits Cis_leaf Cparts_of (all_fault_from D B Cnode_fits Cis_leaf Cparts_of k)
abbrev s_check_tree : Stmt := top 31
theorem sc_check_tree : FnScope ["tree", "n", "fault"] ["tree", "n"] (defScope s_check_tree) := ⟨rfl, rfl, rfl, by decide +kernel, rfl, by decide +kernel, by decide +kernel⟩
theorem ok_check_tree (D : Df K mg "check_tree" s_check_tree ["tree", "n"]) (B : Bn mg) (Cfault_from : Cal P w K mg base (11) "fault_from" ["node", "n", "path", "leaves"] (spFault K 8)) : Cal P w K mg base (12) "check_tree" ["tree", "n"] (spCheckTree K) := by
  have S := sc_check_tree
  refine D.ok S (fun vs H Q E h => ?_) (fun f cdv A outer s H vs Q E hr h => ?_)
  · obtain ⟨v, t, n, rfl, _⟩ := h; rfl
  · obtain ⟨v, t, n, rfl, hT, ok, q⟩ := h
    refine ⟨_, (pss_cons (ps_set (i := 2) S.nd rfl (Or.inl rfl) (pe_ix ix_tup (pe_cal Cfault_from hr rfl (pa_cons (pv 0) (pa_cons (pv 1) (pa_cons (pe_tup pa_nil) (pa_cons pe_int pa_nil))))) pe_int (fun _ _ => rfl)))
    (pss_one (ps_if (pt_cmpR op_notN (pv 2) pe_non (nomark _)) (pss_one ps_never) pss_nil))), ?_⟩
    refine ⟨_, rfl, _, rfl, hS (by simp), fun p hp => ?_⟩
    have s1 := same_new hp (.tup [])
    refine ⟨v, t, n, p, [], 0, rfl, TA.up s1 hT, ok.wf, SqT.of upd_same, by have := ok.dp; simpa using this, by have := ok.lv; omega, ok.dp, fun b H2 s2 hb => ?_⟩
    refine ⟨b, _, _, _, rfl, rfl, hb, at0, ?_⟩
    refine ⟨_, rfl, rfl, _, rfl, ?_⟩
    refine ifb (ne_self _) ?_
    exact q _ (s1.trans s2)
abbrev s_size_of : Stmt := top 32
theorem sc_size_of : FnScope ["node", "sizes", "part", "size"] ["node"] (defScope s_size_of) := ⟨rfl, rfl, rfl, by decide +kernel, rfl, by decide +kernel, by decide +kernel⟩
theorem ok_size_of {k : Nat} (D : Df K mg "size_of" s_size_of ["node"]) (B : Bn mg) (Cis_leaf : Cal P w K mg base (1) "is_leaf" ["node"] (spIsLeaf K)) (Cparts_of : Cal P w K mg base (2) "parts_of" ["node"] (spPartsOf K)) (Csize_of : Cal P w K mg base (k+3) "size_of" ["node"] (spSizeOf K k)) : Cal P w K mg base (k+1+3) "size_of" ["node"] (spSizeOf K (k + 1)) := by
  have S := sc_size_of
  refine D.ok S (fun vs H Q E h => ?_) (fun f cdv A outer s H vs Q E hr h => ?_)
  · obtain ⟨v, t, n, rfl, _⟩ := h; rfl
  · obtain ⟨v, t, n, rfl, hT, hw, hlv, hk, q⟩ := h
    refine ⟨_, (pss_cons (ps_if (pt_val (pe_cal Cis_leaf hr rfl (pa_cons (pv 0) pa_nil))) (pss_one (ps_ret (pe_tup (pa_cons pe_int (pa_cons pe_int pa_nil))))) pss_nil)
    (pss_cons (ps_setLc (i := 1) (own := [(("part" : Str), 2)]) (g := gName 2) (tt := tYes) rfl S.nd rfl rfl (sw_true rfl rfl rfl (by decide +kernel)) (pi_tup (pe_cal Cparts_of hr rfl (pa_cons (pv 0) pa_nil))) (blkOk_by (own := [(("part" : Str), 2)]) (N := ["node", "sizes", "part", "size"]) (sc := defScope s_size_of) (by decide +kernel)) (fun _ _ _ _ _ => pg_name (i := 2) S.nd rfl (Or.inl rfl)) (fun _ _ _ _ _ => pts_nil) (fun _ _ _ _ _ => (pe_cal Csize_of hr rfl (pa_cons (pv 2) pa_nil))))
    (pss_one (ps_ret (pe_tup (pa_cons (pe_callB (cr_sum rfl) (by rfl) B.sum_ (by decide +kernel) (pa_cons (pe_lc (own := [(("size" : Str), 3)]) (g := gName 3) (tt := tYes) rfl S.nd (pi_list (pv 1)) (blkOk_by (own := [(("size" : Str), 3)]) (N := ["node", "sizes", "part", "size"]) (sc := defScope s_size_of) (by decide +kernel)) (fun _ _ _ _ _ => pg_name (i := 3) S.nd rfl (Or.inl rfl)) (fun _ _ _ _ _ => pts_nil) (fun _ _ _ _ _ => (pe_ix (ix_tupK K rfl) (pv 3) pe_int (fun _ _ => rfl)))) pa_nil)) (pa_cons (pe_op op_add pe_int (pe_callB (cr_max rfl) (by rfl) B.max_ (by decide +kernel) (pa_cons (pe_lc (own := [(("size" : Str), 3)]) (g := gName 3) (tt := tYes) rfl S.nd (pi_list (pv 1)) (blkOk_by (own := [(("size" : Str), 3)]) (N := ["node", "sizes", "part", "size"]) (sc := defScope s_size_of) (by decide +kernel)) (fun _ _ _ _ _ => pg_name (i := 3) S.nd rfl (Or.inl rfl)) (fun _ _ _ _ _ => pts_nil) (fun _ _ _ _ _ => (pe_ix (ix_tupK K rfl) (pv 3) pe_int (fun _ _ => rfl)))) pa_nil))) pa_nil))))))), ?_⟩
    refine ⟨_, rfl, v, t, rfl, hT, fun H1 s1 => ⟨_, rfl, ?_⟩⟩
    have hT1 := TA.up s1 hT
    cases hl : t.leaf with
    | true =>
      refine ⟨hS (by simp), fun b hb => q b _ (s1.trans (same_new hb _)) ?_⟩
      rw [leaf_leaves hl, leaf_depth hl]
      exact SqT.of upd_same
    | false =>
      refine ⟨_, rfl, v, t, rfl, hT1, fun b H3 us s3 hb hus => ⟨b, rfl, ⟨us, hb⟩, fun DD hD => ?_⟩⟩
      have s03 := s1.trans s3
      have pl := parts_leaves hl
      have pd := parts_depth hl
      have pw := (wfL_iff n _).mp (parts_wf hw)
      have ul := hus.len
      have ll := len_leaves t.parts (parts_wf hw)
      refine lc_map walk_tup (fun i x => us[i]? = some x) (fun i H x H' y => y) (fun i y H => ∃ (b2 : Addr) (tu : T), y = .ref b2 ∧ t.parts[i]? = some tu ∧ SqT K H b2 [.int (tu.leaves : Int), .int (tu.depth : Int)])
        (fun i y H H' s4 ⟨b2, tu, e, ht, h⟩ => ⟨b2, tu, e, ht, s4.tup h⟩) (fun H' s4 => s4.tup hb) (hS' (by omega)) hD (fun _ => rfl) ?_ ?_
      · rintro i x H4 Q4 hi hx s4 q4
        obtain ⟨tu, ht, hTu⟩ := hus.get hx
        have du := depthL_le.mp (Nat.le_refl (depthL t.parts)) tu (List.mem_of_getElem? ht)
        have lu := leavesL_take t.parts i tu ht
        have lu2 := leavesL_le t.parts (i + 1)
        refine ⟨_, rfl, x, tu, n, rfl, TA.up s4 hTu, pw tu (List.mem_of_getElem? ht), by omega, by omega, fun b2 H5 s5 hb2 => q4 _ _ s5 ⟨b2, tu, rfl, ht, hb2⟩⟩
      · intro ys H4 s4 hL hyl hy
        have one : ∀ (H5 : Hp), Same H4 H5 → ∀ (g : T → Int) (j : Nat) (w : V), (∀ (b2 : Addr) (tu : T), SqT K H5 b2 [.int (tu.leaves : Int), .int (tu.depth : Int)] → SqT K H5 b2 [.int (tu.leaves : Int), .int (tu.depth : Int)]) → True := fun _ _ _ _ _ _ => trivial
        refine ⟨_, rfl, DD, rfl, ⟨_, SqL.of hL⟩, fun D2 hD2 => ?_⟩
        refine lc_map walk_list (fun i x => ys[i]? = some x) (fun i H x H' y => y) (fun i y _ => ∃ tu, t.parts[i]? = some tu ∧ y = .int (tu.leaves : Int)) (fun _ _ _ _ _ h => h) (fun H' s5 => SqL.of (s5 _ _ hL)) (hS' (by omega)) hD2 (fun _ => rfl) ?_ ?_
        · rintro i x H5 Q5 hi hx s5 q5
          obtain ⟨b2, tu, rfl, ht, h2⟩ := hy i x hx
          exact ⟨_, rfl, b2, _, _, _, rfl, rfl, s5.tup h2, at0, q5 _ _ (Same.refl _) ⟨tu, ht, rfl⟩⟩
        · intro zs H5 s5 hL5 hzl hz
          have ez : zs = (t.parts.map fun u => (u.leaves : Int)).map V.int := made_eq (by rw [List.length_map, List.length_map]; omega) fun i y e => by
            obtain ⟨tu, ht, rfl⟩ := hz i y e
            rw [List.map_map, List.getElem?_map, ht]; rfl
          refine ⟨D2, _, rfl, SqL.of (by rw [hL5, ez]), ?_⟩
          refine ⟨_, rfl, DD, rfl, ⟨_, SqL.of (s5 _ _ hL)⟩, fun D3 hD3 => ?_⟩
          refine lc_map walk_list (fun i x => ys[i]? = some x) (fun i H x H' y => y) (fun i y _ => ∃ tu, t.parts[i]? = some tu ∧ y = .int (tu.depth : Int)) (fun _ _ _ _ _ h => h) (fun H' s6 => SqL.of (s6 _ _ (s5 _ _ hL))) (hS' (by omega)) hD3 (fun _ => rfl) ?_ ?_
          · rintro i x H6 Q6 hi hx s6 q6
            obtain ⟨b2, tu, rfl, ht, h2⟩ := hy i x hx
            exact ⟨_, rfl, b2, _, _, _, rfl, rfl, s6.tup (s5.tup h2), at1, q6 _ _ (Same.refl _) ⟨tu, ht, rfl⟩⟩
          · intro ws H6 s6 hL6 hwl hwz
            have ew : ws = (t.parts.map fun u => (u.depth : Int)).map V.int := made_eq (by rw [List.length_map, List.length_map]; omega) fun i y e => by
              obtain ⟨tu, ht, rfl⟩ := hwz i y e
              rw [List.map_map, List.getElem?_map, ht]; rfl
            have hne := List.length_pos_iff.mpr (parts_ne hl hw)
            refine ⟨D3, _, rfl, SqL.of (by rw [hL6, ew]), by rw [List.length_map]; omega, fun m hm hmx => ?_⟩
            refine ⟨_, _, rfl, rfl, hS (by simp), fun b7 hb7 => q b7 _ ((((s03.trans s4).trans s5).trans s6).trans (same_new hb7 _)) ?_⟩
            have e : (1 : Int) + (depthL t.parts : Int) = (t.depth : Int) := by omega
            show SqT K (upd H6 b7 (.tup [V.int (List.sum _), V.int (1 + m)])) b7 _
            rw [sum_leaves, max_depth hm hmx, e, pl]
            exact SqT.of upd_same
theorem all_size_of (D : Df K mg "size_of" s_size_of ["node"]) (B : Bn mg) (Cis_leaf : Cal P w K mg base (1) "is_leaf" ["node"] (spIsLeaf K)) (Cparts_of : Cal P w K mg base (2) "parts_of" ["node"] (spPartsOf K)) : ∀ k : Nat, Cal P w K mg base (k+3) "size_of" ["node"] (spSizeOf K k)
  | 0 => (D.none (sp := spSizeOf K 0) fun vs H Q E h => by
      obtain ⟨v, t, n, _, _, _, _, hk, _⟩ := h
      have := depth_pos t
      omega).mono (by omega)
  | k + 1 => ok_size_of D B Cis_leaf Cparts_of (all_size_of D B Cis_leaf Cparts_of k)
end
end Sc

set_option maxHeartbeats 4000000
namespace Sc
open PySem PySem.Spec PyProof.Rows L2 TL
section
variable {P : Program} {w : World} {K : PySem.W.Frag} {mg : Str → Option Value} {base : Heap}
abbrev s_sign_of : Stmt := top 33
theorem sc_sign_of : FnScope ["node", "cube", "sign", "strong", "signs", "part"] ["node", "cube"] (defScope s_sign_of) := ⟨rfl, rfl, rfl, by decide +kernel, rfl, by decide +kernel, by decide +kernel⟩
theorem ok_sign_of {m : Nat} (D : Df K mg "sign_of" s_sign_of ["node", "cube"]) (B : Bn mg) (Cexchanged : Cal P w K mg base (1) "exchanged" ["text"] spExch) (Cis_leaf : Cal P w K mg base (1) "is_leaf" ["node"] (spIsLeaf K)) (Csign_of : Cal P w K mg base (m+2) "sign_of" ["node", "cube"] (spSignOf K m)) : Cal P w K mg base (m+1+2) "sign_of" ["node", "cube"] (spSignOf K (m + 1)) := by
  have S := sc_sign_of
  refine D.ok S (fun vs H Q E h => ?_) (fun f cdv A outer s H vs Q E hr h => ?_)
  · obtain ⟨v, t, c, rfl, _⟩ := h; rfl
  · obtain ⟨v, t, c, rfl, hT, hw, hc, hlv, hk, q⟩ := h
    refine ⟨_, (pss_cons (ps_if (pt_cmpR op_eq (pe_ix ix_tup (pv 0) pe_int (fun _ _ => rfl)) pe_str (nomark _)) (pss_one (ps_ret (pe_ix ix_str (pv 1) (pe_ix ix_tup (pv 0) pe_int (fun _ _ => rfl)) (fun _ _ => rfl)))) pss_nil)
    (pss_cons (ps_if (pt_cmpR op_eq (pe_ix ix_tup (pv 0) pe_int (fun _ _ => rfl)) pe_str (nomark _)) (pss_cons (ps_set (i := 2) S.nd rfl (Or.inl rfl) (pe_cal Csign_of hr rfl (pa_cons (pe_ix ix_tup (pv 0) pe_int (fun _ _ => rfl)) (pa_cons (pv 1) pa_nil))))
      (pss_one (ps_ret (pe_ifExp (pt_cmpR op_eq (pv 2) pe_str (nomark _)) (pv 2) (pe_cal Cexchanged hr rfl (pa_cons (pv 2) pa_nil)))))) pss_nil)
    (pss_cons (ps_if (pt_val (pe_cal Cis_leaf hr rfl (pa_cons (pv 0) pa_nil))) (pss_one (ps_ret (pe_ifExp (pt_cmpR op_eq (pe_ix ix_tup (pv 0) pe_int (fun _ _ => rfl)) pe_str (nomark _)) pe_str pe_str))) pss_nil)
    (pss_cons (ps_set (i := 3) S.nd rfl (Or.inl rfl) (pe_ifExp (pt_cmpR op_eq (pe_ix ix_tup (pv 0) pe_int (fun _ _ => rfl)) pe_str (nomark _)) pe_str pe_str))
    (pss_cons (ps_setLc (i := 4) (own := [(("part" : Str), 5)]) (g := gName 5) (tt := tYes) rfl S.nd rfl rfl (sw_true rfl rfl rfl (by decide +kernel)) (pi_tup (pe_ix ix_tup (pv 0) pe_int (fun _ _ => rfl))) (blkOk_by (own := [(("part" : Str), 5)]) (N := ["node", "cube", "sign", "strong", "signs", "part"]) (sc := defScope s_sign_of) (by decide +kernel)) (fun _ _ _ _ _ => pg_name (i := 5) S.nd rfl (Or.inl rfl)) (fun _ _ _ _ _ => pts_nil) (fun _ _ _ _ _ => (pe_cal Csign_of hr rfl (pa_cons (pv 5) (pa_cons (pv 1) pa_nil)))))
    (pss_cons (ps_if (pt_cmpR op_in_seq (pv 3) (pv 4) (by rfl)) (pss_one (ps_ret (pv 3))) pss_nil)
    (pss_cons (ps_if (pt_cmpR op_in_seq pe_str (pv 4) (by rfl)) (pss_one (ps_ret pe_str)) pss_nil)
    (pss_one (ps_ret (pe_cal Cexchanged hr rfl (pa_cons (pv 3) pa_nil))))))))))), ?_⟩
    have lc : (tx c).length ≤ sizeLine := hS (by rw [len_tx]; omega)
    cases t with
    | one =>
      obtain ⟨a, rfl, sq⟩ := TA.one hT
      refine ⟨_, rfl, a, _, _, _, rfl, rfl, sq, at0, rfl, _, rfl, ?_⟩
      refine ifb (hd_in .one) ?_
      refine ⟨_, rfl, a, _, _, _, rfl, rfl, sq, at0, rfl, _, rfl, ?_⟩
      refine ifb (hd_not .one) ?_
      refine ⟨_, rfl, _, .one, rfl, hT, fun H1 s1 => ⟨_, rfl, ?_⟩⟩
      refine ⟨_, rfl, a, _, _, _, rfl, rfl, s1.tup sq, at0, rfl, _, rfl, ?_⟩
      refine ifb (eq_self' _) ?_
      show Q (.str "1") H1
      rw [k1]
      exact q H1 s1
    | zero =>
      obtain ⟨a, rfl, sq⟩ := TA.zero hT
      refine ⟨_, rfl, a, _, _, _, rfl, rfl, sq, at0, rfl, _, rfl, ?_⟩
      refine ifb (hd_in .zero) ?_
      refine ⟨_, rfl, a, _, _, _, rfl, rfl, sq, at0, rfl, _, rfl, ?_⟩
      refine ifb (hd_not .zero) ?_
      refine ⟨_, rfl, _, .zero, rfl, hT, fun H1 s1 => ⟨_, rfl, ?_⟩⟩
      refine ⟨_, rfl, a, _, _, _, rfl, rfl, s1.tup sq, at0, rfl, _, rfl, ?_⟩
      refine ifb (c := false) (by decide +kernel) ?_
      show Q (.str "0") H1
      rw [k0]
      exact q H1 s1
    | inp i =>
      obtain ⟨a, rfl, sq⟩ := TA.inp hT
      refine ⟨_, rfl, a, _, _, _, rfl, rfl, sq, at0, rfl, _, rfl, ?_⟩
      refine ifb (hd_in (.inp i)) ?_
      exact ⟨_, rfl, _, rfl, a, _, _, _, rfl, rfl, sq, at1, _, _, _, rfl, rfl, lc, tx_get hw, q.at⟩
    | neg t =>
      obtain ⟨a, u, rfl, sq, hu⟩ := TA.neg hT
      refine ⟨_, rfl, a, _, _, _, rfl, rfl, sq, at0, rfl, _, rfl, ?_⟩
      refine ifb (hd_in (.neg t)) ?_
      refine ⟨_, rfl, a, _, _, _, rfl, rfl, sq, at0, rfl, _, rfl, ?_⟩
      refine ifb (hd_not (.neg t)) ?_
      refine ⟨_, rfl, a, _, _, _, rfl, rfl, sq, at1, _, rfl, u, t, c, rfl, hu, hw, hc, hlv, by rw [T.depth] at hk; omega, fun H1 s1 => ?_⟩
      refine ⟨_, rfl, rfl, _, rfl, ?_⟩
      refine ifb (eqM _) ?_
      have q1 : pur H Q (.str (tx [(sgn c t).map (!·)])) := q
      cases e : sgn c t with
      | none =>
        rw [e] at q1
        exact ⟨_, rfl, q1 H1 s1⟩
      | some b =>
        rw [e] at q1
        exact ⟨_, rfl, [b], rfl, by simp, fun H2 s2 => q1 H2 (s1.trans s2)⟩
    | gate k ps =>
      obtain ⟨a, b, us, rfl, sq, sb, hu⟩ := TA.gate hT
      refine ⟨_, rfl, a, _, _, _, rfl, rfl, sq, at0, rfl, _, rfl, ?_⟩
      refine ifb (hd_in (.gate k ps)) ?_
      refine ⟨_, rfl, a, _, _, _, rfl, rfl, sq, at0, rfl, _, rfl, ?_⟩
      refine ifb (hd_not (.gate k ps)) ?_
      refine ⟨_, rfl, _, .gate k ps, rfl, hT, fun H1 s1 => ⟨_, rfl, ?_⟩⟩
      have sq1 := s1.tup sq
      have sb1 := s1.tup sb
      have hu1 := TAs.up s1 hu
      have pw := (wfL_iff _ _).mp hw.2
      have ll := len_leaves ps hw.2
      have hlv' : leavesL ps ≤ 240 := hlv
      have ul := hu.len
      have hk' : depthL ps + 1 ≤ m + 1 := hk
      refine ⟨_, rfl, a, _, _, _, rfl, rfl, sq1, at0, rfl, _, rfl, ?_⟩
      refine ifb (gw_and k) ?_
      have turn : ∀ (σ : St) (i : Nat) (x : V) (H4 : Hp) (Q4 : VK), us[i]? = some x → Same H1 H4 → (∀ y H', Same H4 H' → (∃ tu, ps[i]? = some tu ∧ y = V.str (tx [sgn c tu])) → Q4 y H') → σ[5]? = some (some x) → σ[1]? = some (some (.str (tx c))) →
          tCall (spSignOf K m) [] E0 (tCons (tVar 5) (tCons (tVar 1) tNil)) σ H4 Q4 := by
        intro σ i x H4 Q4 hx s4 q4 e5 e1
        obtain ⟨tu, ht, hTu⟩ := hu1.get hx
        have du := depthL_le.mp (Nat.le_refl (depthL ps)) tu (List.mem_of_getElem? ht)
        have lu := leavesL_take ps i tu ht
        have lu2 := leavesL_le ps (i + 1)
        exact ⟨_, e5, _, e1, x, tu, c, rfl, TA.up s4 hTu, pw tu (List.mem_of_getElem? ht), hc, by omega, by omega, fun H5 s5 => q4 _ _ s5 ⟨tu, ht, rfl⟩⟩
      have eqs : ∀ (ys : List V) (H' : Hp), ys.length = us.length → (∀ (i : Nat) (y : V), ys[i]? = some y → ∃ tu, ps[i]? = some tu ∧ y = V.str (tx [sgn c tu])) → ys = (sgns c ps).map fun s => V.str (tx [s]) := by
        intro ys _ hl hy
        refine made_eq (by rw [List.length_map, sgns_map, List.length_map]; omega) fun i y e => ?_
        obtain ⟨tu, ht, rfl⟩ := hy i y e
        rw [sgns_map, List.map_map, List.getElem?_map, ht]; rfl
      have q1 : pur H Q (.str (tx [gsg k (sgns c ps)])) := q
      unfold gsg at q1
      cases k with
      | true =>
        refine ⟨_, rfl, a, _, _, _, rfl, rfl, sq1, at1, b, rfl, ⟨us, sb1⟩, fun DD hD => ?_⟩
        refine lc_map walk_tup (fun i x => us[i]? = some x) (fun i H x H' y => y) (fun i y H => ∃ tu, ps[i]? = some tu ∧ y = V.str (tx [sgn c tu])) (fun _ _ _ _ _ h => h) (fun H' s4 => s4.tup sb1) (hS' (by omega)) hD (fun _ => rfl)
          (fun i x H4 Q4 _ hx s4 q4 => turn _ i x H4 Q4 hx s4 q4 rfl rfl) ?_
        intro ys H4 s4 hL hyl hy
        have ey := eqs ys H4 hyl hy
        subst ey
        refine ⟨_, rfl, _, rfl, DD, _, rfl, .inl (SqL.of hL), rfl, flat_sg _, _, rfl, ?_⟩
        by_cases c1 : some false ∈ sgns c ps
        · refine ifb ((inV_0 _).trans (decide_eq_true c1)) ?_
          rw [if_pos (show some (!true) ∈ _ from c1)] at q1
          refine ⟨_, rfl, ?_⟩
          show Q (.str "0") H4
          rw [k0]
          exact q1 H4 (s1.trans s4)
        · refine ifb ((inV_0 _).trans (decide_eq_false c1)) ?_
          rw [if_neg (show ¬ some (!true) ∈ _ from c1)] at q1
          refine ⟨_, rfl, DD, _, rfl, .inl (SqL.of hL), rfl, flat_sg _, _, rfl, ?_⟩
          by_cases c2 : none ∈ sgns c ps
          · refine ifb ((inV_M _).trans (decide_eq_true c2)) ?_
            rw [if_pos c2] at q1
            show Q (.str "-") H4
            rw [kM]
            exact q1 H4 (s1.trans s4)
          · refine ifb ((inV_M _).trans (decide_eq_false c2)) ?_
            rw [if_neg c2] at q1
            exact ⟨_, rfl, [false], by rw [k0]; rfl, by simp, fun H5 s5 => q1 H5 ((s1.trans s4).trans s5)⟩
      | false =>
        refine ⟨_, rfl, a, _, _, _, rfl, rfl, sq1, at1, b, rfl, ⟨us, sb1⟩, fun DD hD => ?_⟩
        refine lc_map walk_tup (fun i x => us[i]? = some x) (fun i H x H' y => y) (fun i y H => ∃ tu, ps[i]? = some tu ∧ y = V.str (tx [sgn c tu])) (fun _ _ _ _ _ h => h) (fun H' s4 => s4.tup sb1) (hS' (by omega)) hD (fun _ => rfl)
          (fun i x H4 Q4 _ hx s4 q4 => turn _ i x H4 Q4 hx s4 q4 rfl rfl) ?_
        intro ys H4 s4 hL hyl hy
        have ey := eqs ys H4 hyl hy
        subst ey
        refine ⟨_, rfl, _, rfl, DD, _, rfl, .inl (SqL.of hL), rfl, flat_sg _, _, rfl, ?_⟩
        by_cases c1 : some true ∈ sgns c ps
        · refine ifb ((inV_1 _).trans (decide_eq_true c1)) ?_
          rw [if_pos (show some (!false) ∈ _ from c1)] at q1
          refine ⟨_, rfl, ?_⟩
          show Q (.str "1") H4
          rw [k1]
          exact q1 H4 (s1.trans s4)
        · refine ifb ((inV_1 _).trans (decide_eq_false c1)) ?_
          rw [if_neg (show ¬ some (!false) ∈ _ from c1)] at q1
          refine ⟨_, rfl, DD, _, rfl, .inl (SqL.of hL), rfl, flat_sg _, _, rfl, ?_⟩
          by_cases c2 : none ∈ sgns c ps
          · refine ifb ((inV_M _).trans (decide_eq_true c2)) ?_
            rw [if_pos c2] at q1
            show Q (.str "-") H4
            rw [kM]
            exact q1 H4 (s1.trans s4)
          · refine ifb ((inV_M _).trans (decide_eq_false c2)) ?_
            rw [if_neg c2] at q1
            exact ⟨_, rfl, [true], by rw [k1]; rfl, by simp, fun H5 s5 => q1 H5 ((s1.trans s4).trans s5)⟩
theorem all_sign_of (D : Df K mg "sign_of" s_sign_of ["node", "cube"]) (B : Bn mg) (Cexchanged : Cal P w K mg base (1) "exchanged" ["text"] spExch) (Cis_leaf : Cal P w K mg base (1) "is_leaf" ["node"] (spIsLeaf K)) : ∀ k : Nat, Cal P w K mg base (k+2) "sign_of" ["node", "cube"] (spSignOf K k)
  | 0 => (D.none (sp := spSignOf K 0) fun vs H Q E h => by
      obtain ⟨v, t, c, _, _, _, _, _, hk, _⟩ := h
      have := depth_pos t
      omega).mono (by omega)
  | k + 1 => ok_sign_of D B Cexchanged Cis_leaf (all_sign_of D B Cexchanged Cis_leaf k)
abbrev s_settled : Stmt := top 34
theorem sc_settled : FnScope ["cube", "tree", "size"] ["cube", "tree"] (defScope s_settled) := ⟨rfl, rfl, rfl, by decide +kernel, rfl, by decide +kernel, by decide +kernel⟩
theorem ok_settled (D : Df K mg "settled" s_settled ["cube", "tree"]) (B : Bn mg) (Csome_size : Cal P w K mg base (1) "some_size" ["thing"] spSomeSize) (Cis_cube : Cal P w K mg base (2) "is_cube" ["thing", "n"] spIsCube) (Ccheck_tree : Cal P w K mg base (12) "check_tree" ["tree", "n"] (spCheckTree K)) (Csign_of : Cal P w K mg base (10) "sign_of" ["node", "cube"] (spSignOf K 8)) : Cal P w K mg base (13) "settled" ["cube", "tree"] (spSettled K) := by
  have S := sc_settled
  refine D.ok S (fun vs H Q E h => ?_) (fun f cdv A outer s H vs Q E hr h => ?_)
  · obtain ⟨v, t, c, rfl, _⟩ := h; rfl
  · obtain ⟨v, t, c, rfl, hT, ok, c1, c4, q⟩ := h
    refine ⟨_, (pss_cons (ps_set (i := 2) S.nd rfl (Or.inl rfl) (pe_cal Csome_size hr rfl (pa_cons (pv 0) pa_nil)))
    (pss_cons (ps_if (PW.pt (pw_or (pt_cmpR op_eq (pv 2) pe_int (nomark _)) (pw_or1 (pt_not (pt_val (pe_cal Cis_cube hr rfl (pa_cons (pv 0) (pa_cons (pv 2) pa_nil)))))))) (pss_one ps_never) pss_nil)
    (pss_cons (ps_expr (pe_cal Ccheck_tree hr rfl (pa_cons (pv 1) (pa_cons (pv 2) pa_nil))))
    (pss_one (ps_ret (pe_cal Csign_of hr rfl (pa_cons (pv 1) (pa_cons (pv 0) pa_nil)))))))), ?_⟩
    refine ⟨_, rfl, c, rfl, c4, fun H1 s1 => ?_⟩
    refine ⟨_, rfl, rfl, _, rfl, ?_⟩
    refine ifb (eq_intF (by omega)) ?_
    refine ⟨_, rfl, _, rfl, c, rfl, by omega, fun H2 s2 => ⟨_, rfl, ?_⟩⟩
    have hT2 := TA.up (s1.trans s2) hT
    refine ⟨_, rfl, _, rfl, v, t, c.length, rfl, hT2, ok, fun H3 s3 => ?_⟩
    exact ⟨_, rfl, _, rfl, v, t, c, rfl, TA.up s3 hT2, ok.wf, c4, ok.lv, ok.dp, fun H4 s4 => q H4 (((s1.trans s2).trans s3).trans s4)⟩
abbrev s_leaf_word : Stmt := top 35
theorem sc_leaf_word : FnScope ["change", "node", "first", "last"] ["change", "node"] (defScope s_leaf_word) := ⟨rfl, rfl, rfl, by decide +kernel, rfl, by decide +kernel, by decide +kernel⟩
theorem ok_leaf_word (D : Df K mg "leaf_word" s_leaf_word ["change", "node"]) (B : Bn mg) (Csign_of : Cal P w K mg base (10) "sign_of" ["node", "cube"] (spSignOf K 8)) : Cal P w K mg base (11) "leaf_word" ["change", "node"] (spLeafWord K) := by
  have S := sc_leaf_word
  refine D.ok S (fun vs H Q E h => ?_) (fun f cdv A outer s H vs Q E hr h => ?_)
  · obtain ⟨a, la, lb, v, t, rfl, _⟩ := h; rfl
  · obtain ⟨a, la, lb, v, t, rfl, ch, hT, ok, q⟩ := h
    refine ⟨_, (pss_cons (ps_set (i := 2) S.nd rfl (Or.inl rfl) (pe_cal Csign_of hr rfl (pa_cons (pv 1) (pa_cons (pe_ix ix_tup (pv 0) pe_int (fun _ _ => rfl)) pa_nil))))
    (pss_cons (ps_set (i := 3) S.nd rfl (Or.inl rfl) (pe_cal Csign_of hr rfl (pa_cons (pv 1) (pa_cons (pe_ix ix_tup (pv 0) pe_int (fun _ _ => rfl)) pa_nil))))
    (pss_one (ps_ret (pe_ifExp (pt_cmpR op_eq (pv 2) (pv 3) (nomark _)) (pv 2) (pe_op op_add_str (pv 2) (pv 3))))))), ?_⟩
    have wb : t.wf lb.length := by rw [← ch.len]; exact ok.wf
    refine ⟨_, rfl, _, rfl, a, _, _, _, rfl, rfl, ch.sq, at0, v, t, la, rfl, hT, ok.wf, ch.four, ok.lv, ok.dp, fun H1 s1 => ?_⟩
    refine ⟨_, rfl, _, rfl, a, _, _, _, rfl, rfl, s1.tup ch.sq, at1, v, t, lb, rfl, TA.up s1 hT, wb, by rw [← ch.len]; exact ch.four, ok.lv, ok.dp, fun H2 s2 => ?_⟩
    have ea : sgn la t = some (bit la t) := sgn_bit ch.pa ok.wf
    have eb : sgn lb t = some (bit lb t) := sgn_bit ch.pb wb
    unfold leafW at q
    rw [ea, eb]
    refine ⟨_, rfl, _, rfl, rfl, _, rfl, ?_⟩
    by_cases c1 : bit la t = bit lb t
    · rw [if_pos c1] at q
      refine ifb ((dec_tx _ _).trans (decide_eq_true (by rw [c1]))) ?_
      exact ⟨_, rfl, q H2 (s1.trans s2)⟩
    · rw [if_neg c1] at q
      refine ifb ((dec_tx _ _).trans (decide_eq_false fun e => c1 (by injection e with e; injection e))) ?_
      refine ⟨_, rfl, _, rfl, _, _, rfl, rfl, hS (by rw [len_tx, len_tx]; simp), ?_⟩
      rw [tx_app]
      exact q H2 (s1.trans s2)
abbrev s_long_word : Stmt := top 36
theorem sc_long_word : FnScope ["change", "node", "words", "text", "word", "part"] ["change", "node"] (defScope s_long_word) := ⟨rfl, rfl, rfl, by decide +kernel, rfl, by decide +kernel, by decide +kernel⟩
theorem ok_long_word {m : Nat} (D : Df K mg "long_word" s_long_word ["change", "node"]) (B : Bn mg) (Cis_leaf : Cal P w K mg base (1) "is_leaf" ["node"] (spIsLeaf K)) (Cleaf_word : Cal P w K mg base (11) "leaf_word" ["change", "node"] (spLeafWord K)) (Cexchanged : Cal P w K mg base (1) "exchanged" ["text"] spExch) (Cand_text : Cal P w K mg base (3) "and_text" ["v", "w"] spAndText) (Cor_text : Cal P w K mg base (2) "or_text" ["v", "w"] spOrText) (Clong_word : Cal P w K mg base (m+12) "long_word" ["change", "node"] (spLongWord K m)) : Cal P w K mg base (m+1+12) "long_word" ["change", "node"] (spLongWord K (m + 1)) := by
  have S := sc_long_word
  refine D.ok S (fun vs H Q E h => ?_) (fun f cdv A outer s H vs Q E hr h => ?_)
  · obtain ⟨a, la, lb, v, t, rfl, _⟩ := h; rfl
  · obtain ⟨a, la, lb, v, t, rfl, ch, hT, ok, hk, q⟩ := h
    refine ⟨_, (pss_cons (ps_if (pt_val (pe_cal Cis_leaf hr rfl (pa_cons (pv 1) pa_nil))) (pss_one (ps_ret (pe_cal Cleaf_word hr rfl (pa_cons (pv 0) (pa_cons (pv 1) pa_nil))))) pss_nil)
    (pss_cons (ps_if (pt_cmpR op_eq (pe_ix ix_tup (pv 1) pe_int (fun _ _ => rfl)) pe_str (nomark _)) (pss_one (ps_ret (pe_cal Cexchanged hr rfl (pa_cons (pe_cal Clong_word hr rfl (pa_cons (pv 0) (pa_cons (pe_ix ix_tup (pv 1) pe_int (fun _ _ => rfl)) pa_nil))) pa_nil)))) pss_nil)
    (pss_cons (ps_setLc (i := 2) (own := [(("part" : Str), 5)]) (g := gName 5) (tt := tYes) rfl S.nd rfl rfl (sw_true rfl rfl rfl (by decide +kernel)) (pi_tup (pe_ix ix_tup (pv 1) pe_int (fun _ _ => rfl))) (blkOk_by (own := [(("part" : Str), 5)]) (N := ["change", "node", "words", "text", "word", "part"]) (sc := defScope s_long_word) (by decide +kernel)) (fun _ _ _ _ _ => pg_name (i := 5) S.nd rfl (Or.inl rfl)) (fun _ _ _ _ _ => pts_nil) (fun _ _ _ _ _ => (pe_cal Clong_word hr rfl (pa_cons (pv 0) (pa_cons (pv 5) pa_nil)))))
    (pss_cons (ps_set (i := 3) S.nd rfl (Or.inl rfl) (pe_ix ix_list (pv 2) pe_int (fun _ _ => rfl)))
    (pss_cons (ps_for PassesOwn.never rfl (pi_list (pe_slice sl_list (pv 2) (po_some pe_int) po_none)) (pg_name (i := 4) S.nd rfl (Or.inl rfl))
      (pss_one (ps_set (i := 3) S.nd rfl (Or.inl rfl) (pe_ifExp (pt_cmpR op_eq (pe_ix ix_tup (pv 1) pe_int (fun _ _ => rfl)) pe_str (nomark _)) (pe_cal Cand_text hr rfl (pa_cons (pv 3) (pa_cons (pv 4) pa_nil))) (pe_cal Cor_text hr rfl (pa_cons (pv 3) (pa_cons (pv 4) pa_nil)))))))
    (pss_one (ps_ret (pv 3)))))))), ?_⟩
    refine ⟨_, rfl, v, t, rfl, hT, fun H1 s1 => ⟨_, rfl, ?_⟩⟩
    have hT1 := TA.up s1 hT
    have ch1 := ch.up s1
    have wl := wrd_len la lb t ok.wf
    have olv := ok.lv
    cases t with
    | one => exact ⟨_, rfl, _, rfl, a, la, lb, v, _, rfl, ch1, hT1, ok, fun H2 s2 => q H2 (s1.trans s2)⟩
    | zero => exact ⟨_, rfl, _, rfl, a, la, lb, v, _, rfl, ch1, hT1, ok, fun H2 s2 => q H2 (s1.trans s2)⟩
    | inp i => exact ⟨_, rfl, _, rfl, a, la, lb, v, _, rfl, ch1, hT1, ok, fun H2 s2 => q H2 (s1.trans s2)⟩
    | neg t =>
      obtain ⟨b, u, rfl, sq, hu⟩ := TA.neg hT1
      have ok' : Ok la.length t := ⟨ok.wf, by have := ok.dp; rw [T.depth] at this; omega, ok.lv⟩
      have wl' := wrd_len la lb t ok'.wf
      have olv' := ok'.lv
      refine ⟨_, rfl, b, _, _, _, rfl, rfl, sq, at0, rfl, _, rfl, ?_⟩
      refine ifb (hd_not (.neg t)) ?_
      refine ⟨_, rfl, _, rfl, b, _, _, _, rfl, rfl, sq, at1, a, la, lb, u, t, rfl, ch1, hu, ok', by rw [T.depth] at hk; omega, fun H2 s2 => ?_⟩
      exact ⟨wrd la lb t, rfl, by omega, fun H3 s3 => q H3 ((s1.trans s2).trans s3)⟩
    | gate k ps =>
      obtain ⟨b, d, us, rfl, sq, sd, hu⟩ := TA.gate hT1
      refine ⟨_, rfl, b, _, _, _, rfl, rfl, sq, at0, rfl, _, rfl, ?_⟩
      refine ifb (hd_not (.gate k ps)) ?_
      have pw := (wfL_iff _ _).mp ok.wf.2
      have ll := len_leaves ps ok.wf.2
      have hlv' : leavesL ps ≤ 240 := ok.lv
      have ul := hu.len
      have hk' : depthL ps + 1 ≤ m + 1 := hk
      have hdp : depthL ps + 1 ≤ 8 := ok.dp
      refine ⟨_, rfl, b, _, _, _, rfl, rfl, sq, at1, d, rfl, ⟨us, sd⟩, fun DD hD => ?_⟩
      refine lc_map walk_tup (fun i x => us[i]? = some x) (fun i H x H' y => y) (fun i y H => ∃ tu, ps[i]? = some tu ∧ y = V.str (wd (wrd la lb tu))) (fun _ _ _ _ _ h => h) (fun H' s4 => s4.tup sd) (hS' (by omega)) hD (fun _ => rfl) ?_ ?_
      · rintro i x H4 Q4 hi hx s4 q4
        obtain ⟨tu, ht, hTu⟩ := hu.get hx
        have du := depthL_le.mp (Nat.le_refl (depthL ps)) tu (List.mem_of_getElem? ht)
        have lu := leavesL_take ps i tu ht
        have lu2 := leavesL_le ps (i + 1)
        exact ⟨_, rfl, _, rfl, a, la, lb, x, tu, rfl, ch1.up s4, TA.up s4 hTu, ⟨pw tu (List.mem_of_getElem? ht), by omega, by omega⟩, by omega, fun H5 s5 => q4 _ _ s5 ⟨tu, ht, rfl⟩⟩
      · intro ys H4 s4 hL hyl hy
        have ey : ys = (wrds la lb ps).map fun x => V.str (wd x) := by
          refine made_eq (by rw [List.length_map, wrds_map, List.length_map]; omega) fun i y e => ?_
          obtain ⟨tu, ht, rfl⟩ := hy i y e
          rw [wrds_map, List.map_map, List.getElem?_map, ht]; rfl
        subst ey
        cases ps with
        | nil => exact absurd rfl ok.wf.1
        | cons t0 r =>
          have q1 : pur H Q (.str (wd ((wrds la lb r).foldl (gateW k) (wrd la lb t0)))) := q
          refine ⟨_, rfl, DD, _, 0, V.str (wd (wrd la lb t0)), rfl, rfl, SqL.of hL, at0, ?_⟩
          refine ⟨_, rfl, 1, rfl, DD, _, rfl, SqL.of hL, fun p hp => ?_⟩
          have s5 := same_new hp (.lst (cutV ((wrds la lb (t0 :: r)).map fun x => V.str (wd x)) (some 1) none))
          rw [cut_tail]
          rw [cut_tail] at s5
          have hp1 : (upd H4 p (.lst (((wrds la lb (t0 :: r)).map fun x => V.str (wd x)).drop 1))) p = some (.lst ((wrds la lb r).map fun x => V.str (wd x))) := upd_same
          have wlen : ((wrds la lb r).map fun x => V.str (wd x)).length = (wrds la lb r).length := List.length_map _
          refine ⟨p, rfl, ⟨_, SqL.of hp1⟩, for_it (walk_list (xs := (wrds la lb r).map fun x => V.str (wd x))) (fun i σ H' => ∃ y4, σ = [some (.ref a), some (.ref b), some (.ref DD), some (.str (wd (((wrds la lb r).take i).foldl (gateW k) (wrd la lb t0)))), y4, none] ∧ Same (upd H4 p (.lst (((wrds la lb (t0 :: r)).map fun x => V.str (wd x)).drop 1))) H') ⟨none, rfl, Same.refl _⟩ (fun i σ H' _ ⟨_, _, s6⟩ => SqL.of (s6 _ _ hp1)) ?_ ?_⟩
          · rintro i x σ H6 H7 hi ⟨y4, rfl, s6⟩ ⟨rfl, hx⟩
            rw [List.getElem?_map] at hx
            cases ew : (wrds la lb r)[i]? with
            | none => rw [ew] at hx; cases hx
            | some wi =>
              rw [ew] at hx
              obtain rfl := (Option.some.inj hx)
              have hlen := foldl_take_len2 la lb k t0 r ok.wf i wi ew
              have hw1 := (foldl_take_len la lb k t0 r ok.wf i).1
              have hw2 := wrds_isW la lb r ok.wf.2.2 wi (List.mem_of_getElem? ew)
              have sq7 := s6.tup (s5.tup (s4.tup sq))
              have etake : ((wrds la lb r).take (i + 1)).foldl (gateW k) (wrd la lb t0) = gateW k (((wrds la lb r).take i).foldl (gateW k) (wrd la lb t0)) wi := by
                rw [List.take_add_one, ew, List.foldl_append]; rfl
              refine ⟨_, rfl, b, _, _, _, rfl, rfl, sq7, at0, rfl, _, rfl, ?_⟩
              refine ifb (gw_and k) ?_
              cases k with
              | true => exact ⟨_, rfl, _, rfl, _, wi, rfl, hw1, hw2, by omega, fun H8 s8 => ⟨_, by rw [etake]; rfl, s6.trans s8⟩⟩
              | false => exact ⟨_, rfl, _, rfl, _, wi, rfl, hw1, hw2, by omega, fun H8 s8 => ⟨_, by rw [etake]; rfl, s6.trans s8⟩⟩
          · rintro σ H6 ⟨y4, rfl, s6⟩
            rw [wlen, List.take_length]
            exact ⟨_, rfl, q1 H6 (((s1.trans s4).trans s5).trans s6)⟩
theorem all_long_word (D : Df K mg "long_word" s_long_word ["change", "node"]) (B : Bn mg) (Cis_leaf : Cal P w K mg base (1) "is_leaf" ["node"] (spIsLeaf K)) (Cleaf_word : Cal P w K mg base (11) "leaf_word" ["change", "node"] (spLeafWord K)) (Cexchanged : Cal P w K mg base (1) "exchanged" ["text"] spExch) (Cand_text : Cal P w K mg base (3) "and_text" ["v", "w"] spAndText) (Cor_text : Cal P w K mg base (2) "or_text" ["v", "w"] spOrText) : ∀ k : Nat, Cal P w K mg base (k+12) "long_word" ["change", "node"] (spLongWord K k)
  | 0 => (D.none (sp := spLongWord K 0) fun vs H Q E h => by
      obtain ⟨a, la, lb, v, t, _, _, _, _, hk, _⟩ := h
      have := depth_pos t
      omega).mono (by omega)
  | k + 1 => ok_long_word D B Cis_leaf Cleaf_word Cexchanged Cand_text Cor_text (all_long_word D B Cis_leaf Cleaf_word Cexchanged Cand_text Cor_text k)
abbrev s_longest_of : Stmt := top 37
theorem sc_longest_of : FnScope ["change", "tree"] ["change", "tree"] (defScope s_longest_of) := ⟨rfl, rfl, rfl, by decide +kernel, rfl, by decide +kernel, by decide +kernel⟩
theorem ok_longest_of (D : Df K mg "longest_of" s_longest_of ["change", "tree"]) (B : Bn mg) (Ccheck_tree : Cal P w K mg base (12) "check_tree" ["tree", "n"] (spCheckTree K)) (Csize_of_change : Cal P w K mg base (4) "size_of_change" ["change"] (spSizeOfChange K)) (Clong_word : Cal P w K mg base (20) "long_word" ["change", "node"] (spLongWord K 8)) : Cal P w K mg base (21) "longest_of" ["change", "tree"] (spLongestOf K) := by
  have S := sc_longest_of
  refine D.ok S (fun vs H Q E h => ?_) (fun f cdv A outer s H vs Q E hr h => ?_)
  · obtain ⟨a, la, lb, v, t, rfl, _⟩ := h; rfl
  · obtain ⟨a, la, lb, v, t, rfl, ch, hT, ok, q⟩ := h
    refine ⟨_, (pss_cons (ps_expr (pe_cal Ccheck_tree hr rfl (pa_cons (pv 1) (pa_cons (pe_cal Csize_of_change hr rfl (pa_cons (pv 0) pa_nil)) pa_nil))))
    (pss_one (ps_ret (pe_cal Clong_word hr rfl (pa_cons (pv 0) (pa_cons (pv 1) pa_nil)))))), ?_⟩
    refine ⟨_, rfl, _, rfl, a, la, lb, rfl, ch, fun H1 s1 => ?_⟩
    refine ⟨v, t, la.length, rfl, TA.up s1 hT, ok, fun H2 s2 => ?_⟩
    exact ⟨_, rfl, _, rfl, a, la, lb, v, t, rfl, (ch.up s1).up s2, TA.up s2 (TA.up s1 hT), ok, ok.dp, fun H3 s3 => q H3 ((s1.trans s2).trans s3)⟩
end
end Sc

set_option maxHeartbeats 4000000
namespace Sc
open PySem PySem.Spec PyProof.Rows L2 TL
section
variable {P : Program} {w : World} {K : PySem.W.Frag} {mg : Str → Option Value} {base : Heap}
abbrev s_node_at : Stmt := top 39
theorem sc_node_at : FnScope ["tree", "path", "node", "at", "parts"] ["tree", "path"] (defScope s_node_at) := ⟨rfl, rfl, rfl, by decide +kernel, rfl, by decide +kernel, by decide +kernel⟩
theorem ok_node_at (D : Df K mg "node_at" s_node_at ["tree", "path"]) (B : Bn mg) (Cparts_of : Cal P w K mg base (2) "parts_of" ["node"] (spPartsOf K)) : Cal P w K mg base (3) "node_at" ["tree", "path"] (spNodeAt K) := by
  have S := sc_node_at
  refine D.ok S (fun vs H Q E h => ?_) (fun f cdv A outer s H vs Q E hr h => ?_)
  · obtain ⟨v, t, u, a, p, rfl, _⟩ := h; rfl
  · obtain ⟨v, t, u, a, p, rfl, hT, hp, hat, q⟩ := h
    refine ⟨_, (pss_cons (ps_set (i := 2) S.nd rfl (Or.inl rfl) (pv 0))
    (pss_cons (ps_for PassesOwn.never rfl (pi_tup (pv 1)) (pg_name (i := 3) S.nd rfl (Or.inl rfl))
      (pss_cons (ps_set (i := 4) S.nd rfl (Or.inl rfl) (pe_cal Cparts_of hr rfl (pa_cons (pv 2) pa_nil)))
      (pss_cons (ps_if (pt_cmpR op_ge (pv 3) (pe_callB call_len_seq (by rfl) B.len_ PySem.boot_len (pa_cons (pv 4) pa_nil)) (nomark _)) (pss_one (ps_ret pe_non)) pss_nil)
      (pss_one (ps_set (i := 2) S.nd rfl (Or.inl rfl) (pe_ix ix_tup (pv 4) (pv 3) (fun _ _ => rfl)))))))
    (pss_one (ps_ret (pv 2))))), ?_⟩
    have hl : (vI p).length = p.length := List.length_map _
    refine ⟨_, rfl, _, rfl, a, rfl, ⟨_, hp⟩, for_it walk_tup (fun i σ H' => ∃ vi ti y3 y4, σ = [some v, some (.ref a), some vi, y3, y4] ∧ Same H H' ∧ TA K H' vi ti ∧ T.at (p.drop i) ti = some u) ⟨v, t, none, none, rfl, Same.refl H, hT, hat⟩ (fun i σ H' _ ⟨_, _, _, _, _, s1, _⟩ => s1.tup hp) ?_ ?_⟩
    · rintro i x σ H1 H2 hi ⟨vi, ti, y3, y4, rfl, s1, hTi, hai⟩ ⟨rfl, hx⟩
      rw [hl] at hi
      have hx' := vI_at (List.getElem?_eq_getElem hi)
      rw [hx'] at hx
      obtain rfl := Option.some.inj hx
      rw [List.drop_eq_getElem_cons hi] at hai
      obtain ⟨si, g1, g2⟩ := at_cons hai
      refine ⟨_, rfl, vi, ti, rfl, hTi, fun b H3 us s3 hb hus => ?_⟩
      obtain ⟨ui, e1, hTu⟩ := hus.get' g1
      have hlt := (List.getElem?_eq_some_iff.mp e1).1
      refine ⟨_, rfl, _, rfl, b, us, rfl, .inr hb, _, _, rfl, rfl, _, rfl, ?_⟩
      refine ifb (decide_eq_false (by omega)) ?_
      exact ⟨_, rfl, _, rfl, b, us, _, ui, rfl, rfl, hb, atI_nat e1, ui, si, _, _, rfl, s1.trans s3, hTu, g2⟩
    · rintro σ H1 ⟨vi, ti, y3, y4, rfl, s1, hTi, hai⟩
      rw [hl, List.drop_length] at hai
      obtain rfl : ti = u := Option.some.inj hai
      exact ⟨_, rfl, q vi H1 s1 hTi⟩
abbrev s_replaced : Stmt := top 40
theorem sc_replaced : FnScope ["tree", "path", "fresh", "parts"] ["tree", "path", "fresh"] (defScope s_replaced) := ⟨rfl, rfl, rfl, by decide +kernel, rfl, by decide +kernel, by decide +kernel⟩
theorem ok_replaced {m : Nat} (D : Df K mg "replaced" s_replaced ["tree", "path", "fresh"]) (B : Bn mg) (Creplaced : Cal P w K mg base (m+1) "replaced" ["tree", "path", "fresh"] (spReplaced K m)) : Cal P w K mg base (m+1+1) "replaced" ["tree", "path", "fresh"] (spReplaced K (m + 1)) := by
  have S := sc_replaced
  refine D.ok S (fun vs H Q E h => ?_) (fun f cdv A outer s H vs Q E hr h => ?_)
  · obtain ⟨v, f, t, u, g, a, p, rfl, _⟩ := h; rfl
  · obtain ⟨v, f, t, u, g, a, p, rfl, hT, hp, hat, hg, hk, q⟩ := h
    refine ⟨_, (pss_cons (ps_if (pt_cmpR op_eq (pe_callB call_len_seq (by rfl) B.len_ PySem.boot_len (pa_cons (pv 1) pa_nil)) pe_int (nomark _)) (pss_one (ps_ret (pv 2))) pss_nil)
    (pss_cons (ps_if (pt_cmpR op_eq (pe_ix ix_tup (pv 0) pe_int (fun _ _ => rfl)) pe_str (nomark _)) (pss_one (ps_ret (pe_tup (pa_cons pe_str (pa_cons (pe_cal Creplaced hr rfl (pa_cons (pe_ix ix_tup (pv 0) pe_int (fun _ _ => rfl)) (pa_cons (pe_slice sl_tupU (pv 1) (po_some pe_int) po_none) (pa_cons (pv 2) pa_nil)))) pa_nil))))) pss_nil)
    (pss_cons (ps_set (i := 3) S.nd rfl (Or.inl rfl) (pe_callTy call_list_of (by rfl) B.list_ (by decide +kernel) (pa_cons (pe_ix ix_tup (pv 0) pe_int (fun _ _ => rfl)) pa_nil)))
    (pss_cons (ps_asg (pe_cal Creplaced hr rfl (pa_cons (pe_ix ix_list (pv 3) (pe_ix ix_tup (pv 1) pe_int (fun _ _ => rfl)) (fun _ _ => rfl)) (pa_cons (pe_slice sl_tupU (pv 1) (po_some pe_int) po_none) (pa_cons (pv 2) pa_nil)))) (pg_sub (pv 3) (pe_ix ix_tup (pv 1) pe_int (fun _ _ => rfl)) set_list))
    (pss_one (ps_ret (pe_tup (pa_cons (pe_ix ix_tup (pv 0) pe_int (fun _ _ => rfl)) (pa_cons (pe_callTy call_tuple_of (by rfl) B.tuple_ (by decide +kernel) (pa_cons (pv 3) pa_nil)) pa_nil))))))))), ?_⟩
    refine ⟨_, rfl, a, _, rfl, .inr hp, rfl, _, rfl, ?_⟩
    cases p with
    | nil =>
      refine ifb (eq_int' rfl) ?_
      exact ⟨_, rfl, q f H (Same.refl H) hg⟩
    | cons k p =>
      refine ifb (eq_intF (by simp; omega)) ?_
      rw [List.length_cons] at hk
      cases t with
      | neg t =>
        obtain ⟨k0', hat'⟩ := at_neg hat
        obtain ⟨b, x, rfl, sq, hx⟩ := TA.neg hT
        refine ⟨_, rfl, b, _, _, _, rfl, rfl, sq, at0, rfl, _, rfl, ?_⟩
        refine ifb (hd_not (.neg t)) ?_
        refine ⟨_, rfl, b, _, _, _, rfl, rfl, sq, at1, _, rfl, 1, rfl, a, _, rfl, hp, fun p2 H2 s2 hp2 => ?_⟩
        rw [cut_tail] at hp2
        refine ⟨_, rfl, x, f, t, u, g, p2, p, rfl, TA.up s2 hx, hp2, hat', TA.up s2 hg, by omega, fun y H3 s3 hy => ⟨hS (by simp), fun p3 hp3 => ?_⟩⟩
        have s4 := same_new hp3 (.tup [.str "not", y])
        exact q _ _ ((s2.trans s3).trans s4) (TA.mkNeg (SqT.of upd_same) (TA.up s4 hy))
      | gate w ps =>
        obtain ⟨t', g1, g2⟩ := at_gate hat
        obtain ⟨b, d, us, rfl, sq, sd, hu⟩ := TA.gate hT
        obtain ⟨x, e1, hx⟩ := hu.get' g1
        have hlt := (List.getElem?_eq_some_iff.mp e1).1
        have er : T.repl (k :: p) (.gate w ps) g = .gate w (ps.set k (T.repl p t' g)) := repl_gate g1 g
        rw [er] at q
        refine ⟨_, rfl, b, _, _, _, rfl, rfl, sq, at0, rfl, _, rfl, ?_⟩
        refine ifb (hd_not (.gate w ps)) ?_
        refine ⟨_, rfl, b, _, _, _, rfl, rfl, sq, at1, d, us, rfl, .inr sd, fun l hl => ?_⟩
        have s1 := same_new hl (.lst us)
        refine ⟨_, rfl, _, rfl, a, _, _, _, rfl, rfl, s1.tup hp, at0, l, us, _, x, rfl, rfl, SqL.of upd_same, atI_nat e1, ?_⟩
        refine ⟨_, rfl, 1, rfl, a, _, rfl, s1.tup hp, fun p2 H2 s2 hp2 => ?_⟩
        rw [cut_tail] at hp2
        have s12 := s1.trans s2
        refine ⟨_, rfl, x, f, t', u, g, p2, p, rfl, TA.up s12 hx, hp2, g2, TA.up s12 hg, by omega, fun y H3 s3 hy => ?_⟩
        have s13 := s12.trans s3
        have hl3 : H3 l = some (.lst us) := (s2.trans s3) _ _ upd_same
        refine ⟨_, rfl, _, rfl, a, _, _, _, rfl, rfl, s13.tup hp, at0, l, us, _, k, rfl, rfl, hl3, ixN_nat hlt, ?_⟩
        have sT : SameT H3 (upd H3 l (.lst (us.set k y))) := SameT.upd hl3
        have s14 : Same H (upd H3 l (.lst (us.set k y))) := s13.upd_out hl _
        refine ⟨_, rfl, b, _, _, _, rfl, rfl, s14.tup sq, at0, _, rfl, l, us.set k y, rfl, .inl ⟨SqL.of upd_same, fun l2 hl2 => ⟨hS (by simp), fun p4 hp4 => ?_⟩⟩⟩
        have s5 := same_new hl2 (.tup (us.set k y))
        have s6 := same_new hp4 (.tup [.str (gw w), .ref l2])
        refine q _ _ ((s14.trans s5).trans s6) (TA.mkGate (SqT.of upd_same) (s6.tup (SqT.of upd_same)) ?_)
        exact TAs.set (TAs.up s6 (TAs.up s5 (TAs.up s14 hu))) (TA.up s6 (TA.up s5 (TA.fix sT _ _ hy)))
      | one => cases hat
      | zero => cases hat
      | inp i => cases hat
theorem all_replaced (D : Df K mg "replaced" s_replaced ["tree", "path", "fresh"]) (B : Bn mg) : ∀ k : Nat, Cal P w K mg base (k+1) "replaced" ["tree", "path", "fresh"] (spReplaced K k)
  | 0 => (D.none (sp := spReplaced K 0) fun vs H Q E h => by
      obtain ⟨v, f, t, u, g, a, p, _, _, _, _, _, hk, _⟩ := h
      omega).mono (by omega)
  | k + 1 => ok_replaced D B (all_replaced D B k)
abbrev s_can_be_shared : Stmt := top 41
theorem sc_can_be_shared : FnScope ["node", "part"] ["node"] (defScope s_can_be_shared) := ⟨rfl, rfl, rfl, by decide +kernel, rfl, by decide +kernel, by decide +kernel⟩
theorem ok_can_be_shared (D : Df K mg "can_be_shared" s_can_be_shared ["node"]) (B : Bn mg) : Cal P w K mg base (1) "can_be_shared" ["node"] (spCanShared K) := by
  have S := sc_can_be_shared
  refine D.ok S (fun vs H Q E h => ?_) (fun f cdv A outer s H vs Q E hr h => ?_)
  · obtain ⟨v, x, ys, rfl, _⟩ := h; rfl
  · obtain ⟨v, x, ys, rfl, hT, hne, hd, q⟩ := h
    refine ⟨_, (pss_cons (ps_if (PW.pt (pw_or (pt_cmpR op_isN (pv 0) pe_non (nomark _)) (pw_or1 (pt_cmpR op_ne (pe_ix ix_tup (pv 0) pe_int (fun _ _ => rfl)) pe_str (nomark _))))) (pss_one (ps_ret pe_bl)) pss_nil)
    (pss_cons (ps_for PassesOwn.never rfl (pi_tup (pe_ix ix_tup (pv 0) pe_int (fun _ _ => rfl))) (pg_name (i := 1) S.nd rfl (Or.inl rfl))
      (pss_one (ps_if (PW.pt (pw_or (pt_cmpR op_ne (pe_ix ix_tup (pv 1) pe_int (fun _ _ => rfl)) pe_str (nomark _)) (pw_or (pt_cmpR op_ne (pe_callB call_len_seq (by rfl) B.len_ PySem.boot_len (pa_cons (pe_ix ix_tup (pv 1) pe_int (fun _ _ => rfl)) pa_nil)) pe_int (nomark _)) (pw_or1 (pt_cmpR (op_neD hr.units) (pe_ix ix_tup (pe_ix ix_tup (pv 1) pe_int (fun _ _ => rfl)) pe_int (fun _ _ => rfl)) (pe_ix ix_tup (pe_ix ix_tup (pe_ix ix_tup (pe_ix ix_tup (pv 0) pe_int (fun _ _ => rfl)) pe_int (fun _ _ => rfl)) pe_int (fun _ _ => rfl)) pe_int (fun _ _ => rfl)) (nomark _)))))) (pss_one (ps_ret pe_bl)) pss_nil)))
    (pss_one (ps_ret pe_bl)))), ?_⟩
    obtain ⟨a, b, us, rfl, sq, sb, hu⟩ := TA.gate hT
    cases ys with
    | nil => exact absurd rfl hne
    | cons y0 r =>
      obtain ⟨u0, e0, hu0⟩ := hu.get' (i := 0) rfl
      obtain ⟨a0, b0, us0, rfl, sq0, sb0, hus0⟩ := TA.gate hu0
      cases hus0 with
      | @cons vx0 vs0 _ _ hx0 hr0 =>
      refine ⟨_, rfl, rfl, _, rfl, ?_⟩
      refine ifb (ref_non a) ?_
      refine ⟨_, rfl, a, _, _, _, rfl, rfl, sq, at0, rfl, _, rfl, ?_⟩
      refine ifb (by rw [gw_or]) ?_
      refine ⟨_, rfl, a, _, _, _, rfl, rfl, sq, at1, b, rfl, ⟨us, sb⟩, for_it walk_tup (fun i σ H' => ∃ y1, σ = [some (.ref a), y1] ∧ Same H H') ⟨none, rfl, Same.refl H⟩ (fun i σ H' _ ⟨_, _, s1⟩ => s1.tup sb) ?_ ?_⟩
      · rintro i z σ H1 H2 hi ⟨y1, rfl, s1⟩ ⟨rfl, hz⟩
        obtain ⟨ti, ht, hTi⟩ := hu.get hz
        obtain ⟨yi, _, rfl⟩ := List.mem_map.mp (List.mem_of_getElem? ht)
        obtain ⟨ai, bi, usi, rfl, sqi, sbi, husi⟩ := TA.gate (TA.up s1 hTi)
        have li := husi.len
        cases husi with
        | @cons vxi vsi _ _ hxi hri =>
        refine ⟨_, rfl, ai, _, _, _, rfl, rfl, sqi, at0, rfl, _, rfl, ?_⟩
        refine ifb (by rw [gw_and]) ?_
        refine ⟨_, rfl, ai, _, _, _, rfl, rfl, sqi, at1, bi, _, rfl, .inr sbi, rfl, _, rfl, ?_⟩
        refine ifb (ne_int (by rw [li]; rfl)) ?_
        refine ⟨_, rfl, ai, _, _, _, rfl, rfl, sqi, at1, bi, _, _, _, rfl, rfl, sbi, at0, ?_⟩
        refine ⟨_, rfl, a, _, _, _, rfl, rfl, s1.tup sq, at1, b, _, _, _, rfl, rfl, s1.tup sb, atI_nat (j := 0) e0, a0, _, _, _, rfl, rfl, s1.tup sq0, at1, b0, _, _, _, rfl, rfl, s1.tup sb0, at0, ?_⟩
        refine ⟨x.enc, x.enc, hxi, TA.up s1 hx0, enc_shaped hd, enc_shaped hd, _, rfl, ?_⟩
        refine ifb (by rw [enc_eqv]) ?_
        exact ⟨_, rfl, s1⟩
      · rintro σ H1 ⟨y1, rfl, s1⟩
        exact q H1 s1
abbrev s_can_be_spread : Stmt := top 43
theorem sc_can_be_spread : FnScope ["node"] ["node"] (defScope s_can_be_spread) := ⟨rfl, rfl, rfl, by decide +kernel, rfl, by decide +kernel, by decide +kernel⟩
theorem ok_can_be_spread (D : Df K mg "can_be_spread" s_can_be_spread ["node"]) (B : Bn mg) : Cal P w K mg base (1) "can_be_spread" ["node"] (spCanSpread K) := by
  have S := sc_can_be_spread
  refine D.ok S (fun vs H Q E h => ?_) (fun f cdv A outer s H vs Q E hr h => ?_)
  · obtain ⟨v, x, ys, rfl, _⟩ := h; rfl
  · obtain ⟨v, x, ys, rfl, hT, q⟩ := h
    refine ⟨_, (pss_cons (ps_if (PW.pt (pw_or (pt_cmpR op_isN (pv 0) pe_non (nomark _)) (pw_or (pt_cmpR op_ne (pe_ix ix_tup (pv 0) pe_int (fun _ _ => rfl)) pe_str (nomark _)) (pw_or1 (pt_cmpR op_ne (pe_callB call_len_seq (by rfl) B.len_ PySem.boot_len (pa_cons (pe_ix ix_tup (pv 0) pe_int (fun _ _ => rfl)) pa_nil)) pe_int (nomark _)))))) (pss_one (ps_ret pe_bl)) pss_nil)
    (pss_one (ps_ret (pe_cmpR op_eq (pe_ix ix_tup (pe_ix ix_tup (pe_ix ix_tup (pv 0) pe_int (fun _ _ => rfl)) pe_int (fun _ _ => rfl)) pe_int (fun _ _ => rfl)) pe_str (nomark _))))), ?_⟩
    obtain ⟨a, b, us, rfl, sq, sb, hu⟩ := TA.gate hT
    have li := hu.len
    cases hu with
    | @cons vx us' _ _ hx hu' =>
    cases hu' with
    | @cons vo us'' _ _ ho hn =>
    obtain ⟨a2, xs2, rfl, sq2⟩ := TA.hd ho
    refine ⟨_, rfl, rfl, _, rfl, ?_⟩
    refine ifb (ref_non a) ?_
    refine ⟨_, rfl, a, _, _, _, rfl, rfl, sq, at0, rfl, _, rfl, ?_⟩
    refine ifb (by rw [gw_and]) ?_
    refine ⟨_, rfl, a, _, _, _, rfl, rfl, sq, at1, b, _, rfl, .inr sb, rfl, _, rfl, ?_⟩
    refine ifb (ne_int (by rw [li]; rfl)) ?_
    refine ⟨_, rfl, a, _, _, _, rfl, rfl, sq, at1, b, _, _, _, rfl, rfl, sb, at1, a2, _, _, _, rfl, rfl, sq2, at0, rfl, ?_⟩
    exact bTrue (gw_or false) q.at
end
end Sc

set_option maxHeartbeats 4000000
namespace Sc
open PySem PySem.Spec PyProof.Rows L2 TL
section
variable {P : Program} {w : World} {K : PySem.W.Frag} {mg : Str → Option Value} {base : Heap}
abbrev s_shared : Stmt := top 42
theorem sc_shared : FnScope ["tree", "path", "node", "common", "rest", "part"] ["tree", "path"] (defScope s_shared) := ⟨rfl, rfl, rfl, by decide +kernel, rfl, by decide +kernel, by decide +kernel⟩
theorem ok_shared (D : Df K mg "shared" s_shared ["tree", "path"]) (B : Bn mg) (Ccheck_tree : Cal P w K mg base (12) "check_tree" ["tree", "n"] (spCheckTree K)) (Cnode_at : Cal P w K mg base (3) "node_at" ["tree", "path"] (spNodeAt K)) (Ccan_be_shared : Cal P w K mg base (1) "can_be_shared" ["node"] (spCanShared K)) (Creplaced : Cal P w K mg base (10) "replaced" ["tree", "path", "fresh"] (spReplaced K 9)) : Cal P w K mg base (13) "shared" ["tree", "path"] (spShared K) := by
  obtain ⟨ti, bi⟩ := B.mi
  have S := sc_shared
  refine D.ok S (fun vs H Q E h => ?_) (fun f cdv A outer s H vs Q E hr h => ?_)
  · obtain ⟨v, t, x, ys, a, p, rfl, _⟩ := h; rfl
  · obtain ⟨v, t, x, ys, a, p, rfl, hT, ok, hp, hat, hne, ylen, q⟩ := h
    refine ⟨_, (pss_cons (ps_expr (pe_cal Ccheck_tree hr rfl (pa_cons (pv 0) (pa_cons (pe_glob (v := .int 4) rfl bi ⟨_, rfl⟩) pa_nil))))
    (pss_cons (ps_set (i := 2) S.nd rfl (Or.inl rfl) (pe_cal Cnode_at hr rfl (pa_cons (pv 0) (pa_cons (pv 1) pa_nil))))
    (pss_cons (ps_if (pt_not (pt_val (pe_cal Ccan_be_shared hr rfl (pa_cons (pv 2) pa_nil)))) (pss_one ps_never) pss_nil)
    (pss_cons (ps_set (i := 3) S.nd rfl (Or.inl rfl) (pe_ix ix_tup (pe_ix ix_tup (pe_ix ix_tup (pe_ix ix_tup (pv 2) pe_int (fun _ _ => rfl)) pe_int (fun _ _ => rfl)) pe_int (fun _ _ => rfl)) pe_int (fun _ _ => rfl)))
    (pss_cons (ps_set (i := 4) S.nd rfl (Or.inl rfl) (pe_callTy call_tuple_of (by rfl) B.tuple_ (by decide +kernel) (pa_cons (pe_lc (own := [(("part" : Str), 5)]) (g := gName 5) (tt := tYes) rfl S.nd (pi_tup (pe_ix ix_tup (pv 2) pe_int (fun _ _ => rfl))) (blkOk_by (own := [(("part" : Str), 5)]) (N := ["tree", "path", "node", "common", "rest", "part"]) (sc := defScope s_shared) (by decide +kernel)) (fun _ _ _ _ _ => pg_name (i := 5) S.nd rfl (Or.inl rfl)) (fun _ _ _ _ _ => pts_nil) (fun _ _ _ _ _ => (pe_ix (ix_tupK K rfl) (pe_ix (ix_tupK K rfl) (pv 5) pe_int (fun _ _ => rfl)) pe_int (fun _ _ => rfl)))) pa_nil)))
    (pss_one (ps_ret (pe_cal Creplaced hr rfl (pa_cons (pv 0) (pa_cons (pv 1) (pa_cons (pe_tup (pa_cons pe_str (pa_cons (pe_tup (pa_cons (pv 3) (pa_cons (pe_tup (pa_cons pe_str (pa_cons (pv 4) pa_nil))) pa_nil))) pa_nil))) pa_nil))))))))))), ?_⟩
    have ad := at_depth p t _ hat
    have okd := ok.dp
    have xd : x.depth ≤ 8 := by
      have e : (wideT x ys).depth = depthL (ys.map fun y => T.gate true [x, y]) + 1 := rfl
      cases ys with
      | nil => exact absurd rfl hne
      | cons y r =>
        have e2 : depthL ((y :: r).map fun y => T.gate true [x, y]) = max (max x.depth (max y.depth 0) + 1) (depthL (r.map fun y => T.gate true [x, y])) := rfl
        omega
    have pd : p.length < 9 := by omega
    refine ⟨_, rfl, v, t, 4, rfl, hT, ok, fun H1 s1 => ?_⟩
    refine ⟨_, rfl, _, rfl, v, t, wideT x ys, a, p, rfl, TA.up s1 hT, s1.tup hp, hat, fun z H2 s2 hz => ?_⟩
    refine ⟨_, rfl, z, x, ys, rfl, hz, hne, xd, fun H3 s3 => ⟨_, rfl, ?_⟩⟩
    have hz3 := TA.up s3 hz
    obtain ⟨b, d, us, rfl, sq, sd, hu⟩ := TA.gate hz3
    have ul := hu.len
    rw [List.length_map] at ul
    cases ys with
    | nil => exact absurd rfl hne
    | cons y0 r =>
    obtain ⟨u0, e0, hu0⟩ := hu.get' (i := 0) rfl
    obtain ⟨a0, b0, us0, rfl, sq0, sb0, hus0⟩ := TA.gate hu0
    cases hus0 with
    | @cons vx0 vs0 _ _ hx0 hr0 =>
    refine ⟨_, rfl, b, _, _, _, rfl, rfl, sq, at1, d, _, _, _, rfl, rfl, sd, atI_nat (j := 0) e0, a0, _, _, _, rfl, rfl, sq0, at1, b0, _, _, _, rfl, rfl, sb0, at0, ?_⟩
    refine ⟨_, rfl, b, _, _, _, rfl, rfl, sq, at1, d, rfl, ⟨us, sd⟩, fun DD hD => ?_⟩
    refine lc_map walk_tup (fun i x => us[i]? = some x) (fun i H x H' y => y) (fun i y H => ∃ yi, (y0 :: r)[i]? = some yi ∧ TA K H y yi) (fun i y H H' s4 ⟨yi, e, h⟩ => ⟨yi, e, TA.fix s4 _ _ h⟩) (fun H' s4 => s4.tup sd) (hS' (by omega)) hD (fun _ => rfl) ?_ ?_
    · rintro i z H4 Q4 hi hz4 s4 q4
      obtain ⟨ti', ht, hTi⟩ := hu.get hz4
      rw [List.getElem?_map] at ht
      cases ey : (y0 :: r)[i]? with
      | none => rw [ey] at ht; cases ht
      | some yi =>
      rw [ey] at ht
      obtain rfl := Option.some.inj ht
      obtain ⟨ai, bi', usi, rfl, sqi, sbi, husi⟩ := TA.gate (TA.up s4 hTi)
      cases husi with
      | @cons vxi vsi _ _ hxi hri =>
      cases hri with
      | @cons vyi vni _ _ hyi hni =>
      exact ⟨_, rfl, ai, _, _, _, rfl, rfl, sqi, at1, bi', _, _, _, rfl, rfl, sbi, at1, q4 _ _ (Same.refl _) ⟨yi, ey, hyi⟩⟩
    · intro ws H4 s4 hL hwl hw
      refine ⟨DD, ws, rfl, .inl ⟨SqL.of hL, fun l hl => ?_⟩⟩
      have s5 := same_new hl (.tup ws)
      refine ⟨_, rfl, _, rfl, _, rfl, _, rfl, hS (by simp), fun p1 hp1 => ⟨hS (by simp), fun p2 hp2 => ⟨hS (by simp), fun p3 hp3 => ?_⟩⟩⟩
      have s6 := same_new hp1 (.tup [.str "or", .ref l])
      have s7 := same_new hp2 (.tup [vx0, .ref p1])
      have s8 := same_new hp3 (.tup [.str "and", .ref p2])
      have s48 := (((s4.trans s5).trans s6).trans s7).trans s8
      have hws : TAs K H4 ws (y0 :: r) := TAs.of (by omega) fun i y t e1 e2 => by
        obtain ⟨yi, e3, h⟩ := hw i y e1
        rw [e2] at e3
        obtain rfl := Option.some.inj e3
        exact h
      have hor : TA K _ (.ref p1) (.gate false (y0 :: r)) := TA.mkGate (k := false) (SqT.of upd_same) (s6.tup (SqT.of upd_same)) (TAs.up (s5.trans s6) hws)
      have hand : TA K _ (.ref p3) (tightT x (y0 :: r)) := TA.mkGate (k := true) (SqT.of upd_same) (s8.tup (SqT.of upd_same)) (.cons (TA.up s48 hx0) (.cons (TA.up (s7.trans s8) hor) .nil))
      have s0 := (s1.trans s2).trans s3
      exact ⟨v, .ref p3, t, _, tightT x (y0 :: r), a, p, rfl, TA.up (s0.trans s48) hT, (s0.trans s48).tup hp, hat, hand, pd, fun y H9 s9 hy => q y H9 ((s0.trans s48).trans s9) hy⟩
abbrev s_spread : Stmt := top 44
theorem sc_spread : FnScope ["tree", "path", "node", "common", "choice", "ands", "fresh", "leaves", "deep", "part"] ["tree", "path"] (defScope s_spread) := ⟨rfl, rfl, rfl, by decide +kernel, rfl, by decide +kernel, by decide +kernel⟩
theorem ok_spread (D : Df K mg "spread" s_spread ["tree", "path"]) (B : Bn mg) (Ccheck_tree : Cal P w K mg base (12) "check_tree" ["tree", "n"] (spCheckTree K)) (Cnode_at : Cal P w K mg base (3) "node_at" ["tree", "path"] (spNodeAt K)) (Ccan_be_spread : Cal P w K mg base (1) "can_be_spread" ["node"] (spCanSpread K)) (Creplaced : Cal P w K mg base (10) "replaced" ["tree", "path", "fresh"] (spReplaced K 9)) (Csize_of : Cal P w K mg base (11) "size_of" ["node"] (spSizeOf K 8)) : Cal P w K mg base (13) "spread" ["tree", "path"] (spSpread K) := by
  obtain ⟨ti, bi⟩ := B.mi
  obtain ⟨tl, bl⟩ := B.ml
  obtain ⟨td, bd⟩ := B.md
  have S := sc_spread
  refine D.ok S (fun vs H Q E h => ?_) (fun f cdv A outer s H vs Q E hr h => ?_)
  · obtain ⟨v, t, x, ys, a, p, rfl, _⟩ := h; rfl
  · obtain ⟨v, t, x, ys, a, p, rfl, hT, ok, hp, hat, ok2, ylen, q⟩ := h
    refine ⟨_, (pss_cons (ps_expr (pe_cal Ccheck_tree hr rfl (pa_cons (pv 0) (pa_cons (pe_glob (v := .int 4) rfl bi ⟨_, rfl⟩) pa_nil))))
    (pss_cons (ps_set (i := 2) S.nd rfl (Or.inl rfl) (pe_cal Cnode_at hr rfl (pa_cons (pv 0) (pa_cons (pv 1) pa_nil))))
    (pss_cons (ps_if (pt_not (pt_val (pe_cal Ccan_be_spread hr rfl (pa_cons (pv 2) pa_nil)))) (pss_one ps_never) pss_nil)
    (pss_cons (ps_asg (pe_ix ix_tup (pv 2) pe_int (fun _ _ => rfl)) (pg_tup rfl (pgs_cons (pg_name (i := 3) S.nd rfl (Or.inr rfl)) (pgs_cons (pg_name (i := 4) S.nd rfl (Or.inl rfl)) pgs_nil))))
    (pss_cons (ps_set (i := 5) S.nd rfl (Or.inl rfl) (pe_callTy call_tuple_of (by rfl) B.tuple_ (by decide +kernel) (pa_cons (pe_lc (own := [(("part" : Str), 9)]) (g := gName 9) (tt := tYes) rfl S.nd (pi_tup (pe_ix ix_tup (pv 4) pe_int (fun _ _ => rfl))) (blkOk_by (own := [(("part" : Str), 9)]) (N := ["tree", "path", "node", "common", "choice", "ands", "fresh", "leaves", "deep", "part"]) (sc := defScope s_spread) (by decide +kernel)) (fun _ _ _ _ _ => pg_name (i := 9) S.nd rfl (Or.inl rfl)) (fun _ _ _ _ _ => pts_nil) (fun _ _ _ _ _ => (pe_tup (pa_cons pe_str (pa_cons (pe_tup (pa_cons (pv 3) (pa_cons (pv 9) pa_nil))) pa_nil))))) pa_nil)))
    (pss_cons (ps_set (i := 6) S.nd rfl (Or.inl rfl) (pe_cal Creplaced hr rfl (pa_cons (pv 0) (pa_cons (pv 1) (pa_cons (pe_tup (pa_cons pe_str (pa_cons (pv 5) pa_nil))) pa_nil)))))
    (pss_cons (ps_asg (pe_cal Csize_of hr rfl (pa_cons (pv 6) pa_nil)) (pg_tup rfl (pgs_cons (pg_name (i := 7) S.nd rfl (Or.inl rfl)) (pgs_cons (pg_name (i := 8) S.nd rfl (Or.inl rfl)) pgs_nil))))
    (pss_cons (ps_if (pt_cmpR op_gt (pv 7) (pe_glob (v := .int 240) rfl bl ⟨_, rfl⟩) (nomark _)) (pss_one ps_never) pss_nil)
    (pss_cons (ps_if (pt_cmpR op_gt (pv 8) (pe_glob (v := .int 8) rfl bd ⟨_, rfl⟩) (nomark _)) (pss_one ps_never) pss_nil)
    (pss_one (ps_ret (pv 6)))))))))))), ?_⟩
    have ad := at_depth p t _ hat
    have okd := ok.dp
    have pd : p.length < 9 := by omega
    refine ⟨_, rfl, v, t, 4, rfl, hT, ok, fun H1 s1 => ?_⟩
    refine ⟨_, rfl, _, rfl, v, t, tightT x ys, a, p, rfl, TA.up s1 hT, s1.tup hp, hat, fun z H2 s2 hz => ?_⟩
    refine ⟨_, rfl, z, x, ys, rfl, hz, fun H3 s3 => ⟨_, rfl, ?_⟩⟩
    obtain ⟨b, d, us, rfl, sq, sd, hu⟩ := TA.gate (TA.up s3 hz)
    have ul := hu.len
    cases hu with
    | @cons vx us' _ _ hx hu' =>
    cases hu' with
    | @cons vo us'' _ _ ho hn =>
    cases hn
    obtain ⟨a2, d2, ws, rfl, sq2, sd2, hws⟩ := TA.gate ho
    have wl := hws.len
    refine ⟨_, rfl, b, _, _, _, rfl, rfl, sq, at1, d, _, rfl, sd, rfl, _, _, rfl, _, _, rfl, rfl, ?_⟩
    refine ⟨_, rfl, a2, _, _, _, rfl, rfl, sq2, at1, d2, rfl, ⟨ws, sd2⟩, fun DD hD => ?_⟩
    refine lc_map walk_tup (fun i x => ws[i]? = some x) (fun i H x H' y => y) (fun i y H => ∃ yi, ys[i]? = some yi ∧ TA K H y (.gate true [x, yi])) (fun i y H H' s4 ⟨yi, e, h⟩ => ⟨yi, e, TA.fix s4 _ _ h⟩) (fun H' s4 => s4.tup sd2) (hS' (by omega)) hD (fun _ => rfl) ?_ ?_
    · rintro i z H4 Q4 hi hz4 s4 q4
      obtain ⟨yi, ht, hyi⟩ := hws.get hz4
      refine ⟨_, rfl, _, rfl, hS (by simp), fun p1 hp1 => ⟨hS (by simp), fun p2 hp2 => ?_⟩⟩
      have s5 := same_new hp1 (.tup [vx, z])
      have s6 := same_new hp2 (.tup [.str "and", .ref p1])
      exact q4 _ _ (s5.trans s6) ⟨yi, ht, TA.mkGate (k := true) (SqT.of upd_same) (s6.tup (SqT.of upd_same)) (.cons (TA.up ((s4.trans s5).trans s6) hx) (.cons (TA.up ((s4.trans s5).trans s6) hyi) .nil))⟩
    · intro zs H4 s4 hL hzl hz4
      refine ⟨DD, zs, rfl, .inl ⟨SqL.of hL, fun l hl => ?_⟩⟩
      have s5 := same_new hl (.tup zs)
      refine ⟨_, rfl, _, rfl, _, rfl, hS (by simp), fun p1 hp1 => ?_⟩
      have s6 := same_new hp1 (.tup [.str "or", .ref l])
      have s46 := (s4.trans s5).trans s6
      have s0 := (s1.trans s2).trans s3
      have hzs : TAs K H4 zs (ys.map fun y => .gate true [x, y]) := TAs.of (by rw [List.length_map]; omega) fun i y t e1 e2 => by
        obtain ⟨yi, e3, h⟩ := hz4 i y e1
        rw [List.getElem?_map, e3] at e2
        obtain rfl := Option.some.inj e2
        exact h
      have hwide : TA K _ (.ref p1) (wideT x ys) := TA.mkGate (k := false) (SqT.of upd_same) (s6.tup (SqT.of upd_same)) (TAs.up (s5.trans s6) hzs)
      refine ⟨v, .ref p1, t, _, wideT x ys, a, p, rfl, TA.up (s0.trans s46) hT, (s0.trans s46).tup hp, hat, hwide, pd, fun y H9 s9 hy => ?_⟩
      refine ⟨_, rfl, y, _, 4, rfl, hy, ok2.wf, ok2.lv, ok2.dp, fun b3 H10 s10 hb3 => ⟨b3, _, rfl, hb3, rfl, _, _, rfl, _, _, rfl, rfl, ?_⟩⟩
      have l2 := ok2.lv
      have d2 := ok2.dp
      refine ⟨_, rfl, _, _, rfl, rfl, _, rfl, ?_⟩
      refine ifb (decide_eq_false (by omega)) ?_
      refine ⟨_, rfl, _, _, rfl, rfl, _, rfl, ?_⟩
      refine ifb (decide_eq_false (by omega)) ?_
      exact ⟨_, rfl, q y H10 (((s0.trans s46).trans s9).trans s10) (TA.up s10 hy)⟩
abbrev s_calmer : Stmt := top 45
theorem sc_calmer : FnScope ["n", "one", "other", "points", "start", "end"] ["n", "one", "other"] (defScope s_calmer) := ⟨rfl, rfl, rfl, by decide +kernel, rfl, by decide +kernel, by decide +kernel⟩
theorem ok_calmer (D : Df K mg "calmer" s_calmer ["n", "one", "other"]) (B : Bn mg) (Cis_count : Cal P w K mg base (1) "is_count" ["thing"] spIsCount) (Ccheck_tree : Cal P w K mg base (12) "check_tree" ["tree", "n"] (spCheckTree K)) (Cfilled : Cal P w K mg base (1) "filled" ["cube", "signs"] spFilled) (Clong_word : Cal P w K mg base (20) "long_word" ["change", "node"] (spLongWord K 8)) : Cal P w K mg base (21) "calmer" ["n", "one", "other"] (spCalmer K) := by
  have S := sc_calmer
  refine D.ok S (fun vs H Q E h => ?_) (fun f cdv A outer s H vs Q E hr h => ?_)
  · obtain ⟨n, v, w, t, u, rfl, _⟩ := h; rfl
  · obtain ⟨n, v, w, t, u, rfl, n1, n4, hT, hU, okt, oku, hcut, q⟩ := h
    refine ⟨_, (pss_cons (ps_if (pt_not (pt_val (pe_cal Cis_count hr rfl (pa_cons (pv 0) pa_nil)))) (pss_one ps_never) pss_nil)
    (pss_cons (ps_expr (pe_cal Ccheck_tree hr rfl (pa_cons (pv 1) (pa_cons (pv 0) pa_nil))))
    (pss_cons (ps_expr (pe_cal Ccheck_tree hr rfl (pa_cons (pv 2) (pa_cons (pv 0) pa_nil))))
    (pss_cons (ps_set (i := 3) S.nd rfl (Or.inl rfl) (pe_cal Cfilled hr rfl (pa_cons (pe_op op_repS pe_str (pv 0)) (pa_cons pe_str pa_nil))))
    (pss_cons (ps_for PassesOwn.never rfl (pi_list (pv 3)) (pg_name (i := 4) S.nd rfl (Or.inl rfl))
      (pss_one (ps_for PassesOwn.never rfl (pi_list (pv 3)) (pg_name (i := 5) S.nd rfl (Or.inl rfl))
        (pss_one (ps_if (PW.pt (pw_and (pt_cmpR op_ne (pv 4) (pv 5) (nomark _)) (pw_and1 (pt_chain op_le op_lt (pe_callB call_len_str (by rfl) B.len_ PySem.boot_len (pa_cons (pe_cal Clong_word hr rfl (pa_cons (pe_tup (pa_cons (pv 4) (pa_cons (pv 5) pa_nil))) (pa_cons (pv 2) pa_nil))) pa_nil)) pe_int (pe_callB call_len_str (by rfl) B.len_ PySem.boot_len (pa_cons (pe_cal Clong_word hr rfl (pa_cons (pe_tup (pa_cons (pv 4) (pa_cons (pv 5) pa_nil))) (pa_cons (pv 1) pa_nil))) pa_nil)))))) (pss_one (ps_ret (pe_tup (pa_cons (pv 4) (pa_cons (pv 5) pa_nil))))) pss_nil)))))
    (pss_one (ps_ret pe_non))))))), ?_⟩
    refine ⟨_, rfl, n, rfl, n1, n4, fun H1 s1 => ⟨_, rfl, ?_⟩⟩
    refine ⟨_, rfl, _, rfl, v, t, n, rfl, TA.up s1 hT, okt, fun H2 s2 => ?_⟩
    refine ⟨_, rfl, _, rfl, w, u, n, rfl, TA.up (s1.trans s2) hU, oku, fun H3 s3 => ?_⟩
    refine ⟨_, rfl, _, _, rfl, rfl, by decide +kernel, by omega, by omega, n, ?_, n4, fun p H4 ls s4 hL hls lln => ?_⟩
    · show [V.str (repS "-" (n : Int).toNat), V.str "01"] = _
      have e : (n : Int).toNat = n := by omega
      rw [kM, e, repS_tx, k01]
      rw [rep_flat]
    have s04 := ((s1.trans s2).trans s3).trans s4
    have ll : (ls.map fun l => V.str (tx l)).length = ls.length := List.length_map _
    refine ⟨_, rfl, p, rfl, ⟨_, SqL.of hL⟩, for_it walk_list (fun i σ H' => ∃ y4 y5, σ = [some (.int (n : Int)), some v, some w, some (.ref p), y4, y5] ∧ Same H4 H') ⟨none, none, rfl, Same.refl _⟩ (fun i σ H' _ ⟨_, _, _, s5⟩ => SqL.of (s5 _ _ hL)) ?_ ?_⟩
    · rintro i x σ H5 H6 hi ⟨y4, y5, rfl, s5⟩ ⟨rfl, hx⟩
      rw [List.getElem?_map] at hx
      cases e1 : ls[i]? with
      | none => rw [e1] at hx; cases hx
      | some la =>
      rw [e1] at hx
      obtain rfl := Option.some.inj hx
      have hla := hls la (List.mem_of_getElem? e1)
      refine ⟨_, rfl, p, rfl, ⟨_, SqL.of (s5 _ _ hL)⟩, for_it walk_list (fun j σ H' => ∃ y5, σ = [some (.int (n : Int)), some v, some w, some (.ref p), some (.str (tx la)), y5] ∧ Same H4 H') ⟨y5, rfl, s5⟩ (fun j σ H' _ ⟨_, _, s7⟩ => SqL.of (s7 _ _ hL)) ?_ ?_⟩
      · rintro j x2 σ2 H7 H8 hj ⟨z5, rfl, s7⟩ ⟨rfl, hx2⟩
        rw [List.getElem?_map] at hx2
        cases e2 : ls[j]? with
        | none => rw [e2] at hx2; cases hx2
        | some lb =>
        rw [e2] at hx2
        obtain rfl := Option.some.inj hx2
        have hlb := hls lb (List.mem_of_getElem? e2)
        refine ⟨_, rfl, _, rfl, rfl, _, rfl, ?_⟩
        by_cases c1 : la = lb
        · refine ifb (by rw [dec_tx, decide_eq_true c1] <;> rfl) ?_
          exact ⟨_, rfl, s7⟩
        refine ifb (c := true) (by rw [dec_tx, decide_eq_false c1] <;> rfl) ?_
        refine ⟨_, rfl, _, rfl, hS (by simp), fun b hb => ?_⟩
        have s8 := same_new hb (.tup [.str (tx la), .str (tx lb)])
        have ch : ∀ (b : Addr) (H' : Hp), SqT K H' b [V.str (tx la), V.str (tx lb)] → Chg K H' b la lb := fun b H' h => ⟨h, hla.2, hlb.2, by rw [hla.1, hlb.1], by omega, by omega, c1⟩
        have s08 := (s04.trans s7).trans s8
        have okt' : Ok la.length t := by rw [hla.1]; exact okt
        have oku' : Ok la.length u := by rw [hla.1]; exact oku
        have wu := wrd_len la lb u oku.wf
        have wt := wrd_len la lb t okt.wf
        have lu := oku.lv
        have lt := okt.lv
        refine ⟨_, rfl, b, la, lb, w, u, rfl, ch b _ (SqT.of upd_same), TA.up s08 hU, oku', oku.dp, fun H9 s9 => ?_⟩
        refine ⟨_, rfl, hS (by rw [len_wd]; omega), _, _, rfl, rfl, _, rfl, ?_⟩
        rw [len_wd]
        by_cases c2 : (wrd la lb u).length ≤ 2
        · refine ifb (decide_eq_true (by omega)) ?_
          refine ⟨_, rfl, _, rfl, hS (by simp), fun b2 hb2 => ?_⟩
          have s10 := same_new hb2 (.tup [.str (tx la), .str (tx lb)])
          refine ⟨_, rfl, b2, la, lb, v, t, rfl, ch b2 _ (SqT.of upd_same), TA.up ((s08.trans s9).trans s10) hT, okt', okt.dp, fun H11 s11 => ?_⟩
          refine ⟨_, rfl, hS (by rw [len_wd]; omega), _, _, rfl, rfl, _, rfl, ?_⟩
          have hc := hcut la lb hla.2 hlb.2 hla.1 hlb.1
          rw [len_wd]
          refine ifb (decide_eq_false (by omega)) ?_
          exact ⟨_, rfl, (((s7.trans s8).trans s9).trans s10).trans s11⟩
        · refine ifb (decide_eq_false (by omega)) ?_
          refine ⟨_, rfl, ?_⟩
          exact ⟨_, rfl, (s7.trans s8).trans s9⟩
      · rintro σ2 H7 ⟨z5, rfl, s7⟩
        exact ⟨_, _, rfl, s7⟩
    · rintro σ H5 ⟨y4, y5, rfl, s5⟩
      exact q H5 (s04.trans s5)
end
end Sc

set_option maxHeartbeats 4000000
namespace Sc
open PySem PySem.Spec PyProof.Rows L2 TL
section
variable {P : Program} {w : World} {K : PySem.W.Frag} {mg : Str → Option Value} {base : Heap}
abbrev s__law_mixed : Stmt := top 47
theorem sc__law_mixed : FnScope ["_law_seed", "_law_k", "_law_one", "_law_two", "_law_three"] ["_law_seed", "_law_k"] (defScope s__law_mixed) := ⟨rfl, rfl, rfl, by decide +kernel, rfl, by decide +kernel, by decide +kernel⟩
theorem ok__law_mixed (D : Df K mg "_law_mixed" s__law_mixed ["_law_seed", "_law_k"]) (B : Bn mg) : Cal P w K mg base (1) "_law_mixed" ["_law_seed", "_law_k"] spMixed := by
  have S := sc__law_mixed
  refine D.ok S (fun vs H Q E h => ?_) (fun f cdv A outer s H vs Q E hr h => ?_)
  · obtain ⟨s, k, rfl, _⟩ := h; rfl
  · obtain ⟨s, k, rfl, s0, s1, k0, k1, q⟩ := h
    refine ⟨_, (pss_cons (ps_set (i := 2) S.nd rfl (Or.inl rfl) (pe_op op_mod (pe_callTy call_int1 (by rfl) B.int_ (by decide +kernel) (pa_cons (pe_op op_mul (pe_op op_add (pe_op op_add (pv 0) (pe_op op_mul pe_int (pv 1))) pe_int) pe_int) pa_nil)) pe_int))
    (pss_cons (ps_set (i := 3) S.nd rfl (Or.inl rfl) (pe_op op_mod (pe_callTy call_int1 (by rfl) B.int_ (by decide +kernel) (pa_cons (pe_op op_mul (pv 2) (pe_op op_add (pe_op op_fdiv (pv 2) pe_int) pe_int)) pa_nil)) pe_int))
    (pss_cons (ps_set (i := 4) S.nd rfl (Or.inl rfl) (pe_op op_mod (pe_callTy call_int1 (by rfl) B.int_ (by decide +kernel) (pa_cons (pe_op op_mul (pv 3) (pe_op op_add (pe_op op_fdiv (pv 3) pe_int) pe_int)) pa_nil)) pe_int))
    (pss_one (ps_ret (pe_op op_mod (pe_callTy call_int1 (by rfl) B.int_ (by decide +kernel) (pa_cons (pe_op op_fdiv (pv 4) pe_int) pa_nil)) pe_int)))))), ?_⟩
    refine ⟨_, rfl, _, rfl, _, _, rfl, rfl, .inl ⟨by decide, by decide⟩, _, _, rfl, rfl, _, _, rfl, rfl, _, _, rfl, rfl, .inl ⟨by omega, by omega⟩, .inl ⟨_, rfl, _, _, rfl, rfl, (by show (0 : Int) < _; decide), ?_⟩⟩
    have b1 := Int.emod_nonneg ((s + 7919 * k + 1) * 48271) (show (2147483647 : Int) ≠ 0 by decide)
    have b2 := Int.emod_lt_of_pos ((s + 7919 * k + 1) * 48271) (show (0 : Int) < 2147483647 by decide)
    generalize ((s + 7919 * k + 1) * 48271) % 2147483647 = one at b1 b2 ⊢
    refine ⟨_, rfl, _, rfl, _, _, rfl, rfl, ⟨by decide, by decide⟩, _, _, rfl, rfl, _, _, rfl, rfl, .inl ⟨by omega, by omega⟩, .inl ⟨_, rfl, _, _, rfl, rfl, (by show (0 : Int) < _; decide), ?_⟩⟩
    have c1 := Int.emod_nonneg (one * (one / 1009 + 69621)) (show (2147483647 : Int) ≠ 0 by decide)
    have c2 := Int.emod_lt_of_pos (one * (one / 1009 + 69621)) (show (0 : Int) < 2147483647 by decide)
    generalize (one * (one / 1009 + 69621)) % 2147483647 = two at c1 c2 ⊢
    refine ⟨_, rfl, _, rfl, _, _, rfl, rfl, ⟨by decide, by decide⟩, _, _, rfl, rfl, _, _, rfl, rfl, .inl ⟨by omega, by omega⟩, .inl ⟨_, rfl, _, _, rfl, rfl, (by show (0 : Int) < _; decide), ?_⟩⟩
    exact ⟨_, rfl, _, _, rfl, rfl, ⟨by decide, by decide⟩, .inl ⟨_, rfl, _, _, rfl, rfl, (by show (0 : Int) < _; decide), (q _).at⟩⟩
abbrev s__law_draws : Stmt := top 48
theorem sc__law_draws : FnScope ["_law_script", "_law_many", "_law_rows", "_law_seed", "_law_at", "_law_cell", "_law_k"] ["_law_script", "_law_many"] (defScope s__law_draws) := ⟨rfl, rfl, rfl, by decide +kernel, rfl, by decide +kernel, by decide +kernel⟩
theorem ok__law_draws (D : Df K mg "_law_draws" s__law_draws ["_law_script", "_law_many"]) (B : Bn mg) (C_law_mixed : Cal P w K mg base (1) "_law_mixed" ["_law_seed", "_law_k"] spMixed) : Cal P w K mg base (2) "_law_draws" ["_law_script", "_law_many"] (spDraws K) := by
  have S := sc__law_draws
  refine D.ok S (fun vs H Q E h => ?_) (fun f cdv A outer s H vs Q E hr h => ?_)
  · obtain ⟨a, ns, rfl, _⟩ := h; rfl
  · obtain ⟨a, ns, rfl, hS0, h63, q⟩ := h
    refine ⟨_, (pss_cons (ps_set (i := 2) S.nd rfl (Or.inl rfl) (pe_lst pa_nil))
    (pss_cons (ps_set (i := 3) S.nd rfl (Or.inl rfl) pe_int)
    (pss_cons (ps_for PassesOwn.never rfl (pi_range1 (by rfl) B.range_ (pa_cons (pe_callB call_len_seq (by rfl) B.len_ PySem.boot_len (pa_cons (pe_slice sl_list (pv 0) po_none (po_some pe_int)) pa_nil)) pa_nil)) (pg_name (i := 4) S.nd rfl (Or.inl rfl))
      (pss_cons (ps_set (i := 5) S.nd rfl (Or.inl rfl) (pe_callTy call_int1 (by rfl) B.int_ (by decide +kernel) (pa_cons (pe_ix ix_list (pv 0) (pv 4) (fun _ _ => rfl)) pa_nil)))
      (pss_cons (ps_set (i := 3) S.nd rfl (Or.inl rfl) (pe_op op_mod (pe_callTy call_int1 (by rfl) B.int_ (by decide +kernel) (pa_cons (pe_op op_add (pe_op op_add (pe_op op_mul (pv 3) pe_int) (pe_op op_mod (pe_callTy call_int1 (by rfl) B.int_ (by decide +kernel) (pa_cons (pv 5) pa_nil)) pe_int)) pe_int) pa_nil)) pe_int))
      (pss_one (ps_if (pt_cmpR op_ge (pv 5) (pe_op op_pow pe_int pe_int) (nomark _)) (pss_one (ps_for PassesOwn.never rfl (pi_range1 (by rfl) B.range_ (pa_cons pe_int pa_nil)) (pg_name (i := 6) S.nd rfl (Or.inl rfl))
          (pss_one (ps_if (pt_cmpR op_gt (pv 5) pe_int (nomark _)) (pss_cons (ps_expr (pe_bm PySem.F.plainAttrs_list PySem.F.slot_list_append PySem.F.type_list_append mt_append (pv 2) (pa_cons (pe_op op_mod (pe_callTy call_int1 (by rfl) B.int_ (by decide +kernel) (pa_cons (pv 5) pa_nil)) pe_int) pa_nil)))
            (pss_one (ps_set (i := 5) S.nd rfl (Or.inl rfl) (pe_op op_fdiv (pv 5) pe_int)))) pss_nil)))) (pss_cons (ps_expr (pe_bm PySem.F.plainAttrs_list PySem.F.slot_list_append PySem.F.type_list_append mt_append (pv 2) (pa_cons (pe_cal C_law_mixed hr rfl (pa_cons (pe_op op_mod (pe_callTy call_int1 (by rfl) B.int_ (by decide +kernel) (pa_cons (pv 5) pa_nil)) pe_int) (pa_cons (pe_op op_mul pe_int (pv 4)) pa_nil))) pa_nil)))
        (pss_one (ps_expr (pe_bm PySem.F.plainAttrs_list PySem.F.slot_list_append PySem.F.type_list_append mt_append (pv 2) (pa_cons (pe_cal C_law_mixed hr rfl (pa_cons (pe_op op_mod (pe_callTy call_int1 (by rfl) B.int_ (by decide +kernel) (pa_cons (pv 5) pa_nil)) pe_int) (pa_cons (pe_op op_add (pe_op op_mul pe_int (pv 4)) pe_int) pa_nil))) pa_nil))))))))))
    (pss_cons (ps_for PassesOwn.never rfl (pi_range1 (by rfl) B.range_ (pa_cons (pv 1) pa_nil)) (pg_name (i := 6) S.nd rfl (Or.inl rfl))
      (pss_one (ps_expr (pe_bm PySem.F.plainAttrs_list PySem.F.slot_list_append PySem.F.type_list_append mt_append (pv 2) (pa_cons (pe_cal C_law_mixed hr rfl (pa_cons (pv 3) (pa_cons (pe_op op_add (pv 6) pe_int) pa_nil))) pa_nil)))))
    (pss_one (ps_ret (pe_slice sl_list (pv 2) po_none (po_some (pv 1))))))))), ?_⟩
    refine ⟨hS (by simp), fun r hr0 => ?_⟩
    have s1 := same_new hr0 (.lst [])
    refine ⟨_, rfl, 63, rfl, a, _, rfl, s1.seq hS0, fun p hp => ?_⟩
    have s2 := same_new hp (.lst (cutV (ns.map V.int) none (some 63)))
    have hcl := cutV_length (ns.map V.int) none (some 63)
    rw [List.length_map] at hcl
    refine ⟨p, _, rfl, .inl (SqL.of upd_same), _, rfl, by omega, by omega, ?_⟩
    have sT : SameT H (upd H r (.lst [])) := s1.fix
    refine for_it walk_range (fun i σ H' => ∃ (sd : Int) (ds : List Int) (y4 y5 y6 : Option V), σ = [some (.ref a), some (.int 76), some (.ref r), some (.int sd), y4, y5, y6] ∧ 0 ≤ sd ∧ sd < 2147483629 ∧ Same H H' ∧ H' r = some (.lst (ds.map V.int)) ∧ ds.length ≤ 60 * i)
      ⟨1, [], none, none, none, rfl, by decide, by decide, s1.trans s2, s2 _ _ upd_same, Nat.zero_le _⟩ (fun _ _ _ _ _ => trivial) ?_ ?_
    · rintro i x σ H1 H2 hi ⟨sd, ds, y4, y5, y6, rfl, d0, d1, s3, hL, hdl⟩ ⟨rfl, rfl⟩
      have hi2 : i < ns.length := by omega
      have ea : (ns.map V.int)[i]? = some (V.int ns[i]) := by rw [List.getElem?_map, List.getElem?_eq_getElem hi2]; rfl
      refine ⟨_, rfl, _, rfl, a, _, _, _, rfl, rfl, s3.seq hS0, at_ofA (Int.zero_add _) ea, .inl ⟨_, rfl, ?_⟩⟩
      refine ⟨_, rfl, _, _, rfl, rfl, .inl ⟨by omega, by omega⟩, _, rfl, .inl ⟨_, rfl, _, _, rfl, rfl, (by show (0 : Int) < _; decide), _, _, rfl, rfl, _, _, rfl, rfl, .inl ⟨_, rfl, _, _, rfl, rfl, (by show (0 : Int) < _; decide), ?_⟩⟩⟩
      have m1 := Int.emod_nonneg (sd * 69621 + ns[i] % 1000003 + 1) (show (2147483629 : Int) ≠ 0 by decide)
      have m2 := Int.emod_lt_of_pos (sd * 69621 + ns[i] % 1000003 + 1) (show (0 : Int) < 2147483629 by decide)
      generalize ns[i] = cell at m1 m2 ⊢
      refine ⟨_, rfl, _, _, rfl, rfl, ⟨by decide, by decide, by decide⟩, _, _, rfl, rfl, _, rfl, ?_⟩
      refine ite2 (fun _ => ?_) (fun _ => ?_)
      · refine ⟨60, rfl, by decide, by decide, for_it walk_range (fun k σ H' => ∃ (cl : Int) (es : List Int) (y6 : Option V), σ = [some (.ref a), some (.int 76), some (.ref r), some (.int ((sd * 69621 + cell % 1000003 + 1) % 2147483629)), some (.int (0 + (i : Int))), some (.int cl), y6] ∧ Same H H' ∧ H' r = some (.lst (es.map V.int)) ∧ es.length ≤ 60 * i + k)
          ⟨cell, ds, y6, rfl, s3, hL, by omega⟩ (fun _ _ _ _ _ => trivial) ?_ ?_⟩
        · rintro k x σ H3 H4 hk ⟨cl, es, y6, rfl, s4, hL4, hel⟩ ⟨rfl, rfl⟩
          have hk60 : k < 60 := hk
          refine ⟨_, rfl, _, _, rfl, rfl, _, rfl, ?_⟩
          refine ite2 (fun _ => ?_) (fun _ => ?_)
          · refine ⟨_, rfl, .inl ⟨rfl, _, SqL.of hL4⟩, _, rfl, .inl ⟨_, rfl, _, _, rfl, rfl, (by show (0 : Int) < _; decide), r, _, _, rfl, rfl, hL4, hS' (by rw [List.length_map]; omega), ?_⟩⟩
            refine ⟨_, rfl, _, _, rfl, rfl, ⟨by decide, by decide⟩, ?_⟩
            exact ⟨_, es ++ [cl % 10007], _, rfl, s4.upd_out hr0 _, by rw [upd_same, List.map_append]; rfl, by rw [List.length_append, List.length_singleton]; omega⟩
          · exact ⟨cl, es, _, rfl, s4, hL4, by omega⟩
        · rintro σ H3 ⟨cl, es, y6, rfl, s4, hL4, hel⟩
          exact ⟨((sd * 69621 + cell % 1000003 + 1) % 2147483629), es, _, _, _, rfl, m1, m2, s4, hL4, by have : ((60 : Int) - 0).toNat = 60 := rfl; have e2 : (60 : Int).toNat = 60 := rfl; omega⟩
      · refine ⟨_, rfl, .inl ⟨rfl, _, SqL.of hL⟩, _, rfl, .inl ⟨_, rfl, _, _, rfl, rfl, (by show (0 : Int) < _; decide), ?_⟩⟩
        have g1 := Int.emod_nonneg cell (show (1000003 : Int) ≠ 0 by decide)
        have g2 := Int.emod_lt_of_pos cell (show (0 : Int) < 1000003 by decide)
        refine ⟨_, rfl, _, _, rfl, rfl, .inl ⟨by decide, by decide⟩, cell % 1000003, _, rfl, g1, by omega, by omega, by omega, fun z H3 s4 => ?_⟩
        have hL3 := s4 _ _ hL
        refine ⟨r, _, _, rfl, rfl, hL3, hS' (by rw [List.length_map]; omega), ?_⟩
        have s34 := s3.trans s4
        have hLu : (upd H3 r (.lst (ds.map V.int ++ [V.int z]))) r = some (.lst ((ds ++ [z]).map V.int)) := by rw [upd_same, List.map_append]; rfl
        refine ⟨_, rfl, .inl ⟨rfl, _, SqL.of hLu⟩, _, rfl, .inl ⟨_, rfl, _, _, rfl, rfl, (by show (0 : Int) < _; decide), ?_⟩⟩
        refine ⟨_, rfl, _, _, rfl, rfl, .inl ⟨by decide, by decide⟩, _, _, rfl, rfl, cell % 1000003, _, rfl, g1, by omega, by omega, by omega, fun z2 H4 s5 => ?_⟩
        have hL4 := s5 _ _ hLu
        refine ⟨r, _, _, rfl, rfl, hL4, hS' (by rw [List.length_map, List.length_append, List.length_singleton]; omega), ?_⟩
        refine ⟨((sd * 69621 + cell % 1000003 + 1) % 2147483629), ds ++ [z] ++ [z2], _, _, _, rfl, m1, m2, ((s34.upd_out hr0 _).trans s5).upd_out hr0 _, by rw [upd_same]; simp only [List.map_append, List.map_cons, List.map_nil], by rw [List.length_append, List.length_append, List.length_singleton, List.length_singleton]; omega⟩
    · rintro σ H1 ⟨sd, ds, y4, y5, y6, rfl, d0, d1, s3, hL, hdl⟩
      have hdl2 : ds.length ≤ 3780 := by omega
      refine ⟨_, rfl, 76, rfl, by decide, by decide, for_it walk_range (fun k σ H' => ∃ (es : List Int) (y6 : Option V), σ = [some (.ref a), some (.int 76), some (.ref r), some (.int sd), y4, y5, y6] ∧ Same H H' ∧ H' r = some (.lst (es.map V.int)) ∧ k ≤ es.length ∧ es.length ≤ 3780 + k) ⟨ds, y6, rfl, s3, hL, Nat.zero_le _, by omega⟩ (fun _ _ _ _ _ => trivial) ?_ ?_⟩
      · rintro k x σ H3 H4 hk ⟨es, y6, rfl, s4, hL4, he1, he2⟩ ⟨rfl, rfl⟩
        have hk76 : k < 76 := hk
        refine ⟨_, rfl, .inl ⟨rfl, _, SqL.of hL4⟩, _, rfl, _, rfl, _, _, rfl, rfl, sd, _, rfl, d0, by omega, by omega, by omega, fun z H5 s5 => ?_⟩
        have hL5 := s5 _ _ hL4
        refine ⟨r, _, _, rfl, rfl, hL5, hS' (by rw [List.length_map]; omega), ?_⟩
        exact ⟨es ++ [z], _, rfl, (s4.trans s5).upd_out hr0 _, by rw [upd_same, List.map_append]; rfl, by rw [List.length_append, List.length_singleton]; omega, by rw [List.length_append, List.length_singleton]; omega⟩
      · rintro σ H3 ⟨es, y6, rfl, s4, hL4, he1, he2⟩
        have he76 : 76 ≤ es.length := he1
        refine ⟨_, rfl, _, rfl, 76, rfl, r, _, rfl, SqL.of hL4, fun p2 hp2 => ?_⟩
        rw [cut_76 he76]
        exact q p2 _ (es.take 76) (s4.trans (same_new hp2 _)) upd_same (by rw [List.length_take]; omega)
end
end Sc

set_option maxHeartbeats 4000000
namespace Sc
open PySem PySem.Spec PyProof.Rows L2 TL
section
variable {P : Program} {w : World} {K : PySem.W.Frag} {mg : Str → Option Value} {base : Heap}
abbrev s__law_strings : Stmt := top 49
theorem sc__law_strings : FnScope ["_law_n", "_law_signs", "_law_rows", "_law_at", "_law_longer", "_law_row", "_law_sign"] ["_law_n", "_law_signs"] (defScope s__law_strings) := ⟨rfl, rfl, rfl, by decide +kernel, rfl, by decide +kernel, by decide +kernel⟩
theorem ok__law_strings (D : Df K mg "_law_strings" s__law_strings ["_law_n", "_law_signs"]) (B : Bn mg) : Cal P w K mg base (1) "_law_strings" ["_law_n", "_law_signs"] spStrings := by
  have S := sc__law_strings
  refine D.ok S (fun vs H Q E h => ?_) (fun f cdv A outer s H vs Q E hr h => ?_)
  · obtain ⟨n, sg, rfl, _⟩ := h; rfl
  · obtain ⟨n, sg, rfl, h4, h3, q⟩ := h
    refine ⟨_, (pss_cons (ps_set (i := 2) S.nd rfl (Or.inl rfl) (pe_lst (pa_cons pe_str pa_nil)))
    (pss_cons (ps_for PassesOwn.never rfl (pi_range1 (by rfl) B.range_ (pa_cons (pv 0) pa_nil)) (pg_name (i := 3) S.nd rfl (Or.inl rfl))
      (pss_cons (ps_set (i := 4) S.nd rfl (Or.inl rfl) (pe_lst pa_nil))
      (pss_cons (ps_for PassesOwn.never rfl (pi_list (pv 2)) (pg_name (i := 5) S.nd rfl (Or.inl rfl))
        (pss_one (ps_for PassesOwn.never rfl (pi_str (pv 1)) (pg_name (i := 6) S.nd rfl (Or.inl rfl))
          (pss_one (ps_expr (pe_bm PySem.F.plainAttrs_list PySem.F.slot_list_append PySem.F.type_list_append mt_append (pv 4) (pa_cons (pe_op op_add_str (pv 5) (pv 6)) pa_nil)))))))
      (pss_one (ps_set (i := 2) S.nd rfl (Or.inl rfl) (pv 4))))))
    (pss_one (ps_ret (pv 2))))), ?_⟩
    refine ⟨hS (by simp), fun r0 hr0 => ?_⟩
    have s0 := same_new hr0 (.lst [.str ""])
    refine ⟨_, rfl, _, rfl, by omega, by omega, for_it walk_range (fun i σ H' => ∃ (r : Addr) (y3 y4 y5 y6 : Option V) (ls : List (List Sg)), σ = [some (.int (n : Int)), some (.str (tx sg)), some (.ref r), y3, y4, y5, y6] ∧ Same H H' ∧ H r = none ∧ H' r = some (.lst (ls.map fun l => V.str (tx l))) ∧ (∀ l ∈ ls, l.length = i ∧ ∀ s ∈ l, s ∈ sg) ∧ ls.length ≤ 3 ^ i)
      ⟨r0, none, none, none, none, [[]], rfl, s0, hr0, ?_, ?_, Nat.le_refl _⟩ (fun _ _ _ _ _ => trivial) ?_ ?_⟩
    · rw [upd_same, kE]; rfl
    · intro l hl
      rw [List.mem_singleton] at hl
      subst hl
      exact ⟨rfl, fun s hs => by cases hs⟩
    · rintro i x σ H1 H2 hi ⟨r, y3, y4, y5, y6, ls, rfl, s1, hrN, hL, hP, hn⟩ ⟨rfl, rfl⟩
      have hi4 : i < n := by omega
      have hn' : ls.length ≤ 27 := Nat.le_trans hn (Nat.le_trans (Nat.pow_le_pow_right (by decide) (show i ≤ 3 by omega)) (by decide))
      have hlen : (ls.map fun l => V.str (tx l)).length = ls.length := List.length_map _
      refine ⟨hS (by simp), fun b hb => ?_⟩
      have nrb : r ≠ b := ne_of_none hL hb
      have s2 := same_new hb (.lst [])
      have hL2 := s2 _ _ hL
      refine ⟨_, rfl, r, rfl, ⟨_, SqL.of hL2⟩, for_it walk_list (fun j σ H' => ∃ (z5 z6 : Option V) (ms : List (List Sg)), σ = [some (.int (n : Int)), some (.str (tx sg)), some (.ref r), some (.int (0 + (i : Int))), some (.ref b), z5, z6] ∧ Same H H' ∧ H' r = some (.lst (ls.map fun l => V.str (tx l))) ∧ H' b = some (.lst (ms.map fun l => V.str (tx l))) ∧ (∀ m ∈ ms, m.length = i + 1 ∧ ∀ s ∈ m, s ∈ sg) ∧ ms.length = sg.length * j)
        ⟨y5, y6, [], rfl, s1.trans s2, hL2, upd_same, fun m hm => (nomatch hm), rfl⟩ (fun j σ H' _ ⟨_, _, _, _, _, h, _⟩ => SqL.of h) ?_ ?_⟩
      · rintro j x σ H3 H4 hj ⟨z5, z6, ms, rfl, s3, hr3, hb3, hm3, hl3⟩ ⟨rfl, hx⟩
        rw [hlen] at hj
        rw [List.getElem?_map, List.getElem?_eq_getElem hj] at hx
        obtain rfl := Option.some.inj hx
        have hlj := hP ls[j] (List.getElem_mem hj)
        have hjb : sg.length * j ≤ 3 * 27 := Nat.mul_le_mul h3 (by omega)
        refine ⟨_, rfl, _, rfl, for_it (walk_tx sg) (fun c σ H' => ∃ (z6 : Option V) (ms : List (List Sg)), σ = [some (.int (n : Int)), some (.str (tx sg)), some (.ref r), some (.int (0 + (i : Int))), some (.ref b), some (.str (tx ls[j])), z6] ∧ Same H H' ∧ H' r = some (.lst (ls.map fun l => V.str (tx l))) ∧ H' b = some (.lst (ms.map fun l => V.str (tx l))) ∧ (∀ m ∈ ms, m.length = i + 1 ∧ ∀ s ∈ m, s ∈ sg) ∧ ms.length = sg.length * j + c)
          ⟨z6, ms, rfl, s3, hr3, hb3, hm3, hl3⟩ (fun _ _ _ _ _ => trivial) ?_ ?_⟩
        · rintro c x σ H5 H6 hc ⟨z6, ms5, rfl, s5, hr5, hb5, hm5, hl5⟩ ⟨rfl, sn, hsn, rfl⟩
          refine ⟨_, rfl, .inl ⟨rfl, _, SqL.of hb5⟩, _, rfl, _, rfl, _, _, rfl, rfl, hS (by rw [len_tx, len_tx, hlj.1]; simp; omega), b, _, _, rfl, rfl, hb5, hS' (by rw [List.length_map, hl5]; omega), ?_⟩
          have hsb : Same H (upd H6 b (.lst ((ms5.map fun l => V.str (tx l)) ++ [V.str (tx ls[j] ++ tx [sn])]))) := s5.upd_out (s1.free hb) _
          refine ⟨_, ms5 ++ [ls[j] ++ [sn]], rfl, hsb, by rw [upd_ne nrb]; exact hr5, ?_, ?_, by rw [List.length_append, hl5]; rfl⟩
          · rw [upd_same, List.map_append, tx_app]; rfl
          · intro m hm
            rw [List.mem_append, List.mem_singleton] at hm
            rcases hm with hm | rfl
            · exact hm5 m hm
            · refine ⟨by rw [List.length_append, hlj.1]; rfl, fun s hs => ?_⟩
              rw [List.mem_append, List.mem_singleton] at hs
              rcases hs with hs | rfl
              · exact hlj.2 s hs
              · exact List.mem_of_getElem? hsn
        · rintro σ H5 ⟨z6, ms5, rfl, s5, hr5, hb5, hm5, hl5⟩
          exact ⟨_, _, ms5, rfl, s5, hr5, hb5, hm5, by rw [hl5, Nat.mul_add, Nat.mul_one]⟩
      · rintro σ H3 ⟨z5, z6, ms, rfl, s3, hr3, hb3, hm3, hl3⟩
        rw [hlen] at hl3
        refine ⟨_, rfl, b, _, _, _, _, ms, rfl, s3, s1.free hb, hb3, hm3, ?_⟩
        rw [hl3, Nat.pow_succ, Nat.mul_comm]
        exact Nat.mul_le_mul hn h3
    · rintro σ H1 ⟨r, y3, y4, y5, y6, ls, rfl, s1, hrN, hL, hP, hn⟩
      have en : ((n : Int)).toNat = n := by omega
      rw [en] at hP hn
      exact ⟨_, rfl, q r H1 ls s1 hrN hL hP (Nat.le_trans hn (Nat.le_trans (Nat.pow_le_pow_right (by decide) h4) (by decide)))⟩
abbrev s__law_point : Stmt := top 50
theorem sc__law_point : FnScope ["_law_number", "_law_n", "_law_text", "_law_at"] ["_law_number", "_law_n"] (defScope s__law_point) := ⟨rfl, rfl, rfl, by decide +kernel, rfl, by decide +kernel, by decide +kernel⟩
theorem ok__law_point (D : Df K mg "_law_point" s__law_point ["_law_number", "_law_n"]) (B : Bn mg) : Cal P w K mg base (1) "_law_point" ["_law_number", "_law_n"] spPoint := by
  have S := sc__law_point
  refine D.ok S (fun vs H Q E h => ?_) (fun f cdv A outer s H vs Q E hr h => ?_)
  · obtain ⟨z, n, rfl, _⟩ := h; rfl
  · obtain ⟨z, n, rfl, h4, q⟩ := h
    refine ⟨_, (pss_cons (ps_set (i := 2) S.nd rfl (Or.inl rfl) pe_str)
    (pss_cons (ps_for PassesOwn.never rfl (pi_range1 (by rfl) B.range_ (pa_cons (pv 1) pa_nil)) (pg_name (i := 3) S.nd rfl (Or.inl rfl))
      (pss_cons (ps_set (i := 2) S.nd rfl (Or.inl rfl) (pe_op op_add_str (pv 2) (pe_ix ix_str pe_str (pe_op op_mod (pe_callTy call_int1 (by rfl) B.int_ (by decide +kernel) (pa_cons (pv 0) pa_nil)) pe_int) (fun _ _ => rfl))))
      (pss_one (ps_set (i := 0) S.nd rfl (Or.inl rfl) (pe_op op_fdiv (pv 0) pe_int)))))
    (pss_one (ps_ret (pv 2))))), ?_⟩
    refine ⟨_, rfl, _, rfl, by omega, by omega, for_it walk_range (fun i σ H' => ∃ (zi : Int) (t : List Bool) (y3 : Option V), σ = [some (.int zi), some (.int (n : Int)), some (.str (wd t)), y3] ∧ Same H H' ∧ i ≤ n ∧ t.length = i ∧ bits n z = t ++ bits (n - i) zi) ⟨z, [], none, by rw [← kE]; rfl, Same.refl H, Nat.zero_le _, rfl, rfl⟩ (fun _ _ _ _ _ => trivial) ?_ ?_⟩
    · rintro i x σ H1 H2 hi ⟨zi, t, y3, rfl, s1, hin, htl, hb⟩ ⟨rfl, rfl⟩
      have hi4 : i < n := by omega
      refine ⟨_, rfl, _, rfl, .inl ⟨_, rfl, _, _, rfl, rfl, (by show (0 : Int) < _; decide), _, _, _, rfl, rfl, hS (by decide +kernel), at01 zi, ?_⟩⟩
      refine ⟨_, _, rfl, rfl, hS (by rw [len_wd, htl]; show i + 1 ≤ 1000000; omega), ?_⟩
      refine ⟨_, rfl, _, _, rfl, rfl, ⟨by decide, by decide⟩, ?_⟩
      refine ⟨zi / 2, t ++ [decide (zi % 2 = 1)], some (.int (0 + (i : Int))), ?_, s1, hi4, by rw [List.length_append, htl]; rfl, ?_⟩
      · rw [← wd_app]; rfl
      · rw [hb, List.append_assoc]
        obtain ⟨k, hk⟩ : ∃ k, n - i = k + 1 := ⟨n - i - 1, by omega⟩
        have hk2 : n - (i + 1) = k := by omega
        rw [hk, hk2]; rfl
    · rintro σ H1 ⟨zi, t, y3, rfl, s1, hin, htl, hb⟩
      have en : ((n : Int)).toNat = n := by omega
      rw [en, Nat.sub_self] at hb
      have hb2 : bits n z = t := by rw [hb]; exact List.append_nil t
      rw [hb2] at q
      exact ⟨_, rfl, q H1 s1⟩
abbrev s__law_change : Stmt := top 51
theorem sc__law_change : FnScope ["_law_number", "_law_n", "_law_start", "_law_mask", "_law_end", "_law_at"] ["_law_number", "_law_n"] (defScope s__law_change) := ⟨rfl, rfl, rfl, by decide +kernel, rfl, by decide +kernel, by decide +kernel⟩
theorem ok__law_change (D : Df K mg "_law_change" s__law_change ["_law_number", "_law_n"]) (B : Bn mg) (C_law_point : Cal P w K mg base (1) "_law_point" ["_law_number", "_law_n"] spPoint) : Cal P w K mg base (2) "_law_change" ["_law_number", "_law_n"] (spChange K) := by
  have S := sc__law_change
  refine D.ok S (fun vs H Q E h => ?_) (fun f cdv A outer s H vs Q E hr h => ?_)
  · obtain ⟨z, n, rfl, _⟩ := h; rfl
  · obtain ⟨z, n, rfl, h1, h4, q⟩ := h
    refine ⟨_, (pss_cons (ps_set (i := 2) S.nd rfl (Or.inl rfl) (pe_cal C_law_point hr rfl (pa_cons (pv 0) (pa_cons (pv 1) pa_nil))))
    (pss_cons (ps_set (i := 3) S.nd rfl (Or.inl rfl) (pe_cal C_law_point hr rfl (pa_cons (pe_op op_add pe_int (pe_op op_modN (pe_callTy call_int1 (by rfl) B.int_ (by decide +kernel) (pa_cons (pe_op op_fdiv (pv 0) pe_int) pa_nil)) (pe_ix ix_list (pe_lst (pa_cons pe_int (pa_cons pe_int (pa_cons pe_int (pa_cons pe_int pa_nil))))) (pe_op op_sub (pv 1) pe_int) (fun _ _ => rfl)))) (pa_cons (pv 1) pa_nil))))
    (pss_cons (ps_set (i := 4) S.nd rfl (Or.inl rfl) pe_str)
    (pss_cons (ps_for PassesOwn.never rfl (pi_range1 (by rfl) B.range_ (pa_cons (pv 1) pa_nil)) (pg_name (i := 5) S.nd rfl (Or.inl rfl))
      (pss_one (ps_if (pt_cmpR op_eq (pe_ix ix_str (pv 3) (pv 5) (fun _ _ => rfl)) pe_str (nomark _)) (pss_one (ps_set (i := 4) S.nd rfl (Or.inl rfl) (pe_op op_add_str (pv 4) (pe_ix ix_str pe_str (pe_callTy call_int_str (by rfl) B.int_ (by decide +kernel) (pa_cons (pe_ix ix_str (pv 2) (pv 5) (fun _ _ => rfl)) pa_nil)) (fun _ _ => rfl))))) (pss_one (ps_set (i := 4) S.nd rfl (Or.inl rfl) (pe_op op_add_str (pv 4) (pe_ix ix_str (pv 2) (pv 5) (fun _ _ => rfl))))))))
    (pss_one (ps_ret (pe_tup (pa_cons (pv 2) (pa_cons (pv 4) pa_nil))))))))), ?_⟩
    refine ⟨_, rfl, _, rfl, z, n, rfl, h4, fun H1 s1 => ?_⟩
    refine ⟨_, rfl, _, _, rfl, rfl, ⟨by decide, by decide⟩, .inl ⟨_, rfl, hS (by simp), fun l hl => ?_⟩⟩
    have s2 := same_new hl (.lst [.int 1, .int 3, .int 7, .int 15])
    obtain ⟨m, hm, m1, m2⟩ : ∃ m : Int, atI [V.int 1, V.int 3, V.int 7, V.int 15] ((n : Int) - 1) = some (.int m) ∧ 1 ≤ m ∧ m < 2 ^ n := by
      have : n = 1 ∨ n = 2 ∨ n = 3 ∨ n = 4 := by omega
      rcases this with rfl | rfl | rfl | rfl
      · exact ⟨1, atI_nat (j := 0) rfl, by decide, by decide⟩
      · exact ⟨3, atI_nat (j := 1) rfl, by decide, by decide⟩
      · exact ⟨7, atI_nat (j := 2) rfl, by decide, by decide⟩
      · exact ⟨15, atI_nat (j := 3) rfl, by decide, by decide⟩
    refine ⟨_, rfl, _, _, rfl, rfl, l, _, _, _, rfl, rfl, SqL.of upd_same, hm, _, _, rfl, rfl, (by show m ≠ 0; omega), _, _, rfl, rfl, ?_⟩
    have f0 : 0 ≤ (z / 16).fmod m := Int.fmod_nonneg_of_pos _ (by omega)
    have f1 : (z / 16).fmod m < m := Int.fmod_lt_of_pos _ (by omega)
    refine ⟨_, rfl, 1 + (z / 16).fmod m, n, rfl, h4, fun H3 s3 => ?_⟩
    have hmask : true ∈ bits n (1 + (z / 16).fmod m) := bits_true n _ (by omega) (by omega)
    have lm := bits_len n (1 + (z / 16).fmod m)
    have ls := bits_len n z
    generalize bits n (1 + (z / 16).fmod m) = mk at hmask lm ⊢
    generalize bits n z = st at ls ⊢
    have hml : mk.length = st.length := by omega
    have fl := flip2_len hml
    refine ⟨_, rfl, _, rfl, by omega, by omega, for_it walk_range (fun i σ H' => ∃ (y5 : Option V), σ = [some (.int z), some (.int (n : Int)), some (.str (wd st)), some (.str (wd mk)), some (.str (wd ((flip2 mk st).take i))), y5] ∧ Same H H') ⟨none, by rw [List.take_zero, ← kE]; rfl, (s1.trans s2).trans s3⟩ (fun _ _ _ _ _ => trivial) ?_ ?_⟩
    · rintro i x σ H4 H5 hi ⟨y5, rfl, s4⟩ ⟨rfl, rfl⟩
      have hi4 : i < n := by omega
      have g1 : mk[i]? = some mk[i] := List.getElem?_eq_getElem (by omega)
      have g2 : st[i]? = some st[i] := List.getElem?_eq_getElem (by omega)
      have g3 := flip2_at g1 g2
      have lw : ∀ l : List Bool, l.length ≤ 4 → (wd l).length ≤ sizeLine := fun l h => hS (by rw [len_wd]; omega)
      have lt : ((flip2 mk st).take i).length ≤ 4 := by rw [List.length_take]; omega
      generalize hmi : mk[i] = mi at g1 g3
      generalize hsi : st[i] = si at g2 g3
      refine ⟨_, rfl, _, rfl, _, _, _, rfl, rfl, lw mk (by omega), at_ofA (Int.zero_add _) (wd_at g1), rfl, _, rfl, ?_⟩
      refine ifb (eqB1 mi) ?_
      cases mi with
      | true =>
        refine ⟨_, rfl, _, rfl, _, rfl, _, _, _, rfl, rfl, lw st (by omega), at_ofA (Int.zero_add _) (wd_at g2), _, _, rfl, int_wd si, (by show 1 ≤ 640; decide), _, _, _, rfl, rfl, hS (by decide +kernel), at10 si, ?_⟩
        refine ⟨_, _, rfl, rfl, hS (by rw [len_wd]; show _ + 1 ≤ 1000000; omega), ?_⟩
        refine ⟨some (.int (0 + (i : Int))), ?_, s4⟩
        rw [← wd_snoc g3]
        cases si <;> rfl
      | false =>
        refine ⟨_, rfl, _, rfl, _, rfl, _, _, _, rfl, rfl, lw st (by omega), at_ofA (Int.zero_add _) (wd_at g2), ?_⟩
        refine ⟨_, _, rfl, rfl, hS (by rw [len_wd]; show _ + 1 ≤ 1000000; omega), ?_⟩
        refine ⟨some (.int (0 + (i : Int))), ?_, s4⟩
        rw [← wd_snoc g3]
        cases si <;> rfl
    · rintro σ H4 ⟨y5, rfl, s4⟩
      have en : ((n : Int)).toNat = n := by omega
      rw [en, List.take_of_length_le (by omega)]
      refine ⟨_, rfl, _, rfl, hS (by simp), fun b hb => ?_⟩
      refine q b _ (st.map some) ((flip2 mk st).map some) (s4.trans (same_new hb _)) ⟨SqT.of upd_same, pt_wd _, pt_wd _, ?_, ?_, ?_, ?_⟩ ?_
      · rw [List.length_map, List.length_map]; omega
      · rw [List.length_map]; omega
      · rw [List.length_map]; omega
      · intro e
        exact flip2_ne hml hmask (map_inj (fun h => Option.some.inj h) e)
      · rw [List.length_map]; omega
end
end Sc

set_option maxHeartbeats 4000000
namespace Sc
open PySem PySem.Spec PyProof.Rows L2 TL
section
variable {P : Program} {w : World} {K : PySem.W.Frag} {mg : Str → Option Value} {base : Heap}
abbrev s__law_tree : Stmt := top 52
theorem sc__law_tree : FnScope ["_law_draws_here", "_law_deep", "_law_n", "_law_number", "_law_kind", "_law_leaf", "_law_parts_here", "_law_k"] ["_law_draws_here", "_law_deep", "_law_n"] (defScope s__law_tree) := ⟨rfl, rfl, rfl, by decide +kernel, rfl, by decide +kernel, by decide +kernel⟩
theorem ok__law_tree {m : Nat} (D : Df K mg "_law_tree" s__law_tree ["_law_draws_here", "_law_deep", "_law_n"]) (B : Bn mg) (C_law_tree : Cal P w K mg base (m+1) "_law_tree" ["_law_draws_here", "_law_deep", "_law_n"] (spTree K m)) : Cal P w K mg base (m+1+1) "_law_tree" ["_law_draws_here", "_law_deep", "_law_n"] (spTree K (m + 1)) := by
  have S := sc__law_tree
  refine D.ok S (fun vs H Q E h => ?_) (fun f cdv A outer s H vs Q E hr h => ?_)
  · obtain ⟨a, ds, d, n, rfl, _⟩ := h; rfl
  · obtain ⟨a, ds, d, n, rfl, hL0, hl0, d1, d3, dk, n1, n4, q⟩ := h
    refine ⟨_, (pss_cons (ps_set (i := 3) S.nd rfl (Or.inl rfl) pe_int)
    (C8.pss_cut (ps_if (pt_cmpR op_gt (pe_callB call_len_seq (by rfl) B.len_ PySem.boot_len (pa_cons (pv 0) pa_nil)) pe_int (nomark _)) (pss_one (ps_set (i := 3) S.nd rfl (Or.inl rfl) (pe_bm PySem.F.plainAttrs_list PySem.F.slot_list_pop PySem.F.type_list_pop mt_popAt (pv 0) (pa_cons pe_int pa_nil)))) pss_nil)
    (pss_cons (ps_set (i := 4) S.nd rfl (Or.inl rfl) (pe_op op_mod (pe_callTy call_int1 (by rfl) B.int_ (by decide +kernel) (pa_cons (pv 3) pa_nil)) pe_int))
    (C8.pss_cut (ps_if (PW.pt (pw_or (pt_cmpR op_eq (pe_callB call_len_seq (by rfl) B.len_ PySem.boot_len (pa_cons (pv 0) pa_nil)) pe_int (nomark _)) (pw_or1 (pt_cmpR op_le (pv 1) pe_int (nomark _))))) (pss_one (ps_set (i := 4) S.nd rfl (Or.inl rfl) pe_int)) pss_nil)
    (pss_cons (ps_if (pt_cmpR op_lt (pv 4) pe_int (nomark _)) (pss_cons (ps_set (i := 5) S.nd rfl (Or.inl rfl) (pe_op op_mod (pe_callTy call_int1 (by rfl) B.int_ (by decide +kernel) (pa_cons (pe_op op_fdiv (pv 3) pe_int) pa_nil)) pe_int))
      (pss_cons (ps_if (pt_cmpR op_eq (pv 5) pe_int (nomark _)) (pss_one (ps_ret (pe_tup (pa_cons pe_str pa_nil)))) pss_nil)
      (pss_cons (ps_if (pt_cmpR op_eq (pv 5) pe_int (nomark _)) (pss_one (ps_ret (pe_tup (pa_cons pe_str pa_nil)))) pss_nil)
      (pss_one (ps_ret (pe_tup (pa_cons pe_str (pa_cons (pe_op op_modN (pe_callTy call_int1 (by rfl) B.int_ (by decide +kernel) (pa_cons (pe_op op_fdiv (pv 3) pe_int) pa_nil)) (pv 2)) pa_nil)))))))) pss_nil)
    (pss_cons (ps_if (pt_cmpR op_eq (pv 4) pe_int (nomark _)) (pss_one (ps_ret (pe_tup (pa_cons pe_str (pa_cons (pe_cal C_law_tree hr rfl (pa_cons (pv 0) (pa_cons (pe_op op_sub (pv 1) pe_int) (pa_cons (pv 2) pa_nil)))) pa_nil))))) pss_nil)
    (pss_cons (ps_setLc (i := 6) (own := [(("_law_k" : Str), 7)]) (g := gName 7) (tt := tYes) rfl S.nd rfl rfl (sw_true rfl rfl rfl (by decide +kernel)) (pi_range1 (by rfl) B.range_ (pa_cons (pe_op op_add pe_int (pe_op op_mod (pe_callTy call_int1 (by rfl) B.int_ (by decide +kernel) (pa_cons (pe_op op_fdiv (pv 3) pe_int) pa_nil)) pe_int)) pa_nil)) (blkOk_by (own := [(("_law_k" : Str), 7)]) (N := ["_law_draws_here", "_law_deep", "_law_n", "_law_number", "_law_kind", "_law_leaf", "_law_parts_here", "_law_k"]) (sc := defScope s__law_tree) (by decide +kernel)) (fun _ _ _ _ _ => pg_name (i := 7) S.nd rfl (Or.inl rfl)) (fun _ _ _ _ _ => pts_nil) (fun _ _ _ _ _ => (pe_cal C_law_tree hr rfl (pa_cons (pv 0) (pa_cons (pe_op op_sub (pv 1) pe_int) (pa_cons (pv 2) pa_nil))))))
    (pss_one (ps_ret (pe_tup (pa_cons (pe_ix ix_list (pe_lst (pa_cons pe_str (pa_cons pe_str pa_nil))) (pe_op op_mod (pv 4) pe_int) (fun _ _ => rfl)) (pa_cons (pe_callTy call_tuple_of (by rfl) B.tuple_ (by decide +kernel) (pa_cons (pv 6) pa_nil)) pa_nil)))))))))))), ?_⟩
    have p1 : 1 ≤ 4 ^ (d - 1) := Nat.pow_pos (by decide)
    -- the number
    refine ⟨fun σ' H' => ∃ (num : Int) (es : List Int), σ' = [some (.ref a), some (.int (d : Int)), some (.int (n : Int)), some (.int num), none, none, none, none] ∧ Ex1 a H H' ∧ H' a = some (.lst (es.map V.int)) ∧ es.length ≤ 1000, ?_, ?_⟩
    · refine ⟨_, rfl, a, _, rfl, .inl (SqL.of hL0), _, _, rfl, rfl, _, rfl, ?_⟩
      refine ite2 (fun c1 => ?_) (fun c1 => ?_)
      · have c2 : 0 < ds.length := by
          have := of_decide_eq_true c1
          rw [List.length_map] at this; omega
        cases ds with
        | nil => exact absurd c2 (by decide)
        | cons d0 dr =>
          refine ⟨_, rfl, .inl ⟨rfl, _, SqL.of hL0⟩, a, _, _, 0, _, rfl, rfl, hL0, by decide, by decide, seq0 (by rw [List.length_map]; exact c2), rfl, ?_⟩
          exact ⟨d0, dr, rfl, Ex1.upd _ _ _, upd_same, by rw [List.length_cons] at hl0; omega⟩
      · exact ⟨14, ds, rfl, Ex1.refl _ _, hL0, hl0⟩
    rintro σ' H1 ⟨num, es, rfl, x1, hL1, hl1⟩
    refine ⟨_, rfl, .inl ⟨_, rfl, _, _, rfl, rfl, (by show (0 : Int) < _; decide), ?_⟩⟩
    have k1 := Int.emod_nonneg num (show (7 : Int) ≠ 0 by decide)
    have k2 := Int.emod_lt_of_pos num (show (0 : Int) < 7 by decide)
    -- the kind
    refine ⟨fun σ' H' => ∃ (kd : Int), σ' = [some (.ref a), some (.int (d : Int)), some (.int (n : Int)), some (.int num), some (.int kd), none, none, none] ∧ H' = H1 ∧ 0 ≤ kd ∧ kd < 7 ∧ (d ≤ 1 → kd = 0), ?_, ?_⟩
    · refine ⟨_, rfl, a, _, rfl, .inl (SqL.of hL1), rfl, _, rfl, ?_⟩
      refine ite2 (fun c1 => ?_) (fun c1 => ?_)
      · exact ⟨0, rfl, rfl, by decide, by decide, fun _ => rfl⟩
      · refine ⟨_, rfl, _, _, rfl, rfl, _, rfl, ?_⟩
        refine ite2 (fun c2 => ?_) (fun c2 => ?_)
        · exact ⟨0, rfl, rfl, by decide, by decide, fun _ => rfl⟩
        · exact ⟨num % 7, rfl, rfl, k1, k2, fun h => absurd (decide_eq_true (show (d : Int) ≤ 1 by omega)) c2⟩
    rintro σ' H2 ⟨kd, rfl, rfl, kd0, kd7, kdd⟩
    refine ⟨_, rfl, _, _, rfl, rfl, _, rfl, ?_⟩
    refine ite2 (fun c1 => ?_) (fun c1 => ?_)
    · refine ⟨_, rfl, _, _, rfl, rfl, ⟨by decide, by decide⟩, .inl ⟨_, rfl, _, _, rfl, rfl, (by show (0 : Int) < _; decide), ?_⟩⟩
      refine ⟨_, rfl, rfl, _, rfl, ?_⟩
      refine ite2 (fun _ => ?_) (fun _ => ?_)
      · refine ⟨hS (by simp), fun p hp => ?_⟩
        have npa : a ≠ p := ne_of_none hL1 hp
        exact q _ _ es .one (x1.trans (Ex1.of (same_new hp _))) (by rw [upd_ne npa]; exact hL1) hl1 (TA.mkOne (SqT.of upd_same)) trivial d1 p1
      refine ⟨_, rfl, rfl, _, rfl, ?_⟩
      refine ite2 (fun _ => ?_) (fun _ => ?_)
      · refine ⟨hS (by simp), fun p hp => ?_⟩
        have npa : a ≠ p := ne_of_none hL1 hp
        exact q _ _ es .zero (x1.trans (Ex1.of (same_new hp _))) (by rw [upd_ne npa]; exact hL1) hl1 (TA.mkZero (SqT.of upd_same)) trivial d1 p1
      refine ⟨_, rfl, _, _, rfl, rfl, ⟨by decide, by decide⟩, .inl ⟨_, rfl, _, rfl, _, _, rfl, rfl, (by show (n : Int) ≠ 0; omega), hS (by simp), fun p hp => ?_⟩⟩
      have npa : a ≠ p := ne_of_none hL1 hp
      have f0 : 0 ≤ (num / 84).fmod (n : Int) := Int.fmod_nonneg_of_pos _ (by omega)
      have f1 : (num / 84).fmod (n : Int) < n := Int.fmod_lt_of_pos _ (by omega)
      obtain ⟨i, hi⟩ : ∃ i : Nat, (num / 84).fmod (n : Int) = (i : Int) := ⟨((num / 84).fmod (n : Int)).toNat, by omega⟩
      refine q _ _ es (.inp i) (x1.trans (Ex1.of (same_new hp _))) (by rw [upd_ne npa]; exact hL1) hl1 (TA.mkInp (SqT.of ?_)) (show i < n by omega) d1 p1
      rw [upd_same]
      show some (HO.tup [V.str "in", V.int ((num / 84).fmod (n : Int))]) = _
      rw [hi]
    have hkd : ¬ kd < 2 := fun h => c1 (decide_eq_true h)
    have hd2 : 2 ≤ d := Classical.byContradiction fun h => by have := kdd (by omega); omega
    have ed : (d : Int) - 1 = ((d - 1 : Nat) : Int) := by omega
    have p2 : 4 ^ (d - 1) = 4 * 4 ^ (d - 1 - 1) := by
      obtain ⟨e, rfl⟩ : ∃ e, d = e + 2 := ⟨d - 2, by omega⟩
      show 4 ^ (e + 1) = 4 * 4 ^ e
      rw [Nat.pow_succ]; omega
    refine ⟨_, rfl, rfl, _, rfl, ?_⟩
    refine ite2 (fun c2 => ?_) (fun c2 => ?_)
    · refine ⟨_, rfl, _, rfl, _, _, rfl, rfl, _, rfl, a, es, d - 1, n, by rw [← ed]; rfl, hL1, hl1, by omega, by omega, by omega, n1, n4, fun v H3 ds3 t x3 hL3 hl3 hT hw hdp hlv => ⟨hS (by simp), fun p hp => ?_⟩⟩
      have npa : a ≠ p := ne_of_none hL3 hp
      have s4 := same_new hp (.tup [.str "not", v])
      exact q _ _ ds3 (.neg t) ((x1.trans x3).trans (Ex1.of s4)) (by rw [upd_ne npa]; exact hL3) hl3 (TA.mkNeg (SqT.of upd_same) (TA.up s4 hT)) hw (by rw [T.depth]; omega) (show t.leaves ≤ _ by omega)
    have g1 := Int.emod_nonneg (num / 7) (show (4 : Int) ≠ 0 by decide)
    have g2 := Int.emod_lt_of_pos (num / 7) (show (0 : Int) < 4 by decide)
    refine ⟨_, rfl, _, _, rfl, rfl, ⟨by decide, by decide⟩, .inl ⟨_, rfl, _, _, rfl, rfl, (by show (0 : Int) < _; decide), _, _, rfl, rfl, _, rfl, by omega, by omega, fun DD hD => ?_⟩⟩
    have nDa : a ≠ DD := ne_of_none hL1 hD
    have hDH : H DD = none := by
      cases e : H DD with
      | none => rfl
      | some o => rw [x1 DD o (Ne.symm nDa) e] at hD; cases hD
    refine lc_it walk_range (fun i H' => ∃ (ys : List V) (es' : List Int) (ts : List T), H' DD = some (.lst ys) ∧ ys.length = i ∧ H' a = some (.lst (es'.map V.int)) ∧ es'.length ≤ 1000 ∧ Ex1 a H H' ∧ TAs K H' ys ts ∧ ts.length = i ∧ ∀ t ∈ ts, t.wf n ∧ t.depth ≤ d - 1 ∧ t.leaves ≤ 4 ^ (d - 1 - 1))
      ⟨[], es, [], upd_same, rfl, by rw [upd_ne nDa]; exact hL1, hl1, x1.trans (Ex1.of (same_new hD _)), .nil, rfl, fun t ht => nomatch ht⟩ (fun _ _ _ _ => trivial) ?_ ?_
    · rintro i x H3 H4 hi ⟨ys, es', ts, hD3, hyl, hL3, hl3, x3, hTs, htl, hall⟩ ⟨rfl, rfl⟩
      refine ⟨rfl, ?_⟩
      refine ⟨_, rfl, _, rfl, _, _, rfl, rfl, _, rfl, a, es', d - 1, n, by rw [← ed]; rfl, hL3, hl3, by omega, by omega, by omega, n1, n4, fun v H5 ds5 t x5 hL5 hl5 hT hw hdp hlv => ?_⟩
      have hD5 := x5 _ _ (Ne.symm nDa) hD3
      have f5 : SameT H4 H5 := Ex1.fix x5 hL3
      have f6 : SameT H5 (upd H5 DD (.lst (ys ++ [v]))) := SameT.upd hD5
      refine ⟨ys, hD5, hS' (by omega), ys ++ [v], ds5, ts ++ [t], upd_same, by rw [List.length_append, hyl]; rfl, by rw [upd_ne nDa]; exact hL5, hl5, fun b o n q => ?_, TAs.snoc (TAs.fix (f5.trans f6) _ _ hTs) (TA.fix f6 _ _ hT), by rw [List.length_append, htl]; rfl, fun u hu => ?_⟩
      · have nb : b ≠ DD := fun e => by rw [e, hDH] at q; cases q
        rw [upd_ne nb]
        exact x5 b o n (x3 b o n q)
      · rw [List.mem_append, List.mem_singleton] at hu
        rcases hu with hu | rfl
        · exact hall u hu
        · exact ⟨hw, hdp, hlv⟩
    · rintro H3 ⟨ys, es', ts, hD3, hyl, hL3, hl3, x3, hTs, htl, hall⟩
      refine ⟨hS (by simp), fun l hl => ?_⟩
      have s4 := same_new hl (.lst [.str "and", .str "or"])
      have g3 := Int.emod_nonneg kd (show (2 : Int) ≠ 0 by decide)
      have g4 := Int.emod_lt_of_pos kd (show (0 : Int) < 2 by decide)
      obtain ⟨b, hb⟩ : ∃ b : Bool, atI [V.str "and", V.str "or"] (kd % 2) = some (.str (gw b)) := by
        have : kd % 2 = 0 ∨ kd % 2 = 1 := by omega
        rcases this with e | e
        · exact ⟨true, by rw [e]; exact at0⟩
        · exact ⟨false, by rw [e]; exact at1⟩
      refine ⟨_, rfl, _, _, rfl, rfl, (by show (0 : Int) < _; decide), l, _, _, _, rfl, rfl, SqL.of upd_same, hb, ?_⟩
      refine ⟨_, rfl, DD, ys, rfl, .inl ⟨SqL.of (s4 _ _ hD3), fun l2 hl2 => ⟨hS (by simp), fun p hp => ?_⟩⟩⟩
      have s5 := same_new hl2 (.tup ys)
      have s6 := same_new hp (.tup [.str (gw b), .ref l2])
      have s46 := (s4.trans s5).trans s6
      have tl4 : ts.length ≤ 4 := by rw [htl]; omega
      have tl1 : 1 ≤ ts.length := by rw [htl]; omega
      refine q _ _ es' (.gate b ts) (x3.trans (Ex1.of s46)) (s46 _ _ hL3) hl3 (TA.mkGate (SqT.of upd_same) (s6.tup (SqT.of upd_same)) (TAs.up s46 hTs)) ⟨fun e => by rw [e] at tl1; exact absurd tl1 (by decide), (wfL_iff n ts).mpr fun t ht => (hall t ht).1⟩ ?_ ?_
      · have : depthL ts ≤ d - 1 := depthL_le.mpr fun t ht => (hall t ht).2.1
        rw [T.depth]; omega
      · have h1 := leavesL_mul ts (4 ^ (d - 1 - 1)) fun t ht => (hall t ht).2.2
        have h2 : ts.length * 4 ^ (d - 1 - 1) ≤ 4 * 4 ^ (d - 1 - 1) := Nat.mul_le_mul_right _ tl4
        show leavesL ts ≤ _
        omega
theorem all__law_tree (D : Df K mg "_law_tree" s__law_tree ["_law_draws_here", "_law_deep", "_law_n"]) (B : Bn mg) : ∀ k : Nat, Cal P w K mg base (k+1) "_law_tree" ["_law_draws_here", "_law_deep", "_law_n"] (spTree K k)
  | 0 => (D.none (sp := spTree K 0) fun vs H Q E h => by
      obtain ⟨a, ds, d, n, _, _, _, d1, _, dk, _⟩ := h
      omega).mono (by omega)
  | k + 1 => ok__law_tree D B (all__law_tree D B k)
abbrev s__law_grown : Stmt := top 53
theorem sc__law_grown : FnScope ["_law_draws_here", "_law_deep", "_law_n", "_law_rows"] ["_law_draws_here", "_law_deep", "_law_n"] (defScope s__law_grown) := ⟨rfl, rfl, rfl, by decide +kernel, rfl, by decide +kernel, by decide +kernel⟩
theorem ok__law_grown (D : Df K mg "_law_grown" s__law_grown ["_law_draws_here", "_law_deep", "_law_n"]) (B : Bn mg) (C_law_tree : Cal P w K mg base (4) "_law_tree" ["_law_draws_here", "_law_deep", "_law_n"] (spTree K 3)) : Cal P w K mg base (5) "_law_grown" ["_law_draws_here", "_law_deep", "_law_n"] (spGrown K) := by
  have S := sc__law_grown
  refine D.ok S (fun vs H Q E h => ?_) (fun f cdv A outer s H vs Q E hr h => ?_)
  · obtain ⟨a, ds, d, n, rfl, _⟩ := h; rfl
  · obtain ⟨a, ds, d, n, rfl, hA, hl, d1, d3, n1, n4, q⟩ := h
    refine ⟨_, (pss_cons (ps_set (i := 3) S.nd rfl (Or.inl rfl) (pe_callTy call_list_of (by rfl) B.list_ (by decide +kernel) (pa_cons (pv 0) pa_nil)))
    (C8.pss_cut (ps_if (PW.pt (pw_and (pt_cmpR op_gt (pe_callB call_len_seq (by rfl) B.len_ PySem.boot_len (pa_cons (pv 3) pa_nil)) pe_int (nomark _)) (pw_and (pt_cmpR op_gt (pe_op op_mod (pe_callTy call_int1 (by rfl) B.int_ (by decide +kernel) (pa_cons (pe_op op_fdiv (pe_ix ix_list (pv 3) pe_int (fun _ _ => rfl)) pe_int) pa_nil)) pe_int) pe_int (nomark _)) (pw_and1 (pt_cmpR op_lt (pe_op op_mod (pe_callTy call_int1 (by rfl) B.int_ (by decide +kernel) (pa_cons (pe_ix ix_list (pv 3) pe_int (fun _ _ => rfl)) pa_nil)) pe_int) pe_int (nomark _)))))) (pss_one (ps_asg (pe_op op_add (pe_ix ix_list (pv 3) pe_int (fun _ _ => rfl)) pe_int) (pg_sub (pv 3) pe_int set_list))) pss_nil)
    (pss_one (ps_ret (pe_cal C_law_tree hr rfl (pa_cons (pv 3) (pa_cons (pv 1) (pa_cons (pv 2) pa_nil)))))))), ?_⟩
    refine ⟨_, rfl, a, _, rfl, .inl hA, fun r hr0 => ?_⟩
    have s1 := same_new hr0 (.lst (ds.map V.int))
    refine ⟨fun σ' H' => ∃ es : List Int, σ' = [some (.ref a), some (.int (d : Int)), some (.int (n : Int)), some (.ref r)] ∧ Same H H' ∧ H' r = some (.lst (es.map V.int)) ∧ es.length ≤ 1000, ?_, ?_⟩
    · refine ⟨_, rfl, r, _, rfl, .inl (SqL.of upd_same), _, _, rfl, rfl, _, rfl, ?_⟩
      refine ite2 (fun c1 => ?_) (fun _ => ⟨ds, rfl, s1, upd_same, hl⟩)
      have c2 : 0 < ds.length := by
        have := of_decide_eq_true c1
        rw [List.length_map] at this; omega
      cases ds with
      | nil => exact absurd c2 (by decide)
      | cons d0 dr =>
        refine ⟨_, rfl, r, _, _, _, rfl, rfl, SqL.of upd_same, at0, _, _, rfl, rfl, ⟨by decide, by decide⟩, .inl ⟨_, rfl, _, _, rfl, rfl, (by show (0 : Int) < _; decide), _, _, rfl, rfl, _, rfl, ?_⟩⟩
        refine ite2 (fun _ => ?_) (fun _ => ⟨d0 :: dr, rfl, s1, upd_same, hl⟩)
        refine ⟨_, rfl, r, _, _, _, rfl, rfl, SqL.of upd_same, at0, .inl ⟨_, rfl, _, _, rfl, rfl, (by show (0 : Int) < _; decide), _, _, rfl, rfl, _, rfl, ?_⟩⟩
        refine ite2 (fun _ => ?_) (fun _ => ⟨d0 :: dr, rfl, s1, upd_same, hl⟩)
        refine ⟨_, rfl, r, _, _, _, rfl, rfl, SqL.of upd_same, at0, _, _, rfl, rfl, ?_⟩
        refine ⟨_, rfl, r, _, 0, 0, rfl, rfl, upd_same, ixN_nat (k := 0) (by simp), ?_⟩
        exact ⟨(d0 + 3) :: dr, rfl, s1.upd_out hr0 _, by rw [upd_same]; rfl, hl⟩
    · rintro σ' H1 ⟨es, rfl, s2, hr1, hel⟩
      refine ⟨_, rfl, _, rfl, _, rfl, r, es, d, n, rfl, hr1, hel, d1, d3, d3, n1, n4, fun v H2 ds' t x2 _ _ hT hw hdp hlv => ?_⟩
      refine q v H2 t (Ex1.same s2 x2 hr0) hT hw (by omega) (Nat.le_trans hlv ?_)
      exact Nat.le_trans (Nat.pow_le_pow_right (by decide) (show d - 1 ≤ 2 by omega)) (by decide)
end
end Sc

set_option maxHeartbeats 4000000
namespace Sc
open PySem PySem.Spec PyProof.Rows L2 TL
section
variable {P : Program} {w : World} {K : PySem.W.Frag} {mg : Str → Option Value} {base : Heap}
theorem hd_ao (t : T) : inV (.str t.hd) [.str "and", .str "or"] = (!t.leaf && !t.isNot) := by
  cases t with
  | gate a ps =>
    show inV (.str (gw a)) [.str "and", .str "or"] = true
    cases a <;> decide +kernel
  | one => show inV (.str "one") [.str "and", .str "or"] = false; decide +kernel
  | zero => show inV (.str "zero") [.str "and", .str "or"] = false; decide +kernel
  | inp i => show inV (.str "in") [.str "and", .str "or"] = false; decide +kernel
  | neg t => show inV (.str "not") [.str "and", .str "or"] = false; decide +kernel
theorem vI_snoc (p : List Nat) (i : Nat) : vI (p ++ [i]) = vI p ++ [V.int (i : Int)] := by
  show List.map _ _ = _
  rw [List.map_append]; rfl
abbrev s__law_parts : Stmt := top 54
theorem sc__law_parts : FnScope ["_law_tree_here"] ["_law_tree_here"] (defScope s__law_parts) := ⟨rfl, rfl, rfl, by decide +kernel, rfl, by decide +kernel, by decide +kernel⟩
theorem ok__law_parts (D : Df K mg "_law_parts" s__law_parts ["_law_tree_here"]) (B : Bn mg) : Cal P w K mg base (1) "_law_parts" ["_law_tree_here"] (spLParts K) := by
  have S := sc__law_parts
  refine D.ok S (fun vs H Q E h => ?_) (fun f cdv A outer s H vs Q E hr h => ?_)
  · obtain ⟨v, t, rfl, _⟩ := h; rfl
  · obtain ⟨v, t, rfl, hT, q⟩ := h
    refine ⟨_, (pss_cons (ps_if (pt_cmpR op_eq (pe_ix ix_tup (pv 0) pe_int (fun _ _ => rfl)) pe_str (nomark _)) (pss_one (ps_ret (pe_lst (pa_cons (pe_ix ix_tup (pv 0) pe_int (fun _ _ => rfl)) pa_nil)))) pss_nil)
    (pss_cons (ps_if (pt_cmpR op_in_seq (pe_ix ix_tup (pv 0) pe_int (fun _ _ => rfl)) (pe_lst (pa_cons pe_str (pa_cons pe_str pa_nil))) (by rfl)) (pss_one (ps_ret (pe_callTy call_list_of (by rfl) B.list_ (by decide +kernel) (pa_cons (pe_ix ix_tup (pv 0) pe_int (fun _ _ => rfl)) pa_nil)))) pss_nil)
    (pss_one (ps_ret (pe_lst pa_nil))))), ?_⟩
    cases hl : t.leaf with
    | true =>
      obtain ⟨a, xs, rfl, sq⟩ := TA.hd hT
      have hn : t.isNot = false := by cases t <;> first | rfl | cases hl
      refine ⟨_, rfl, a, _, _, _, rfl, rfl, sq, at0, rfl, _, rfl, ?_⟩
      refine ifb ((hd_not t).trans hn) ?_
      refine ⟨_, rfl, a, _, _, _, rfl, rfl, sq, at0, hS (by decide), fun l hl1 => ⟨l, _, rfl, .inl (SqL.of upd_same), rfl, rfl, _, rfl, ?_⟩⟩
      refine ifb ((hd_ao t).trans (by rw [hl, Bool.not_true, Bool.false_and])) ?_
      have s1 := same_new hl1 (.lst [.str "and", .str "or"])
      refine ⟨hS (by decide), fun p hp => q p _ [] (s1.trans (same_new hp _)) (s1.free hp) upd_same ?_⟩
      rw [parts_leaf hl]; exact .nil
    | false =>
      cases t with
      | neg t =>
        obtain ⟨a, u, rfl, sq, hu⟩ := TA.neg hT
        refine ⟨_, rfl, a, _, _, _, rfl, rfl, sq, at0, rfl, _, rfl, ?_⟩
        refine ifb (hd_not (.neg t)) ?_
        refine ⟨_, rfl, a, _, _, _, rfl, rfl, sq, at1, hS (by simp), fun p hp => ?_⟩
        have s2 := same_new hp (.lst [u])
        exact q p _ [u] s2 hp upd_same (.cons (TA.up s2 hu) .nil)
      | gate k ps =>
        obtain ⟨a, b, us, rfl, sq, sb, hu⟩ := TA.gate hT
        refine ⟨_, rfl, a, _, _, _, rfl, rfl, sq, at0, rfl, _, rfl, ?_⟩
        refine ifb (hd_not (.gate k ps)) ?_
        refine ⟨_, rfl, a, _, _, _, rfl, rfl, sq, at0, hS (by decide), fun l hl1 => ⟨l, _, rfl, .inl (SqL.of upd_same), rfl, rfl, _, rfl, ?_⟩⟩
        refine ifb (hd_ao (.gate k ps)) ?_
        have s1 := same_new hl1 (.lst [.str "and", .str "or"])
        refine ⟨_, rfl, a, _, _, _, rfl, rfl, s1.tup sq, at1, b, us, rfl, .inr (s1.tup sb), fun p hp => ?_⟩
        have s2 := same_new hp (.lst us)
        exact q p _ us (s1.trans s2) (s1.free hp) upd_same (TAs.up s2 (TAs.up s1 hu))
      | _ => cases hl
abbrev s__law_leaf_paths : Stmt := top 55
theorem sc__law_leaf_paths : FnScope ["_law_tree_here", "_law_path", "_law_parts_here", "_law_rows", "_law_k"] ["_law_tree_here", "_law_path"] (defScope s__law_leaf_paths) := ⟨rfl, rfl, rfl, by decide +kernel, rfl, by decide +kernel, by decide +kernel⟩
theorem ok__law_leaf_paths {m : Nat} (D : Df K mg "_law_leaf_paths" s__law_leaf_paths ["_law_tree_here", "_law_path"]) (B : Bn mg) (C_law_parts : Cal P w K mg base (1) "_law_parts" ["_law_tree_here"] (spLParts K)) (C_law_leaf_paths : Cal P w K mg base (m+2) "_law_leaf_paths" ["_law_tree_here", "_law_path"] (spLeafPaths K m)) : Cal P w K mg base (m+1+2) "_law_leaf_paths" ["_law_tree_here", "_law_path"] (spLeafPaths K (m + 1)) := by
  have S := sc__law_leaf_paths
  refine D.ok S (fun vs H Q E h => ?_) (fun f cdv A outer s H vs Q E hr h => ?_)
  · obtain ⟨v, t, n, a, pr, rfl, _⟩ := h; rfl
  · obtain ⟨v, t, n, a, pr, rfl, hT, hw, hlv, hk, hp, hd, q⟩ := h
    refine ⟨_, (pss_cons (ps_set (i := 2) S.nd rfl (Or.inl rfl) (pe_cal C_law_parts hr rfl (pa_cons (pv 0) pa_nil)))
    (pss_cons (ps_if (pt_cmpR op_eq (pe_callB call_len_seq (by rfl) B.len_ PySem.boot_len (pa_cons (pv 2) pa_nil)) pe_int (nomark _)) (pss_one (ps_ret (pe_lst (pa_cons (pv 1) pa_nil)))) pss_nil)
    (pss_cons (ps_set (i := 3) S.nd rfl (Or.inl rfl) (pe_lst pa_nil))
    (pss_cons (ps_for PassesOwn.never rfl (pi_range1 (by rfl) B.range_ (pa_cons (pe_callB call_len_seq (by rfl) B.len_ PySem.boot_len (pa_cons (pv 2) pa_nil)) pa_nil)) (pg_name (i := 4) S.nd rfl (Or.inl rfl))
      (pss_one (ps_set (i := 3) S.nd rfl (Or.inl rfl) (pe_op op_cat (pv 3) (pe_cal C_law_leaf_paths hr rfl (pa_cons (pe_ix ix_list (pv 2) (pv 4) (fun _ _ => rfl)) (pa_cons (pe_op op_catU (pv 1) (pe_tup (pa_cons (pv 4) pa_nil))) pa_nil)))))))
    (pss_one (ps_ret (pv 3))))))), ?_⟩
    refine ⟨_, rfl, v, t, rfl, hT, fun p H1 us s1 hp0 hp1 hus => ?_⟩
    have ul := hus.len
    refine ⟨_, rfl, p, _, rfl, .inl (SqL.of hp1), rfl, _, rfl, ?_⟩
    have lp := leaves_pos t hw
    cases hl : t.leaf with
    | true =>
      rw [parts_leaf hl] at ul
      refine ifb (eq_int' (by rw [ul]; rfl)) ?_
      refine ⟨_, rfl, hS (by simp), fun r hr0 => ?_⟩
      have s2 := same_new hr0 (.lst [.ref a])
      refine q r _ [.ref a] (s1.trans s2) upd_same (by simp) (by simp; omega) fun u hu => ?_
      rw [List.mem_singleton] at hu
      exact ⟨a, [], t, hu, by rw [List.append_nil]; exact (s1.trans s2).tup hp, rfl⟩
    | false =>
      have pl := parts_leaves hl
      have pd := parts_depth hl
      have pw := (wfL_iff n _).mp (parts_wf hw)
      have pn : t.parts.length ≠ 0 := fun e => parts_ne hl hw (List.eq_nil_of_length_eq_zero e)
      refine ifb (eq_intF (by omega)) ?_
      refine ⟨hS (by simp), fun r0 hr0 => ?_⟩
      have s2 := same_new hr0 (.lst [])
      have ll := len_leaves t.parts (parts_wf hw)
      refine ⟨_, rfl, p, _, rfl, .inl (SqL.of (s2 _ _ hp1)), _, rfl, by omega, by omega, ?_⟩
      refine for_it walk_range (fun i σ H' => ∃ (r : Addr) (y4 : Option V) (ws : List V), σ = [some v, some (.ref a), some (.ref p), some (.ref r), y4] ∧ Same H1 H' ∧ H' r = some (.lst ws) ∧ ws.length ≤ leavesL (t.parts.take i) ∧ i ≤ ws.length ∧ ∀ u ∈ ws, ∃ (b : Addr) (q : List Nat) (x : T), u = .ref b ∧ SqT K H' b (vI (pr ++ q)) ∧ T.at q t = some x)
        ⟨r0, none, [], rfl, s2, upd_same, Nat.zero_le _, Nat.le_refl _, fun u hu => nomatch hu⟩ (fun _ _ _ _ _ => trivial) ?_ ?_
      · rintro i x σ H3 H4 hi ⟨r, y4, ws, rfl, s3, hr3, hwl, hwi, hall⟩ ⟨rfl, rfl⟩
        have hi' : i < us.length := by omega
        have ux : us[i]? = some us[i] := List.getElem?_eq_getElem hi'
        obtain ⟨tu, ht, hTu⟩ := hus.get ux
        have htm := List.mem_of_getElem? ht
        have s13 := s1.trans s3
        have du := depthL_le.mp (Nat.le_refl (depthL t.parts)) tu htm
        have lu := leavesL_take t.parts i tu ht
        have lu2 := leavesL_le t.parts (i + 1)
        refine ⟨_, rfl, _, rfl, _, rfl, p, us, _, _, rfl, rfl, SqL.of (s3 _ _ hp1), at_ofA (Int.zero_add _) ux, ?_⟩
        refine ⟨_, rfl, _, rfl, hS (by simp), fun p2 hp2 => ?_⟩
        have s4 := same_new hp2 (.tup [V.int (0 + (i : Int))])
        refine ⟨a, p2, vI pr, [V.int (0 + (i : Int))], rfl, rfl, (s13.trans s4).tup hp, SqT.of upd_same, by simp, hS (by simp; omega), fun b2 H7 s7 hb2 => ?_⟩
        rw [Int.zero_add, ← vI_snoc] at hb2
        refine ⟨_, tu, n, b2, pr ++ [i], rfl, TA.up ((s3.trans s4).trans s7) hTu, pw tu htm, by omega, by omega, hb2, by rw [List.length_append]; simp; omega, fun r2 H8 ws2 s8 hr2 h1 h2 hall2 => ?_⟩
        have s38 := (s4.trans s7).trans s8
        refine ⟨r, r2, ws, ws2, rfl, rfl, s38 _ _ hr3, hr2, hS (by omega), fun l hl9 => ?_⟩
        have s9 := same_new hl9 (.lst (ws ++ ws2))
        refine ⟨l, _, ws ++ ws2, rfl, (s3.trans s38).trans s9, upd_same, by rw [List.length_append]; omega, by rw [List.length_append]; omega, fun u hu => ?_⟩
        rw [List.mem_append] at hu
        rcases hu with hu | hu
        · obtain ⟨b, q2, z, e, hb, hz⟩ := hall u hu
          exact ⟨b, q2, z, e, (s38.trans s9).tup hb, hz⟩
        · obtain ⟨b, q2, z, e, hb, hz⟩ := hall2 u hu
          refine ⟨b, i :: q2, z, e, s9.tup ?_, at_of_parts ht hz⟩
          rw [List.append_assoc] at hb
          exact hb
      · rintro σ H3 ⟨r, y4, ws, rfl, s3, hr3, hwl, hwi, hall⟩
        have en : ((us.length : Nat) : Int).toNat = us.length := by omega
        rw [en] at hwl hwi
        have := leavesL_le t.parts us.length
        exact ⟨_, rfl, q r H3 ws (s1.trans s3) hr3 (by omega) (by omega) hall⟩
theorem all__law_leaf_paths (D : Df K mg "_law_leaf_paths" s__law_leaf_paths ["_law_tree_here", "_law_path"]) (B : Bn mg) (C_law_parts : Cal P w K mg base (1) "_law_parts" ["_law_tree_here"] (spLParts K)) : ∀ k : Nat, Cal P w K mg base (k+2) "_law_leaf_paths" ["_law_tree_here", "_law_path"] (spLeafPaths K k)
  | 0 => (D.none (sp := spLeafPaths K 0) fun vs H Q E h => by
      obtain ⟨v, t, n, a, pr, _, _, _, _, hk, _⟩ := h
      have := depth_pos t
      omega).mono (by omega)
  | k + 1 => ok__law_leaf_paths D B C_law_parts (all__law_leaf_paths D B C_law_parts k)
abbrev s__law_replaced : Stmt := top 56
theorem sc__law_replaced : FnScope ["_law_tree_here", "_law_path", "_law_fresh", "_law_parts_here"] ["_law_tree_here", "_law_path", "_law_fresh"] (defScope s__law_replaced) := ⟨rfl, rfl, rfl, by decide +kernel, rfl, by decide +kernel, by decide +kernel⟩
theorem ok__law_replaced {m : Nat} (D : Df K mg "_law_replaced" s__law_replaced ["_law_tree_here", "_law_path", "_law_fresh"]) (B : Bn mg) (C_law_parts : Cal P w K mg base (1) "_law_parts" ["_law_tree_here"] (spLParts K)) (C_law_replaced : Cal P w K mg base (m+2) "_law_replaced" ["_law_tree_here", "_law_path", "_law_fresh"] (spReplaced K m)) : Cal P w K mg base (m+1+2) "_law_replaced" ["_law_tree_here", "_law_path", "_law_fresh"] (spReplaced K (m + 1)) := by
  have S := sc__law_replaced
  refine D.ok S (fun vs H Q E h => ?_) (fun f cdv A outer s H vs Q E hr h => ?_)
  · obtain ⟨v, f, t, u, g, a, p, rfl, _⟩ := h; rfl
  · obtain ⟨v, f, t, u, g, a, p, rfl, hT, hp, hat, hg, hk, q⟩ := h
    refine ⟨_, (pss_cons (ps_if (pt_cmpR op_eq (pe_callB call_len_seq (by rfl) B.len_ PySem.boot_len (pa_cons (pv 1) pa_nil)) pe_int (nomark _)) (pss_one (ps_ret (pv 2))) pss_nil)
    (pss_cons (ps_set (i := 3) S.nd rfl (Or.inl rfl) (pe_cal C_law_parts hr rfl (pa_cons (pv 0) pa_nil)))
    (pss_cons (ps_asg (pe_cal C_law_replaced hr rfl (pa_cons (pe_ix ix_list (pv 3) (pe_ix ix_tup (pv 1) pe_int (fun _ _ => rfl)) (fun _ _ => rfl)) (pa_cons (pe_slice sl_tupU (pv 1) (po_some pe_int) po_none) (pa_cons (pv 2) pa_nil)))) (pg_sub (pv 3) (pe_ix ix_tup (pv 1) pe_int (fun _ _ => rfl)) set_list))
    (pss_cons (ps_if (pt_cmpR op_eq (pe_ix ix_tup (pv 0) pe_int (fun _ _ => rfl)) pe_str (nomark _)) (pss_one (ps_ret (pe_tup (pa_cons pe_str (pa_cons (pe_ix ix_list (pv 3) pe_int (fun _ _ => rfl)) pa_nil))))) pss_nil)
    (pss_one (ps_ret (pe_tup (pa_cons (pe_ix ix_tup (pv 0) pe_int (fun _ _ => rfl)) (pa_cons (pe_callTy call_tuple_of (by rfl) B.tuple_ (by decide +kernel) (pa_cons (pv 3) pa_nil)) pa_nil))))))))), ?_⟩
    refine ⟨_, rfl, a, _, rfl, .inr hp, rfl, _, rfl, ?_⟩
    cases p with
    | nil =>
      refine ifb (eq_int' rfl) ?_
      exact ⟨_, rfl, q f H (Same.refl H) hg⟩
    | cons k p =>
      refine ifb (eq_intF (by simp; omega)) ?_
      rw [List.length_cons] at hk
      obtain ⟨t', g1, g2⟩ := at_cons hat
      refine ⟨_, rfl, v, t, rfl, hT, fun l H1 us s1 hl0 hl hus => ?_⟩
      obtain ⟨x, e1, hx⟩ := hus.get' g1
      have hlt := (List.getElem?_eq_some_iff.mp e1).1
      refine ⟨_, rfl, _, rfl, a, _, _, _, rfl, rfl, s1.tup hp, at0, l, us, _, x, rfl, rfl, SqL.of hl, atI_nat e1, ?_⟩
      refine ⟨_, rfl, 1, rfl, a, _, rfl, s1.tup hp, fun p2 H2 s2 hp2 => ?_⟩
      rw [cut_tail] at hp2
      have s12 := s1.trans s2
      refine ⟨_, rfl, x, f, t', u, g, p2, p, rfl, TA.up s2 hx, hp2, g2, TA.up s12 hg, by omega, fun y H3 s3 hy => ?_⟩
      have s13 := s12.trans s3
      have hl3 : H3 l = some (.lst us) := (s2.trans s3) _ _ hl
      refine ⟨_, rfl, _, rfl, a, _, _, _, rfl, rfl, s13.tup hp, at0, l, us, _, k, rfl, rfl, hl3, ixN_nat hlt, ?_⟩
      have sT : SameT H3 (upd H3 l (.lst (us.set k y))) := SameT.upd hl3
      have s14 : Same H (upd H3 l (.lst (us.set k y))) := s13.upd_out hl0 _
      have hus' : TAs K (upd H3 l (.lst (us.set k y))) (us.set k y) (t.parts.set k (T.repl p t' g)) := TAs.set (TAs.fix (((s2.trans s3).fix).trans sT) _ _ hus) (TA.fix sT _ _ hy)
      cases t with
      | neg t =>
        obtain ⟨rfl, _⟩ := at_neg hat
        obtain rfl : t = t' := Option.some.inj g1
        obtain ⟨b, x0, rfl, sq, _⟩ := TA.neg hT
        obtain ⟨y', e2, hy'⟩ := hus'.get' (i := 0) (show ([T.repl p t g] : List T)[0]? = some _ from rfl)
        refine ⟨_, rfl, b, _, _, _, rfl, rfl, s14.tup sq, at0, rfl, _, rfl, ?_⟩
        refine ifb (hd_not (.neg t)) ?_
        refine ⟨_, rfl, l, us.set 0 y, _, y', rfl, rfl, SqL.of upd_same, at_ofA rfl e2, hS (by simp), fun p3 hp3 => ?_⟩
        have s4 := same_new hp3 (.tup [.str "not", y'])
        exact q _ _ (s14.trans s4) (TA.mkNeg (SqT.of upd_same) (TA.up s4 hy'))
      | gate w ps =>
        obtain ⟨b, d, us0, rfl, sq, _, _⟩ := TA.gate hT
        have er : T.repl (k :: p) (.gate w ps) g = .gate w (ps.set k (T.repl p t' g)) := repl_gate g1 g
        rw [er] at q
        refine ⟨_, rfl, b, _, _, _, rfl, rfl, s14.tup sq, at0, rfl, _, rfl, ?_⟩
        refine ifb (hd_not (.gate w ps)) ?_
        refine ⟨_, rfl, b, _, _, _, rfl, rfl, s14.tup sq, at0, _, rfl, l, us.set k y, rfl, .inl ⟨SqL.of upd_same, fun l2 hl2 => ⟨hS (by simp), fun p4 hp4 => ?_⟩⟩⟩
        have s5 := same_new hl2 (.tup (us.set k y))
        have s6 := same_new hp4 (.tup [.str (gw w), .ref l2])
        exact q _ _ ((s14.trans s5).trans s6) (TA.mkGate (SqT.of upd_same) (s6.tup (SqT.of upd_same)) (TAs.up s6 (TAs.up s5 hus')))
      | _ => cases hat
theorem all__law_replaced (D : Df K mg "_law_replaced" s__law_replaced ["_law_tree_here", "_law_path", "_law_fresh"]) (B : Bn mg) (C_law_parts : Cal P w K mg base (1) "_law_parts" ["_law_tree_here"] (spLParts K)) : ∀ k : Nat, Cal P w K mg base (k+2) "_law_replaced" ["_law_tree_here", "_law_path", "_law_fresh"] (spReplaced K k)
  | 0 => (D.none (sp := spReplaced K 0) fun vs H Q E h => by
      obtain ⟨v, f, t, u, g, a, p, _, _, _, _, _, hk, _⟩ := h
      omega).mono (by omega)
  | k + 1 => ok__law_replaced D B C_law_parts (all__law_replaced D B C_law_parts k)
end
end Sc

set_option maxHeartbeats 4000000
namespace Sc
open PySem PySem.Spec PyProof.Rows L2 TL
section
variable {P : Program} {w : World} {K : PySem.W.Frag} {mg : Str → Option Value} {base : Heap}
theorem ifE {c : Bool} {A B : Prop} (h1 : c = true → A) (h2 : c = false → B) : if c = true then A else B := by
  cases c
  · exact h2 rfl
  · exact h1 rfl
theorem neg_get (x : Sg) : valV (mergeK [] [(.inr "0", V.str "1"), (.inr "1", V.str "0"), (.inr "-", V.str "-")]) (.inr (tx [x])) = some (V.str (tx [x.map (!·)])) := by
  rcases x with _ | _ | _ <;> decide +kernel
abbrev s__law_settled : Stmt := top 57
theorem sc__law_settled : FnScope ["_law_cube", "_law_tree_here", "_law_signs", "_law_part"] ["_law_cube", "_law_tree_here"] (defScope s__law_settled) := ⟨rfl, rfl, rfl, by decide +kernel, rfl, by decide +kernel, by decide +kernel⟩
theorem ok__law_settled {m : Nat} (D : Df K mg "_law_settled" s__law_settled ["_law_cube", "_law_tree_here"]) (B : Bn mg) (C_law_settled : Cal P w K mg base (m+1) "_law_settled" ["_law_cube", "_law_tree_here"] (spLSettled K m)) : Cal P w K mg base (m+1+1) "_law_settled" ["_law_cube", "_law_tree_here"] (spLSettled K (m + 1)) := by
  have S := sc__law_settled
  refine D.ok S (fun vs H Q E h => ?_) (fun f cdv A outer s H vs Q E hr h => ?_)
  · obtain ⟨v, t, c, rfl, _⟩ := h; rfl
  · obtain ⟨v, t, c, rfl, hT, hw, hc, hlv, hk, q⟩ := h
    have hu := hu_of hr
    refine ⟨_, (pss_cons (ps_if (pt_cmpR op_eq (pe_ix ix_tup (pv 1) pe_int (fun _ _ => rfl)) pe_str (nomark _)) (pss_one (ps_ret (pe_ix ix_str (pv 0) (pe_ix ix_tup (pv 1) pe_int (fun _ _ => rfl)) (fun _ _ => rfl)))) pss_nil)
    (pss_cons (ps_if (pt_cmpR op_eq (pe_ix ix_tup (pv 1) pe_int (fun _ _ => rfl)) pe_str (nomark _)) (pss_one (ps_ret pe_str)) pss_nil)
    (pss_cons (ps_if (pt_cmpR op_eq (pe_ix ix_tup (pv 1) pe_int (fun _ _ => rfl)) pe_str (nomark _)) (pss_one (ps_ret pe_str)) pss_nil)
    (pss_cons (ps_if (pt_cmpR op_eq (pe_ix ix_tup (pv 1) pe_int (fun _ _ => rfl)) pe_str (nomark _)) (pss_one (ps_ret (pe_dget hu (pe_disp (pps_cons pe_str pe_str (pps_cons pe_str pe_str (pps_cons pe_str pe_str pps_nil))) (by rfl) (by rfl) (fun z => by cases z) (by decide)) (pe_cal C_law_settled hr rfl (pa_cons (pv 0) (pa_cons (pe_ix ix_tup (pv 1) pe_int (fun _ _ => rfl)) pa_nil))) (fun _ _ => rfl)))) pss_nil)
    (pss_cons (ps_setLc (i := 2) (own := [(("_law_part" : Str), 3)]) (g := gName 3) (tt := tYes) rfl S.nd rfl rfl (sw_true rfl rfl rfl (by decide +kernel)) (pi_tup (pe_ix ix_tup (pv 1) pe_int (fun _ _ => rfl))) (blkOk_by (own := [(("_law_part" : Str), 3)]) (N := ["_law_cube", "_law_tree_here", "_law_signs", "_law_part"]) (sc := defScope s__law_settled) (by decide +kernel)) (fun _ _ _ _ _ => pg_name (i := 3) S.nd rfl (Or.inl rfl)) (fun _ _ _ _ _ => pts_nil) (fun _ _ _ _ _ => (pe_cal C_law_settled hr rfl (pa_cons (pv 0) (pa_cons (pv 3) pa_nil)))))
    (pss_cons (ps_if (pt_cmpR op_eq (pe_ix ix_tup (pv 1) pe_int (fun _ _ => rfl)) pe_str (nomark _)) (pss_cons (ps_if (pt_cmpR op_in_seq pe_str (pv 2) (by rfl)) (pss_one (ps_ret pe_str)) pss_nil)
      (pss_cons (ps_if (pt_cmpR op_in_seq pe_str (pv 2) (by rfl)) (pss_one (ps_ret pe_str)) pss_nil)
      (pss_one (ps_ret pe_str)))) pss_nil)
    (pss_cons (ps_if (pt_cmpR op_in_seq pe_str (pv 2) (by rfl)) (pss_one (ps_ret pe_str)) pss_nil)
    (pss_cons (ps_if (pt_cmpR op_in_seq pe_str (pv 2) (by rfl)) (pss_one (ps_ret pe_str)) pss_nil)
    (pss_one (ps_ret pe_str)))))))))), ?_⟩
    have lc : (tx c).length ≤ sizeLine := hS (by rw [len_tx]; omega)
    cases t with
    | one =>
      obtain ⟨a, rfl, sq⟩ := TA.one hT
      refine ⟨_, rfl, a, _, _, _, rfl, rfl, sq, at0, rfl, _, rfl, ?_⟩
      refine ifb (hd_in .one) ?_
      refine ⟨_, rfl, a, _, _, _, rfl, rfl, sq, at0, rfl, _, rfl, ?_⟩
      refine ifb (eq_self' _) ?_
      show Q (.str "1") H
      rw [k1]
      exact q.at
    | zero =>
      obtain ⟨a, rfl, sq⟩ := TA.zero hT
      refine ⟨_, rfl, a, _, _, _, rfl, rfl, sq, at0, rfl, _, rfl, ?_⟩
      refine ifb (hd_in .zero) ?_
      refine ⟨_, rfl, a, _, _, _, rfl, rfl, sq, at0, rfl, _, rfl, ?_⟩
      refine ifb (c := false) (by decide +kernel) ?_
      refine ⟨_, rfl, a, _, _, _, rfl, rfl, sq, at0, rfl, _, rfl, ?_⟩
      refine ifb (eq_self' _) ?_
      show Q (.str "0") H
      rw [k0]
      exact q.at
    | inp i =>
      obtain ⟨a, rfl, sq⟩ := TA.inp hT
      refine ⟨_, rfl, a, _, _, _, rfl, rfl, sq, at0, rfl, _, rfl, ?_⟩
      refine ifb (hd_in (.inp i)) ?_
      exact ⟨_, rfl, _, rfl, a, _, _, _, rfl, rfl, sq, at1, _, _, _, rfl, rfl, lc, tx_get hw, q.at⟩
    | neg t =>
      obtain ⟨a, u, rfl, sq, hu1⟩ := TA.neg hT
      refine ⟨_, rfl, a, _, _, _, rfl, rfl, sq, at0, rfl, _, rfl, ?_⟩
      refine ifb (hd_in (.neg t)) ?_
      refine ⟨_, rfl, a, _, _, _, rfl, rfl, sq, at0, rfl, _, rfl, ?_⟩
      refine ifb (c := false) (by decide +kernel) ?_
      refine ⟨_, rfl, a, _, _, _, rfl, rfl, sq, at0, rfl, _, rfl, ?_⟩
      refine ifb (c := false) (by decide +kernel) ?_
      refine ⟨_, rfl, a, _, _, _, rfl, rfl, sq, at0, rfl, _, rfl, ?_⟩
      refine ifb (hd_not (.neg t)) ?_
      refine fun p hp => ⟨upd_same, [(.inr "0", V.str "1"), (.inr "1", V.str "0"), (.inr "-", V.str "-")], rfl, by decide, ?_⟩
      have s1 : Same H (upd (upd H p (.dK [])) p (.dK (mergeK [] [(.inr "0", V.str "1"), (.inr "1", V.str "0"), (.inr "-", V.str "-")]))) := (same_new hp _).upd_out hp _
      refine ⟨_, rfl, _, rfl, a, _, _, _, rfl, rfl, s1.tup sq, at1, u, t, c, rfl, TA.up s1 hu1, hw, hc, hlv, by rw [T.depth] at hk; omega, fun H1 s2 => ?_⟩
      exact ⟨p, V.str (tx [(sgn c t).map (!·)]), rfl, .inl ⟨_, .inr (tx [sgn c t]), .inl (s2 _ _ upd_same), rfl, (neg_get (sgn c t)).symm⟩, q H1 (s1.trans s2)⟩
    | gate k ps =>
      obtain ⟨a, b, us, rfl, sq1, sb1, hu1⟩ := TA.gate hT
      refine ⟨_, rfl, a, _, _, _, rfl, rfl, sq1, at0, rfl, _, rfl, ?_⟩
      refine ifb (hd_in (.gate k ps)) ?_
      refine ⟨_, rfl, a, _, _, _, rfl, rfl, sq1, at0, rfl, _, rfl, ?_⟩
      refine ifb (c := false) (by cases k <;> decide +kernel) ?_
      refine ⟨_, rfl, a, _, _, _, rfl, rfl, sq1, at0, rfl, _, rfl, ?_⟩
      refine ifb (c := false) (by cases k <;> decide +kernel) ?_
      refine ⟨_, rfl, a, _, _, _, rfl, rfl, sq1, at0, rfl, _, rfl, ?_⟩
      refine ifb (hd_not (.gate k ps)) ?_
      have pw := (wfL_iff _ _).mp hw.2
      have ll := len_leaves ps hw.2
      have hlv' : leavesL ps ≤ 240 := hlv
      have ul := hu1.len
      have hk' : depthL ps + 1 ≤ m + 1 := hk
      have q1 : pur H Q (.str (tx [gsg k (sgns c ps)])) := q
      unfold gsg at q1
      refine ⟨_, rfl, a, _, _, _, rfl, rfl, sq1, at1, b, rfl, ⟨us, sb1⟩, fun DD hD => ?_⟩
      refine lc_map walk_tup (fun i x => us[i]? = some x) (fun i H x H' y => y) (fun i y H => ∃ tu, ps[i]? = some tu ∧ y = V.str (tx [sgn c tu])) (fun _ _ _ _ _ h => h) (fun H' s4 => s4.tup sb1) (hS' (by omega)) hD (fun _ => rfl) ?_ ?_
      · rintro i x H4 Q4 _ hx s4 q4
        obtain ⟨tu, ht, hTu⟩ := hu1.get hx
        have du := depthL_le.mp (Nat.le_refl (depthL ps)) tu (List.mem_of_getElem? ht)
        have lu := leavesL_take ps i tu ht
        have lu2 := leavesL_le ps (i + 1)
        exact ⟨_, rfl, _, rfl, x, tu, c, rfl, TA.up s4 hTu, pw tu (List.mem_of_getElem? ht), hc, by omega, by omega, fun H5 s5 => q4 _ _ s5 ⟨tu, ht, rfl⟩⟩
      intro ys H4 s4 hL hyl hy
      have ey : ys = (sgns c ps).map fun s => V.str (tx [s]) := by
        refine made_eq (by rw [List.length_map, sgns_map, List.length_map]; omega) fun i y e => ?_
        obtain ⟨tu, ht, rfl⟩ := hy i y e
        rw [sgns_map, List.map_map, List.getElem?_map, ht]; rfl
      subst ey
      refine ⟨_, rfl, a, _, _, _, rfl, rfl, s4.tup sq1, at0, rfl, _, rfl, ?_⟩
      refine ifb (gw_and k) ?_
      cases k with
      | true =>
        refine ⟨_, rfl, DD, _, rfl, .inl (SqL.of hL), rfl, flat_sg _, _, rfl, ?_⟩
        by_cases c1 : some false ∈ sgns c ps
        · refine ifb ((inV_0 _).trans (decide_eq_true c1)) ?_
          rw [if_pos (show some (!true) ∈ _ from c1)] at q1
          show Q (.str "0") H4
          rw [k0]
          exact q1 H4 s4
        · refine ifb ((inV_0 _).trans (decide_eq_false c1)) ?_
          rw [if_neg (show ¬ some (!true) ∈ _ from c1)] at q1
          refine ⟨_, rfl, DD, _, rfl, .inl (SqL.of hL), rfl, flat_sg _, _, rfl, ?_⟩
          by_cases c2 : none ∈ sgns c ps
          · refine ifb ((inV_M _).trans (decide_eq_true c2)) ?_
            rw [if_pos c2] at q1
            show Q (.str "-") H4
            rw [kM]
            exact q1 H4 s4
          · refine ifb ((inV_M _).trans (decide_eq_false c2)) ?_
            rw [if_neg c2] at q1
            show Q (.str "1") H4
            rw [k1]
            exact q1 H4 s4
      | false =>
        refine ⟨_, rfl, DD, _, rfl, .inl (SqL.of hL), rfl, flat_sg _, _, rfl, ?_⟩
        by_cases c1 : some true ∈ sgns c ps
        · refine ifb ((inV_1 _).trans (decide_eq_true c1)) ?_
          rw [if_pos (show some (!false) ∈ _ from c1)] at q1
          show Q (.str "1") H4
          rw [k1]
          exact q1 H4 s4
        · refine ifb ((inV_1 _).trans (decide_eq_false c1)) ?_
          rw [if_neg (show ¬ some (!false) ∈ _ from c1)] at q1
          refine ⟨_, rfl, DD, _, rfl, .inl (SqL.of hL), rfl, flat_sg _, _, rfl, ?_⟩
          by_cases c2 : none ∈ sgns c ps
          · refine ifb ((inV_M _).trans (decide_eq_true c2)) ?_
            rw [if_pos c2] at q1
            show Q (.str "-") H4
            rw [kM]
            exact q1 H4 s4
          · refine ifb ((inV_M _).trans (decide_eq_false c2)) ?_
            rw [if_neg c2] at q1
            show Q (.str "0") H4
            rw [k0]
            exact q1 H4 s4
theorem all__law_settled (D : Df K mg "_law_settled" s__law_settled ["_law_cube", "_law_tree_here"]) (B : Bn mg) : ∀ k : Nat, Cal P w K mg base (k+1) "_law_settled" ["_law_cube", "_law_tree_here"] (spLSettled K k)
  | 0 => (D.none (sp := spLSettled K 0) fun vs H Q E h => by
      obtain ⟨v, t, c, _, _, _, _, _, hk, _⟩ := h
      have := depth_pos t
      omega).mono (by omega)
  | k + 1 => ok__law_settled D B (all__law_settled D B k)
abbrev s__law_exchanged : Stmt := top 58
theorem sc__law_exchanged : FnScope ["_law_word", "_law_sign"] ["_law_word"] (defScope s__law_exchanged) := ⟨rfl, rfl, rfl, by decide +kernel, rfl, by decide +kernel, by decide +kernel⟩
theorem ok__law_exchanged (D : Df K mg "_law_exchanged" s__law_exchanged ["_law_word"]) (B : Bn mg) : Cal P w K mg base (1) "_law_exchanged" ["_law_word"] spExch := by
  have S := sc__law_exchanged
  refine D.ok S (fun vs H Q E h => ?_) (fun f cdv A outer s H vs Q E hr h => ?_)
  · obtain ⟨l, rfl, _⟩ := h; rfl
  · obtain ⟨l, rfl, hl, q⟩ := h
    refine ⟨_, (pss_one (ps_ret (pe_join pe_str (pe_lc (own := [(("_law_sign" : Str), 1)]) (g := gName 1) (tt := tYes) rfl S.nd (pi_str (pv 0)) (blkOk_by (own := [(("_law_sign" : Str), 1)]) (N := ["_law_word", "_law_sign"]) (sc := defScope s__law_exchanged) (by decide +kernel)) (fun _ _ _ _ _ => pg_name (i := 1) S.nd rfl (Or.inl rfl)) (fun _ _ _ _ _ => pts_nil) (fun _ _ _ _ _ => (pe_ix ix_str pe_str (pe_callTy call_int_str (by rfl) B.int_ (by decide +kernel) (pa_cons (pv 1) pa_nil)) (fun _ _ => rfl))))))), ?_⟩
    refine ⟨⟨_, rfl⟩, _, rfl, wd l, rfl, fun DD hD => lc_map (walk_wd l) (fun i x => ∃ s, l[i]? = some s ∧ x = .str (wd [s])) (fun i H x H' y => y) (fun i y _ => ∃ s, l[i]? = some s ∧ y = .str (wd [!s])) (fun _ _ _ _ _ h => h) (fun _ _ => trivial) (hS' (by omega)) hD (fun _ => rfl) ?_ ?_⟩
    · rintro i x H1 Q1 hi ⟨s0, hs, rfl⟩ s1 q1
      exact ⟨_, rfl, _, _, rfl, int_wd s0, (by show 1 ≤ 640; decide), _, _, _, rfl, rfl, hS (by decide +kernel), at10 s0, q1 _ _ (Same.refl _) ⟨s0, hs, rfl⟩⟩
    · intro ys H1 s1 hL hlen hy
      have e : ys = (l.map fun b => wd [!b]).map V.str := by
        refine List.ext_getElem? fun i => ?_
        cases e1 : ys[i]? with
        | none =>
          have := List.getElem?_eq_none_iff.mp e1
          rw [List.map_map, List.getElem?_map, List.getElem?_eq_none (by omega)]; rfl
        | some y =>
          obtain ⟨s0, h0, rfl⟩ := hy i y e1
          rw [List.map_map, List.getElem?_map, h0]; rfl
      have e2 : (l.map fun b => wd [!b]) = (exch l).map fun b => wd [b] := by
        unfold exch
        rw [List.map_map]; rfl
      refine ⟨_, DD, _, rfl, rfl, .inl (SqL.of (by rw [hL, e])), ?_, ?_⟩
      · have : ∀ l : List Bool, ((l.map fun b => wd [!b]).map (·.length)).sum = l.length := by
          intro l
          induction l with
          | nil => rfl
          | cons a l ih =>
            rw [List.map_cons, List.map_cons, List.sum_cons, ih, len_wd, List.length_cons]
            show 1 + l.length = l.length + 1
            omega
        rw [this, List.length_map, kE, len_wd]
        show l.length + l.length * 0 ≤ 16777216
        omega
      · rw [e2, join_wd]
        exact q H1 s1
abbrev s__law_or_word : Stmt := top 59
theorem sc__law_or_word : FnScope ["_law_v", "_law_w", "_law_word"] ["_law_v", "_law_w"] (defScope s__law_or_word) := ⟨rfl, rfl, rfl, by decide +kernel, rfl, by decide +kernel, by decide +kernel⟩
theorem ok__law_or_word (D : Df K mg "_law_or_word" s__law_or_word ["_law_v", "_law_w"]) (B : Bn mg) : Cal P w K mg base (1) "_law_or_word" ["_law_v", "_law_w"] spOrText := by
  have S := sc__law_or_word
  refine D.ok S (fun vs H Q E h => ?_) (fun f cdv A outer s H vs Q E hr h => ?_)
  · obtain ⟨v, w, rfl, _⟩ := h; rfl
  · obtain ⟨v, w, rfl, hv, hw, hl, q⟩ := h
    refine ⟨_, (pss_cons (ps_if (PW.pt (pw_or (pt_cmpR op_eq (pv 0) pe_str (nomark _)) (pw_or1 (pt_cmpR op_eq (pv 1) pe_str (nomark _))))) (pss_one (ps_ret pe_str)) pss_nil)
    (pss_cons (ps_set (i := 2) S.nd rfl (Or.inl rfl) (pe_op op_add_str pe_str (pe_op op_repS pe_str (pe_op op_sub (pe_op op_add (pe_m1 PySem.F.slot_str_count PySem.F.type_str_count mt_count (pv 0) pe_str) (pe_m1 PySem.F.slot_str_count PySem.F.type_str_count mt_count (pv 1) pe_str)) pe_int))))
    (C8.pss_cut (ps_if (PW.pt (pw_or (pt_cmpR op_eq (pe_ix ix_str (pv 0) pe_int (fun _ _ => rfl)) pe_str (nomark _)) (pw_or1 (pt_cmpR op_eq (pe_ix ix_str (pv 1) pe_int (fun _ _ => rfl)) pe_str (nomark _))))) (pss_one (ps_set (i := 2) S.nd rfl (Or.inl rfl) (pe_op op_add_str pe_str (pv 2)))) pss_nil)
    (C8.pss_cut (ps_if (PW.pt (pw_or (pt_cmpR op_eq (pe_ix ix_str (pv 0) (pe_un un_neg pe_int) (fun _ _ => rfl)) pe_str (nomark _)) (pw_or1 (pt_cmpR op_eq (pe_ix ix_str (pv 1) (pe_un un_neg pe_int) (fun _ _ => rfl)) pe_str (nomark _))))) (pss_one (ps_set (i := 2) S.nd rfl (Or.inl rfl) (pe_op op_add_str (pv 2) pe_str))) pss_nil)
    (pss_one (ps_ret (pv 2))))))), ?_⟩
    refine ⟨_, rfl, rfl, _, rfl, ?_⟩
    by_cases c1 : v = [true]
    · refine ifb ((eqW1 v).trans (decide_eq_true c1)) ?_
      have e : orW v w = [true] := if_pos (.inl c1)
      rw [e, ← k1] at q
      exact q.at
    refine ifb ((eqW1 v).trans (decide_eq_false c1)) ?_
    refine ⟨_, rfl, rfl, _, rfl, ?_⟩
    by_cases c2 : w = [true]
    · refine ifb ((eqW1 w).trans (decide_eq_true c2)) ?_
      have e : orW v w = [true] := if_pos (.inr c2)
      rw [e, ← k1] at q
      exact q.at
    refine ifb ((eqW1 w).trans (decide_eq_false c2)) ?_
    have e : orW v w = wtext (v.headD false || w.headD false) (v.count false + w.count false - 1) (v.getLastD false || w.getLastD false) := if_neg (fun h => h.elim c1 c2)
    have lv : (wd v).length ≤ sizeLine := hS (by rw [len_wd]; omega)
    have lw : (wd w).length ≤ sizeLine := hS (by rw [len_wd]; omega)
    have z1 : 1 ≤ v.count false := by
      obtain ⟨b, n, hn, rfl⟩ := hv
      rw [alt_zer]
      have : ¬ zer b n = 0 := fun z => c1 ((one_iff b n hn).mpr z)
      omega
    have z2 : 1 ≤ w.count false := by
      obtain ⟨b, n, hn, rfl⟩ := hw
      rw [alt_zer]
      have : ¬ zer b n = 0 := fun z => c2 ((one_iff b n hn).mpr z)
      omega
    have l1 := List.count_le_length (a := false) (l := v)
    have l2 := List.count_le_length (a := false) (l := w)
    have ct : Txt.count (wd v) "0" + Txt.count (wd w) "0" - 2 = ((v.count false + w.count false - 2 : Nat) : Int) := by
      rw [k0, count_wd, count_wd]; omega
    have hz : (List.replicate (v.count false + w.count false - 2) [true, false]).flatten.length ≤ 2000 := by
      rw [List.length_flatten, List.map_replicate, List.sum_replicate_nat]
      show (v.count false + w.count false - 2) * 2 ≤ 2000
      omega
    have eW : ("0" : Str) ++ repS "10" (Txt.count (wd v) "0" + Txt.count (wd w) "0" - 2).toNat = wd ([false] ++ (List.replicate (v.count false + w.count false - 2) [true, false]).flatten) := by
      rw [ct, Int.toNat_natCast, k0, k10, repS_wd, wd_app]
    refine ⟨_, rfl, ⟨_, rfl⟩, _, _, rfl, rfl, _, rfl, ⟨_, rfl⟩, _, _, rfl, rfl, _, _, rfl, rfl, _, _, rfl, rfl, _, _, rfl, rfl, by rw [k10, len_wd]; decide, by rw [ct]; omega, by rw [ct]; omega, _, _, rfl, rfl, ?_, ?_⟩
    · refine hS ?_
      rw [ct, Int.toNat_natCast, k10, repS_wd, k0, len_wd, len_wd]; simp only [List.length_singleton]; omega
    rw [eW]
    have e' : orW v w = ((if (v.headD false || w.headD false) = true then [true] else []) ++ ([false] ++ (List.replicate (v.count false + w.count false - 2) [true, false]).flatten)) ++ (if (v.getLastD false || w.getLastD false) = true then [true] else []) := by
      rw [e, wtext, List.append_assoc (if (v.headD false || w.headD false) = true then [true] else [])]
      have : v.count false + w.count false - 1 - 1 = v.count false + w.count false - 2 := by omega
      rw [this]
    have lW : ([false] ++ (List.replicate (v.count false + w.count false - 2) [true, false]).flatten).length ≤ 2001 := by
      rw [List.length_append, List.length_singleton]; omega
    generalize ([false] ++ (List.replicate (v.count false + w.count false - 2) [true, false]).flatten) = W at e' lW
    refine ⟨fun σ' H' => σ' = [some (.str (wd v)), some (.str (wd w)), some (.str (wd ((if (v.headD false || w.headD false) = true then [true] else []) ++ W)))] ∧ H' = H, ?_, ?_⟩
    · refine ⟨_, rfl, _, _, _, rfl, rfl, lv, at0_wd hv.ne, rfl, _, rfl, ?_⟩
      have add : ∀ σ', σ' = [some (V.str (wd v)), some (.str (wd w)), some (.str ("1" ++ wd W))] → σ' = [some (V.str (wd v)), some (.str (wd w)), some (.str (wd ([true] ++ W)))] := by
        intro σ' e; rw [e, k1, wd_app]
      have l11 : ("1" : Str).length + (wd W).length ≤ sizeLine := hS (by rw [k1, len_wd, len_wd]; simp only [List.length_singleton]; omega)
      refine ifb (eqB1 (v.headD false)) (ifE (fun e1 => ?_) (fun e1 => ?_))
      · refine ⟨_, rfl, _, _, rfl, rfl, l11, ?_⟩
        rw [e1, Bool.true_or, if_pos rfl]
        exact ⟨add _ rfl, rfl⟩
      refine ⟨_, rfl, _, _, _, rfl, rfl, lw, at0_wd hw.ne, rfl, _, rfl, ?_⟩
      refine ifb (eqB1 (w.headD false)) (ifE (fun e2 => ?_) (fun e2 => ?_))
      · refine ⟨_, rfl, _, _, rfl, rfl, l11, ?_⟩
        rw [e1, e2, Bool.false_or, if_pos rfl]
        exact ⟨add _ rfl, rfl⟩
      · rw [e1, e2]
        exact ⟨rfl, rfl⟩
    rintro σ' H1 ⟨rfl, rfl⟩
    have lU : ((if (v.headD false || w.headD false) = true then [true] else []) ++ W).length ≤ 2002 := by
      rw [List.length_append]
      split <;> simp <;> omega
    generalize ((if (v.headD false || w.headD false) = true then [true] else []) ++ W) = U at e' lU
    refine ⟨fun σ' H' => σ' = [some (.str (wd v)), some (.str (wd w)), some (.str (wd (U ++ (if (v.getLastD false || w.getLastD false) = true then [true] else []))))] ∧ H' = H1, ?_, ?_⟩
    · refine ⟨_, rfl, 1, rfl, _, _, _, rfl, rfl, lv, atL_wd hv.ne, rfl, _, rfl, ?_⟩
      have add : ∀ σ', σ' = [some (V.str (wd v)), some (.str (wd w)), some (.str (wd U ++ "1"))] → σ' = [some (V.str (wd v)), some (.str (wd w)), some (.str (wd (U ++ [true])))] := by
        intro σ' e; rw [e, k1, wd_app]
      have l11 : (wd U).length + ("1" : Str).length ≤ sizeLine := hS (by rw [k1, len_wd, len_wd]; simp only [List.length_singleton]; omega)
      refine ifb (eqB1 (v.getLastD false)) (ifE (fun e1 => ?_) (fun e1 => ?_))
      · refine ⟨_, rfl, _, _, rfl, rfl, l11, ?_⟩
        rw [e1, Bool.true_or, if_pos rfl]
        exact ⟨add _ rfl, rfl⟩
      refine ⟨_, rfl, 1, rfl, _, _, _, rfl, rfl, lw, atL_wd hw.ne, rfl, _, rfl, ?_⟩
      refine ifb (eqB1 (w.getLastD false)) (ifE (fun e2 => ?_) (fun e2 => ?_))
      · refine ⟨_, rfl, _, _, rfl, rfl, l11, ?_⟩
        rw [e1, e2, Bool.false_or, if_pos rfl]
        exact ⟨add _ rfl, rfl⟩
      · rw [e1, e2, Bool.false_or, if_neg (by decide), List.append_nil]
        exact ⟨rfl, rfl⟩
    rintro σ' H' ⟨rfl, rfl⟩
    rw [← e']
    exact ⟨_, rfl, q.at⟩
abbrev s__law_and_word : Stmt := top 60
theorem sc__law_and_word : FnScope ["_law_v", "_law_w"] ["_law_v", "_law_w"] (defScope s__law_and_word) := ⟨rfl, rfl, rfl, by decide +kernel, rfl, by decide +kernel, by decide +kernel⟩
theorem ok__law_and_word (D : Df K mg "_law_and_word" s__law_and_word ["_law_v", "_law_w"]) (B : Bn mg) (C_law_exchanged : Cal P w K mg base (1) "_law_exchanged" ["_law_word"] spExch) (C_law_or_word : Cal P w K mg base (1) "_law_or_word" ["_law_v", "_law_w"] spOrText) : Cal P w K mg base (2) "_law_and_word" ["_law_v", "_law_w"] spAndText := by
  have S := sc__law_and_word
  refine D.ok S (fun vs H Q E h => ?_) (fun f cdv A outer s H vs Q E hr h => ?_)
  · obtain ⟨v, w, rfl, _⟩ := h; rfl
  · obtain ⟨v, w, rfl, hv, hw, hl, q⟩ := h
    refine ⟨_, (pss_one (ps_ret (pe_cal C_law_exchanged hr rfl (pa_cons (pe_cal C_law_or_word hr rfl (pa_cons (pe_cal C_law_exchanged hr rfl (pa_cons (pv 0) pa_nil)) (pa_cons (pe_cal C_law_exchanged hr rfl (pa_cons (pv 1) pa_nil)) pa_nil))) pa_nil)))), ?_⟩
    refine ⟨_, rfl, v, rfl, by omega, fun H1 s1 => ?_⟩
    refine ⟨_, rfl, w, rfl, by omega, fun H2 s2 => ?_⟩
    refine ⟨exch v, exch w, rfl, hv.ex, hw.ex, by rw [exch_len, exch_len]; omega, fun H3 s3 => ?_⟩
    refine ⟨orW (exch v) (exch w), rfl, ?_, fun H4 s4 => q H4 (((s1.trans s2).trans s3).trans s4)⟩
    have := orW_len hv.ex hw.ex
    rw [exch_len, exch_len] at this
    omega
abbrev s__law_leaf_word : Stmt := top 61
theorem sc__law_leaf_word : FnScope ["_law_change_here", "_law_tree_here", "_law_word"] ["_law_change_here", "_law_tree_here"] (defScope s__law_leaf_word) := ⟨rfl, rfl, rfl, by decide +kernel, rfl, by decide +kernel, by decide +kernel⟩
theorem ok__law_leaf_word (D : Df K mg "_law_leaf_word" s__law_leaf_word ["_law_change_here", "_law_tree_here"]) (B : Bn mg) (C_law_settled : Cal P w K mg base (9) "_law_settled" ["_law_cube", "_law_tree_here"] (spLSettled K 8)) : Cal P w K mg base (10) "_law_leaf_word" ["_law_change_here", "_law_tree_here"] (spLeafWord K) := by
  have S := sc__law_leaf_word
  refine D.ok S (fun vs H Q E h => ?_) (fun f cdv A outer s H vs Q E hr h => ?_)
  · obtain ⟨a, la, lb, v, t, rfl, _⟩ := h; rfl
  · obtain ⟨a, la, lb, v, t, rfl, ch, hT, ok, q⟩ := h
    refine ⟨_, (pss_cons (ps_set (i := 2) S.nd rfl (Or.inl rfl) (pe_cal C_law_settled hr rfl (pa_cons (pe_ix ix_tup (pv 0) pe_int (fun _ _ => rfl)) (pa_cons (pv 1) pa_nil))))
    (pss_cons (ps_if (pt_cmpR op_ne (pe_cal C_law_settled hr rfl (pa_cons (pe_ix ix_tup (pv 0) pe_int (fun _ _ => rfl)) (pa_cons (pv 1) pa_nil))) (pv 2) (nomark _)) (pss_one (ps_set (i := 2) S.nd rfl (Or.inl rfl) (pe_op op_add_str (pv 2) (pe_ix ix_str pe_str (pe_callTy call_int_str (by rfl) B.int_ (by decide +kernel) (pa_cons (pv 2) pa_nil)) (fun _ _ => rfl))))) pss_nil)
    (pss_one (ps_ret (pv 2))))), ?_⟩
    have wb : t.wf lb.length := by rw [← ch.len]; exact ok.wf
    refine ⟨_, rfl, a, _, _, _, rfl, rfl, ch.sq, at0, _, rfl, v, t, la, rfl, hT, ok.wf, ch.four, ok.lv, ok.dp, fun H1 s1 => ?_⟩
    have ea : sgn la t = some (bit la t) := sgn_bit ch.pa ok.wf
    have eb : sgn lb t = some (bit lb t) := sgn_bit ch.pb wb
    unfold leafW at q
    refine ⟨_, rfl, a, _, _, _, rfl, rfl, s1.tup ch.sq, at1, _, rfl, v, t, lb, rfl, TA.up s1 hT, wb, by rw [← ch.len]; exact ch.four, ok.lv, ok.dp, fun H2 s2 => ⟨_, rfl, rfl, _, rfl, ?_⟩⟩
    rw [ea, eb]
    by_cases c1 : bit la t = bit lb t
    · rw [if_pos c1] at q
      refine ifb (c := false) (by rw [dec_tx, decide_eq_true (by rw [c1])]; rfl) ?_
      exact ⟨_, rfl, q H2 (s1.trans s2)⟩
    · rw [if_neg c1] at q
      refine ifb (c := true) (by rw [dec_tx, decide_eq_false fun e => c1 (by injection e with e; injection e with e; exact e.symm)]; rfl) ?_
      have e2 : bit lb t = !bit la t := by
        cases h1 : bit la t <;> cases h2 : bit lb t <;> rw [h1, h2] at c1 <;> first | rfl | exact absurd rfl c1
      refine ⟨_, rfl, _, rfl, _, _, rfl, int_wd (bit la t), (by show 1 ≤ 640; decide), _, _, _, rfl, rfl, hS (by decide +kernel), at10 (bit la t), _, _, rfl, rfl, hS (by rw [len_tx]; show 1 + 1 ≤ _; decide), _, rfl, ?_⟩
      have q2 := q H2 (s1.trans s2)
      rw [e2] at q2
      have e3 : tx [some (bit la t)] ++ wd [!bit la t] = wd [bit la t, !bit la t] := tx_app [some (bit la t)] [some (!bit la t)]
      rw [← e3] at q2
      exact q2
abbrev s__law_long_word : Stmt := top 62
theorem sc__law_long_word : FnScope ["_law_change_here", "_law_tree_here", "_law_words", "_law_text", "_law_word", "_law_part"] ["_law_change_here", "_law_tree_here"] (defScope s__law_long_word) := ⟨rfl, rfl, rfl, by decide +kernel, rfl, by decide +kernel, by decide +kernel⟩
theorem ok__law_long_word {m : Nat} (D : Df K mg "_law_long_word" s__law_long_word ["_law_change_here", "_law_tree_here"]) (B : Bn mg) (C_law_leaf_word : Cal P w K mg base (10) "_law_leaf_word" ["_law_change_here", "_law_tree_here"] (spLeafWord K)) (C_law_exchanged : Cal P w K mg base (1) "_law_exchanged" ["_law_word"] spExch) (C_law_and_word : Cal P w K mg base (2) "_law_and_word" ["_law_v", "_law_w"] spAndText) (C_law_or_word : Cal P w K mg base (1) "_law_or_word" ["_law_v", "_law_w"] spOrText) (C_law_long_word : Cal P w K mg base (m+11) "_law_long_word" ["_law_change_here", "_law_tree_here"] (spLongWord K m)) : Cal P w K mg base (m+1+11) "_law_long_word" ["_law_change_here", "_law_tree_here"] (spLongWord K (m + 1)) := by
  have S := sc__law_long_word
  refine D.ok S (fun vs H Q E h => ?_) (fun f cdv A outer s H vs Q E hr h => ?_)
  · obtain ⟨a, la, lb, v, t, rfl, _⟩ := h; rfl
  · obtain ⟨a, la, lb, v, t, rfl, ch, hT, ok, hk, q⟩ := h
    refine ⟨_, (pss_cons (ps_if (pt_cmpR op_in_seq (pe_ix ix_tup (pv 1) pe_int (fun _ _ => rfl)) (pe_lst (pa_cons pe_str (pa_cons pe_str (pa_cons pe_str pa_nil)))) (by rfl)) (pss_one (ps_ret (pe_cal C_law_leaf_word hr rfl (pa_cons (pv 0) (pa_cons (pv 1) pa_nil))))) pss_nil)
    (pss_cons (ps_if (pt_cmpR op_eq (pe_ix ix_tup (pv 1) pe_int (fun _ _ => rfl)) pe_str (nomark _)) (pss_one (ps_ret (pe_cal C_law_exchanged hr rfl (pa_cons (pe_cal C_law_long_word hr rfl (pa_cons (pv 0) (pa_cons (pe_ix ix_tup (pv 1) pe_int (fun _ _ => rfl)) pa_nil))) pa_nil)))) pss_nil)
    (pss_cons (ps_setLc (i := 2) (own := [(("_law_part" : Str), 5)]) (g := gName 5) (tt := tYes) rfl S.nd rfl rfl (sw_true rfl rfl rfl (by decide +kernel)) (pi_tup (pe_ix ix_tup (pv 1) pe_int (fun _ _ => rfl))) (blkOk_by (own := [(("_law_part" : Str), 5)]) (N := ["_law_change_here", "_law_tree_here", "_law_words", "_law_text", "_law_word", "_law_part"]) (sc := defScope s__law_long_word) (by decide +kernel)) (fun _ _ _ _ _ => pg_name (i := 5) S.nd rfl (Or.inl rfl)) (fun _ _ _ _ _ => pts_nil) (fun _ _ _ _ _ => (pe_cal C_law_long_word hr rfl (pa_cons (pv 0) (pa_cons (pv 5) pa_nil)))))
    (pss_cons (ps_set (i := 3) S.nd rfl (Or.inl rfl) (pe_ix ix_list (pv 2) pe_int (fun _ _ => rfl)))
    (pss_cons (ps_for PassesOwn.never rfl (pi_list (pe_slice sl_list (pv 2) (po_some pe_int) po_none)) (pg_name (i := 4) S.nd rfl (Or.inl rfl))
      (pss_one (ps_if (pt_cmpR op_eq (pe_ix ix_tup (pv 1) pe_int (fun _ _ => rfl)) pe_str (nomark _)) (pss_one (ps_set (i := 3) S.nd rfl (Or.inl rfl) (pe_cal C_law_and_word hr rfl (pa_cons (pv 3) (pa_cons (pv 4) pa_nil))))) (pss_one (ps_set (i := 3) S.nd rfl (Or.inl rfl) (pe_cal C_law_or_word hr rfl (pa_cons (pv 3) (pa_cons (pv 4) pa_nil))))))))
    (pss_one (ps_ret (pv 3)))))))), ?_⟩
    obtain ⟨b0, xs0, rfl, sq0⟩ := TA.hd hT
    refine ⟨_, rfl, b0, _, _, _, rfl, rfl, sq0, at0, hS (by decide), fun l0 hl0 => ⟨l0, _, rfl, .inl (SqL.of upd_same), rfl, rfl, _, rfl, ?_⟩⟩
    have s1 := same_new hl0 (.lst [.str "in", .str "one", .str "zero"])
    refine ifb (hd_leaf t) ?_
    have hT1 := TA.up s1 hT
    have ch1 := ch.up s1
    have wl := wrd_len la lb t ok.wf
    have olv := ok.lv
    cases t with
    | one => exact ⟨_, rfl, _, rfl, a, la, lb, _, _, rfl, ch1, hT1, ok, fun H2 s2 => q H2 (s1.trans s2)⟩
    | zero => exact ⟨_, rfl, _, rfl, a, la, lb, _, _, rfl, ch1, hT1, ok, fun H2 s2 => q H2 (s1.trans s2)⟩
    | inp i => exact ⟨_, rfl, _, rfl, a, la, lb, _, _, rfl, ch1, hT1, ok, fun H2 s2 => q H2 (s1.trans s2)⟩
    | neg t =>
      obtain ⟨b, u, eb, sq, hu⟩ := TA.neg hT1
      obtain rfl : b0 = b := by injection eb
      have ok' : Ok la.length t := ⟨ok.wf, by have := ok.dp; rw [T.depth] at this; omega, ok.lv⟩
      have wl' := wrd_len la lb t ok'.wf
      have olv' := ok'.lv
      refine ⟨_, rfl, b0, _, _, _, rfl, rfl, sq, at0, rfl, _, rfl, ?_⟩
      refine ifb (hd_not (.neg t)) ?_
      refine ⟨_, rfl, _, rfl, b0, _, _, _, rfl, rfl, sq, at1, a, la, lb, u, t, rfl, ch1, hu, ok', by rw [T.depth] at hk; omega, fun H2 s2 => ?_⟩
      exact ⟨wrd la lb t, rfl, by omega, fun H3 s3 => q H3 ((s1.trans s2).trans s3)⟩
    | gate k ps =>
      obtain ⟨b, d, us, eb, sq, sd, hu⟩ := TA.gate hT1
      obtain rfl : b0 = b := by injection eb
      refine ⟨_, rfl, b0, _, _, _, rfl, rfl, sq, at0, rfl, _, rfl, ?_⟩
      refine ifb (hd_not (.gate k ps)) ?_
      have pw := (wfL_iff _ _).mp ok.wf.2
      have ll := len_leaves ps ok.wf.2
      have hlv' : leavesL ps ≤ 240 := ok.lv
      have ul := hu.len
      have hk' : depthL ps + 1 ≤ m + 1 := hk
      have hdp : depthL ps + 1 ≤ 8 := ok.dp
      refine ⟨_, rfl, b0, _, _, _, rfl, rfl, sq, at1, d, rfl, ⟨us, sd⟩, fun DD hD => ?_⟩
      refine lc_map walk_tup (fun i x => us[i]? = some x) (fun i H x H' y => y) (fun i y H => ∃ tu, ps[i]? = some tu ∧ y = V.str (wd (wrd la lb tu))) (fun _ _ _ _ _ h => h) (fun H' s4 => s4.tup sd) (hS' (by omega)) hD (fun _ => rfl) ?_ ?_
      · rintro i x H4 Q4 hi hx s4 q4
        obtain ⟨tu, ht, hTu⟩ := hu.get hx
        have du := depthL_le.mp (Nat.le_refl (depthL ps)) tu (List.mem_of_getElem? ht)
        have lu := leavesL_take ps i tu ht
        have lu2 := leavesL_le ps (i + 1)
        exact ⟨_, rfl, _, rfl, a, la, lb, x, tu, rfl, ch1.up s4, TA.up s4 hTu, ⟨pw tu (List.mem_of_getElem? ht), by omega, by omega⟩, by omega, fun H5 s5 => q4 _ _ s5 ⟨tu, ht, rfl⟩⟩
      · intro ys H4 s4 hL hyl hy
        have ey : ys = (wrds la lb ps).map fun x => V.str (wd x) := by
          refine made_eq (by rw [List.length_map, wrds_map, List.length_map]; omega) fun i y e => ?_
          obtain ⟨tu, ht, rfl⟩ := hy i y e
          rw [wrds_map, List.map_map, List.getElem?_map, ht]; rfl
        subst ey
        cases ps with
        | nil => exact absurd rfl ok.wf.1
        | cons t0 r =>
          have q1 : pur H Q (.str (wd ((wrds la lb r).foldl (gateW k) (wrd la lb t0)))) := q
          refine ⟨_, rfl, DD, _, 0, V.str (wd (wrd la lb t0)), rfl, rfl, SqL.of hL, at0, ?_⟩
          refine ⟨_, rfl, 1, rfl, DD, _, rfl, SqL.of hL, fun p hp => ?_⟩
          have s5 := same_new hp (.lst (cutV ((wrds la lb (t0 :: r)).map fun x => V.str (wd x)) (some 1) none))
          rw [cut_tail]
          rw [cut_tail] at s5
          have hp1 : (upd H4 p (.lst (((wrds la lb (t0 :: r)).map fun x => V.str (wd x)).drop 1))) p = some (.lst ((wrds la lb r).map fun x => V.str (wd x))) := upd_same
          have wlen : ((wrds la lb r).map fun x => V.str (wd x)).length = (wrds la lb r).length := List.length_map _
          refine ⟨p, rfl, ⟨_, SqL.of hp1⟩, for_it (walk_list (xs := (wrds la lb r).map fun x => V.str (wd x))) (fun i σ H' => ∃ y4, σ = [some (.ref a), some (.ref b0), some (.ref DD), some (.str (wd (((wrds la lb r).take i).foldl (gateW k) (wrd la lb t0)))), y4, none] ∧ Same (upd H4 p (.lst (((wrds la lb (t0 :: r)).map fun x => V.str (wd x)).drop 1))) H') ⟨none, rfl, Same.refl _⟩ (fun i σ H' _ ⟨_, _, s6⟩ => SqL.of (s6 _ _ hp1)) ?_ ?_⟩
          · rintro i x σ H6 H7 hi ⟨y4, rfl, s6⟩ ⟨rfl, hx⟩
            rw [List.getElem?_map] at hx
            cases ew : (wrds la lb r)[i]? with
            | none => rw [ew] at hx; cases hx
            | some wi =>
              rw [ew] at hx
              obtain rfl := (Option.some.inj hx)
              have hlen := foldl_take_len2 la lb k t0 r ok.wf i wi ew
              have hw1 := (foldl_take_len la lb k t0 r ok.wf i).1
              have hw2 := wrds_isW la lb r ok.wf.2.2 wi (List.mem_of_getElem? ew)
              have sq7 := s6.tup (s5.tup (s4.tup sq))
              have etake : ((wrds la lb r).take (i + 1)).foldl (gateW k) (wrd la lb t0) = gateW k (((wrds la lb r).take i).foldl (gateW k) (wrd la lb t0)) wi := by
                rw [List.take_add_one, ew, List.foldl_append]; rfl
              refine ⟨_, rfl, b0, _, _, _, rfl, rfl, sq7, at0, rfl, _, rfl, ?_⟩
              refine ifb (gw_and k) ?_
              cases k with
              | true => exact ⟨_, rfl, _, rfl, _, wi, rfl, hw1, hw2, by omega, fun H8 s8 => ⟨_, by rw [etake]; rfl, s6.trans s8⟩⟩
              | false => exact ⟨_, rfl, _, rfl, _, wi, rfl, hw1, hw2, by omega, fun H8 s8 => ⟨_, by rw [etake]; rfl, s6.trans s8⟩⟩
          · rintro σ H6 ⟨y4, rfl, s6⟩
            rw [wlen, List.take_length]
            exact ⟨_, rfl, q1 H6 (((s1.trans s4).trans s5).trans s6)⟩
theorem all__law_long_word (D : Df K mg "_law_long_word" s__law_long_word ["_law_change_here", "_law_tree_here"]) (B : Bn mg) (C_law_leaf_word : Cal P w K mg base (10) "_law_leaf_word" ["_law_change_here", "_law_tree_here"] (spLeafWord K)) (C_law_exchanged : Cal P w K mg base (1) "_law_exchanged" ["_law_word"] spExch) (C_law_and_word : Cal P w K mg base (2) "_law_and_word" ["_law_v", "_law_w"] spAndText) (C_law_or_word : Cal P w K mg base (1) "_law_or_word" ["_law_v", "_law_w"] spOrText) : ∀ k : Nat, Cal P w K mg base (k+11) "_law_long_word" ["_law_change_here", "_law_tree_here"] (spLongWord K k)
  | 0 => (D.none (sp := spLongWord K 0) fun vs H Q E h => by
      obtain ⟨a, la, lb, v, t, _, _, _, _, hk, _⟩ := h
      have := depth_pos t
      omega).mono (by omega)
  | k + 1 => ok__law_long_word D B C_law_leaf_word C_law_exchanged C_law_and_word C_law_or_word (all__law_long_word D B C_law_leaf_word C_law_exchanged C_law_and_word C_law_or_word k)
abbrev s__law_changes : Stmt := top 63
theorem sc__law_changes : FnScope ["_law_draws_here", "_law_n", "_law_changes_here", "_law_start", "_law_end", "_law_number"] ["_law_draws_here", "_law_n"] (defScope s__law_changes) := ⟨rfl, rfl, rfl, by decide +kernel, rfl, by decide +kernel, by decide +kernel⟩
theorem ok__law_changes (D : Df K mg "_law_changes" s__law_changes ["_law_draws_here", "_law_n"]) (B : Bn mg) (C_law_change : Cal P w K mg base (2) "_law_change" ["_law_number", "_law_n"] (spChange K)) (C_law_strings : Cal P w K mg base (1) "_law_strings" ["_law_n", "_law_signs"] spStrings) : Cal P w K mg base (3) "_law_changes" ["_law_draws_here", "_law_n"] (spLChanges K) := by
  have S := sc__law_changes
  refine D.ok S (fun vs H Q E h => ?_) (fun f cdv A outer s H vs Q E hr h => ?_)
  · obtain ⟨a, ds, n, rfl, _⟩ := h; rfl
  · obtain ⟨a, ds, n, rfl, hA, hl, n1, n4, q⟩ := h
    refine ⟨_, (pss_cons (ps_if (pt_cmpR op_eq (pv 1) pe_int (nomark _)) (pss_one (ps_ret (pe_lc (own := [(("_law_number" : Str), 5)]) (g := gName 5) (tt := tYes) rfl S.nd (pi_list (pv 0)) (blkOk_by (own := [(("_law_number" : Str), 5)]) (N := ["_law_draws_here", "_law_n", "_law_changes_here", "_law_start", "_law_end", "_law_number"]) (sc := defScope s__law_changes) (by decide +kernel)) (fun _ _ _ _ _ => pg_name (i := 5) S.nd rfl (Or.inl rfl)) (fun _ _ _ _ _ => pts_nil) (fun _ _ _ _ _ => (pe_cal C_law_change hr rfl (pa_cons (pv 5) (pa_cons (pv 1) pa_nil))))))) pss_nil)
    (pss_cons (ps_set (i := 2) S.nd rfl (Or.inl rfl) (pe_lst pa_nil))
    (pss_cons (ps_for PassesOwn.never rfl (pi_list (pe_cal C_law_strings hr rfl (pa_cons (pv 1) (pa_cons pe_str pa_nil)))) (pg_name (i := 3) S.nd rfl (Or.inl rfl))
      (pss_one (ps_for PassesOwn.never rfl (pi_list (pe_cal C_law_strings hr rfl (pa_cons (pv 1) (pa_cons pe_str pa_nil)))) (pg_name (i := 4) S.nd rfl (Or.inl rfl))
        (pss_one (ps_if (pt_cmpR op_ne (pv 3) (pv 4) (nomark _)) (pss_one (ps_expr (pe_bm PySem.F.plainAttrs_list PySem.F.slot_list_append PySem.F.type_list_append mt_append (pv 2) (pa_cons (pe_tup (pa_cons (pv 3) (pa_cons (pv 4) pa_nil))) pa_nil)))) pss_nil)))))
    (pss_one (ps_ret (pv 2)))))), ?_⟩
    refine ⟨_, rfl, rfl, _, rfl, ?_⟩
    refine ite2 (fun _ => ?_) (fun c1 => ?_)
    · refine ⟨_, rfl, a, rfl, ⟨_, hA⟩, fun DD hD => ?_⟩
      refine lc_map walk_list (fun i x => (ds.map V.int)[i]? = some x) (fun i H x H' y => y) (fun i y H => ∃ (q : Addr) (la lb : List Sg), y = .ref q ∧ Chg K H q la lb ∧ la.length = n) (fun i y H0 H1 s0 ⟨q0, la, lb, e, c, ll⟩ => ⟨q0, la, lb, e, c.fix s0, ll⟩) (fun H' s4 => s4.seq hA) (hS' (by rw [List.length_map]; omega)) hD (fun _ => rfl) ?_ ?_
      · rintro i x H4 Q4 hi hx s4 q4
        rw [List.getElem?_map] at hx
        cases ed : ds[i]? with
        | none => rw [ed] at hx; cases hx
        | some z =>
          rw [ed] at hx
          obtain rfl := Option.some.inj hx
          exact ⟨_, rfl, _, rfl, z, n, rfl, n1, n4, fun q0 H5 la lb s5 c ll => q4 _ _ s5 ⟨q0, la, lb, rfl, c, ll⟩⟩
      · intro ys H4 s4 hL hyl hy
        refine q _ H4 ys s4 hL fun u hu => ?_
        obtain ⟨i, hi⟩ := List.mem_iff_getElem?.mp hu
        exact hy i u hi
    · have n3 : n ≤ 3 := by
        have : ¬ (n : Int) = 4 := fun e => c1 (eq_int' e)
        omega
      refine ⟨hS (by simp), fun c hc => ?_⟩
      have s1 := same_new hc (.lst [])
      refine ⟨_, rfl, n, [some false, some true], by rw [k01]; rfl, n4, by decide, fun r H2 ls s2 hr0 hr2 hls hln => ?_⟩
      have hc2 := s2 _ _ (upd_same (H := H) (a := c) (o := .lst []))
      have ncr : r ≠ c := (ne_of_none (upd_same (H := H) (a := c) (o := .lst [])) hr0).symm
      have hlen : (ls.map fun l => V.str (tx l)).length = ls.length := List.length_map _
      have s02 := s1.trans s2
      refine ⟨r, rfl, ⟨_, SqL.of hr2⟩, for_it walk_list (fun i σ H' => ∃ (us : List V) (y3 y4 : Option V), σ = [some (.ref a), some (.int (n : Int)), some (.ref c), y3, y4, none] ∧ Ex1 c H2 H' ∧ H' c = some (.lst us) ∧ us.length ≤ 1000 * i ∧ ∀ u ∈ us, ∃ (q : Addr) (la lb : List Sg), u = .ref q ∧ Chg K H' q la lb ∧ la.length = n)
        ⟨[], none, none, rfl, Ex1.refl _ _, hc2, Nat.zero_le _, fun u hu => nomatch hu⟩ (fun i σ H' _ ⟨_, _, _, _, x2, _⟩ => SqL.of (x2 _ _ ncr hr2)) ?_ ?_⟩
      · rintro i x σ H3 H4 hi ⟨us, y3, y4, rfl, x3, hc3, hul, hall⟩ ⟨rfl, hx⟩
        rw [hlen] at hi
        rw [List.getElem?_map, List.getElem?_eq_getElem hi] at hx
        obtain rfl := Option.some.inj hx
        have hlj := hls ls[i] (List.getElem_mem hi)
        refine ⟨_, rfl, n, [some false, some true], by rw [k01]; rfl, n4, by decide, fun r2 H5 ls2 s5 hr50 hr5 hls2 hln2 => ?_⟩
        have ncr2 : r2 ≠ c := (ne_of_none hc3 hr50).symm
        have hlen2 : (ls2.map fun l => V.str (tx l)).length = ls2.length := List.length_map _
        refine ⟨r2, rfl, ⟨_, SqL.of hr5⟩, for_it walk_list (fun j σ H' => ∃ (us : List V) (y4 : Option V), σ = [some (.ref a), some (.int (n : Int)), some (.ref c), some (.str (tx ls[i])), y4, none] ∧ Ex1 c H2 H' ∧ Ex1 c H5 H' ∧ H' c = some (.lst us) ∧ us.length ≤ 1000 * i + j ∧ ∀ u ∈ us, ∃ (q : Addr) (la lb : List Sg), u = .ref q ∧ Chg K H' q la lb ∧ la.length = n)
          ⟨us, y4, rfl, x3.trans (Ex1.of s5), Ex1.refl _ _, s5 _ _ hc3, hul, fun u hu => ?_⟩ (fun i σ H' _ ⟨_, _, _, _, x5, _⟩ => SqL.of (x5 _ _ ncr2 hr5)) ?_ ?_⟩
        · obtain ⟨q0, la, lb, e, c0, ll⟩ := hall u hu
          exact ⟨q0, la, lb, e, c0.up s5, ll⟩
        · rintro j x σ H6 H7 hj ⟨us6, y4, rfl, x6, x56, hc6, hul6, hall6⟩ ⟨rfl, hx⟩
          rw [hlen2] at hj
          rw [List.getElem?_map, List.getElem?_eq_getElem hj] at hx
          obtain rfl := Option.some.inj hx
          have hlj2 := hls2 ls2[j] (List.getElem_mem hj)
          refine ⟨_, rfl, _, rfl, rfl, _, rfl, ?_⟩
          by_cases c2 : ls[i] = ls2[j]
          · refine ifb (c := false) (by rw [dec_tx, decide_eq_true c2]; rfl) ?_
            exact ⟨us6, _, rfl, x6, x56, hc6, by omega, hall6⟩
          · refine ifb (c := true) (by rw [dec_tx, decide_eq_false c2]; rfl) ?_
            refine ⟨_, rfl, .inl ⟨rfl, _, SqL.of hc6⟩, _, rfl, _, rfl, hS (by simp), fun p hp => ?_⟩
            have s8 := same_new hp (.tup [.str (tx ls[i]), .str (tx ls2[j])])
            have npc : c ≠ p := ne_of_none hc6 hp
            have up : SameT (upd H7 p (.tup [.str (tx ls[i]), .str (tx ls2[j])])) (upd (upd H7 p (.tup [.str (tx ls[i]), .str (tx ls2[j])])) c (.lst (us6 ++ [.ref p]))) := SameT.upd (s8 _ _ hc6)
            refine ⟨c, us6, _, rfl, rfl, s8 _ _ hc6, hS' (by omega), ?_⟩
            refine ⟨us6 ++ [.ref p], _, rfl, x6.trans ((Ex1.of s8).trans (Ex1.upd _ _ _)), x56.trans ((Ex1.of s8).trans (Ex1.upd _ _ _)), upd_same, by rw [List.length_append]; simp; omega, fun u hu => ?_⟩
            rw [List.mem_append, List.mem_singleton] at hu
            rcases hu with hu | rfl
            · obtain ⟨q0, la, lb, e, c0, ll⟩ := hall6 u hu
              exact ⟨q0, la, lb, e, (c0.up s8).fix up, ll⟩
            · have pts : ∀ (l : List Sg), (∀ s ∈ l, s ∈ [some false, some true]) → Pt l := fun l h s hs => by
                have := h s hs
                rw [List.mem_cons, List.mem_singleton] at this
                rcases this with rfl | rfl <;> exact fun h => nomatch h
              refine ⟨p, ls[i], ls2[j], rfl, ⟨up.tup (SqT.of upd_same), pts _ hlj.2, pts _ hlj2.2, by rw [hlj.1, hlj2.1], by rw [hlj.1]; exact n1, by rw [hlj.1]; exact n4, c2⟩, hlj.1⟩
        · rintro σ H6 ⟨us6, y4, rfl, x6, x56, hc6, hul6, hall6⟩
          rw [hlen2] at hul6
          exact ⟨us6, _, _, rfl, x6, hc6, by omega, hall6⟩
      · rintro σ H3 ⟨us, y3, y4, rfl, x3, hc3, hul, hall⟩
        exact ⟨_, rfl, q c H3 us (Ex1.same s02 x3 hc) hc3 hall⟩
end
end Sc

set_option maxHeartbeats 4000000
namespace Sc
open PySem PySem.Spec PyProof.Rows L2 TL
section
variable {P : Program} {w : World} {K : PySem.W.Frag} {mg : Str → Option Value} {base : Heap}
mutual
theorem wf_mono {n m : Nat} (h : n ≤ m) : ∀ t : T, t.wf n → t.wf m
  | .one, _ => trivial
  | .zero, _ => trivial
  | .inp _, q => Nat.lt_of_lt_of_le q h
  | .neg t, q => wf_mono h t q
  | .gate _ ps, q => ⟨q.1, wfL_mono h ps q.2⟩
theorem wfL_mono {n m : Nat} (h : n ≤ m) : ∀ ps : List T, wfL n ps → wfL m ps
  | [], _ => trivial
  | t :: r, q => ⟨wf_mono h t q.1, wfL_mono h r q.2⟩
end
theorem Ok.mono {n m : Nat} {t : T} (o : Ok n t) (h : n ≤ m) : Ok m t := ⟨wf_mono h t o.wf, o.dp, o.lv⟩
/-- a tree that _law_grown makes -/
structure Sm (n : Nat) (t : T) : Prop where
  wf : t.wf n
  dp : t.depth ≤ 3
  lv : t.leaves ≤ 16
theorem wide_sm {n : Nat} {x : T} {ys : List T} (hx : Sm n x) (hy : ∀ y ∈ ys, Sm n y) (h5 : ys.length ≤ 5) (h0 : ys ≠ []) : (wideT x ys).wf n ∧ (wideT x ys).depth ≤ 5 ∧ (wideT x ys).leaves ≤ 160 := by
  have xd := hx.dp
  have xl := hx.lv
  have hw : ∀ t ∈ ys.map fun y => T.gate true [x, y], t.wf n := fun t ht => by
    obtain ⟨y, hy1, rfl⟩ := List.mem_map.mp ht
    exact ⟨(fun e => nomatch e), hx.wf, (hy y hy1).wf, trivial⟩
  refine ⟨⟨fun e => h0 (List.map_eq_nil_iff.mp e), (wfL_iff n _).mpr hw⟩, ?_, ?_⟩
  · show depthL (ys.map fun y => T.gate true [x, y]) + 1 ≤ 5
    have : depthL (ys.map fun y => T.gate true [x, y]) ≤ 4 := depthL_le.mpr fun t ht => by
      obtain ⟨y, hy1, rfl⟩ := List.mem_map.mp ht
      have yd := (hy y hy1).dp
      show max x.depth (max y.depth 0) + 1 ≤ 4
      omega
    omega
  · have h1 := leavesL_mul (ys.map fun y => T.gate true [x, y]) 32 fun t ht => by
      obtain ⟨y, hy1, rfl⟩ := List.mem_map.mp ht
      have yl := (hy y hy1).lv
      show x.leaves + (y.leaves + 0) ≤ 32
      omega
    rw [List.length_map] at h1
    show leavesL (ys.map fun y => T.gate true [x, y]) ≤ 160
    omega
theorem tight_sm {n : Nat} {x : T} {ys : List T} (hx : Sm n x) (hy : ∀ y ∈ ys, Sm n y) (h5 : ys.length ≤ 5) (h0 : ys ≠ []) : (tightT x ys).wf n ∧ (tightT x ys).depth ≤ 5 ∧ (tightT x ys).leaves ≤ 160 := by
  have xd := hx.dp
  have xl := hx.lv
  have hw : (T.gate false ys).wf n := ⟨h0, (wfL_iff n _).mpr fun t ht => (hy t ht).wf⟩
  have hw2 : wfL n [x, .gate false ys] := ⟨hx.wf, hw, trivial⟩
  refine ⟨⟨(fun e => nomatch e), hw2⟩, ?_, ?_⟩
  · have : depthL ys ≤ 3 := depthL_le.mpr fun t ht => (hy t ht).dp
    show max x.depth (max (depthL ys + 1) 0) + 1 ≤ 5
    omega
  · have h1 := leavesL_mul ys 16 fun t ht => (hy t ht).lv
    show x.leaves + (leavesL ys + 0) ≤ 160
    omega
theorem repl_ok {n : Nat} {p : List Nat} {t f u : T} (hat : T.at p t = some u) (ht : Sm n t) (hf : f.wf n ∧ f.depth ≤ 5 ∧ f.leaves ≤ 160) : Ok n (T.repl p t f) := by
  have h1 := at_depth p t u hat
  have h2 := repl_depth p t f u hat
  have h3 := repl_leaves p t f u hat
  have h4 := depth_pos u
  have h5 := ht.dp
  have h6 := ht.lv
  exact ⟨repl_wf p t f u hat ht.wf hf.1, by omega, by omega⟩
theorem TAs.ex {K : PySem.W.Frag} {H : Hp} {p : T → Prop} : ∀ ys : List V, (∀ y ∈ ys, ∃ t, TA K H y t ∧ p t) → ∃ ts, TAs K H ys ts ∧ ∀ t ∈ ts, p t
  | [], _ => ⟨[], .nil, fun t ht => nomatch ht⟩
  | y :: r, h => by
    obtain ⟨t, ht, hp⟩ := h y (by simp)
    obtain ⟨ts, hts, hps⟩ := TAs.ex r fun z hz => h z (by simp [hz])
    refine ⟨t :: ts, .cons ht hts, fun u hu => ?_⟩
    rw [List.mem_cons] at hu
    rcases hu with rfl | hu
    · exact hp
    · exact hps u hu
abbrev s_law : Stmt := top 64
theorem sc_law : FnScope ["_law_script", "_law_draws_here", "_law_n", "_law_common", "_law_rest", "_law_outer", "_law_paths", "_law_path", "_law_wide", "_law_tight", "_law_change_here", "_law_word", "_law_long_word_here", "_law_cube", "_law_k", "_law_part"] ["_law_script"] (defScope s_law) := ⟨rfl, rfl, rfl, by decide +kernel, rfl, by decide +kernel, by decide +kernel⟩
theorem ok_law (D : Df K mg "law" s_law ["_law_script"]) (B : Bn mg) (C_law_draws : Cal P w K mg base (2) "_law_draws" ["_law_script", "_law_many"] (spDraws K)) (C_law_grown : Cal P w K mg base (5) "_law_grown" ["_law_draws_here", "_law_deep", "_law_n"] (spGrown K)) (C_law_leaf_paths : Cal P w K mg base (5) "_law_leaf_paths" ["_law_tree_here", "_law_path"] (spLeafPaths K 3)) (C_law_replaced : Cal P w K mg base (6) "_law_replaced" ["_law_tree_here", "_law_path", "_law_fresh"] (spReplaced K 4)) (Cshared : Cal P w K mg base (13) "shared" ["tree", "path"] (spShared K)) (Cspread : Cal P w K mg base (13) "spread" ["tree", "path"] (spSpread K)) (C_law_changes : Cal P w K mg base (3) "_law_changes" ["_law_draws_here", "_law_n"] (spLChanges K)) (Clongest_of : Cal P w K mg base (21) "longest_of" ["change", "tree"] (spLongestOf K)) (C_law_long_word : Cal P w K mg base (19) "_law_long_word" ["_law_change_here", "_law_tree_here"] (spLongWord K 8)) (C_law_strings : Cal P w K mg base (1) "_law_strings" ["_law_n", "_law_signs"] spStrings) (Csettled : Cal P w K mg base (13) "settled" ["cube", "tree"] (spSettled K)) (C_law_settled : Cal P w K mg base (9) "_law_settled" ["_law_cube", "_law_tree_here"] (spLSettled K 8)) (Ccalmer : Cal P w K mg base (21) "calmer" ["n", "one", "other"] (spCalmer K)) : Cal P w K mg base (22) "law" ["_law_script"] (spLaw K) := by
  have S := sc_law
  refine D.ok S (fun vs H Q E h => ?_) (fun f cdv A outer s H vs Q E hr h => ?_)
  · obtain ⟨a, ns, rfl, _⟩ := h; rfl
  · obtain ⟨a, ns, rfl, hA, hl, q⟩ := h
    refine ⟨_, (pss_cons (ps_set (i := 1) S.nd rfl (Or.inr rfl) (pe_cal C_law_draws hr rfl (pa_cons (pv 0) (pa_cons pe_int pa_nil))))
    (pss_cons (ps_set (i := 2) S.nd rfl (Or.inr rfl) (pe_op op_add pe_int (pe_op op_mod (pe_callTy call_int1 (by rfl) B.int_ (by decide +kernel) (pa_cons (pe_ix ix_list (pv 1) pe_int (fun _ _ => rfl)) pa_nil)) pe_int)))
    (pss_cons (ps_set (i := 3) S.nd rfl (Or.inr rfl) (pe_cal C_law_grown hr rfl (pa_cons (pe_slice sl_list (pv 1) (po_some pe_int) (po_some pe_int)) (pa_cons (pe_op op_add pe_int (pe_op op_mod (pe_callTy call_int1 (by rfl) B.int_ (by decide +kernel) (pa_cons (pe_ix ix_list (pv 1) pe_int (fun _ _ => rfl)) pa_nil)) pe_int)) (pa_cons (pv 2) pa_nil)))))
    (pss_cons (ps_setLc (i := 4) (own := [(("_law_k" : Str), 14)]) (g := gName 14) (tt := tYes) rfl S.nd rfl rfl (sw_true rfl rfl rfl (by decide +kernel)) (pi_range1 (by rfl) B.range_ (pa_cons (pe_op op_add pe_int (pe_op op_mod (pe_callTy call_int1 (by rfl) B.int_ (by decide +kernel) (pa_cons (pe_ix ix_list (pv 1) pe_int (fun _ _ => rfl)) pa_nil)) pe_int)) pa_nil)) (blkOk_by (own := [(("_law_k" : Str), 14)]) (N := ["_law_script", "_law_draws_here", "_law_n", "_law_common", "_law_rest", "_law_outer", "_law_paths", "_law_path", "_law_wide", "_law_tight", "_law_change_here", "_law_word", "_law_long_word_here", "_law_cube", "_law_k", "_law_part"]) (sc := defScope s_law) (by decide +kernel)) (fun _ _ _ _ _ => pg_name (i := 14) S.nd rfl (Or.inl rfl)) (fun _ _ _ _ _ => pts_nil) (fun _ _ _ _ _ => (pe_cal C_law_grown hr rfl (pa_cons (pe_slice (sl_listK K rfl) (pv 1) (po_some (pe_op op_add pe_int (pe_op op_mul pe_int (pv 14)))) (po_some (pe_op op_add pe_int (pe_op op_mul pe_int (pv 14))))) (pa_cons (pe_op op_add pe_int (pe_op op_mod (pe_callTy call_int1 (by rfl) B.int_ (by decide +kernel) (pa_cons (pe_op op_fdiv (pe_ix (ix_listK K rfl) (pv 1) pe_int (fun _ _ => rfl)) pe_int) pa_nil)) pe_int)) (pa_cons (pv 2) pa_nil))))))
    (pss_cons (ps_set (i := 5) S.nd rfl (Or.inl rfl) (pe_cal C_law_grown hr rfl (pa_cons (pe_slice sl_list (pv 1) (po_some pe_int) (po_some pe_int)) (pa_cons (pe_op op_add pe_int (pe_op op_mod (pe_callTy call_int1 (by rfl) B.int_ (by decide +kernel) (pa_cons (pe_ix ix_list (pv 1) pe_int (fun _ _ => rfl)) pa_nil)) pe_int)) (pa_cons (pv 2) pa_nil)))))
    (pss_cons (ps_set (i := 6) S.nd rfl (Or.inl rfl) (pe_cal C_law_leaf_paths hr rfl (pa_cons (pv 5) (pa_cons (pe_tup pa_nil) pa_nil))))
    (pss_cons (ps_set (i := 7) S.nd rfl (Or.inl rfl) (pe_ix ix_list (pv 6) (pe_op op_modN (pe_callTy call_int1 (by rfl) B.int_ (by decide +kernel) (pa_cons (pe_ix ix_list (pv 1) pe_int (fun _ _ => rfl)) pa_nil)) (pe_callB call_len_seq (by rfl) B.len_ PySem.boot_len (pa_cons (pv 6) pa_nil))) (fun _ _ => rfl)))
    (pss_cons (ps_set (i := 8) S.nd rfl (Or.inl rfl) (pe_cal C_law_replaced hr rfl (pa_cons (pv 5) (pa_cons (pv 7) (pa_cons (pe_tup (pa_cons pe_str (pa_cons (pe_callTy call_tuple_of (by rfl) B.tuple_ (by decide +kernel) (pa_cons (pe_lc (own := [(("_law_part" : Str), 15)]) (g := gName 15) (tt := tYes) rfl S.nd (pi_list (pv 4)) (blkOk_by (own := [(("_law_part" : Str), 15)]) (N := ["_law_script", "_law_draws_here", "_law_n", "_law_common", "_law_rest", "_law_outer", "_law_paths", "_law_path", "_law_wide", "_law_tight", "_law_change_here", "_law_word", "_law_long_word_here", "_law_cube", "_law_k", "_law_part"]) (sc := defScope s_law) (by decide +kernel)) (fun _ _ _ _ _ => pg_name (i := 15) S.nd rfl (Or.inl rfl)) (fun _ _ _ _ _ => pts_nil) (fun _ _ _ _ _ => (pe_tup (pa_cons pe_str (pa_cons (pe_tup (pa_cons (pv 3) (pa_cons (pv 15) pa_nil))) pa_nil))))) pa_nil)) pa_nil))) pa_nil)))))
    (pss_cons (ps_set (i := 9) S.nd rfl (Or.inl rfl) (pe_cal Cshared hr rfl (pa_cons (pv 8) (pa_cons (pv 7) pa_nil))))
    (pss_cons (ps_if (pt_cmpR (op_neD hr.units) (pe_cal Cspread hr rfl (pa_cons (pv 9) (pa_cons (pv 7) pa_nil))) (pv 8) (nomark _)) (pss_one (ps_ret pe_bl)) pss_nil)
    (pss_cons (ps_for PassesOwn.never rfl (pi_list (pe_cal C_law_changes hr rfl (pa_cons (pe_slice sl_list (pv 1) (po_some pe_int) (po_some pe_int)) (pa_cons (pv 2) pa_nil)))) (pg_name (i := 10) S.nd rfl (Or.inl rfl))
      (pss_cons (ps_set (i := 11) S.nd rfl (Or.inl rfl) (pe_cal Clongest_of hr rfl (pa_cons (pv 10) (pa_cons (pv 9) pa_nil))))
      (pss_cons (ps_set (i := 12) S.nd rfl (Or.inl rfl) (pe_cal Clongest_of hr rfl (pa_cons (pv 10) (pa_cons (pv 8) pa_nil))))
      (pss_cons (ps_if (PW.pt (pw_or (pt_not (pt_val (pe_callB call_isi (by rfl) B.isinstance_ (by decide +kernel) (pa_cons (pv 11) (pa_cons (pe_bltn (by rfl) B.str_ (by decide +kernel) (v := .ty "str") rfl) pa_nil))))) (pw_or1 (pt_cmpR op_ne (pv 12) (pe_cal C_law_long_word hr rfl (pa_cons (pv 10) (pa_cons (pv 8) pa_nil))) (nomark _))))) (pss_one (ps_ret pe_bl)) pss_nil)
      (pss_cons (ps_if (PW.pt (pw_or (pt_cmpR op_ne (pv 11) (pe_cal C_law_long_word hr rfl (pa_cons (pv 10) (pa_cons (pv 9) pa_nil))) (nomark _)) (pw_or1 (pt_cmpR op_gt (pe_callB call_len_str (by rfl) B.len_ PySem.boot_len (pa_cons (pv 11) pa_nil)) (pe_callB call_len_str (by rfl) B.len_ PySem.boot_len (pa_cons (pv 12) pa_nil)) (nomark _))))) (pss_one (ps_ret pe_bl)) pss_nil)
      (pss_one (ps_if (PW.pt (pw_or (pt_cmpR op_ne (pe_ix ix_str (pv 11) pe_int (fun _ _ => rfl)) (pe_ix ix_str (pv 12) pe_int (fun _ _ => rfl)) (nomark _)) (pw_or1 (pt_cmpR op_ne (pe_ix ix_str (pv 11) (pe_un un_neg pe_int) (fun _ _ => rfl)) (pe_ix ix_str (pv 12) (pe_un un_neg pe_int) (fun _ _ => rfl)) (nomark _))))) (pss_one (ps_ret pe_bl)) pss_nil)))))))
    (pss_cons (ps_for PassesOwn.never rfl (pi_list (pe_cal C_law_strings hr rfl (pa_cons (pv 2) (pa_cons pe_str pa_nil)))) (pg_name (i := 13) S.nd rfl (Or.inl rfl))
      (pss_one (ps_if (PW.pt (pw_or (pt_cmpR op_ne (pe_cal Csettled hr rfl (pa_cons (pv 13) (pa_cons (pv 9) pa_nil))) (pe_cal Csettled hr rfl (pa_cons (pv 13) (pa_cons (pv 8) pa_nil))) (nomark _)) (pw_or1 (pt_cmpR op_ne (pe_cal Csettled hr rfl (pa_cons (pv 13) (pa_cons (pv 8) pa_nil))) (pe_cal C_law_settled hr rfl (pa_cons (pv 13) (pa_cons (pv 8) pa_nil))) (nomark _))))) (pss_one (ps_ret pe_bl)) pss_nil)))
    (pss_one (ps_ret (pe_cmpR op_isN (pe_cal Ccalmer hr rfl (pa_cons (pv 2) (pa_cons (pv 9) (pa_cons (pv 8) pa_nil)))) pe_non (nomark _)))))))))))))))), ?_⟩
    refine ⟨_, rfl, a, ns, rfl, hA, hl, fun R H1 ds s1 hD hdl => ?_⟩
    have dA : SqL K H1 R (ds.map V.int) := SqL.of hD
    have dL : (ds.map V.int).length = 76 := by rw [List.length_map, hdl]
    have atD : ∀ (i : Nat) (z : Int), i < 76 → z = (i : Int) → atI (ds.map V.int) z = some (.int (ds.getD i 0)) := fun i z h e => at_ofA e (by
      rw [List.getElem?_map, List.getElem?_eq_getElem (by omega), List.getD_eq_getElem?_getD, List.getElem?_eq_getElem (by omega)]; rfl)
    obtain ⟨n, hn, n1, n4⟩ : ∃ n : Nat, 1 + ds.getD 0 0 % 4 = (n : Int) ∧ 1 ≤ n ∧ n ≤ 4 := ⟨(1 + ds.getD 0 0 % 4).toNat, by omega, by omega, by omega⟩
    obtain ⟨c1, hc1, c11, c13⟩ : ∃ n : Nat, 1 + ds.getD 1 0 % 3 = (n : Int) ∧ 1 ≤ n ∧ n ≤ 3 := ⟨(1 + ds.getD 1 0 % 3).toNat, by omega, by omega, by omega⟩
    obtain ⟨m, hm, m1, m5⟩ : ∃ n : Nat, 1 + ds.getD 2 0 % 5 = (n : Int) ∧ 1 ≤ n ∧ n ≤ 5 := ⟨(1 + ds.getD 2 0 % 5).toNat, by omega, by omega, by omega⟩
    obtain ⟨c2, hc2, c21, c23⟩ : ∃ n : Nat, 1 + ds.getD 2 0 / 5 % 3 = (n : Int) ∧ 1 ≤ n ∧ n ≤ 3 := ⟨(1 + ds.getD 2 0 / 5 % 3).toNat, by omega, by omega, by omega⟩
    obtain ⟨c3, hc3, c31, c33⟩ : ∃ n : Nat, 1 + ds.getD 3 0 % 3 = (n : Int) ∧ 1 ≤ n ∧ n ≤ 3 := ⟨(1 + ds.getD 3 0 % 3).toNat, by omega, by omega, by omega⟩
    -- n
    refine ⟨_, rfl, R, _, _, _, rfl, rfl, dA, atD 0 _ (by decide) rfl, .inl ⟨_, rfl, _, _, rfl, rfl, (by show (0 : Int) < _; decide), _, _, rfl, rfl, ?_⟩⟩
    dsimp only
    rw [hn]
    -- common
    refine ⟨_, rfl, 4, rfl, 10, rfl, R, _, rfl, dA, fun p1 hp1 => ?_⟩
    obtain ⟨e1, he1, hl1⟩ := cut_int ds (some 4) (some 10)
    rw [he1]
    have t1 := same_new hp1 (.lst (e1.map V.int))
    refine ⟨_, rfl, R, _, _, _, rfl, rfl, t1.seq dA, atD 1 _ (by decide) rfl, .inl ⟨_, rfl, _, _, rfl, rfl, (by show (0 : Int) < _; decide), _, _, rfl, rfl, ?_⟩⟩
    dsimp only
    rw [hc1]
    refine ⟨_, rfl, p1, e1, c1, n, rfl, SqL.of upd_same, by omega, c11, c13, n1, n4, fun vc H2 tc s2 hTc wc dc lc => ?_⟩
    have dA2 := s2.seq (t1.seq dA)
    have sc : Sm n tc := ⟨wc, dc, lc⟩
    -- rest
    refine ⟨_, rfl, R, _, _, _, rfl, rfl, dA2, atD 2 _ (by decide) rfl, .inl ⟨_, rfl, _, _, rfl, rfl, (by show (0 : Int) < _; decide), _, _, rfl, rfl, _, rfl, by omega, by omega, fun DD hDD => ?_⟩⟩
    refine lc_map walk_range (fun i x => x = V.int (0 + (i : Int))) (fun i H x H' y => y) (fun i y H => ∃ t, TA K H y t ∧ Sm n t) (fun i y H0 H1 s0 ⟨t, h, r⟩ => ⟨t, TA.fix s0 _ _ h, r⟩) (fun _ _ => trivial) (hS' (by omega)) hDD (fun _ => rfl) ?_ ?_
    · rintro i x H4 Q4 hi rfl s4 q4
      have dA4 := s4.seq dA2
      refine ⟨_, rfl, _, rfl, _, _, rfl, rfl, .inl ⟨by decide, by decide⟩, _, _, rfl, rfl, _, rfl, _, rfl, _, _, rfl, rfl, .inl ⟨by decide, by decide⟩, _, _, rfl, rfl, _, rfl, R, _, rfl, dA4, fun p2 hp2 => ?_⟩
      obtain ⟨e2, he2, hl2⟩ := cut_int ds (some (10 + 5 * (0 + (i : Int)))) (some (15 + 5 * (0 + (i : Int))))
      rw [he2]
      have t2 := same_new hp2 (.lst (e2.map V.int))
      refine ⟨_, rfl, R, _, _, _, rfl, rfl, t2.seq dA4, atD 2 _ (by decide) rfl, _, _, rfl, rfl, ⟨by decide, by decide⟩, .inl ⟨_, rfl, _, _, rfl, rfl, (by show (0 : Int) < _; decide), _, _, rfl, rfl, ?_⟩⟩
      dsimp only
      rw [hc2]
      exact ⟨_, rfl, p2, e2, c2, n, rfl, SqL.of upd_same, by omega, c21, c23, n1, n4, fun v5 H5 t5 s5 hT5 w5 d5 l5 => q4 v5 H5 (t2.trans s5) ⟨t5, hT5, w5, d5, l5⟩⟩
    intro ys H4 s4 hR hyl hy
    obtain ⟨ts, hts, sts⟩ := TAs.ex (p := Sm n) ys fun y hyy => by
      obtain ⟨i, hi⟩ := List.mem_iff_getElem?.mp hyy
      exact hy i y hi
    have ytl := hts.len
    have tl5 : ts.length ≤ 5 := by omega
    have tne : ts ≠ [] := fun e => by rw [e] at ytl; have : ys.length = 0 := ytl; omega
    have dA4 := s4.seq dA2
    have hTc4 := TA.up s4 hTc
    -- outer
    refine ⟨_, rfl, 35, rfl, 45, rfl, R, _, rfl, dA4, fun p3 hp3 => ?_⟩
    obtain ⟨e3, he3, hl3⟩ := cut_int ds (some 35) (some 45)
    rw [he3]
    have t3 := same_new hp3 (.lst (e3.map V.int))
    refine ⟨_, rfl, R, _, _, _, rfl, rfl, t3.seq dA4, atD 3 _ (by decide) rfl, .inl ⟨_, rfl, _, _, rfl, rfl, (by show (0 : Int) < _; decide), _, _, rfl, rfl, ?_⟩⟩
    dsimp only
    rw [hc3]
    refine ⟨_, rfl, p3, e3, c3, n, rfl, SqL.of upd_same, by omega, c31, c33, n1, n4, fun vo H5 to s5 hTo wo dO lo => ?_⟩
    have so : Sm n to := ⟨wo, dO, lo⟩
    have s45 := t3.trans s5
    -- paths
    refine ⟨_, rfl, hS (by decide), fun p4 hp4 => ?_⟩
    have t4 := same_new hp4 (.tup [])
    refine ⟨vo, to, n, p4, [], rfl, TA.up t4 hTo, wo, by omega, dO, SqT.of upd_same, by simp; omega, fun PP H6 us s6 hP u1 u2 hall => ?_⟩
    have s46 := (s45.trans t4).trans s6
    have dA6 := s46.seq dA4
    -- path
    obtain ⟨j, hj, hjl⟩ : ∃ j : Nat, (ds.getD 45 0).fmod (us.length : Int) = (j : Int) ∧ j < us.length := by
      have f0 : 0 ≤ (ds.getD 45 0).fmod (us.length : Int) := Int.fmod_nonneg_of_pos _ (by omega)
      have f1 : (ds.getD 45 0).fmod (us.length : Int) < us.length := Int.fmod_lt_of_pos _ (by omega)
      exact ⟨((ds.getD 45 0).fmod (us.length : Int)).toNat, by omega, by omega⟩
    obtain ⟨b, pth, xo, eu, hb, hat⟩ := hall us[j] (List.getElem_mem hjl)
    rw [List.nil_append] at hb
    have ej : us[j]? = some (V.ref b) := by rw [List.getElem?_eq_getElem hjl, eu]
    refine ⟨_, rfl, _, rfl, R, _, _, _, rfl, rfl, dA6, atD 45 _ (by decide) rfl, .inl ⟨_, rfl, _, rfl, PP, _, rfl, .inl (SqL.of hP), _, _, rfl, rfl, (by show (us.length : Int) ≠ 0; omega), PP, us, _, .ref b, rfl, rfl, SqL.of hP, at_ofA hj ej, ?_⟩⟩
    -- wide
    have hR6 : SqL K H6 DD ys := s46.seq (SqL.of hR)
    have hTc6 := TA.up s46 hTc4
    have hts6 := TAs.up s46 hts
    have hTo6 := TA.up (t4.trans s6) hTo
    refine ⟨_, rfl, _, rfl, _, rfl, DD, rfl, ⟨_, hR6⟩, fun D2 hD2 => ?_⟩
    refine lc_map walk_list (fun i x => ys[i]? = some x) (fun i H x H' y => y) (fun i y H => ∃ t, ts[i]? = some t ∧ TA K H y (.gate true [tc, t])) (fun i y H0 H1 s0 ⟨t, e, h⟩ => ⟨t, e, TA.fix s0 _ _ h⟩) (fun H' s4 => s4.seq hR6) (hS' (by omega)) hD2 (fun _ => rfl) ?_ ?_
    · rintro i x H7 Q7 hi hx s7 q7
      obtain ⟨t, ht, hTt⟩ := hts6.get hx
      refine ⟨_, rfl, _, rfl, hS (by simp), fun p5 hp5 => ⟨hS (by simp), fun p6 hp6 => ?_⟩⟩
      have t5 := same_new hp5 (.tup [vc, x])
      have t6 := same_new hp6 (.tup [.str "and", .ref p5])
      exact q7 _ _ (t5.trans t6) ⟨t, ht, TA.mkGate (k := true) (SqT.of upd_same) (t6.tup (SqT.of upd_same)) (.cons (TA.up ((s7.trans t5).trans t6) hTc6) (.cons (TA.up ((s7.trans t5).trans t6) hTt) .nil))⟩
    intro zs H7 s7 hZ hzl hz
    refine ⟨D2, zs, rfl, .inl ⟨SqL.of hZ, fun p7 hp7 => ⟨hS (by simp), fun p8 hp8 => ?_⟩⟩⟩
    have t7 := same_new hp7 (.tup zs)
    have t8 := same_new hp8 (.tup [.str "or", .ref p7])
    have hzs : TAs K H7 zs (ts.map fun y => .gate true [tc, y]) := TAs.of (by rw [List.length_map]; omega) fun i y t e1 e2 => by
      obtain ⟨yi, e3, h⟩ := hz i y e1
      rw [List.getElem?_map, e3] at e2
      obtain rfl := Option.some.inj e2
      exact h
    have hwide : TA K _ (.ref p8) (wideT tc ts) := TA.mkGate (k := false) (SqT.of upd_same) (t8.tup (SqT.of upd_same)) (TAs.up (t7.trans t8) hzs)
    have s78 := (s7.trans t7).trans t8
    have pd := at_depth pth to xo hat
    have xp := depth_pos xo
    refine ⟨vo, .ref p8, to, xo, wideT tc ts, b, pth, rfl, TA.up s78 hTo6, s78.tup hb, hat, hwide, by omega, fun vw H8 s8 hW => ?_⟩
    have okW : Ok n (T.repl pth to (wideT tc ts)) := repl_ok hat so (wide_sm sc sts tl5 tne)
    have okT : Ok n (T.repl pth to (tightT tc ts)) := repl_ok hat so (tight_sm sc sts tl5 tne)
    have atW := at_repl pth to (wideT tc ts) xo hat
    have atT := at_repl pth to (tightT tc ts) xo hat
    have rWT := repl_repl pth to (wideT tc ts) (tightT tc ts) xo hat
    have rTW := repl_repl pth to (tightT tc ts) (wideT tc ts) xo hat
    have cut : ∀ la lb : List Sg, Cut (wrd la lb (T.repl pth to (tightT tc ts))) (wrd la lb (T.repl pth to (wideT tc ts))) := fun la lb => repl_cut la lb _ _ (tight_cut la lb tc ts wc (fun y hy => (sts y hy).wf) tne) pth to xo hat wo
    have sg : ∀ c : List Sg, sgn c (T.repl pth to (tightT tc ts)) = sgn c (T.repl pth to (wideT tc ts)) := fun c => repl_sgn c _ _ (share_sgn c tc ts tne) pth to
    generalize T.repl pth to (wideT tc ts) = W at hW okW atW rWT rTW cut sg
    generalize T.repl pth to (tightT tc ts) = Z at okT atT rWT rTW cut sg
    have hb8 := (s78.trans s8).tup hb
    have dA8 := (s78.trans s8).seq dA6
    -- tight, and back
    refine ⟨_, rfl, _, rfl, vw, W, tc, ts, b, pth, rfl, hW, okW.mono n4, hb8, atW, tne, by omega, fun vz H9 s9 hZ9 => ?_⟩
    rw [rWT] at hZ9
    refine ⟨_, rfl, _, rfl, vz, Z, tc, ts, b, pth, rfl, hZ9, okT.mono n4, s9.tup hb8, atT, by rw [rTW]; exact okW.mono n4, by omega, fun vy H10 s10 hY => ?_⟩
    rw [rTW] at hY
    have s810 := s9.trans s10
    have hW10 := TA.up s810 hW
    have hZ10 := TA.up s10 hZ9
    have dA10 := s810.seq dA8
    refine ⟨_, rfl, W.enc, W.enc, hY, hW10, enc_shaped okW.dp, enc_shaped okW.dp, _, rfl, ?_⟩
    refine ifb (c := false) (by rw [enc_eqv]; rfl) ?_
    -- the changes
    refine ⟨_, rfl, 46, rfl, 76, rfl, R, _, rfl, dA10, fun p9 hp9 => ?_⟩
    obtain ⟨e4, he4, hl4⟩ := cut_int ds (some 46) (some 76)
    rw [he4]
    have t9 := same_new hp9 (.lst (e4.map V.int))
    refine ⟨_, rfl, p9, e4, n, rfl, SqL.of upd_same, by omega, n1, n4, fun CC H11 cs s11 hC hcs => ?_⟩
    have t11 := t9.trans s11
    have hW11 := TA.up t11 hW10
    have hZ11 := TA.up t11 hZ10
    refine ⟨CC, rfl, ⟨_, SqL.of hC⟩, for_it walk_list (fun i σ H' => ∃ y10 y11 y12 : Option V, σ = [some (.ref a), some (.ref R), some (.int (n : Int)), some vc, some (.ref DD), some vo, some (.ref PP), some (.ref b), some vw, some vz, y10, y11, y12, none, none, none] ∧ Same H11 H')
      ⟨none, none, none, rfl, Same.refl _⟩ (fun i σ H' _ ⟨_, _, _, _, s12⟩ => SqL.of (s12 _ _ hC)) ?_ ?_⟩
    · rintro i x σ H12 H13 hi ⟨y10, y11, y12, rfl, s12⟩ ⟨rfl, hx⟩
      obtain ⟨q0, la, lb, rfl, ch, ll⟩ := hcs x (List.mem_of_getElem? hx)
      have okW' : Ok la.length W := by rw [ll]; exact okW
      have okT' : Ok la.length Z := by rw [ll]; exact okT
      have wlW := wrd_len la lb W okW.wf
      have wlZ := wrd_len la lb Z okT.wf
      have lvW := okW.lv
      have lvZ := okT.lv
      have ct := cut la lb
      refine ⟨_, rfl, _, rfl, q0, la, lb, vz, Z, rfl, ch.up s12, TA.up s12 hZ11, okT', fun H14 s14 => ?_⟩
      have u14 := s12.trans s14
      refine ⟨_, rfl, _, rfl, q0, la, lb, vw, W, rfl, ch.up u14, TA.up u14 hW11, okW', fun H15 s15 => ?_⟩
      have u15 := u14.trans s15
      refine ⟨_, rfl, _, _, _, _, true, rfl, .ty "str", isStr, isT, _, rfl, ?_⟩
      refine ⟨_, rfl, _, rfl, _, rfl, q0, la, lb, vw, W, rfl, ch.up u15, TA.up u15 hW11, okW', okW.dp, fun H16 s16 => ⟨rfl, _, rfl, ?_⟩⟩
      have u16 := u15.trans s16
      refine ifb (ne_self _) ?_
      refine ⟨_, rfl, _, rfl, _, rfl, q0, la, lb, vz, Z, rfl, ch.up u16, TA.up u16 hZ11, okT', okT.dp, fun H17 s17 => ⟨rfl, _, rfl, ?_⟩⟩
      have u17 := u16.trans s17
      refine ifb (ne_self _) ?_
      have l1 : (wd (wrd la lb Z)).length ≤ sizeLine := hS (by rw [len_wd]; omega)
      have l2 : (wd (wrd la lb W)).length ≤ sizeLine := hS (by rw [len_wd]; omega)
      have cl := ct.len
      refine ⟨_, rfl, _, rfl, l1, _, rfl, _, rfl, l2, _, _, rfl, rfl, _, rfl, ?_⟩
      refine ifb (decide_eq_false (by rw [len_wd, len_wd]; omega)) ?_
      refine ⟨_, rfl, _, _, _, rfl, rfl, l1, at0_wd ct.left.ne, _, rfl, _, _, _, rfl, rfl, l2, at0_wd ct.right.ne, rfl, _, rfl, ?_⟩
      refine ifb (c := false) (by rw [ct.head]; exact ne_self _) ?_
      refine ⟨_, rfl, 1, rfl, _, _, _, rfl, rfl, l1, atL_wd ct.left.ne, _, rfl, 1, rfl, _, _, _, rfl, rfl, l2, atL_wd ct.right.ne, rfl, _, rfl, ?_⟩
      refine ifb (c := false) (by rw [ct.last]; exact ne_self _) ?_
      exact ⟨_, _, _, rfl, u17⟩
    rintro σ H12 ⟨y10, y11, y12, rfl, s12⟩
    have hW12 := TA.up s12 hW11
    have hZ12 := TA.up s12 hZ11
    -- the cubes
    refine ⟨_, rfl, n, [none, some false, some true], by rw [kM01]; rfl, n4, by decide, fun LL H13 ls s13 hr0 hLL hls hln => ?_⟩
    have hlen : (ls.map fun l => V.str (tx l)).length = ls.length := List.length_map _
    have hW13 := TA.up s13 hW12
    have hZ13 := TA.up s13 hZ12
    refine ⟨LL, rfl, ⟨_, SqL.of hLL⟩, for_it walk_list (fun i σ H' => ∃ y13 : Option V, σ = [some (.ref a), some (.ref R), some (.int (n : Int)), some vc, some (.ref DD), some vo, some (.ref PP), some (.ref b), some vw, some vz, y10, y11, y12, y13, none, none] ∧ Same H13 H')
      ⟨none, rfl, Same.refl _⟩ (fun i σ H' _ ⟨_, _, s14⟩ => SqL.of (s14 _ _ hLL)) ?_ ?_⟩
    · rintro i x σ H14 H15 hi ⟨y13, rfl, s14⟩ ⟨rfl, hx⟩
      rw [hlen] at hi
      rw [List.getElem?_map, List.getElem?_eq_getElem hi] at hx
      obtain rfl := Option.some.inj hx
      have hlj := (hls ls[i] (List.getElem_mem hi)).1
      generalize ls[i] = c at hlj
      have okW' : Ok c.length W := by rw [hlj]; exact okW
      have okT' : Ok c.length Z := by rw [hlj]; exact okT
      refine ⟨_, rfl, _, rfl, vz, Z, c, rfl, TA.up s14 hZ13, okT', by omega, by omega, fun H16 s16 => ?_⟩
      have u16 := s14.trans s16
      refine ⟨_, rfl, _, rfl, vw, W, c, rfl, TA.up u16 hW13, okW', by omega, by omega, fun H17 s17 => ⟨rfl, _, rfl, ?_⟩⟩
      have u17 := u16.trans s17
      refine ifb (c := false) (by rw [sg c]; exact ne_self _) ?_
      refine ⟨_, rfl, _, rfl, vw, W, c, rfl, TA.up u17 hW13, okW', by omega, by omega, fun H18 s18 => ?_⟩
      have u18 := u17.trans s18
      refine ⟨_, rfl, _, rfl, vw, W, c, rfl, TA.up u18 hW13, okW'.wf, by omega, okW.lv, okW.dp, fun H19 s19 => ⟨rfl, _, rfl, ?_⟩⟩
      refine ifb (ne_self _) ?_
      exact ⟨_, rfl, u18.trans s19⟩
    rintro σ H14 ⟨y13, rfl, s14⟩
    refine ⟨_, rfl, _, rfl, _, rfl, n, vz, vw, Z, W, rfl, n1, n4, TA.up s14 hZ13, TA.up s14 hW13, okT, okW, fun la lb _ _ _ _ => (cut la lb).len, fun H15 s15 => ?_⟩
    exact ⟨rfl, q H15⟩
end
end Sc

set_option maxHeartbeats 4000000
namespace Sc
open PySem PySem.Spec PyProof.Rows L2 TL
section
variable {P : Program} {w : World} {K : PySem.W.Frag} {mg : Str → Option Value} {base : Heap}
structure Defs (K : PySem.W.Frag) (mg : Str → Option Value) : Prop where
  d_signs_fit : Df K mg "signs_fit" s_signs_fit ["thing", "n", "signs"]
  d_is_point : Df K mg "is_point" s_is_point ["thing", "n"]
  d_is_cube : Df K mg "is_cube" s_is_cube ["thing", "n"]
  d_some_size : Df K mg "some_size" s_some_size ["thing"]
  d_is_count : Df K mg "is_count" s_is_count ["thing"]
  d_filled : Df K mg "filled" s_filled ["cube", "signs"]
  d_is_change : Df K mg "is_change" s_is_change ["thing", "n"]
  d_size_of_change : Df K mg "size_of_change" s_size_of_change ["change"]
  d_exchanged : Df K mg "exchanged" s_exchanged ["text"]
  d_word_text : Df K mg "word_text" s_word_text ["first", "zeros", "last"]
  d_or_text : Df K mg "or_text" s_or_text ["v", "w"]
  d_and_text : Df K mg "and_text" s_and_text ["v", "w"]
  d_is_number : Df K mg "is_number" s_is_number ["thing"]
  d_node_fits : Df K mg "node_fits" s_node_fits ["node", "n"]
  d_is_leaf : Df K mg "is_leaf" s_is_leaf ["node"]
  d_parts_of : Df K mg "parts_of" s_parts_of ["node"]
  d_fault_from : Df K mg "fault_from" s_fault_from ["node", "n", "path", "leaves"]
  d_check_tree : Df K mg "check_tree" s_check_tree ["tree", "n"]
  d_size_of : Df K mg "size_of" s_size_of ["node"]
  d_sign_of : Df K mg "sign_of" s_sign_of ["node", "cube"]
  d_settled : Df K mg "settled" s_settled ["cube", "tree"]
  d_leaf_word : Df K mg "leaf_word" s_leaf_word ["change", "node"]
  d_long_word : Df K mg "long_word" s_long_word ["change", "node"]
  d_longest_of : Df K mg "longest_of" s_longest_of ["change", "tree"]
  d_node_at : Df K mg "node_at" s_node_at ["tree", "path"]
  d_replaced : Df K mg "replaced" s_replaced ["tree", "path", "fresh"]
  d_can_be_shared : Df K mg "can_be_shared" s_can_be_shared ["node"]
  d_can_be_spread : Df K mg "can_be_spread" s_can_be_spread ["node"]
  d_shared : Df K mg "shared" s_shared ["tree", "path"]
  d_spread : Df K mg "spread" s_spread ["tree", "path"]
  d_calmer : Df K mg "calmer" s_calmer ["n", "one", "other"]
  d__law_mixed : Df K mg "_law_mixed" s__law_mixed ["_law_seed", "_law_k"]
  d__law_draws : Df K mg "_law_draws" s__law_draws ["_law_script", "_law_many"]
  d__law_strings : Df K mg "_law_strings" s__law_strings ["_law_n", "_law_signs"]
  d__law_point : Df K mg "_law_point" s__law_point ["_law_number", "_law_n"]
  d__law_change : Df K mg "_law_change" s__law_change ["_law_number", "_law_n"]
  d__law_tree : Df K mg "_law_tree" s__law_tree ["_law_draws_here", "_law_deep", "_law_n"]
  d__law_grown : Df K mg "_law_grown" s__law_grown ["_law_draws_here", "_law_deep", "_law_n"]
  d__law_parts : Df K mg "_law_parts" s__law_parts ["_law_tree_here"]
  d__law_leaf_paths : Df K mg "_law_leaf_paths" s__law_leaf_paths ["_law_tree_here", "_law_path"]
  d__law_replaced : Df K mg "_law_replaced" s__law_replaced ["_law_tree_here", "_law_path", "_law_fresh"]
  d__law_settled : Df K mg "_law_settled" s__law_settled ["_law_cube", "_law_tree_here"]
  d__law_exchanged : Df K mg "_law_exchanged" s__law_exchanged ["_law_word"]
  d__law_or_word : Df K mg "_law_or_word" s__law_or_word ["_law_v", "_law_w"]
  d__law_and_word : Df K mg "_law_and_word" s__law_and_word ["_law_v", "_law_w"]
  d__law_leaf_word : Df K mg "_law_leaf_word" s__law_leaf_word ["_law_change_here", "_law_tree_here"]
  d__law_long_word : Df K mg "_law_long_word" s__law_long_word ["_law_change_here", "_law_tree_here"]
  d__law_changes : Df K mg "_law_changes" s__law_changes ["_law_draws_here", "_law_n"]
  d_law : Df K mg "law" s_law ["_law_script"]
theorem chain (A : Defs K mg) (B : Bn mg) : Cal P w K mg base 22 "law" ["_law_script"] (spLaw K) := by
  have h_signs_fit := ok_signs_fit (P := P) (w := w) (base := base) A.d_signs_fit B 
  have h_is_point := ok_is_point (P := P) (w := w) (base := base) A.d_is_point B (h_signs_fit.mono (by omega))
  have h_is_cube := ok_is_cube (P := P) (w := w) (base := base) A.d_is_cube B (h_signs_fit.mono (by omega))
  have h_some_size := ok_some_size (P := P) (w := w) (base := base) A.d_some_size B 
  have h_is_count := ok_is_count (P := P) (w := w) (base := base) A.d_is_count B 
  have h_filled := ok_filled (P := P) (w := w) (base := base) A.d_filled B 
  have h_is_change := ok_is_change (P := P) (w := w) (base := base) A.d_is_change B (h_is_point.mono (by omega))
  have h_size_of_change := ok_size_of_change (P := P) (w := w) (base := base) A.d_size_of_change B (h_some_size.mono (by omega)) (h_is_change.mono (by omega))
  have h_exchanged := ok_exchanged (P := P) (w := w) (base := base) A.d_exchanged B 
  have h_word_text := ok_word_text (P := P) (w := w) (base := base) A.d_word_text B 
  have h_or_text := ok_or_text (P := P) (w := w) (base := base) A.d_or_text B (h_word_text.mono (by omega))
  have h_and_text := ok_and_text (P := P) (w := w) (base := base) A.d_and_text B (h_exchanged.mono (by omega)) (h_or_text.mono (by omega))
  have h_is_number := ok_is_number (P := P) (w := w) (base := base) A.d_is_number B 
  have h_node_fits := ok_node_fits (P := P) (w := w) (base := base) A.d_node_fits B (h_is_number.mono (by omega))
  have h_is_leaf := ok_is_leaf (P := P) (w := w) (base := base) A.d_is_leaf B 
  have h_parts_of := ok_parts_of (P := P) (w := w) (base := base) A.d_parts_of B (h_is_leaf.mono (by omega))
  have h_fault_from := all_fault_from (P := P) (w := w) (base := base) A.d_fault_from B (h_node_fits.mono (by omega)) (h_is_leaf.mono (by omega)) (h_parts_of.mono (by omega)) 8
  have h_check_tree := ok_check_tree (P := P) (w := w) (base := base) A.d_check_tree B (h_fault_from.mono (by omega))
  have h_size_of := all_size_of (P := P) (w := w) (base := base) A.d_size_of B (h_is_leaf.mono (by omega)) (h_parts_of.mono (by omega)) 8
  have h_sign_of := all_sign_of (P := P) (w := w) (base := base) A.d_sign_of B (h_exchanged.mono (by omega)) (h_is_leaf.mono (by omega)) 8
  have h_settled := ok_settled (P := P) (w := w) (base := base) A.d_settled B (h_some_size.mono (by omega)) (h_is_cube.mono (by omega)) (h_check_tree.mono (by omega)) (h_sign_of.mono (by omega))
  have h_leaf_word := ok_leaf_word (P := P) (w := w) (base := base) A.d_leaf_word B (h_sign_of.mono (by omega))
  have h_long_word := all_long_word (P := P) (w := w) (base := base) A.d_long_word B (h_is_leaf.mono (by omega)) (h_leaf_word.mono (by omega)) (h_exchanged.mono (by omega)) (h_and_text.mono (by omega)) (h_or_text.mono (by omega)) 8
  have h_longest_of := ok_longest_of (P := P) (w := w) (base := base) A.d_longest_of B (h_check_tree.mono (by omega)) (h_size_of_change.mono (by omega)) (h_long_word.mono (by omega))
  have h_node_at := ok_node_at (P := P) (w := w) (base := base) A.d_node_at B (h_parts_of.mono (by omega))
  have h_replaced := all_replaced (P := P) (w := w) (base := base) A.d_replaced B  9
  have h_can_be_shared := ok_can_be_shared (P := P) (w := w) (base := base) A.d_can_be_shared B 
  have h_can_be_spread := ok_can_be_spread (P := P) (w := w) (base := base) A.d_can_be_spread B 
  have h_shared := ok_shared (P := P) (w := w) (base := base) A.d_shared B (h_check_tree.mono (by omega)) (h_node_at.mono (by omega)) (h_can_be_shared.mono (by omega)) (h_replaced.mono (by omega))
  have h_spread := ok_spread (P := P) (w := w) (base := base) A.d_spread B (h_check_tree.mono (by omega)) (h_node_at.mono (by omega)) (h_can_be_spread.mono (by omega)) (h_replaced.mono (by omega)) (h_size_of.mono (by omega))
  have h_calmer := ok_calmer (P := P) (w := w) (base := base) A.d_calmer B (h_is_count.mono (by omega)) (h_check_tree.mono (by omega)) (h_filled.mono (by omega)) (h_long_word.mono (by omega))
  have h__law_mixed := ok__law_mixed (P := P) (w := w) (base := base) A.d__law_mixed B 
  have h__law_draws := ok__law_draws (P := P) (w := w) (base := base) A.d__law_draws B (h__law_mixed.mono (by omega))
  have h__law_strings := ok__law_strings (P := P) (w := w) (base := base) A.d__law_strings B 
  have h__law_point := ok__law_point (P := P) (w := w) (base := base) A.d__law_point B 
  have h__law_change := ok__law_change (P := P) (w := w) (base := base) A.d__law_change B (h__law_point.mono (by omega))
  have h__law_tree := all__law_tree (P := P) (w := w) (base := base) A.d__law_tree B  3
  have h__law_grown := ok__law_grown (P := P) (w := w) (base := base) A.d__law_grown B (h__law_tree.mono (by omega))
  have h__law_parts := ok__law_parts (P := P) (w := w) (base := base) A.d__law_parts B 
  have h__law_leaf_paths := all__law_leaf_paths (P := P) (w := w) (base := base) A.d__law_leaf_paths B (h__law_parts.mono (by omega)) 3
  have h__law_replaced := all__law_replaced (P := P) (w := w) (base := base) A.d__law_replaced B (h__law_parts.mono (by omega)) 4
  have h__law_settled := all__law_settled (P := P) (w := w) (base := base) A.d__law_settled B  8
  have h__law_exchanged := ok__law_exchanged (P := P) (w := w) (base := base) A.d__law_exchanged B 
  have h__law_or_word := ok__law_or_word (P := P) (w := w) (base := base) A.d__law_or_word B 
  have h__law_and_word := ok__law_and_word (P := P) (w := w) (base := base) A.d__law_and_word B (h__law_exchanged.mono (by omega)) (h__law_or_word.mono (by omega))
  have h__law_leaf_word := ok__law_leaf_word (P := P) (w := w) (base := base) A.d__law_leaf_word B (h__law_settled.mono (by omega))
  have h__law_long_word := all__law_long_word (P := P) (w := w) (base := base) A.d__law_long_word B (h__law_leaf_word.mono (by omega)) (h__law_exchanged.mono (by omega)) (h__law_and_word.mono (by omega)) (h__law_or_word.mono (by omega)) 8
  have h__law_changes := ok__law_changes (P := P) (w := w) (base := base) A.d__law_changes B (h__law_change.mono (by omega)) (h__law_strings.mono (by omega))
  have h_law := ok_law (P := P) (w := w) (base := base) A.d_law B (h__law_draws.mono (by omega)) (h__law_grown.mono (by omega)) (h__law_leaf_paths.mono (by omega)) (h__law_replaced.mono (by omega)) (h_shared.mono (by omega)) (h_spread.mono (by omega)) (h__law_changes.mono (by omega)) (h_longest_of.mono (by omega)) (h__law_long_word.mono (by omega)) (h__law_strings.mono (by omega)) (h_settled.mono (by omega)) (h__law_settled.mono (by omega)) (h_calmer.mono (by omega))
  exact h_law
theorem b_signs_fit (kV doc pm : Value) (an : Option Addr) (cdv ct : Value) (us : List Value) (hl : us.length = 3) : bindArgs (PySem.W.fnOf "signs_fit" "signs_fit" (defArgs s_signs_fit) (defBody s_signs_fit) (defScope s_signs_fit) .none kV doc pm an cdv ct) ⟨us, []⟩ = pure ((["thing", "n", "signs"] : List Str).zip us) := match us, hl with | [_, _, _], _ => rfl
theorem b_is_point (kV doc pm : Value) (an : Option Addr) (cdv ct : Value) (us : List Value) (hl : us.length = 2) : bindArgs (PySem.W.fnOf "is_point" "is_point" (defArgs s_is_point) (defBody s_is_point) (defScope s_is_point) .none kV doc pm an cdv ct) ⟨us, []⟩ = pure ((["thing", "n"] : List Str).zip us) := match us, hl with | [_, _], _ => rfl
theorem b_is_cube (kV doc pm : Value) (an : Option Addr) (cdv ct : Value) (us : List Value) (hl : us.length = 2) : bindArgs (PySem.W.fnOf "is_cube" "is_cube" (defArgs s_is_cube) (defBody s_is_cube) (defScope s_is_cube) .none kV doc pm an cdv ct) ⟨us, []⟩ = pure ((["thing", "n"] : List Str).zip us) := match us, hl with | [_, _], _ => rfl
theorem b_some_size (kV doc pm : Value) (an : Option Addr) (cdv ct : Value) (us : List Value) (hl : us.length = 1) : bindArgs (PySem.W.fnOf "some_size" "some_size" (defArgs s_some_size) (defBody s_some_size) (defScope s_some_size) .none kV doc pm an cdv ct) ⟨us, []⟩ = pure ((["thing"] : List Str).zip us) := match us, hl with | [_], _ => rfl
theorem b_is_count (kV doc pm : Value) (an : Option Addr) (cdv ct : Value) (us : List Value) (hl : us.length = 1) : bindArgs (PySem.W.fnOf "is_count" "is_count" (defArgs s_is_count) (defBody s_is_count) (defScope s_is_count) .none kV doc pm an cdv ct) ⟨us, []⟩ = pure ((["thing"] : List Str).zip us) := match us, hl with | [_], _ => rfl
theorem b_filled (kV doc pm : Value) (an : Option Addr) (cdv ct : Value) (us : List Value) (hl : us.length = 2) : bindArgs (PySem.W.fnOf "filled" "filled" (defArgs s_filled) (defBody s_filled) (defScope s_filled) .none kV doc pm an cdv ct) ⟨us, []⟩ = pure ((["cube", "signs"] : List Str).zip us) := match us, hl with | [_, _], _ => rfl
theorem b_is_change (kV doc pm : Value) (an : Option Addr) (cdv ct : Value) (us : List Value) (hl : us.length = 2) : bindArgs (PySem.W.fnOf "is_change" "is_change" (defArgs s_is_change) (defBody s_is_change) (defScope s_is_change) .none kV doc pm an cdv ct) ⟨us, []⟩ = pure ((["thing", "n"] : List Str).zip us) := match us, hl with | [_, _], _ => rfl
theorem b_size_of_change (kV doc pm : Value) (an : Option Addr) (cdv ct : Value) (us : List Value) (hl : us.length = 1) : bindArgs (PySem.W.fnOf "size_of_change" "size_of_change" (defArgs s_size_of_change) (defBody s_size_of_change) (defScope s_size_of_change) .none kV doc pm an cdv ct) ⟨us, []⟩ = pure ((["change"] : List Str).zip us) := match us, hl with | [_], _ => rfl
theorem b_exchanged (kV doc pm : Value) (an : Option Addr) (cdv ct : Value) (us : List Value) (hl : us.length = 1) : bindArgs (PySem.W.fnOf "exchanged" "exchanged" (defArgs s_exchanged) (defBody s_exchanged) (defScope s_exchanged) .none kV doc pm an cdv ct) ⟨us, []⟩ = pure ((["text"] : List Str).zip us) := match us, hl with | [_], _ => rfl
theorem b_word_text (kV doc pm : Value) (an : Option Addr) (cdv ct : Value) (us : List Value) (hl : us.length = 3) : bindArgs (PySem.W.fnOf "word_text" "word_text" (defArgs s_word_text) (defBody s_word_text) (defScope s_word_text) .none kV doc pm an cdv ct) ⟨us, []⟩ = pure ((["first", "zeros", "last"] : List Str).zip us) := match us, hl with | [_, _, _], _ => rfl
theorem b_or_text (kV doc pm : Value) (an : Option Addr) (cdv ct : Value) (us : List Value) (hl : us.length = 2) : bindArgs (PySem.W.fnOf "or_text" "or_text" (defArgs s_or_text) (defBody s_or_text) (defScope s_or_text) .none kV doc pm an cdv ct) ⟨us, []⟩ = pure ((["v", "w"] : List Str).zip us) := match us, hl with | [_, _], _ => rfl
theorem b_and_text (kV doc pm : Value) (an : Option Addr) (cdv ct : Value) (us : List Value) (hl : us.length = 2) : bindArgs (PySem.W.fnOf "and_text" "and_text" (defArgs s_and_text) (defBody s_and_text) (defScope s_and_text) .none kV doc pm an cdv ct) ⟨us, []⟩ = pure ((["v", "w"] : List Str).zip us) := match us, hl with | [_, _], _ => rfl
theorem b_is_number (kV doc pm : Value) (an : Option Addr) (cdv ct : Value) (us : List Value) (hl : us.length = 1) : bindArgs (PySem.W.fnOf "is_number" "is_number" (defArgs s_is_number) (defBody s_is_number) (defScope s_is_number) .none kV doc pm an cdv ct) ⟨us, []⟩ = pure ((["thing"] : List Str).zip us) := match us, hl with | [_], _ => rfl
theorem b_node_fits (kV doc pm : Value) (an : Option Addr) (cdv ct : Value) (us : List Value) (hl : us.length = 2) : bindArgs (PySem.W.fnOf "node_fits" "node_fits" (defArgs s_node_fits) (defBody s_node_fits) (defScope s_node_fits) .none kV doc pm an cdv ct) ⟨us, []⟩ = pure ((["node", "n"] : List Str).zip us) := match us, hl with | [_, _], _ => rfl
theorem b_is_leaf (kV doc pm : Value) (an : Option Addr) (cdv ct : Value) (us : List Value) (hl : us.length = 1) : bindArgs (PySem.W.fnOf "is_leaf" "is_leaf" (defArgs s_is_leaf) (defBody s_is_leaf) (defScope s_is_leaf) .none kV doc pm an cdv ct) ⟨us, []⟩ = pure ((["node"] : List Str).zip us) := match us, hl with | [_], _ => rfl
theorem b_parts_of (kV doc pm : Value) (an : Option Addr) (cdv ct : Value) (us : List Value) (hl : us.length = 1) : bindArgs (PySem.W.fnOf "parts_of" "parts_of" (defArgs s_parts_of) (defBody s_parts_of) (defScope s_parts_of) .none kV doc pm an cdv ct) ⟨us, []⟩ = pure ((["node"] : List Str).zip us) := match us, hl with | [_], _ => rfl
theorem b_fault_from (kV doc pm : Value) (an : Option Addr) (cdv ct : Value) (us : List Value) (hl : us.length = 4) : bindArgs (PySem.W.fnOf "fault_from" "fault_from" (defArgs s_fault_from) (defBody s_fault_from) (defScope s_fault_from) .none kV doc pm an cdv ct) ⟨us, []⟩ = pure ((["node", "n", "path", "leaves"] : List Str).zip us) := match us, hl with | [_, _, _, _], _ => rfl
theorem b_check_tree (kV doc pm : Value) (an : Option Addr) (cdv ct : Value) (us : List Value) (hl : us.length = 2) : bindArgs (PySem.W.fnOf "check_tree" "check_tree" (defArgs s_check_tree) (defBody s_check_tree) (defScope s_check_tree) .none kV doc pm an cdv ct) ⟨us, []⟩ = pure ((["tree", "n"] : List Str).zip us) := match us, hl with | [_, _], _ => rfl
theorem b_size_of (kV doc pm : Value) (an : Option Addr) (cdv ct : Value) (us : List Value) (hl : us.length = 1) : bindArgs (PySem.W.fnOf "size_of" "size_of" (defArgs s_size_of) (defBody s_size_of) (defScope s_size_of) .none kV doc pm an cdv ct) ⟨us, []⟩ = pure ((["node"] : List Str).zip us) := match us, hl with | [_], _ => rfl
theorem b_sign_of (kV doc pm : Value) (an : Option Addr) (cdv ct : Value) (us : List Value) (hl : us.length = 2) : bindArgs (PySem.W.fnOf "sign_of" "sign_of" (defArgs s_sign_of) (defBody s_sign_of) (defScope s_sign_of) .none kV doc pm an cdv ct) ⟨us, []⟩ = pure ((["node", "cube"] : List Str).zip us) := match us, hl with | [_, _], _ => rfl
theorem b_settled (kV doc pm : Value) (an : Option Addr) (cdv ct : Value) (us : List Value) (hl : us.length = 2) : bindArgs (PySem.W.fnOf "settled" "settled" (defArgs s_settled) (defBody s_settled) (defScope s_settled) .none kV doc pm an cdv ct) ⟨us, []⟩ = pure ((["cube", "tree"] : List Str).zip us) := match us, hl with | [_, _], _ => rfl
theorem b_leaf_word (kV doc pm : Value) (an : Option Addr) (cdv ct : Value) (us : List Value) (hl : us.length = 2) : bindArgs (PySem.W.fnOf "leaf_word" "leaf_word" (defArgs s_leaf_word) (defBody s_leaf_word) (defScope s_leaf_word) .none kV doc pm an cdv ct) ⟨us, []⟩ = pure ((["change", "node"] : List Str).zip us) := match us, hl with | [_, _], _ => rfl
theorem b_long_word (kV doc pm : Value) (an : Option Addr) (cdv ct : Value) (us : List Value) (hl : us.length = 2) : bindArgs (PySem.W.fnOf "long_word" "long_word" (defArgs s_long_word) (defBody s_long_word) (defScope s_long_word) .none kV doc pm an cdv ct) ⟨us, []⟩ = pure ((["change", "node"] : List Str).zip us) := match us, hl with | [_, _], _ => rfl
theorem b_longest_of (kV doc pm : Value) (an : Option Addr) (cdv ct : Value) (us : List Value) (hl : us.length = 2) : bindArgs (PySem.W.fnOf "longest_of" "longest_of" (defArgs s_longest_of) (defBody s_longest_of) (defScope s_longest_of) .none kV doc pm an cdv ct) ⟨us, []⟩ = pure ((["change", "tree"] : List Str).zip us) := match us, hl with | [_, _], _ => rfl
theorem b_node_at (kV doc pm : Value) (an : Option Addr) (cdv ct : Value) (us : List Value) (hl : us.length = 2) : bindArgs (PySem.W.fnOf "node_at" "node_at" (defArgs s_node_at) (defBody s_node_at) (defScope s_node_at) .none kV doc pm an cdv ct) ⟨us, []⟩ = pure ((["tree", "path"] : List Str).zip us) := match us, hl with | [_, _], _ => rfl
theorem b_replaced (kV doc pm : Value) (an : Option Addr) (cdv ct : Value) (us : List Value) (hl : us.length = 3) : bindArgs (PySem.W.fnOf "replaced" "replaced" (defArgs s_replaced) (defBody s_replaced) (defScope s_replaced) .none kV doc pm an cdv ct) ⟨us, []⟩ = pure ((["tree", "path", "fresh"] : List Str).zip us) := match us, hl with | [_, _, _], _ => rfl
theorem b_can_be_shared (kV doc pm : Value) (an : Option Addr) (cdv ct : Value) (us : List Value) (hl : us.length = 1) : bindArgs (PySem.W.fnOf "can_be_shared" "can_be_shared" (defArgs s_can_be_shared) (defBody s_can_be_shared) (defScope s_can_be_shared) .none kV doc pm an cdv ct) ⟨us, []⟩ = pure ((["node"] : List Str).zip us) := match us, hl with | [_], _ => rfl
theorem b_can_be_spread (kV doc pm : Value) (an : Option Addr) (cdv ct : Value) (us : List Value) (hl : us.length = 1) : bindArgs (PySem.W.fnOf "can_be_spread" "can_be_spread" (defArgs s_can_be_spread) (defBody s_can_be_spread) (defScope s_can_be_spread) .none kV doc pm an cdv ct) ⟨us, []⟩ = pure ((["node"] : List Str).zip us) := match us, hl with | [_], _ => rfl
theorem b_shared (kV doc pm : Value) (an : Option Addr) (cdv ct : Value) (us : List Value) (hl : us.length = 2) : bindArgs (PySem.W.fnOf "shared" "shared" (defArgs s_shared) (defBody s_shared) (defScope s_shared) .none kV doc pm an cdv ct) ⟨us, []⟩ = pure ((["tree", "path"] : List Str).zip us) := match us, hl with | [_, _], _ => rfl
theorem b_spread (kV doc pm : Value) (an : Option Addr) (cdv ct : Value) (us : List Value) (hl : us.length = 2) : bindArgs (PySem.W.fnOf "spread" "spread" (defArgs s_spread) (defBody s_spread) (defScope s_spread) .none kV doc pm an cdv ct) ⟨us, []⟩ = pure ((["tree", "path"] : List Str).zip us) := match us, hl with | [_, _], _ => rfl
theorem b_calmer (kV doc pm : Value) (an : Option Addr) (cdv ct : Value) (us : List Value) (hl : us.length = 3) : bindArgs (PySem.W.fnOf "calmer" "calmer" (defArgs s_calmer) (defBody s_calmer) (defScope s_calmer) .none kV doc pm an cdv ct) ⟨us, []⟩ = pure ((["n", "one", "other"] : List Str).zip us) := match us, hl with | [_, _, _], _ => rfl
theorem b__law_mixed (kV doc pm : Value) (an : Option Addr) (cdv ct : Value) (us : List Value) (hl : us.length = 2) : bindArgs (PySem.W.fnOf "_law_mixed" "_law_mixed" (defArgs s__law_mixed) (defBody s__law_mixed) (defScope s__law_mixed) .none kV doc pm an cdv ct) ⟨us, []⟩ = pure ((["_law_seed", "_law_k"] : List Str).zip us) := match us, hl with | [_, _], _ => rfl
theorem b__law_draws (kV doc pm : Value) (an : Option Addr) (cdv ct : Value) (us : List Value) (hl : us.length = 2) : bindArgs (PySem.W.fnOf "_law_draws" "_law_draws" (defArgs s__law_draws) (defBody s__law_draws) (defScope s__law_draws) .none kV doc pm an cdv ct) ⟨us, []⟩ = pure ((["_law_script", "_law_many"] : List Str).zip us) := match us, hl with | [_, _], _ => rfl
theorem b__law_strings (kV doc pm : Value) (an : Option Addr) (cdv ct : Value) (us : List Value) (hl : us.length = 2) : bindArgs (PySem.W.fnOf "_law_strings" "_law_strings" (defArgs s__law_strings) (defBody s__law_strings) (defScope s__law_strings) .none kV doc pm an cdv ct) ⟨us, []⟩ = pure ((["_law_n", "_law_signs"] : List Str).zip us) := match us, hl with | [_, _], _ => rfl
theorem b__law_point (kV doc pm : Value) (an : Option Addr) (cdv ct : Value) (us : List Value) (hl : us.length = 2) : bindArgs (PySem.W.fnOf "_law_point" "_law_point" (defArgs s__law_point) (defBody s__law_point) (defScope s__law_point) .none kV doc pm an cdv ct) ⟨us, []⟩ = pure ((["_law_number", "_law_n"] : List Str).zip us) := match us, hl with | [_, _], _ => rfl
theorem b__law_change (kV doc pm : Value) (an : Option Addr) (cdv ct : Value) (us : List Value) (hl : us.length = 2) : bindArgs (PySem.W.fnOf "_law_change" "_law_change" (defArgs s__law_change) (defBody s__law_change) (defScope s__law_change) .none kV doc pm an cdv ct) ⟨us, []⟩ = pure ((["_law_number", "_law_n"] : List Str).zip us) := match us, hl with | [_, _], _ => rfl
theorem b__law_tree (kV doc pm : Value) (an : Option Addr) (cdv ct : Value) (us : List Value) (hl : us.length = 3) : bindArgs (PySem.W.fnOf "_law_tree" "_law_tree" (defArgs s__law_tree) (defBody s__law_tree) (defScope s__law_tree) .none kV doc pm an cdv ct) ⟨us, []⟩ = pure ((["_law_draws_here", "_law_deep", "_law_n"] : List Str).zip us) := match us, hl with | [_, _, _], _ => rfl
theorem b__law_grown (kV doc pm : Value) (an : Option Addr) (cdv ct : Value) (us : List Value) (hl : us.length = 3) : bindArgs (PySem.W.fnOf "_law_grown" "_law_grown" (defArgs s__law_grown) (defBody s__law_grown) (defScope s__law_grown) .none kV doc pm an cdv ct) ⟨us, []⟩ = pure ((["_law_draws_here", "_law_deep", "_law_n"] : List Str).zip us) := match us, hl with | [_, _, _], _ => rfl
theorem b__law_parts (kV doc pm : Value) (an : Option Addr) (cdv ct : Value) (us : List Value) (hl : us.length = 1) : bindArgs (PySem.W.fnOf "_law_parts" "_law_parts" (defArgs s__law_parts) (defBody s__law_parts) (defScope s__law_parts) .none kV doc pm an cdv ct) ⟨us, []⟩ = pure ((["_law_tree_here"] : List Str).zip us) := match us, hl with | [_], _ => rfl
theorem b__law_leaf_paths (kV doc pm : Value) (an : Option Addr) (cdv ct : Value) (us : List Value) (hl : us.length = 2) : bindArgs (PySem.W.fnOf "_law_leaf_paths" "_law_leaf_paths" (defArgs s__law_leaf_paths) (defBody s__law_leaf_paths) (defScope s__law_leaf_paths) .none kV doc pm an cdv ct) ⟨us, []⟩ = pure ((["_law_tree_here", "_law_path"] : List Str).zip us) := match us, hl with | [_, _], _ => rfl
theorem b__law_replaced (kV doc pm : Value) (an : Option Addr) (cdv ct : Value) (us : List Value) (hl : us.length = 3) : bindArgs (PySem.W.fnOf "_law_replaced" "_law_replaced" (defArgs s__law_replaced) (defBody s__law_replaced) (defScope s__law_replaced) .none kV doc pm an cdv ct) ⟨us, []⟩ = pure ((["_law_tree_here", "_law_path", "_law_fresh"] : List Str).zip us) := match us, hl with | [_, _, _], _ => rfl
theorem b__law_settled (kV doc pm : Value) (an : Option Addr) (cdv ct : Value) (us : List Value) (hl : us.length = 2) : bindArgs (PySem.W.fnOf "_law_settled" "_law_settled" (defArgs s__law_settled) (defBody s__law_settled) (defScope s__law_settled) .none kV doc pm an cdv ct) ⟨us, []⟩ = pure ((["_law_cube", "_law_tree_here"] : List Str).zip us) := match us, hl with | [_, _], _ => rfl
theorem b__law_exchanged (kV doc pm : Value) (an : Option Addr) (cdv ct : Value) (us : List Value) (hl : us.length = 1) : bindArgs (PySem.W.fnOf "_law_exchanged" "_law_exchanged" (defArgs s__law_exchanged) (defBody s__law_exchanged) (defScope s__law_exchanged) .none kV doc pm an cdv ct) ⟨us, []⟩ = pure ((["_law_word"] : List Str).zip us) := match us, hl with | [_], _ => rfl
theorem b__law_or_word (kV doc pm : Value) (an : Option Addr) (cdv ct : Value) (us : List Value) (hl : us.length = 2) : bindArgs (PySem.W.fnOf "_law_or_word" "_law_or_word" (defArgs s__law_or_word) (defBody s__law_or_word) (defScope s__law_or_word) .none kV doc pm an cdv ct) ⟨us, []⟩ = pure ((["_law_v", "_law_w"] : List Str).zip us) := match us, hl with | [_, _], _ => rfl
theorem b__law_and_word (kV doc pm : Value) (an : Option Addr) (cdv ct : Value) (us : List Value) (hl : us.length = 2) : bindArgs (PySem.W.fnOf "_law_and_word" "_law_and_word" (defArgs s__law_and_word) (defBody s__law_and_word) (defScope s__law_and_word) .none kV doc pm an cdv ct) ⟨us, []⟩ = pure ((["_law_v", "_law_w"] : List Str).zip us) := match us, hl with | [_, _], _ => rfl
theorem b__law_leaf_word (kV doc pm : Value) (an : Option Addr) (cdv ct : Value) (us : List Value) (hl : us.length = 2) : bindArgs (PySem.W.fnOf "_law_leaf_word" "_law_leaf_word" (defArgs s__law_leaf_word) (defBody s__law_leaf_word) (defScope s__law_leaf_word) .none kV doc pm an cdv ct) ⟨us, []⟩ = pure ((["_law_change_here", "_law_tree_here"] : List Str).zip us) := match us, hl with | [_, _], _ => rfl
theorem b__law_long_word (kV doc pm : Value) (an : Option Addr) (cdv ct : Value) (us : List Value) (hl : us.length = 2) : bindArgs (PySem.W.fnOf "_law_long_word" "_law_long_word" (defArgs s__law_long_word) (defBody s__law_long_word) (defScope s__law_long_word) .none kV doc pm an cdv ct) ⟨us, []⟩ = pure ((["_law_change_here", "_law_tree_here"] : List Str).zip us) := match us, hl with | [_, _], _ => rfl
theorem b__law_changes (kV doc pm : Value) (an : Option Addr) (cdv ct : Value) (us : List Value) (hl : us.length = 2) : bindArgs (PySem.W.fnOf "_law_changes" "_law_changes" (defArgs s__law_changes) (defBody s__law_changes) (defScope s__law_changes) .none kV doc pm an cdv ct) ⟨us, []⟩ = pure ((["_law_draws_here", "_law_n"] : List Str).zip us) := match us, hl with | [_, _], _ => rfl
theorem b_law (kV doc pm : Value) (an : Option Addr) (cdv ct : Value) (us : List Value) (hl : us.length = 1) : bindArgs (PySem.W.fnOf "law" "law" (defArgs s_law) (defBody s_law) (defScope s_law) .none kV doc pm an cdv ct) ⟨us, []⟩ = pure ((["_law_script"] : List Str).zip us) := match us, hl with | [_], _ => rfl
theorem df_mk {h : Heap} (X : K.In h) (G : h.Ns mainGlobals mg) {x : Str} {st : Stmt} {ps : List Str} {f : Addr} {oc : Value} {od an : Option Addr} {osl : Array (Option Value)} {kV doc pm cdv ct : Value}
    (a : PySem.W.nsIn K mainGlobals x = some (some (.ref f))) (l : K.lookup f = some ⟨oc, od, .func (PySem.W.fnOf x x (defArgs st) (defBody st) (defScope st) .none kV doc pm an cdv ct), osl⟩) (c : PySem.W.codeIn K cdv x = true) (k : PySem.W.keepIn K (.ref f) = true)
    (hb : ∀ (kV doc pm : Value) (an : Option Addr) (cdv ct : Value) (us : List Value), us.length = ps.length → bindArgs (PySem.W.fnOf x x (defArgs st) (defBody st) (defScope st) .none kV doc pm an cdv ct) ⟨us, []⟩ = pure (ps.zip us)) : Df K mg x st ps :=
  ⟨f, _, fun_mk l c k, PySem.W.mg_of X G a, (fun_mk l c k).binds hb⟩
theorem int_mk {h : Heap} (X : K.In h) (G : h.Ns mainGlobals mg) {x : Str} {v : Int} {t : Tok} (a : PySem.W.nsIn K mainGlobals x = some (some (.int v t))) : ∃ t, mg x = some (.int v t) := ⟨t, PySem.W.mg_of X G a⟩
theorem at_end {mg : Str → Option Value} {fa : Addr} (hfa : mg "law" = some (.ref fa)) (A : Defs K mg) (B : Bn mg) :
    ∃ fd : FuncData, (∀ (s : Shared) (v : Value), BindsTo s fd ⟨[v], []⟩ [("_law_script", v)]) ∧ ∀ base : Heap, K.In base → base.Ns mainGlobals mg → FnOk P w K mg base CX0 22 fa fd ["_law_script"] (spLaw K) := by
  obtain ⟨f, fd, F, m, b⟩ := A.d_law.ex
  have e := hfa.symm.trans m
  cases e
  obtain ⟨oc, od, kV, doc, pm, an, cdv, ct, osl, e, lk, hcd⟩ := F.ex
  refine ⟨fd, fun s u => .of_eq (by rw [e]; exact b_law kV doc pm an cdv ct [u] rfl), fun base _ _ => ?_⟩
  obtain ⟨f2, fd2, G2, m2, _, _, st2, F2⟩ := (chain (P := P) (w := w) (base := base) A B).ex
  have e2 := m.symm.trans m2
  cases e2
  obtain ⟨oc2, od2, kV2, doc2, pm2, an2, cdv2, ct2, osl2, _, lk2, _⟩ := F2.ex
  have e3 := lk.symm.trans lk2
  have e4 : fd = fd2 := by injection e3 with e3; injection e3 with _ _ e3 _; injection e3
  rw [e4]
  exact G2
theorem walk {l : PySem.W.OpenLaw} {q : Program} {loose : List Str} {XP : (Str → Option Value) → Heap → Prop} {YP : World → Heap → Prop} {d : DefRec} {K : Params → PySem.W.Frag} (hn : l.most = some 63) (hdf : d.params.defaults = [])
    (hY : ∀ (w : World) (h : Heap), YP w h → (K w.params).In h)
    (F : ∀ (w : World) (mg : Str → Option Value) (fa : Addr) (h : Heap), (K w.params).In h → h.Ns mainGlobals mg → mg d.name = some (.ref fa) →
      ∃ fd : FuncData, (∀ (s : Shared) (u : Value), BindsTo s fd ⟨[u], []⟩ [("_law_script", u)]) ∧ ∀ base : Heap, (K w.params).In base → base.Ns mainGlobals mg → FnOk l.prog w (K w.params) mg base CX0 22 fa fd ["_law_script"] (spLaw (K w.params))) :
    PySem.W.WalkO q loose XP YP l.row.toRowW d [] (fun f vs => PySem.call f vs) :=
  L2.walk_of (n := 63) (k := 22) (x := "_law_script") (CX := fun _ => CX0) (sp := fun w => spLaw (K w.params)) hn (by decide) hdf ⟨rfl, by decide, by decide⟩ hY F (fun _ _ a ns hl _ hS => ⟨a, ns, rfl, hS, hl, fun _ => rfl⟩) fun _ _ _ _ _ z => z
end
end Sc

section
open PySem PySem.W PyProof.Rows
set_option maxHeartbeats 0
open_top head_k58 for PySem.Challenge.rw_steadycover_k58_whole_sharing_never_flic
theorem PySem.Challenge.cw_steadycover_k58_whole_sharing_never_flic_holds : PySem.Challenge.rw_steadycover_k58_whole_sharing_never_flic.Holds := by
  refine head_k58 ?_
  k_fill
  refine Sc.walk (l := PySem.Challenge.rw_steadycover_k58_whole_sharing_never_flic) rfl rfl (fun w h Y => PySem.W.kIn_of Y) ?F
  case F =>
    intro w mg fa h KX G hmg
    refine Sc.at_end hmg ?A ?B
    case B =>
      refine ⟨?len_, ?isinstance_, ?str_, ?int_, ?bool_, ?tuple_, ?list_, ?range_, ?enumerate_, ?max_, ?sum_, ?mi, ?ml, ?md⟩
      (case len_ => (refine PySem.W.mg_none_of KX G ?z_len_; k_is))
      (case isinstance_ => (refine PySem.W.mg_none_of KX G ?z_isinstance_; k_is))
      (case str_ => (refine PySem.W.mg_none_of KX G ?z_str_; k_is))
      (case int_ => (refine PySem.W.mg_none_of KX G ?z_int_; k_is))
      (case bool_ => (refine PySem.W.mg_none_of KX G ?z_bool_; k_is))
      (case tuple_ => (refine PySem.W.mg_none_of KX G ?z_tuple_; k_is))
      (case list_ => (refine PySem.W.mg_none_of KX G ?z_list_; k_is))
      (case range_ => (refine PySem.W.mg_none_of KX G ?z_range_; k_is))
      (case enumerate_ => (refine PySem.W.mg_none_of KX G ?z_enumerate_; k_is))
      (case max_ => (refine PySem.W.mg_none_of KX G ?z_max_; k_is))
      (case sum_ => (refine PySem.W.mg_none_of KX G ?z_sum_; k_is))
      (case mi => (refine' Sc.int_mk KX G ?z_mi; (case z_mi => k_is)))
      (case ml => (refine' Sc.int_mk KX G ?z_ml; (case z_ml => k_is)))
      (case md => (refine' Sc.int_mk KX G ?z_md; (case z_md => k_is)))
    case A =>
      refine ⟨?d_signs_fit, ?d_is_point, ?d_is_cube, ?d_some_size, ?d_is_count, ?d_filled, ?d_is_change, ?d_size_of_change, ?d_exchanged, ?d_word_text, ?d_or_text, ?d_and_text, ?d_is_number, ?d_node_fits, ?d_is_leaf, ?d_parts_of, ?d_fault_from, ?d_check_tree, ?d_size_of, ?d_sign_of, ?d_settled, ?d_leaf_word, ?d_long_word, ?d_longest_of, ?d_node_at, ?d_replaced, ?d_can_be_shared, ?d_can_be_spread, ?d_shared, ?d_spread, ?d_calmer, ?d__law_mixed, ?d__law_draws, ?d__law_strings, ?d__law_point, ?d__law_change, ?d__law_tree, ?d__law_grown, ?d__law_parts, ?d__law_leaf_paths, ?d__law_replaced, ?d__law_settled, ?d__law_exchanged, ?d__law_or_word, ?d__law_and_word, ?d__law_leaf_word, ?d__law_long_word, ?d__law_changes, ?d_law⟩
      (case d_signs_fit => (refine' Sc.df_mk KX G ?a0 ?l0 ?c0 ?k0 Sc.b_signs_fit; (case a0 => k_is); (case l0 => k_is); (case c0 => k_is); (case k0 => k_is)))
      (case d_is_point => (refine' Sc.df_mk KX G ?a1 ?l1 ?c1 ?k1 Sc.b_is_point; (case a1 => k_is); (case l1 => k_is); (case c1 => k_is); (case k1 => k_is)))
      (case d_is_cube => (refine' Sc.df_mk KX G ?a2 ?l2 ?c2 ?k2 Sc.b_is_cube; (case a2 => k_is); (case l2 => k_is); (case c2 => k_is); (case k2 => k_is)))
      (case d_some_size => (refine' Sc.df_mk KX G ?a3 ?l3 ?c3 ?k3 Sc.b_some_size; (case a3 => k_is); (case l3 => k_is); (case c3 => k_is); (case k3 => k_is)))
      (case d_is_count => (refine' Sc.df_mk KX G ?a4 ?l4 ?c4 ?k4 Sc.b_is_count; (case a4 => k_is); (case l4 => k_is); (case c4 => k_is); (case k4 => k_is)))
      (case d_filled => (refine' Sc.df_mk KX G ?a5 ?l5 ?c5 ?k5 Sc.b_filled; (case a5 => k_is); (case l5 => k_is); (case c5 => k_is); (case k5 => k_is)))
      (case d_is_change => (refine' Sc.df_mk KX G ?a6 ?l6 ?c6 ?k6 Sc.b_is_change; (case a6 => k_is); (case l6 => k_is); (case c6 => k_is); (case k6 => k_is)))
      (case d_size_of_change => (refine' Sc.df_mk KX G ?a7 ?l7 ?c7 ?k7 Sc.b_size_of_change; (case a7 => k_is); (case l7 => k_is); (case c7 => k_is); (case k7 => k_is)))
      (case d_exchanged => (refine' Sc.df_mk KX G ?a8 ?l8 ?c8 ?k8 Sc.b_exchanged; (case a8 => k_is); (case l8 => k_is); (case c8 => k_is); (case k8 => k_is)))
      (case d_word_text => (refine' Sc.df_mk KX G ?a9 ?l9 ?c9 ?k9 Sc.b_word_text; (case a9 => k_is); (case l9 => k_is); (case c9 => k_is); (case k9 => k_is)))
      (case d_or_text => (refine' Sc.df_mk KX G ?a10 ?l10 ?c10 ?k10 Sc.b_or_text; (case a10 => k_is); (case l10 => k_is); (case c10 => k_is); (case k10 => k_is)))
      (case d_and_text => (refine' Sc.df_mk KX G ?a11 ?l11 ?c11 ?k11 Sc.b_and_text; (case a11 => k_is); (case l11 => k_is); (case c11 => k_is); (case k11 => k_is)))
      (case d_is_number => (refine' Sc.df_mk KX G ?a12 ?l12 ?c12 ?k12 Sc.b_is_number; (case a12 => k_is); (case l12 => k_is); (case c12 => k_is); (case k12 => k_is)))
      (case d_node_fits => (refine' Sc.df_mk KX G ?a13 ?l13 ?c13 ?k13 Sc.b_node_fits; (case a13 => k_is); (case l13 => k_is); (case c13 => k_is); (case k13 => k_is)))
      (case d_is_leaf => (refine' Sc.df_mk KX G ?a14 ?l14 ?c14 ?k14 Sc.b_is_leaf; (case a14 => k_is); (case l14 => k_is); (case c14 => k_is); (case k14 => k_is)))
      (case d_parts_of => (refine' Sc.df_mk KX G ?a15 ?l15 ?c15 ?k15 Sc.b_parts_of; (case a15 => k_is); (case l15 => k_is); (case c15 => k_is); (case k15 => k_is)))
      (case d_fault_from => (refine' Sc.df_mk KX G ?a16 ?l16 ?c16 ?k16 Sc.b_fault_from; (case a16 => k_is); (case l16 => k_is); (case c16 => k_is); (case k16 => k_is)))
      (case d_check_tree => (refine' Sc.df_mk KX G ?a17 ?l17 ?c17 ?k17 Sc.b_check_tree; (case a17 => k_is); (case l17 => k_is); (case c17 => k_is); (case k17 => k_is)))
      (case d_size_of => (refine' Sc.df_mk KX G ?a18 ?l18 ?c18 ?k18 Sc.b_size_of; (case a18 => k_is); (case l18 => k_is); (case c18 => k_is); (case k18 => k_is)))
      (case d_sign_of => (refine' Sc.df_mk KX G ?a19 ?l19 ?c19 ?k19 Sc.b_sign_of; (case a19 => k_is); (case l19 => k_is); (case c19 => k_is); (case k19 => k_is)))
      (case d_settled => (refine' Sc.df_mk KX G ?a20 ?l20 ?c20 ?k20 Sc.b_settled; (case a20 => k_is); (case l20 => k_is); (case c20 => k_is); (case k20 => k_is)))
      (case d_leaf_word => (refine' Sc.df_mk KX G ?a21 ?l21 ?c21 ?k21 Sc.b_leaf_word; (case a21 => k_is); (case l21 => k_is); (case c21 => k_is); (case k21 => k_is)))
      (case d_long_word => (refine' Sc.df_mk KX G ?a22 ?l22 ?c22 ?k22 Sc.b_long_word; (case a22 => k_is); (case l22 => k_is); (case c22 => k_is); (case k22 => k_is)))
      (case d_longest_of => (refine' Sc.df_mk KX G ?a23 ?l23 ?c23 ?k23 Sc.b_longest_of; (case a23 => k_is); (case l23 => k_is); (case c23 => k_is); (case k23 => k_is)))
      (case d_node_at => (refine' Sc.df_mk KX G ?a24 ?l24 ?c24 ?k24 Sc.b_node_at; (case a24 => k_is); (case l24 => k_is); (case c24 => k_is); (case k24 => k_is)))
      (case d_replaced => (refine' Sc.df_mk KX G ?a25 ?l25 ?c25 ?k25 Sc.b_replaced; (case a25 => k_is); (case l25 => k_is); (case c25 => k_is); (case k25 => k_is)))
      (case d_can_be_shared => (refine' Sc.df_mk KX G ?a26 ?l26 ?c26 ?k26 Sc.b_can_be_shared; (case a26 => k_is); (case l26 => k_is); (case c26 => k_is); (case k26 => k_is)))
      (case d_can_be_spread => (refine' Sc.df_mk KX G ?a27 ?l27 ?c27 ?k27 Sc.b_can_be_spread; (case a27 => k_is); (case l27 => k_is); (case c27 => k_is); (case k27 => k_is)))
      (case d_shared => (refine' Sc.df_mk KX G ?a28 ?l28 ?c28 ?k28 Sc.b_shared; (case a28 => k_is); (case l28 => k_is); (case c28 => k_is); (case k28 => k_is)))
      (case d_spread => (refine' Sc.df_mk KX G ?a29 ?l29 ?c29 ?k29 Sc.b_spread; (case a29 => k_is); (case l29 => k_is); (case c29 => k_is); (case k29 => k_is)))
      (case d_calmer => (refine' Sc.df_mk KX G ?a30 ?l30 ?c30 ?k30 Sc.b_calmer; (case a30 => k_is); (case l30 => k_is); (case c30 => k_is); (case k30 => k_is)))
      (case d__law_mixed => (refine' Sc.df_mk KX G ?a31 ?l31 ?c31 ?k31 Sc.b__law_mixed; (case a31 => k_is); (case l31 => k_is); (case c31 => k_is); (case k31 => k_is)))
      (case d__law_draws => (refine' Sc.df_mk KX G ?a32 ?l32 ?c32 ?k32 Sc.b__law_draws; (case a32 => k_is); (case l32 => k_is); (case c32 => k_is); (case k32 => k_is)))
      (case d__law_strings => (refine' Sc.df_mk KX G ?a33 ?l33 ?c33 ?k33 Sc.b__law_strings; (case a33 => k_is); (case l33 => k_is); (case c33 => k_is); (case k33 => k_is)))
      (case d__law_point => (refine' Sc.df_mk KX G ?a34 ?l34 ?c34 ?k34 Sc.b__law_point; (case a34 => k_is); (case l34 => k_is); (case c34 => k_is); (case k34 => k_is)))
      (case d__law_change => (refine' Sc.df_mk KX G ?a35 ?l35 ?c35 ?k35 Sc.b__law_change; (case a35 => k_is); (case l35 => k_is); (case c35 => k_is); (case k35 => k_is)))
      (case d__law_tree => (refine' Sc.df_mk KX G ?a36 ?l36 ?c36 ?k36 Sc.b__law_tree; (case a36 => k_is); (case l36 => k_is); (case c36 => k_is); (case k36 => k_is)))
      (case d__law_grown => (refine' Sc.df_mk KX G ?a37 ?l37 ?c37 ?k37 Sc.b__law_grown; (case a37 => k_is); (case l37 => k_is); (case c37 => k_is); (case k37 => k_is)))
      (case d__law_parts => (refine' Sc.df_mk KX G ?a38 ?l38 ?c38 ?k38 Sc.b__law_parts; (case a38 => k_is); (case l38 => k_is); (case c38 => k_is); (case k38 => k_is)))
      (case d__law_leaf_paths => (refine' Sc.df_mk KX G ?a39 ?l39 ?c39 ?k39 Sc.b__law_leaf_paths; (case a39 => k_is); (case l39 => k_is); (case c39 => k_is); (case k39 => k_is)))
      (case d__law_replaced => (refine' Sc.df_mk KX G ?a40 ?l40 ?c40 ?k40 Sc.b__law_replaced; (case a40 => k_is); (case l40 => k_is); (case c40 => k_is); (case k40 => k_is)))
      (case d__law_settled => (refine' Sc.df_mk KX G ?a41 ?l41 ?c41 ?k41 Sc.b__law_settled; (case a41 => k_is); (case l41 => k_is); (case c41 => k_is); (case k41 => k_is)))
      (case d__law_exchanged => (refine' Sc.df_mk KX G ?a42 ?l42 ?c42 ?k42 Sc.b__law_exchanged; (case a42 => k_is); (case l42 => k_is); (case c42 => k_is); (case k42 => k_is)))
      (case d__law_or_word => (refine' Sc.df_mk KX G ?a43 ?l43 ?c43 ?k43 Sc.b__law_or_word; (case a43 => k_is); (case l43 => k_is); (case c43 => k_is); (case k43 => k_is)))
      (case d__law_and_word => (refine' Sc.df_mk KX G ?a44 ?l44 ?c44 ?k44 Sc.b__law_and_word; (case a44 => k_is); (case l44 => k_is); (case c44 => k_is); (case k44 => k_is)))
      (case d__law_leaf_word => (refine' Sc.df_mk KX G ?a45 ?l45 ?c45 ?k45 Sc.b__law_leaf_word; (case a45 => k_is); (case l45 => k_is); (case c45 => k_is); (case k45 => k_is)))
      (case d__law_long_word => (refine' Sc.df_mk KX G ?a46 ?l46 ?c46 ?k46 Sc.b__law_long_word; (case a46 => k_is); (case l46 => k_is); (case c46 => k_is); (case k46 => k_is)))
      (case d__law_changes => (refine' Sc.df_mk KX G ?a47 ?l47 ?c47 ?k47 Sc.b__law_changes; (case a47 => k_is); (case l47 => k_is); (case c47 => k_is); (case k47 => k_is)))
      (case d_law => (refine' Sc.df_mk KX G ?a48 ?l48 ?c48 ?k48 Sc.b_law; (case a48 => k_is); (case l48 => k_is); (case c48 => k_is); (case k48 => k_is)))
end
#print axioms PySem.Challenge.cw_steadycover_k58_whole_sharing_never_flic_holds
