import PyProof.Rows.All
import Wide.All
import OpenK.AllK
import Wide.FinOn
import HandS.Text
import HandS.StrMore
import HandS.Codes
import PyProof.Rows.SortShellAny
import HandS.ForMost
import HandS.SetFor
import HandS.SetKeys
import HandS.SortInts
import HandS.Strs
import PyProof.Rows.StrPadFill
import KE.KExcIs
import HandS.ExcInit
import HandS.ExcField
import HandS.HotCalls
import HandS.IsInst
import HandS.Replace
import HandS.Style
import HandS.Wide
import PySem.Challenge.RW_colonnade_k01_values_in_order
namespace K1
/-- how many texts of at most k small letters there are, the empty one too -/
def S : Nat → Int
  | 0 => 1
  | k + 1 => 26 * S k + 1
theorem S_pos : ∀ k, 1 ≤ S k
  | 0 => by decide
  | k + 1 => by
    have := S_pos k
    show 1 ≤ 26 * S k + 1
    omega
theorem S_succ (k : Nat) : S (k + 1) = 26 * S k + 1 := rfl
theorem S_mono1 (k : Nat) : S k ≤ S (k + 1) := by
  have := S_pos k
  rw [S_succ]
  omega
def Let (c : Nat) : Prop := 97 ≤ c ∧ c ≤ 122
def Lets (l : List Nat) : Prop := ∀ c ∈ l, Let c
theorem Lets.head {c : Nat} {l : List Nat} (h : Lets (c :: l)) : Let c := h c List.mem_cons_self
theorem Lets.tail {c : Nat} {l : List Nat} (h : Lets (c :: l)) : Lets l := fun x m => h x (List.mem_cons_of_mem _ m)
theorem Lets.nil : Lets [] := fun _ h => absurd h List.not_mem_nil
theorem Lets.cons {c : Nat} {l : List Nat} (h : Let c) (t : Lets l) : Lets (c :: l) := fun x m => by
  rcases List.mem_cons.mp m with e | m
  · rw [e]; exact h
  · exact t x m
theorem Lets.app {a b : List Nat} (h : Lets a) (t : Lets b) : Lets (a ++ b) := fun x m => by
  rcases List.mem_append.mp m with m | m
  · exact h x m
  · exact t x m
theorem Lets.left {a b : List Nat} (h : Lets (a ++ b)) : Lets a := fun x m => h x (List.mem_append.mpr (.inl m))
theorem Lets.right {a b : List Nat} (h : Lets (a ++ b)) : Lets b := fun x m => h x (List.mem_append.mpr (.inr m))
theorem Lets.rep (k : Nat) {c : Nat} (h : Let c) : Lets (List.replicate k c) := fun x m => by
  rw [(List.mem_replicate.mp m).2]; exact h
/-- the number of texts of at most n letters in front of l -/
def P : Nat → List Nat → Int
  | _, [] => 0
  | 0, _ :: _ => 0
  | n + 1, c :: l => 1 + ((c : Int) - 97) * S n + P n l
/-- the text with the number r among those of 1 to n letters -/
def W : Nat → Int → List Nat
  | 0, _ => []
  | n + 1, r => (97 + (r / S n).toNat) :: (if r % S n = 0 then [] else W n (r % S n - 1))
theorem P_nil (n : Nat) : P n [] = 0 := by cases n <;> rfl
theorem P_cons (n c : Nat) (l : List Nat) : P (n + 1) (c :: l) = 1 + ((c : Int) - 97) * S n + P n l := rfl
theorem mul_bd {a b s : Int} (hs : 0 ≤ s) (h : a ≤ b) : a * s ≤ b * s := Int.mul_le_mul_of_nonneg_right h hs
theorem P_range : ∀ (n : Nat) (l : List Nat), Lets l → l.length ≤ n → 0 ≤ P n l ∧ P n l < S n
  | n, [], _, _ => by
    rw [P_nil]
    have := S_pos n
    omega
  | 0, c :: l, _, h => absurd h (by simp)
  | n + 1, c :: l, hl, h => by
    have ih := P_range n l hl.tail (by simpa using h)
    have hc := hl.head
    have hs := S_pos n
    have h1 : ((c : Int) - 97) * S n ≤ 25 * S n := mul_bd (by omega) (by have := hc.2; omega)
    have h2 : 0 * S n ≤ ((c : Int) - 97) * S n := mul_bd (by omega) (by have := hc.1; omega)
    rw [P_cons, S_succ]
    omega
theorem P_pos {n : Nat} {l : List Nat} (hl : Lets l) (h : l.length ≤ n) (h0 : l ≠ []) : 1 ≤ P n l := by
  cases l with
  | nil => exact absurd rfl h0
  | cons c l =>
    cases n with
    | zero => exact absurd h (by simp)
    | succ n =>
      have ih := P_range n l hl.tail (by simpa using h)
      have hc := hl.head
      have hs := S_pos n
      have h2 : 0 * S n ≤ ((c : Int) - 97) * S n := mul_bd (by omega) (by have := hc.1; omega)
      rw [P_cons]
      omega
theorem divmod_of {q s p : Int} (h0 : 0 ≤ p) (h1 : p < s) : (q * s + p) / s = q ∧ (q * s + p) % s = p := by
  have hs : 0 < s := by omega
  constructor
  · rw [Int.add_comm, Int.add_mul_ediv_right _ _ (by omega), Int.ediv_eq_zero_of_lt h0 h1]
    omega
  · rw [Int.add_comm, Int.add_mul_emod_self_right, Int.emod_eq_of_lt h0 h1]
theorem W_P : ∀ (n : Nat) (l : List Nat), Lets l → l ≠ [] → l.length ≤ n → W n (P n l - 1) = l
  | n, [], _, h, _ => absurd rfl h
  | 0, c :: l, _, _, h => absurd h (by simp)
  | n + 1, c :: l, hl, _, h => by
    have hlen : l.length ≤ n := by simpa using h
    have hr := P_range n l hl.tail hlen
    have hc := hl.head
    have e : P (n + 1) (c :: l) - 1 = ((c : Int) - 97) * S n + P n l := by rw [P_cons]; omega
    obtain ⟨d1, d2⟩ := divmod_of (q := (c : Int) - 97) hr.1 hr.2
    show (97 + ((P (n + 1) (c :: l) - 1) / S n).toNat) :: (if (P (n + 1) (c :: l) - 1) % S n = 0 then [] else W n ((P (n + 1) (c :: l) - 1) % S n - 1)) = c :: l
    rw [e, d1, d2]
    have hc1 := hc.1
    have hn : 97 + ((c : Int) - 97).toNat = c := by omega
    rw [hn]
    by_cases hl0 : l = []
    · subst hl0
      rw [P_nil]
      simp
    · have hp := P_pos hl.tail hlen hl0
      rw [if_neg (by omega), W_P n l hl.tail hl0 hlen]
theorem P_W : ∀ (m : Nat) (r : Int), 0 ≤ r → r < 26 * S m → P (m + 1) (W (m + 1) r) = r + 1 ∧ Lets (W (m + 1) r) ∧ 1 ≤ (W (m + 1) r).length ∧ (W (m + 1) r).length ≤ m + 1 := by
  intro m
  induction m with
  | zero =>
    intro r h0 h1
    have h1' : r < 26 := by simpa [S] using h1
    have e : W 1 r = [97 + r.toNat] := by
      show (97 + (r / 1).toNat) :: (if r % 1 = 0 then [] else W 0 (r % 1 - 1)) = _
      rw [Int.ediv_one, Int.emod_one, if_pos rfl]
    rw [e]
    refine ⟨?_, fun c hc => ?_, by simp, by simp⟩
    · rw [P_cons, P_nil]
      show 1 + (((97 + r.toNat : Nat) : Int) - 97) * 1 + 0 = r + 1
      omega
    · rw [List.mem_singleton] at hc
      subst hc
      exact ⟨by omega, by omega⟩
  | succ m ih =>
    intro r h0 h1
    have hs := S_pos (m + 1)
    have hq0 : 0 ≤ r / S (m + 1) := Int.ediv_nonneg h0 (by omega)
    have hq1 : r / S (m + 1) < 26 := Int.ediv_lt_of_lt_mul (by omega) (by omega)
    have hm0 : 0 ≤ r % S (m + 1) := Int.emod_nonneg _ (by omega)
    have hm1 : r % S (m + 1) < S (m + 1) := Int.emod_lt_of_pos _ (by omega)
    have hdm : r / S (m + 1) * S (m + 1) + r % S (m + 1) = r := by
      rw [Int.mul_comm]; exact Int.mul_ediv_add_emod r (S (m + 1))
    have hcast : (((97 + (r / S (m + 1)).toNat : Nat) : Int) - 97) = r / S (m + 1) := by omega
    have hlet : Let (97 + (r / S (m + 1)).toNat) := ⟨by omega, by omega⟩
    by_cases hz : r % S (m + 1) = 0
    · have e : W (m + 1 + 1) r = [97 + (r / S (m + 1)).toNat] := by
        show (97 + (r / S (m + 1)).toNat) :: (if r % S (m + 1) = 0 then [] else _) = _
        rw [if_pos hz]
      rw [e]
      refine ⟨?_, Lets.cons hlet Lets.nil, by simp, by simp⟩
      rw [P_cons, P_nil, hcast]
      omega
    · have e : W (m + 1 + 1) r = (97 + (r / S (m + 1)).toNat) :: W (m + 1) (r % S (m + 1) - 1) := by
        show (97 + (r / S (m + 1)).toNat) :: (if r % S (m + 1) = 0 then [] else _) = _
        rw [if_neg hz]
      have hb : r % S (m + 1) - 1 < 26 * S m := by
        have : S (m + 1) = 26 * S m + 1 := rfl
        omega
      obtain ⟨i1, i2, i3, i4⟩ := ih (r % S (m + 1) - 1) (by omega) hb
      rw [e]
      refine ⟨?_, Lets.cons hlet i2, by simp, by rw [List.length_cons]; omega⟩
      rw [P_cons, hcast, i1]
      omega
/-! order -/
theorem P_lt : ∀ (n : Nat) (l m : List Nat), Lets l → Lets m → l.length ≤ n → m.length ≤ n → (P n l < P n m ↔ l < m)
  | n, [], [], _, _, _, _ => by
    rw [P_nil]
    exact ⟨fun h => absurd h (by omega), fun h => absurd h (List.lt_irrefl _)⟩
  | n, [], d :: m, _, hm, _, h2 => by
    have hp := P_pos hm h2 (List.cons_ne_nil _ _)
    rw [P_nil]
    exact ⟨fun _ => List.nil_lt_cons d m, fun _ => by omega⟩
  | n, c :: l, [], hl, _, h1, _ => by
    have hp := P_pos hl h1 (List.cons_ne_nil _ _)
    rw [P_nil]
    exact ⟨fun h => absurd h (by omega), fun h => absurd h (List.not_lt_nil _)⟩
  | 0, c :: l, d :: m, _, _, h1, _ => absurd h1 (by simp)
  | n + 1, c :: l, d :: m, hl, hm, h1, h2 => by
    have l1 : l.length ≤ n := by simpa using h1
    have l2 : m.length ≤ n := by simpa using h2
    have ih := P_lt n l m hl.tail hm.tail l1 l2
    have r1 := P_range n l hl.tail l1
    have r2 := P_range n m hm.tail l2
    have hs := S_pos n
    rw [P_cons, P_cons, List.cons_lt_cons_iff]
    rcases Nat.lt_trichotomy c d with hcd | hcd | hcd
    · have h3 : ((c : Int) - 97) * S n + S n ≤ ((d : Int) - 97) * S n := by
        have := mul_bd (a := (c : Int) - 97 + 1) (b := (d : Int) - 97) (s := S n) (by omega) (by omega)
        rw [Int.add_mul] at this
        omega
      exact ⟨fun _ => .inl hcd, fun _ => by omega⟩
    · subst hcd
      constructor
      · intro h
        exact .inr ⟨rfl, ih.mp (by omega)⟩
      · rintro (h | ⟨_, h⟩)
        · exact absurd h (Nat.lt_irrefl _)
        · have := ih.mpr h
          omega
    · have h3 : ((d : Int) - 97) * S n + S n ≤ ((c : Int) - 97) * S n := by
        have := mul_bd (a := (d : Int) - 97 + 1) (b := (c : Int) - 97) (s := S n) (by omega) (by omega)
        rw [Int.add_mul] at this
        omega
      constructor
      · intro h
        omega
      · rintro (h | ⟨h, _⟩)
        · omega
        · omega
/-! neighbours -/
theorem P_app : ∀ (a b : List Nat) (n : Nat), a.length ≤ n → P n (a ++ b) = P n a + P (n - a.length) b
  | [], b, n, _ => by
    rw [P_nil]
    show P n b = 0 + P n b
    omega
  | c :: a, b, 0, h => absurd h (by simp)
  | c :: a, b, n + 1, h => by
    have ih := P_app a b n (by simpa using h)
    show P (n + 1) (c :: (a ++ b)) = _
    rw [P_cons, P_cons, ih, List.length_cons, Nat.add_sub_add_right]
    omega
theorem P_zs : ∀ k : Nat, P k (List.replicate k 122) = S k - 1
  | 0 => rfl
  | k + 1 => by
    show P (k + 1) (122 :: List.replicate k 122) = _
    rw [P_cons, P_zs k, S_succ]
    omega
theorem P_a {n : Nat} {l : List Nat} (h : l.length < n) : P n (l ++ [97]) = P n l + 1 := by
  rw [P_app l [97] n (by omega)]
  obtain ⟨k, hk⟩ : ∃ k, n - l.length = k + 1 := ⟨n - l.length - 1, by omega⟩
  rw [hk, P_cons, P_nil]
  simp
/-- a letter, then z up to the full length; the letter behind it -/
theorem P_step {n k c : Nat} {l : List Nat} (h : l.length + 1 + k = n) : P n (l ++ [c + 1]) = P n (l ++ c :: List.replicate k 122) + 1 := by
  rw [P_app l _ n (by omega), P_app l _ n (by omega)]
  have hk : n - l.length = k + 1 := by omega
  rw [hk, P_cons, P_cons, P_nil, P_zs]
  have : (((c + 1 : Nat) : Int) - 97) * S k = ((c : Int) - 97) * S k + S k := by
    rw [show (((c + 1 : Nat) : Int) - 97) = ((c : Int) - 97) + 1 by omega, Int.add_mul]
    omega
  omega
def isW (l : List Nat) : Prop := 1 ≤ l.length ∧ l.length ≤ 8 ∧ Lets l
/-- how many words there are -/
def NW : Int := 26 * S 7
theorem NW_eq : NW = 217180147158 := by decide
theorem S8 : S 8 = NW + 1 := rfl
theorem isW_range {l : List Nat} (h : isW l) : 0 ≤ P 8 l - 1 ∧ P 8 l - 1 < NW := by
  have h1 := P_pos h.2.2 h.2.1 (fun z => by rw [z] at h; exact absurd h.1 (by simp))
  have h2 := P_range 8 l h.2.2 h.2.1
  rw [S8] at h2
  omega
theorem W8_P {l : List Nat} (h : isW l) : W 8 (P 8 l - 1) = l := W_P 8 l h.2.2 (fun z => by rw [z] at h; exact absurd h.1 (by simp)) h.2.1
theorem W8_isW {r : Int} (h0 : 0 ≤ r) (h1 : r < NW) : isW (W 8 r) ∧ P 8 (W 8 r) = r + 1 := by
  obtain ⟨a, b, c, d⟩ := P_W 7 r h0 h1
  exact ⟨⟨c, d, b⟩, a⟩
theorem isW_eq {l m : List Nat} (h : isW l) (h' : isW m) (e : P 8 l = P 8 m) : l = m := by
  rw [← W8_P h, ← W8_P h', e]
theorem isW_ne {l : List Nat} (h : isW l) : l ≠ [] := fun z => by rw [z] at h; exact absurd h.1 (by simp)
/-- a list, its end of z taken off -/
theorem split_z : ∀ l : List Nat, ∃ a k, l = a ++ List.replicate k 122 ∧ (a = [] ∨ ∃ b c, a = b ++ [c] ∧ c ≠ 122) := by
  intro l
  generalize e : l.reverse = r
  have el : l = r.reverse := by rw [← e, List.reverse_reverse]
  subst el
  clear e
  induction r with
  | nil => exact ⟨[], 0, rfl, .inl rfl⟩
  | cons c r ih =>
    by_cases hc : c = 122
    · subst hc
      obtain ⟨a, k, e, h⟩ := ih
      refine ⟨a, k + 1, ?_, h⟩
      rw [List.reverse_cons, e, List.append_assoc, List.replicate_succ']
    · refine ⟨r.reverse ++ [c], 0, ?_, .inr ⟨_, c, rfl, hc⟩⟩
      rw [List.reverse_cons, List.replicate_zero, List.append_nil]
end K1

set_option Elab.async false
set_option linter.all false
set_option maxRecDepth 100000
set_option maxHeartbeats 4000000
namespace K1
open PySem PyProof.Rows L2
/-- a text of codes -/
def tx (l : List Nat) : Str := ⟨l.toArray⟩
theorem tx_list (l : List Nat) : (tx l).cps.toList = l := rfl
theorem tx_len (l : List Nat) : (tx l).length = l.length := by
  show l.toArray.size = l.length
  simp
theorem tx_of (z : Str) : tx z.cps.toList = z := by
  cases z
  rfl
theorem tx_inj {a b : List Nat} (h : tx a = tx b) : a = b := by
  have := congrArg (fun z : Str => z.cps.toList) h
  exact this
theorem tx_app (a b : List Nat) : tx a ++ tx b = tx (a ++ b) := by
  show (⟨a.toArray ++ b.toArray⟩ : Str) = ⟨(a ++ b).toArray⟩
  rw [List.append_toArray]
theorem tx_eq {a b : List Nat} : tx a = tx b ↔ a = b := ⟨tx_inj, congrArg tx⟩
theorem str_len (z : Str) : z.cps.toList.length = z.length := by
  show _ = z.cps.size
  simp
def LET : List Nat := [97, 98, 99, 100, 101, 102, 103, 104, 105, 106, 107, 108, 109, 110, 111, 112, 113, 114, 115, 116, 117, 118, 119, 120, 121, 122]
theorem LET_eq : PySem.Str.ofString "abcdefghijklmnopqrstuvwxyz" = tx LET := by decide +kernel
theorem a_eq : PySem.Str.ofString "a" = tx [97] := by decide +kernel
theorem z_eq : PySem.Str.ofString "z" = tx [122] := by decide +kernel
theorem e_eq : PySem.Str.ofString "" = tx [] := by decide +kernel
theorem q_eq : PySem.Str.ofString "'" = tx [39] := by decide +kernel
theorem LET_mem (c : Nat) : c ∈ LET ↔ Let c := by
  unfold LET Let
  simp only [List.mem_cons, List.not_mem_nil, or_false]
  omega
theorem LET_get {i : Nat} (h : i < 26) : LET[i]? = some (97 + i) := by
  have : ∀ i : Nat, i < 26 → LET[i]? = some (97 + i) := by decide +kernel
  exact this i h
theorem find_let {c : Nat} (h : Let c) : Builtin.Str.occurrences (tx LET) (tx [c]) 0 26 1 = [c - 97] := by
  have : ∀ i : Nat, i < 26 → Builtin.Str.occurrences (tx LET) (tx [97 + i]) 0 26 1 = [i] := by decide +kernel
  have e := this (c - 97) (by have := h.2; have := h.1; omega)
  rw [show 97 + (c - 97) = c by have := h.1; omega] at e
  exact e
theorem LET_len : (tx LET).length = 26 := by decide +kernel
theorem find_let' {c : Nat} (h : Let c) : Txt.find (tx LET) (tx [c]) = (c : Int) - 97 := by
  unfold Txt.find
  rw [LET_len, find_let h]
  show ((c - 97 : Nat) : Int) = _
  have := h.1
  omega
/-! slices -/
theorem cut_last (l : List Nat) : cutS (tx l) none (some (-1)) = tx l.dropLast := by
  unfold cutS
  rw [HT.sIx_none]
  show tx ((l.drop 0).take (HT.sIx (tx l).length (tx l).length (some (-1)) - 0)) = _
  rw [tx_len, List.drop_zero]
  congr 1
  have e : HT.sIx l.length l.length (some (-1)) = l.length - 1 := by
    show (if (-1 : Int) < 0 then ((-1 : Int) + (l.length : Int)).toNat else min (-1 : Int).toNat l.length) = _
    rw [if_pos (by decide)]
    omega
  rw [e, List.dropLast_eq_take]
  rfl
theorem cut_to (l : List Nat) (n : Nat) : cutS (tx l) none (some (n : Int)) = tx (l.take n) := by
  unfold cutS
  rw [HT.sIx_none, HT.sIx_nat]
  show tx ((l.drop 0).take _) = _
  rw [tx_len, List.drop_zero, Nat.sub_zero]
  congr 1
  rw [List.take_eq_take_iff]
  omega
theorem cut_from (l : List Nat) (n : Nat) : cutS (tx l) (some (n : Int)) none = tx (l.drop n) := by
  unfold cutS
  rw [HT.sIx_none, HT.sIx_nat]
  show tx ((l.drop _).take _) = _
  rw [tx_len]
  congr 1
  by_cases h : n ≤ l.length
  · rw [Nat.min_eq_left h]
    rw [List.take_of_length_le (by rw [List.length_drop]; omega)]
  · rw [Nat.min_eq_right (by omega), List.drop_of_length_le (Nat.le_refl _), List.drop_of_length_le (by omega), List.take_nil]
/-! rstrip("z") -/
theorem getD_tx (l : List Nat) (k : Nat) : (tx l).cps.getD k 0 = l.getD k 0 := by
  rw [← getD_list]
  rfl
theorem rstrip_z {a : List Nat} {k : Nat} (h : a = [] ∨ ∃ b c, a = b ++ [c] ∧ c ≠ 122) : Txt.rstripChars (tx (a ++ List.replicate k 122)) (tx [122]) = tx a := by
  unfold Txt.rstripChars
  rw [stripBy_eq]
  have hlo : PySem.stripLo (tx [122]).cps.contains false (tx (a ++ List.replicate k 122)) = 0 := by
    simp [PySem.stripLo]
  rw [hlo]
  obtain ⟨h1, h2, h3, h4⟩ := hi_facts (tx [122]).cps.contains (tx (a ++ List.replicate k 122)) 0 (Nat.zero_le _)
  generalize PySem.stripHi (tx [122]).cps.contains true (tx (a ++ List.replicate k 122)) 0 = hi at h1 h2 h3 h4 ⊢
  rw [tx_len, List.length_append, List.length_replicate] at h2 h3
  have g : ∀ c, (tx [122]).cps.contains c = true ↔ c = 122 := fun c => by
    show ([122].toArray).contains c = true ↔ _
    simp
  have e : hi = a.length := by
    rcases Nat.lt_trichotomy hi a.length with q | q | q
    · exfalso
      rcases h with h | ⟨b, c, h, hc⟩
      · rw [h] at q
        simp at q
      · have := h3 b.length (by rw [h] at q; simp at q; omega) (by rw [h]; simp; omega)
        rw [g, getD_tx, h] at this
        apply hc
        rw [← this]
        simp [List.getD]
    · exact q
    · exfalso
      rcases h4 with h4 | h4
      · omega
      · have : (tx (a ++ List.replicate k 122)).cps.getD (hi - 1) 0 = 122 := by
          rw [getD_tx]
          simp only [List.getD]
          rw [List.getElem?_append_right (by omega), List.getElem?_replicate, if_pos (by omega)]
          rfl
        rw [this] at h4
        rw [(g 122).mpr rfl] at h4
        cases h4
  rw [e]
  apply (tx_of _).symm.trans
  congr 1
  rw [PySem.StrLaws.strSub_toList]
  show ((a ++ List.replicate k 122).drop 0).take (a.length - 0) = a
  simp
/-! ljust, * -/
theorem ljust_z (l : List Nat) : Txt.ljustF (tx l) 8 122 = tx (l ++ List.replicate (8 - l.length) 122) := by
  apply (tx_of _).symm.trans
  rw [ljustF_list, tx_len]
  rfl
theorem fold_rep (l : List Nat) : ∀ (n : Nat) (acc : Array Nat), ((List.replicate n l.toArray).foldl (· ++ ·) acc).toList = acc.toList ++ (List.replicate n l).flatten
  | 0, acc => by simp
  | n + 1, acc => by
    rw [List.replicate_succ, List.foldl_cons, fold_rep l n, List.replicate_succ, List.flatten_cons]
    simp
theorem mul_tx (l : List Nat) (n : Int) : Txt.mul (tx l) n = tx (List.replicate n.toNat l).flatten := by
  apply (tx_of _).symm.trans
  congr 1
  unfold Txt.mul
  by_cases h : n < 1
  · rw [if_pos h, show n.toNat = 0 by omega]
    rfl
  · rw [if_neg h]
    by_cases h2 : (n == 1 || (tx l).length == 0) = true
    · rw [if_pos h2]
      rw [Bool.or_eq_true, beq_iff_eq, beq_iff_eq, tx_len] at h2
      rcases h2 with h2 | h2
      · rw [h2]
        simp [tx]
      · rw [List.length_eq_zero_iff] at h2
        subst h2
        simp [tx]
    · rw [if_neg h2]
      show ((List.replicate n.toNat l.toArray).foldl (· ++ ·) #[]).toList = _
      rw [fold_rep]
      simp
theorem mul_one (c : Nat) (n : Int) : Txt.mul (tx [c]) n = tx (List.replicate n.toNat c) := by
  rw [mul_tx]
  congr 1
  generalize n.toNat = k
  induction k with
  | zero => rfl
  | succ k ih => rw [List.replicate_succ, List.flatten_cons, ih, List.replicate_succ]; rfl
end K1

set_option Elab.async false
set_option linter.all false
set_option maxRecDepth 100000
set_option maxHeartbeats 4000000
/-! sorted(set(xs)), xs a list of ints or of texts of any length below 4,000: over keys (ints and texts) -/
namespace K1
open PySem PySem.Spec PyProof.Rows L2
section
variable {P : Program} {w : World}
/-- the key of an entry -/
def kOf (e : Int × Value) : Key :=
  match e.2 with
  | .int k _ => .inl k
  | .str x _ => .inr x
  | _ => .inl 0
def GoodK (w : World) (e : Int × Value) : Prop := ∃ k : Key, keyIs k e.2 = true ∧ e.1 = keyH w k
theorem kOf_is {e : Int × Value} {k : Key} (h : keyIs k e.2 = true) : kOf e = k := by
  obtain ⟨n, v⟩ := e
  rcases keyIs_shape h with ⟨i, t, rfl, q⟩ | ⟨x, t, rfl, q⟩
  · have q' : v = Value.int i t := q
    subst q'
    rfl
  · have q' : v = Value.str x t := q
    subst q'
    rfl
theorem GoodK.is {e : Int × Value} (g : GoodK w e) (k : Key) : (mixKind P w).is k e.2 = true ↔ kOf e = k := by
  obtain ⟨k0, h, _⟩ := g
  constructor
  · intro q
    exact kOf_is q
  · intro q
    rw [kOf_is h] at q
    subst q
    exact h
theorem GoodK.scan {e : Int × Value} (g : GoodK w e) : e.2.scannable = true := by
  obtain ⟨n, v⟩ := e
  obtain ⟨k0, h, _⟩ := g
  rcases keyIs_shape h with ⟨i, t, rfl, q⟩ | ⟨x, t, rfl, q⟩
  · have q' : v = Value.int i t := q
    subst q'
    rfl
  · have q' : v = Value.str x t := q
    subst q'
    rfl
theorem goodK_elems {l : List (Int × Value)} (g : ∀ e ∈ l, GoodK w e) : ElemsOf (mixKind P w) l := fun e he => ⟨g e he, (g e he).scan⟩
theorem goodK_mem {l : List (Int × Value)} (g : ∀ e ∈ l, GoodK w e) (k : Key) : k ∈ l.map kOf ↔ ∃ e ∈ l, (mixKind P w).is k e.2 = true := by
  rw [List.mem_map]
  constructor
  · rintro ⟨e, he, q⟩
    exact ⟨e, he, ((g e he).is k).2 q⟩
  · rintro ⟨e, he, q⟩
    exact ⟨e, he, ((g e he).is k).1 q⟩
/-- a set of keys at a whose members are S; its table can be walked -/
def SetW (w : World) (h : Heap) (a : Addr) (S : Key → Bool) (n : Nat) : Prop :=
  ∃ o es ep t, (h.get? a = some o ∧ o.ExactSet ∧ o.data = .set es ep t) ∧ ((∀ e ∈ es.toList, GoodK w e) ∧ (es.toList.map kOf).Nodup ∧ ∀ k, S k = true ↔ k ∈ es.toList.map kOf) ∧
    (es.size = n ∧ es.size < scanBound ∧ t.fits es.size = true) ∧ Ris t.place.toList ∧ (w.params.followText "set-order" = true ∨ t.led = true)
theorem SetW.at {h h' : Heap} {a : Addr} {S : Key → Bool} {n : Nat} (R : SetW w h a S n) (k : ∀ o, h.get? a = some o → h'.get? a = some o) : SetW w h' a S n := by
  obtain ⟨o, es, ep, t, ⟨ho, r1⟩, r⟩ := R
  exact ⟨o, es, ep, t, ⟨k o ho, r1⟩, r⟩
theorem setW_fresh {h : Heap} {a : Addr} (ho : h.get? a = some { cls := .type "set", dict := none, data := .set #[] 0 (.fresh 0 0 (!w.params.followText "set-order")) }) : SetW w h a (fun _ => false) 0 := by
  refine ⟨_, #[], 0, _, ⟨ho, ⟨rfl, rfl, rfl⟩, rfl⟩, ⟨fun e he => by simp at he, by simp, fun k => by simp⟩, ⟨rfl, by decide, rfl⟩, List.Pairwise.nil, ?_⟩
  show _ ∨ (!w.params.followText "set-order") = true
  cases w.params.followText "set-order" with
  | false => exact .inr rfl
  | true => exact .inl rfl
section
variable {A : Around} {E : Value → Shared → Prop} {s : Shared} {a : Addr} {S : Key → Bool} {n : Nat}
/-- the table is stored, and laid anew where it is too full -/
theorem setW_put {g : Bool → Sem Unit} (hg : ∀ (b : Bool) (s1 : Shared) (Q' : Unit → Shared → Prop), Q' () s1 → wpAny (model P w) A (g b) Q' E s1)
    {o : Obj} {es es1 : Array (Int × Value)} {ep : Nat} {t t2 : SetTable} {S' : Key → Bool} (ho : s.heap.get? a = some o) (hex : o.ExactSet) (hd : o.data = .set es ep t)
    (gd : (∀ e ∈ es1.toList, GoodK w e) ∧ (es1.toList.map kOf).Nodup ∧ ∀ k, S' k = true ↔ k ∈ es1.toList.map kOf)
    (hb1 : es1.size < scanBound) (hf2 : t2.fits es1.size = true) (hr : Ris t2.place.toList) (hl : w.params.followText "set-order" = true ∨ t2.led = true) {old : Bool} {R : Option Bool → Shared → Prop}
    (hR : ∀ h', Heap.SameBut a s.heap h' → SetW w h' a S' es1.size → R (some true) { s with heap := h' }) :
    wpAny (model P w) A (do
        storeSet a es1 t2
        if (!old && t2.tooFull) = true then do
            g (relayAll t2 es1 (SetTable.grown es1.size)).2.2
            storeSet a (relayAll t2 es1 (SetTable.grown es1.size)).1 (relayAll t2 es1 (SetTable.grown es1.size)).2.1
            pure (some true)
          else pure (some true)) R E s := by
  have ho1 := store_at (es' := es1) (t' := t2) ho hd
  have sb1 := Heap.SameBut.update s.heap a (Obj.putSet es1 t2)
  refine wpAny_bind (wpAny_storeSet_of ho hd ?_ (fits_of_scanBound hb1))
  by_cases hc : (!old && t2.tooFull) = true
  · rw [if_pos hc]
    have pm := relayAll_perm t2 es1 (SetTable.grown es1.size)
    have hf3 := relayAll_fits t2 es1 (SetTable.grown es1.size)
    have hr3 := relayAll_ris t2 es1 (SetTable.grown es1.size)
    have hl3 := relayAll_led t2 es1 (SetTable.grown es1.size)
    revert pm hf3 hr3 hl3
    generalize relayAll t2 es1 (SetTable.grown es1.size) = Z
    obtain ⟨es2, t3, gave⟩ := Z
    intro pm hf3 hr3 hl3
    have hsz : es2.size = es1.size := by
      have := pm.length_eq
      rw [Array.length_toList, Array.length_toList] at this
      exact this
    have hb2 : es2.size < scanBound := by rw [hsz]; exact hb1
    refine wpAny_bind (hg _ _ _ ?_)
    refine wpAny_bind (wpAny_storeSet_of ho1 rfl ?_ (fits_of_scanBound hb2))
    have ho2 := store_at (es' := es2) (t' := t3) ho1 rfl
    refine wpAny_pure (hR _ (sb1.trans (Heap.SameBut.update _ a _)) ?_)
    obtain ⟨g1, g2, g3⟩ := gd
    exact ⟨_, es2, _, t3, ⟨ho2, hex, rfl⟩, ⟨fun e he => g1 e (pm.mem_iff.mp he), (pm.map kOf).nodup_iff.mpr g2, fun k => (g3 k).trans (pm.map kOf).mem_iff.symm⟩, ⟨hsz, hb2, hf3⟩, hr3, hl.imp id fun z => by rw [hl3]; exact z⟩
  · rw [if_neg hc]
    exact wpAny_pure (hR _ sb1 ⟨_, es1, _, t2, ⟨ho1, hex, rfl⟩, gd, ⟨rfl, hb1, hf2⟩, hr, hl⟩)
/-- one more key -/
theorem setW_add {k : Key} {v : Value} {Q : Bool → Shared → Prop} (R : SetW w s.heap a S n) (hv : keyIs k v = true) (room : n + 1 < scanBound)
    (hQ : ∀ h' b m, Heap.SameBut a s.heap h' → m ≤ n + 1 → SetW w h' a (fun j => S j || decide (j = k)) m → Q b { s with heap := h' }) :
    wpAny (model P w) A (setAddHashed a v ((mixKind P w).hash k)) Q E s := by
  obtain ⟨o, es, ep, t, ⟨ho, hex, hd⟩, ⟨g, nd, hm⟩, ⟨hn, hb, hf⟩, hr, hl⟩ := R
  have hkey : (mixKind P w).is k v = true := hv
  have gv : GoodK w ((mixKind P w).hash k, v) := ⟨k, hv, rfl⟩
  have hsc : v.scannable = true := gv.scan
  have hel : ElemsOf (mixKind P w) es.toList := goodK_elems g
  unfold setAddHashed setAddHashedIn
  refine wpAny_holding (wpAny_bind (wpAny_setState_of ho hd hf ?_))
  dsimp only
  rw [byScan_of hsc hb hel]
  simp only [↓reduceIte]
  unfold setAddByScan
  refine wpAny_bind ?_
  refine wpAny_bind (wpAny_rule ?_)
  refine wpAny_bind (wpAny_setScan_of hkey ho hd hf hel ?_)
  cases hfi : List.findIdx? (fun e => (mixKind P w).is k e.2) es.toList with
  | some j =>
    dsimp only
    obtain ⟨hj, pj, _⟩ := List.findIdx?_eq_some_iff_getElem.mp hfi
    have hSk : S k = true := (hm k).2 ((goodK_mem (P := P) g k).2 ⟨es.toList[j], List.getElem_mem hj, pj⟩)
    refine wpAny_pure (wpAny_pure (hQ s.heap _ n (Heap.SameBut.refl a s.heap) (Nat.le_succ n) ⟨o, es, ep, t, ⟨ho, hex, hd⟩, ⟨g, nd, fun i => ?_⟩, ⟨hn, hb, hf⟩, hr, hl⟩))
    rw [Bool.or_eq_true, decide_eq_true_eq, ← hm i]
    constructor
    · rintro (z | z)
      · exact z
      · rw [z]; exact hSk
    · exact .inl
  | none =>
    dsimp only
    have hnk : k ∉ es.toList.map kOf := fun z => by
      obtain ⟨e, he, q⟩ := (goodK_mem (P := P) g k).1 z
      have c := List.findIdx?_eq_none_iff.mp hfi e he
      rw [q] at c
      cases c
    have hgw : ∀ (b : Bool) {s1 : Shared} {Q' : Unit → Shared → Prop}, Q' () s1 → wpAny (model P w) A (match b with | true => rule "set.scan.the-table-gave-way" | false => pure ()) Q' E s1 := by
      intro b s1 Q' q
      cases b with
      | true => exact wpAny_rule q
      | false => exact wpAny_pure q
    have pm := layNew_perm t es ((mixKind P w).hash k) v
    have hf1 := layNew_fits t es ((mixKind P w).hash k) v
    have hr1 := layNew_ris t es ((mixKind P w).hash k) v hr
    have hl1 := layNew_led t es ((mixKind P w).hash k) v
    revert pm hf1 hr1 hl1
    generalize layNew t es ((mixKind P w).hash k) v = Z
    obtain ⟨es1, t1, old, gave⟩ := Z
    intro pm hf1 hr1 hl1
    dsimp only at pm hf1 hr1 hl1 ⊢
    rw [Array.toList_push] at pm
    have pc : es1.toList.Perm (((mixKind P w).hash k, v) :: es.toList) := pm.trans (List.perm_append_singleton _ _)
    have pk : (es1.toList.map kOf).Perm (k :: es.toList.map kOf) := by
      have q := pc.map kOf
      rw [List.map_cons, kOf_is (e := ((mixKind P w).hash k, v)) hv] at q
      exact q
    have gd : (∀ e ∈ es1.toList, GoodK w e) ∧ (es1.toList.map kOf).Nodup ∧ ∀ i, (S i || decide (i = k)) = true ↔ i ∈ es1.toList.map kOf := by
      refine ⟨fun e he => ?_, pk.nodup_iff.mpr (List.nodup_cons.mpr ⟨hnk, nd⟩), fun i => ?_⟩
      · rcases List.mem_cons.mp (pc.mem_iff.mp he) with z | z
        · rw [z]; exact gv
        · exact g e z
      · rw [Bool.or_eq_true, decide_eq_true_eq, hm i, pk.mem_iff, List.mem_cons]
        exact Or.comm
    have hsz : es1.size = n + 1 := by
      have q := pc.length_eq
      rw [List.length_cons, Array.length_toList, Array.length_toList, hn] at q
      exact q
    have hb1 : es1.size < scanBound := by rw [hsz]; exact room
    have hled : w.params.followText "set-order" = true ∨ t1.led = true := hl.imp id fun z => by rw [hl1]; exact z
    have fin : ∀ b h', Heap.SameBut a s.heap h' → SetW w h' a (fun j => S j || decide (j = k)) es1.size → Q b { s with heap := h' } := fun b h' sb r => hQ h' b es1.size sb (Nat.le_of_eq hsz) r
    refine wpAny_bind (hgw _ ?_)
    split
    · refine wpAny_bind ?_
      rw [hashByValue_scannable 8 hsc]
      refine wpAny_pure ?_
      refine setW_put ?_ ho hex hd gd hb1 ?_ ?_ ?_ ?_
      · intro b s1 Q' q; cases b <;> first | exact wpAny_pure q | exact wpAny_rule q
      · first | (split <;> first | exact hf1 | exact SetTable.fits_plain_off hf1) | exact hf1
      · first | (split <;> exact hr1) | exact hr1
      · first | (split <;> exact hled) | exact hled
      · intro h' sb r; dsimp only; exact wpAny_pure (fin _ h' sb r)
    · refine wpAny_bind (wpAny_pure ?_)
      simp only [↓reduceIte]
      refine setW_put ?_ ho hex hd gd hb1 hf1 hr1 hled ?_
      · intro b s1 Q' q; cases b <;> first | exact wpAny_pure q | exact wpAny_rule q
      · intro h' sb r; dsimp only; exact wpAny_pure (fin _ h' sb r)
def inK (ks : List Key) (j : Key) : Bool := ks.any fun k => decide (k = j)
theorem inK_iff {ks : List Key} {j : Key} : inK ks j = true ↔ j ∈ ks := by
  unfold inK
  rw [List.any_eq_true]
  constructor
  · rintro ⟨k, hk, e⟩
    rw [← of_decide_eq_true e]
    exact hk
  · intro h
    exact ⟨j, h, decide_eq_true rfl⟩
/-- the loop that takes the items into the set -/
theorem setW_loop {I : Addr} {fp wr : List Addr} {G : Array GenState → Array GenState → Prop} {m : Nat} {Pv : Nat → Value → Prop} {St : Nat → Shared → Prop} {R : Result → Shared → Prop}
    (Wk : WalksS P w A.in1 I fp wr G m Pv St) (T : Addr) (hTf : T ∉ fp) (ks : List Key) (hm : m = ks.length) (hb : ks.length + 1 < scanBound) (hval : ∀ i v, Pv i v → ∃ k, ks[i]? = some k ∧ keyIs k v = true) :
    ∀ (d i : Nat) (s : Shared), m - i = d → i ≤ m → St i s → (∃ c, c ≤ i ∧ SetW w s.heap T (inK (ks.take i)) c) →
      (∀ s' c, Moved (T :: wr) G s s' → c ≤ m → SetW w s'.heap T (inK ks) c → R (.ok (.ret .none)) s') →
      codeAny (model P w) A (.builtin "set.update.loop" ⟨[.ref T, .ref I], []⟩) R s := by
  have hTw : T ∉ wr := fun h => hTf (Wk.sub _ h)
  have hsub : ∀ b ∈ wr, b ∈ T :: wr := fun b hb => List.mem_cons_of_mem _ hb
  intro d
  induction d with
  | zero =>
    intro i s hd hi hst ⟨c, hc, hS⟩ hR
    obtain rfl : i = m := by omega
    refine codeAny_builtin F.entry_set_update_loop ?_
    rw [Around.under_plainId F.plain_set_update_loop _]
    refine wpAny_bind (Wk.done s _ _ hst fun s' hmv => ?_)
    rw [List.take_of_length_le (by omega)] at hS
    exact wpAny_pure (hR s' c (hmv.mono hsub) hc (hS.at fun o e => hmv.heap T o hTw e))
  | succ d ih =>
    intro i s hd hi hst ⟨c, hc, hS⟩ hR
    have hlt : i < m := by omega
    refine codeAny_builtin F.entry_set_update_loop ?_
    rw [Around.under_plainId F.plain_set_update_loop _]
    refine wpAny_bind (Wk.item i s _ _ hlt hst fun v s' hP hst' hmv => ?_)
    obtain ⟨k, hk, hv⟩ := hval i v hP
    have hS' : SetW w s'.heap T (inK (ks.take i)) c := hS.at fun o e => hmv.heap T o hTw e
    show wpAny _ A.in1 (holding [v] (setAdd T v) >>= _) _ _ s'
    refine wpAny_bind (wpAny_holding ?_)
    unfold setAdd
    refine wpAny_holding ?_
    refine wpAny_bind ((mixKind P w).pyHash (k := k) hv ?_)
    refine setW_add (s := { s' with toks := s'.toks + 1 }) hS' hv (by omega) fun h' b c2 hsb hc2 hS2 => ?_
    have hS3 : SetW w h' T (inK (ks.take (i + 1))) c2 := by
      have e : (fun j => inK (ks.take i) j || decide (j = k)) = inK (ks.take (i + 1)) := by
        funext j
        rw [List.take_add_one, hk]
        show _ = List.any (List.take i ks ++ [k]) _
        rw [List.any_append]
        show _ = (inK (List.take i ks) j || (decide (k = j) || false))
        rw [Bool.or_false, decide_eq_decide.mpr (eq_comm (a := j) (b := k))]
      rw [← e]
      exact hS2
    refine wpAny_pure ⟨plainId_quiet F.plain_set_update_loop _, ih (i + 1) _ (by omega) hlt (Wk.frame _ s' _ _ hst' (Nat.le_succ _) fun b hb o e => ?_) ⟨c2, by omega, hS3⟩ fun s2 c3 hm2 hc3 hS4 => ?_⟩
    · rw [hsb.2 b (fun h : b = T => hTf (by rw [← h]; exact hb))]; exact e
    · refine hR s2 c3 (Moved.trans Wk.gtrans ((hmv.mono hsub).then_heap (Nat.le_succ _) fun b o hb e => ?_) hm2) hc3 hS4
      rw [hsb.2 b (fun h : b = T => hb (by rw [h]; exact List.mem_cons_self))]; exact e
/-- set(xs), xs a list -/
theorem setW_call {l : Addr} {items : Array Value} (ks : List Key) {Q : Value → Shared → Prop} (hh : A.handled = none) (hl : s.heap.IsList l items) (hk : ∀ (i : Nat) (v : Value), items[i]? = some v → ∃ k, ks[i]? = some k ∧ keyIs k v = true)
    (hsz : items.size = ks.length) (hb : ks.length + 1 < scanBound)
    (h : ∀ (h' : Heap) (tk c : Nat), SetW w h' s.heap.objs.size (inK ks) c → c ≤ ks.length → (∀ b o, s.heap.get? b = some o → h'.get? b = some o) → Q (.ref s.heap.objs.size) { s with heap := h', toks := tk }) :
    wpAny (model P w) A (call (.type "set") [.ref l]) Q E s := by
  obtain ⟨c, tl, hmro⟩ := F.called_set.mro
  have hmade := F.called_set.made
  have hsub := F.called_set.sub
  refine wpAny_call (codeAny_of_tree ?_)
  show wpAny _ _ (callAny (.type "set") _) _ _ _
  refine wpAny_pure ⟨Code.quiet_builtin _ (by decide +kernel), codeAny_builtin F.entry_type_call ?_⟩
  rw [Around.under_plain (weight_type_call_type "set" [.ref l] []) rfl]
  have h1 := F.called_set.notType
  have h2 := F.called_set.canCreate
  have hct := F.typeCall_set_1 (.ref l)
  repeat (any_goals (first | assumption | wp_step))
  refine codeAny_mono (code_set_led1 (.ref l) (E := E) (Q₁ := fun obj s1 => obj = .ref s.heap.objs.size ∧ s1 = { s with heap := s.heap.push { cls := .type "set", dict := none, data := .set #[] 0 (.fresh 0 0 (!w.params.followText "set-order")) } }) ⟨rfl, rfl⟩) fun r s1 hr => ?_
  cases r with
  | error e => exact hr
  | ok fl =>
    cases fl with
    | ret obj =>
      obtain ⟨rfl, rfl⟩ := hr
      have hS : (s.heap.push { cls := .type "set", dict := none, data := .set #[] 0 (.fresh 0 0 (!w.params.followText "set-order")) }).get? s.heap.objs.size = some { cls := .type "set", dict := none, data := .set #[] 0 (.fresh 0 0 (!w.params.followText "set-order")) } := Heap.get?_push_size _ rfl
      have hT : Shared.TypeIs { s with heap := s.heap.push { cls := .type "set", dict := none, data := .set #[] 0 (.fresh 0 0 (!w.params.followText "set-order")) } } (.ref s.heap.objs.size) "set" := ⟨_, hS, rfl⟩
      have hli := F.called_set.init.lookup
      have hbi := F.called_set.init.bind (.ref s.heap.objs.size)
      repeat (any_goals (first | assumption | wp_step))
      refine codeAny_mono (codeAny_call_builtin (R := wants (fun r s2 => r = .none ∧ ∃ h' tk c, s2 = { s with heap := h', toks := tk } ∧ SetW w h' s.heap.objs.size (inK ks) c ∧ c ≤ ks.length ∧
          (∀ b o, s.heap.get? b = some o → h'.get? b = some o)) E) F.called_set.init.plain F.entry_set_init (check_set_init_1 hT ?_)) fun r2 s2 hr2 => ?_
      · obtain ⟨ol, hol, hcl, nl, hdl⟩ := hl
        obtain ⟨ocls, odict, odata, oslots⟩ := ol
        simp only at hcl hdl
        subst hcl; subst hdl
        have hol' : (s.heap.push { cls := .type "set", dict := none, data := .set #[] 0 (.fresh 0 0 (!w.params.followText "set-order")) }).get? l = some { cls := .type "list", dict := odict, data := .seq items nl, slots := oslots } := Heap.get?_push_of_some _ hol
        have hsls := F.sub_list_set
        have hslf := F.sub_list_frozenset
        have hne : (Value.type "list" == Value.type "dict") = false := by decide
        have hl1 : (s.heap.push { cls := .type "set", dict := none, data := .set #[] 0 (.fresh 0 0 (!w.params.followText "set-order")) }).IsList l items := ⟨_, hol', rfl, nl, rfl⟩
        unfold Builtin.«set.__init__» noKeywords Builtin.Frozenset.updateFrom
        generalize hPI : pyIter = PI
        wp_walk
        subst hPI
        refine wpAny_pyIter_list hl1 ?_
        refine wpAny_bind (wpAny_runValue ?_)
        have hlS : l < s.heap.objs.size := Heap.lt_size hol
        have hh3 : A.in1.in1.in1.handled = none := by simp [hh]
        have hneI : l ≠ (s.heap.push { cls := .type "set", dict := none, data := .set #[] 0 (.fresh 0 0 (!w.params.followText "set-order")) }).objs.size := by
          rw [Heap.size_push]; exact Nat.ne_of_lt (Nat.lt_succ_of_lt hlS)
        have hSf : s.heap.objs.size ∉ [(s.heap.push { cls := .type "set", dict := none, data := .set #[] 0 (.fresh 0 0 (!w.params.followText "set-order")) }).objs.size, l] := by
          rw [Heap.size_push]; simp only [List.mem_cons, List.mem_singleton, List.not_mem_nil, or_false, not_or]
          exact ⟨Nat.ne_of_lt (Nat.lt_succ_self _), Nat.ne_of_gt hlS⟩
        refine setW_loop ((Walks.list hh3 _ l hneI items).toS) s.heap.objs.size hSf ks hsz hb hk (items.size - 0) 0 _ (by omega) (Nat.zero_le _)
          ⟨⟨_, Heap.get?_push_size _ rfl, rfl, rfl⟩, (hl1.push _)⟩ ?hS0 ?hR
        case hS0 =>
          refine ⟨0, Nat.le_refl _, ?_⟩
          have q := setW_fresh (w := w) (h := ((s.heap.push { cls := .type "set", dict := none, data := .set #[] 0 (.fresh 0 0 (!w.params.followText "set-order")) }).push { cls := .type "list_iterator", data := .fields #[.ref l, .int 0 0] })) (Heap.get?_push_of_some _ hS)
          have e : inK (ks.take 0) = fun _ => false := by
            funext j
            rfl
          rw [e]
          exact q
        case hR =>
          intro s' c hm hc hS'
          obtain ⟨h', g', d', tk', os'⟩ := s'
          have eg : g' = s.gens := hm.gens
          have ed : d' = s.drawn := hm.drawn
          have eo : os' = s.os := hm.os
          subst eg; subst ed; subst eo
          refine wpAny_pure ?_
          refine wpAny_pure ⟨rfl, h', tk', c, rfl, hS', by rw [← hsz]; exact hc, fun b o e => ?_⟩
          have hbs := Heap.lt_size e
          refine hm.heap b o ?_ (Heap.get?_push_of_some _ (Heap.get?_push_of_some _ e))
          simp only [List.mem_cons, List.not_mem_nil, or_false, not_or]
          exact ⟨Nat.ne_of_lt hbs, by rw [Heap.size_push]; exact Nat.ne_of_lt (Nat.lt_succ_of_lt hbs)⟩
      · cases r2 with
        | error e => exact hr2
        | ok fl2 =>
          cases fl2 with
          | ret r =>
            obtain ⟨rfl, h', tk, c, rfl, hS', hc, hk'⟩ := hr2
            repeat (any_goals (first | assumption | wp_step))
            exact h _ _ _ hS' hc hk'
          | _ => exact hr2.elim
    | _ => exact hr.elim
end
end
end K1

set_option Elab.async false
set_option linter.all false
set_option maxRecDepth 100000
set_option maxHeartbeats 4000000
namespace K1
open PySem PySem.Spec PyProof.Rows L2
section
variable {P : Program} {w : World} {A : Around} {E : Value → Shared → Prop} {s : Shared} {a : Addr} {S : Key → Bool} {n : Nat}
theorem entry_int {e : Int × Value} (g : GoodK w e) {i : Int} (h : kOf e = .inl i) : ∃ t, e.2 = .int i t := by
  obtain ⟨m, v⟩ := e
  obtain ⟨k, hk, _⟩ := g
  rw [kOf_is hk] at h
  subst h
  rcases keyIs_shape hk with ⟨j, t, q1, q2⟩ | ⟨x, t, q1, q2⟩
  · cases q1
    exact ⟨t, q2⟩
  · cases q1
theorem entry_str {e : Int × Value} (g : GoodK w e) {z : Str} (h : kOf e = .inr z) : ∃ t, e.2 = .str z t := by
  obtain ⟨m, v⟩ := e
  obtain ⟨k, hk, _⟩ := g
  rw [kOf_is hk] at h
  subst h
  rcases keyIs_shape hk with ⟨j, t, q1, q2⟩ | ⟨x, t, q1, q2⟩
  · cases q1
  · cases q1
    exact ⟨t, q2⟩
theorem mem_inl {l : List Int} {i : Int} : (Sum.inl i : Key) ∈ l.map Sum.inl ↔ i ∈ l := by
  rw [List.mem_map]
  constructor
  · rintro ⟨j, hj, e⟩
    cases e
    exact hj
  · intro h
    exact ⟨i, h, rfl⟩
theorem mem_inr {l : List Str} {i : Str} : (Sum.inr i : Key) ∈ l.map Sum.inr ↔ i ∈ l := by
  rw [List.mem_map]
  constructor
  · rintro ⟨j, hj, e⟩
    cases e
    exact hj
  · intro h
    exact ⟨i, h, rfl⟩
theorem nodup_inl {l : List Int} (h : (l.map (Sum.inl : Int → Key)).Nodup) : l.Nodup := List.Pairwise.imp (fun {x y} z e => z (congrArg _ e)) (List.pairwise_map.mp h)
theorem nodup_inr {l : List Str} (h : (l.map (Sum.inr : Str → Key)).Nodup) : l.Nodup := List.Pairwise.imp (fun {x y} z e => z (congrArg _ e)) (List.pairwise_map.mp h)
/-- sorted(s), a set of ints -/
theorem setW_sortI {Q : Value → Shared → Prop} (R : SetW w s.heap a S n) (hh : A.handled = none) (hS : ∀ k, S k = true → ∃ i, k = .inl i)
    (hQ : ∀ s' p (out : Array Value) (c : Nat) (ns : List Int), (∀ b o, s.heap.get? b = some o → s'.heap.get? b = some o) → s'.gens = s.gens → s'.os = s.os → s.heap.objs.size ≤ p →
      s'.heap.get? p = some (seqObj "list" out c) → IntsAre out.toList ns → ns.Pairwise (· < ·) → (∀ i, i ∈ ns ↔ S (.inl i) = true) → ns.length = n → Q (.ref p) s') :
    wpAny (model P w) A (call (.builtin "sorted") [.ref a]) Q E s := by
  obtain ⟨o, es, ep, t, ⟨ho, hex, hd⟩, ⟨g, nd, hm⟩, ⟨hn, hb, hf⟩, hr, hl⟩ := R
  refine Calls.call_function_entry kind_sorted plain_sorted entry_sorted (args_sorted1 _) ?_
  unfold Builtin.«sorted»
  refine wpAny_bind (m := checkCount "sorted" 1 1 _) (wpAny_pure ?_)
  refine wpAny_bind (collect_set (A := A.in1) hh ⟨o, ho, hex.1, hd⟩ hf hb hr hl fun s1 vs k1 hz g1 o1 pm => ?_)
  have hvl : vs.length = n := by
    have q := pm.length_eq
    rw [List.length_map, Array.length_toList (xs := es), hn] at q
    exact q
  have ent : ∀ e ∈ es.toList, kOf e = .inl (SrtO.iv e.2) ∧ ∃ i u, e.2 = Value.int i u := fun e he => by
    obtain ⟨i, hi⟩ := hS (kOf e) ((hm _).mpr (List.mem_map.mpr ⟨e, he, rfl⟩))
    obtain ⟨u, hu⟩ := entry_int (g e he) hi
    rw [hi, hu]
    exact ⟨rfl, i, u, rfl⟩
  have hI : IntsAre vs (vs.map SrtO.iv) := SrtO.ints_iv fun v hv => by
    obtain ⟨e, he, q⟩ := List.mem_map.mp (pm.mem_iff.mp hv)
    rw [← q]
    exact (ent e he).2
  have pk : ((vs.map SrtO.iv).map (Sum.inl : Int → Key)).Perm (es.toList.map kOf) := by
    have q := (pm.map SrtO.iv).map (Sum.inl : Int → Key)
    rw [List.map_map, List.map_map] at q
    rw [List.map_map]
    refine q.trans (List.Perm.of_eq ?_)
    rw [List.map_map]
    exact List.map_congr_left fun e he => (ent e he).1.symm
  have hvz : vs.length ≤ sizeLine := by rw [hvl, ← hn]; exact fits_of_scanBound hb
  refine wpAny_bind (wpAny_newList ?_ hvz)
  have hoL : (s1.heap.push (seqObj "list" vs.toArray 0)).get? s1.heap.objs.size = some (seqObj "list" vs.toArray 0) := Heap.get?_push_size _ rfl
  refine wpAny_bind (wpAny_holding (wpAny_call_entry slot_list_sort ⟨_, hoL, rfl⟩ entry_list_sort (list_sort_treeAny hoL hI hvz fun out ns' a1 a2 a3 => ⟨_, rfl, ?_⟩) (args_list_sort _)))
  obtain ⟨c, hc⟩ := sortedHeap_at (vs := vs) (out := out) hoL
  have pn : (ns'.map (Sum.inl : Int → Key)).Perm (es.toList.map kOf) := (a2.map Sum.inl).trans pk
  refine wpAny_pure ⟨_, rfl, hQ _ s1.heap.objs.size out c ns' (fun b u e => ?_) g1 o1 hz hc a1 (lt_of_le_nodup ns' a3 (nodup_inl (pn.nodup_iff.mpr nd))) (fun i => ?_) ?_⟩
  · have q := k1 b u e
    have hlt := Heap.lt_size q
    show (sortedHeap (s1.heap.push (seqObj "list" vs.toArray 0)) s1.heap.objs.size vs out).get? b = some u
    rw [sortedHeap_old (Nat.ne_of_lt hlt) (by rw [size_push']; exact Nat.lt_succ_of_lt hlt)]
    exact Heap.get?_push_of_some _ q
  · rw [hm, ← pn.mem_iff, mem_inl]
  · have q := pn.length_eq
    rw [List.length_map, List.length_map, Array.length_toList (xs := es), hn] at q
    exact q
theorem rising_all : ∀ (l : List Str) (p : Str), risingS p l = true → (∀ x ∈ l, ¬ x.cps.toList < p.cps.toList) ∧ l.Pairwise (fun a b => ¬ b.cps.toList < a.cps.toList)
  | [], p, _ => ⟨fun x h => absurd h List.not_mem_nil, List.Pairwise.nil⟩
  | x :: r, p, h => by
    have h' : (!ltCps x.cps.toList p.cps.toList && risingS x r) = true := h
    obtain ⟨h1, h2⟩ := Bool.and_eq_true_iff.mp h'
    obtain ⟨i1, i2⟩ := rising_all r x h2
    have hxp : ¬ x.cps.toList < p.cps.toList := by
      rw [ltCps_eq] at h1
      intro q
      rw [decide_eq_true q] at h1
      cases h1
    refine ⟨fun y hy => ?_, List.pairwise_cons.mpr ⟨i1, i2⟩⟩
    rcases List.mem_cons.mp hy with e | hy
    · rw [e]; exact hxp
    · intro q
      have h3 : p.cps.toList ≤ x.cps.toList := hxp
      have h4 : x.cps.toList ≤ y.cps.toList := i1 y hy
      exact (List.le_trans h3 h4) q
theorem sortedS_pw {l : List Str} (h : sortedS l = true) : l.Pairwise (fun a b => ¬ b.cps.toList < a.cps.toList) := by
  cases l with
  | nil => exact List.Pairwise.nil
  | cons x r =>
    obtain ⟨h1, h2⟩ := rising_all r x h
    exact List.pairwise_cons.mpr ⟨h1, h2⟩
theorem str_ext {a b : Str} (h : a.cps.toList = b.cps.toList) : a = b := by
  cases a
  cases b
  simp only [Array.toList_inj] at h
  rw [h]
theorem lt_of_nlt_nodup {l : List Str} (h : l.Pairwise (fun a b => ¬ b.cps.toList < a.cps.toList)) (d : l.Nodup) : l.Pairwise (fun a b => a.cps.toList < b.cps.toList) :=
  (h.and d).imp fun {x y} ⟨h1, h2⟩ => by
    have h3 : x.cps.toList ≤ y.cps.toList := h1
    rcases List.le_iff_lt_or_eq.mp h3 with h4 | h4
    · exact h4
    · exact absurd (str_ext h4) h2
/-- sorted(s), a set of texts -/
theorem setW_sortS {Q : Value → Shared → Prop} (R : SetW w s.heap a S n) (hh : A.handled = none) (hS : ∀ k, S k = true → ∃ z, k = .inr z)
    (hQ : ∀ s' p (out : Array Value) (c : Nat) (zs : List Str), (∀ b o, s.heap.get? b = some o → s'.heap.get? b = some o) → s'.gens = s.gens → s'.os = s.os → s.heap.objs.size ≤ p →
      s'.heap.get? p = some (seqObj "list" out c) → StrsAre out.toList zs → zs.Pairwise (fun a b => a.cps.toList < b.cps.toList) → (∀ z, z ∈ zs ↔ S (.inr z) = true) → zs.length = n → Q (.ref p) s') :
    wpAny (model P w) A (call (.builtin "sorted") [.ref a]) Q E s := by
  obtain ⟨o, es, ep, t, ⟨ho, hex, hd⟩, ⟨g, nd, hm⟩, ⟨hn, hb, hf⟩, hr, hl⟩ := R
  refine Calls.call_function_entry kind_sorted plain_sorted entry_sorted (args_sorted1 _) ?_
  unfold Builtin.«sorted»
  refine wpAny_bind (m := checkCount "sorted" 1 1 _) (wpAny_pure ?_)
  refine wpAny_bind (collect_set (A := A.in1) hh ⟨o, ho, hex.1, hd⟩ hf hb hr hl fun s1 vs k1 hz g1 o1 pm => ?_)
  have hvl : vs.length = n := by
    have q := pm.length_eq
    rw [List.length_map, Array.length_toList (xs := es), hn] at q
    exact q
  have ent : ∀ e ∈ es.toList, kOf e = .inr (PyProof.Rows.strOf e.2) ∧ ∃ i u, e.2 = Value.str i u := fun e he => by
    obtain ⟨i, hi⟩ := hS (kOf e) ((hm _).mpr (List.mem_map.mpr ⟨e, he, rfl⟩))
    obtain ⟨u, hu⟩ := entry_str (g e he) hi
    rw [hi, hu]
    exact ⟨rfl, i, u, rfl⟩
  have hI : StrsAre vs (vs.map PyProof.Rows.strOf) := strsAre_map vs fun v hv => by
    obtain ⟨e, he, q⟩ := List.mem_map.mp (pm.mem_iff.mp hv)
    rw [← q]
    exact (ent e he).2
  have pk : ((vs.map PyProof.Rows.strOf).map (Sum.inr : Str → Key)).Perm (es.toList.map kOf) := by
    have q := (pm.map PyProof.Rows.strOf).map (Sum.inr : Str → Key)
    rw [List.map_map, List.map_map] at q
    rw [List.map_map]
    refine q.trans (List.Perm.of_eq ?_)
    rw [List.map_map]
    exact List.map_congr_left fun e he => (ent e he).1.symm
  have hvz : vs.length ≤ sizeLine := by rw [hvl, ← hn]; exact fits_of_scanBound hb
  refine wpAny_bind (wpAny_newList ?_ hvz)
  have hoL : (s1.heap.push (seqObj "list" vs.toArray 0)).get? s1.heap.objs.size = some (seqObj "list" vs.toArray 0) := Heap.get?_push_size _ rfl
  refine wpAny_bind (wpAny_holding (wpAny_call_entry slot_list_sort ⟨_, hoL, rfl⟩ entry_list_sort (list_sort_treeKAny strKind_oneLt hoL hI.keysOf (fun v₁ v₂ rest e => keyKind_strs (by rw [← e]; exact hI)) hvz fun st' b1 b2 => ⟨_, rfl, ?_⟩) (args_list_sort _)))
  obtain ⟨zs, a1, a2, a3⟩ := sorted_out_str hI b1 b2
  obtain ⟨c, hc⟩ := sortedHeap_at (vs := vs) (out := (arrOf st').map (·.2)) hoL
  have pn : (zs.map (Sum.inr : Str → Key)).Perm (es.toList.map kOf) := (a2.map Sum.inr).trans pk
  refine wpAny_pure ⟨_, rfl, hQ _ s1.heap.objs.size ((arrOf st').map (·.2)) c zs (fun b u e => ?_) g1 o1 hz hc a1 (lt_of_nlt_nodup (sortedS_pw a3) (nodup_inr (pn.nodup_iff.mpr nd))) (fun i => ?_) ?_⟩
  · have q := k1 b u e
    have hlt := Heap.lt_size q
    show (sortedHeap (s1.heap.push (seqObj "list" vs.toArray 0)) s1.heap.objs.size vs ((arrOf st').map (·.2))).get? b = some u
    rw [sortedHeap_old (Nat.ne_of_lt hlt) (by rw [size_push']; exact Nat.lt_succ_of_lt hlt)]
    exact Heap.get?_push_of_some _ q
  · rw [hm, ← pn.mem_iff, mem_inr]
  · have q := pn.length_eq
    rw [List.length_map, List.length_map, Array.length_toList (xs := es), hn] at q
    exact q
end
end K1

set_option Elab.async false
set_option linter.all false
set_option maxRecDepth 100000
set_option maxHeartbeats 4000000
namespace K1
open PySem PySem.Spec PyProof.Rows L2
/-- the keys of a list of values -/
def keyV : V → Key
  | .int i => .inl i
  | .str z => .inr z
  | _ => .inl 0
def tSortSet (K : PySem.W.Frag) (ta : TE) : TE := fun σ H Q => ta σ H fun x H1 => ∃ (l : Addr) (xs : List V), x = .ref l ∧ SqL K H1 l xs ∧ xs.length ≤ 1000 ∧
  ((∃ ns : List Int, xs = ns.map V.int ∧ ∀ (ns' : List Int) (p : Addr), ns'.Pairwise (· < ·) → (∀ i, i ∈ ns' ↔ i ∈ ns) → H1 p = none → Q (.ref p) (upd H1 p (.lst (ns'.map V.int)))) ∨
   (∃ zs : List Str, xs = zs.map V.str ∧ ∀ (zs' : List Str) (p : Addr), zs'.Pairwise (fun a b => a.cps.toList < b.cps.toList) → (∀ z, z ∈ zs' ↔ z ∈ zs) → H1 p = none → Q (.ref p) (upd H1 p (.lst (zs'.map V.str)))))
section
variable {X : Cx}
theorem keys_at (X : Cx) {xs : List V} {its : List Value} (r : Vals xs its) (hk : ∀ x ∈ xs, x = kV (keyV x)) : ∀ (i : Nat) (v : Value), its.toArray[i]? = some v → ∃ k, (xs.map keyV)[i]? = some k ∧ keyIs k v = true := by
  intro i v hv
  have hv' : its[i]? = some v := by simpa using hv
  have hi : i < xs.length := by
    rw [r.length]
    exact (List.getElem?_eq_some_iff.mp hv').1
  obtain ⟨u, hu, ru⟩ := r.get (i := i) (x := xs[i]) (List.getElem?_eq_getElem hi)
  rw [hv'] at hu
  cases hu
  refine ⟨keyV xs[i], by rw [List.getElem?_map, List.getElem?_eq_getElem hi]; rfl, ?_⟩
  rw [hk xs[i] (List.getElem_mem hi)] at ru
  exact kV_is (P := X.prog) (w := X.w) ru
theorem pe_sortSet {a : Expr} {ta : TE} {p p2 q pos : Pos} (hc : X.calm = true) (hg : Gl X "sorted") (hm : X.mg "sorted" = none) (hg2 : Gl X "set") (hm2 : X.mg "set" = none) (ha : PE X a ta)
    (na : starEach [a] X.env = (false, eval a X.env) :: starEach [] X.env := by rfl) : PE X (.Call (.Name "sorted" p) [.Call (.Name "set" p2) [a] [] q] [] pos) (tSortSet X.K ta) := by
  refine ⟨fun pins s σ H Q I h => ?_⟩
  refine Call_ (ld_blt I hg hm boot_sorted ?_)
  refine PyProof.Rows.callWith_builtin1 (PyProof.Rows.args_cons ?_ rfl) rfl rfl
  refine Call_ (ld_blt I hg2 hm2 boot_set ?_)
  refine PyProof.Rows.callWith_type1 (PyProof.Rows.args_cons (thn (ha.run pins s σ H _ I h) fun v s1 ⟨x, H1, I1, r1, q1⟩ => PyProof.Rows.args_nil ?_) na) na rfl
  obtain ⟨l, xs, rfl, hq, h1, q1⟩ := q1
  cases r1
  obtain ⟨its, r, pl, hz⟩ := I1.list hq
  have hkv : ∀ x ∈ xs, x = kV (keyV x) := by
    rcases q1 with ⟨ns, rfl, _⟩ | ⟨zs, rfl, _⟩
    · intro x hx
      obtain ⟨i, _, rfl⟩ := List.mem_map.mp hx
      rfl
    · intro x hx
      obtain ⟨i, _, rfl⟩ := List.mem_map.mp hx
      rfl
  have hlen : (xs.map keyV).length ≤ 1000 := by rw [List.length_map]; exact h1
  refine setW_call (xs.map keyV) (I1.ok.hd hc) pl.isList (keys_at X r hkv) (by rw [List.size_toArray, ← r.length, List.length_map]) (by unfold scanBound; omega) fun h' tk c R hc' hk => ?_
  refine PyProof.Rows.args_nil ?_
  have I2 : Inv X pins σ H1 { s1 with heap := h', toks := tk } := I1.kept hk
  rcases q1 with ⟨ns, rfl, q1⟩ | ⟨zs, rfl, q1⟩
  · have em : (ns.map V.int).map keyV = ns.map (Sum.inl : Int → Key) := by rw [List.map_map]; rfl
    rw [em] at R
    refine setW_sortI R (I2.ok.hd hc) (fun k hk' => ?_) fun s' p out cc ns' k3 g3 o3 hp hg3 hi3 hs3 hm3 hl3 => ?_
    · obtain ⟨i, _, e⟩ := List.mem_map.mp (inK_iff.mp hk')
      exact ⟨i, e.symm⟩
    · have hl4 : ns'.length ≤ 1000 := by
        rw [hl3]
        rw [List.length_map] at hlen hc'
        omega
      have hn : H1 p = none := I2.hok.fresh hp
      have J : Inv X pins σ (upd H1 p (.lst (ns'.map V.int))) { ({ s1 with heap := h', toks := tk } : Shared) with heap := s'.heap, gens := s'.gens, drawn := s'.drawn, toks := s'.toks } :=
        I2.call (s := { s1 with heap := h', toks := tk }) (ch := []) (Un.laid k3 hp hn) (I2.hok.laid k3 hp ⟨by rw [List.length_map]; exact Nat.le_of_lt (small1000 hl4), out.toList, cc, vals_of_ints hi3, hg3⟩) (by rw [g3]; exact I2.bare) (fun _ z => nomatch z)
      have e : s' = { s1 with heap := s'.heap, gens := s'.gens, drawn := s'.drawn, toks := s'.toks } := by
        cases s'
        cases s1
        cases o3
        rfl
      rw [e]
      exact ⟨.ref p, _, J, rfl, q1 ns' p hs3 (fun i => by rw [hm3, inK_iff, mem_inl]) hn⟩
  · have em : (zs.map V.str).map keyV = zs.map (Sum.inr : Str → Key) := by rw [List.map_map]; rfl
    rw [em] at R
    refine setW_sortS R (I2.ok.hd hc) (fun k hk' => ?_) fun s' p out cc zs' k3 g3 o3 hp hg3 hi3 hs3 hm3 hl3 => ?_
    · obtain ⟨i, _, e⟩ := List.mem_map.mp (inK_iff.mp hk')
      exact ⟨i, e.symm⟩
    · have hl4 : zs'.length ≤ 1000 := by
        rw [hl3]
        rw [List.length_map] at hlen hc'
        omega
      have hn : H1 p = none := I2.hok.fresh hp
      have J : Inv X pins σ (upd H1 p (.lst (zs'.map V.str))) { ({ s1 with heap := h', toks := tk } : Shared) with heap := s'.heap, gens := s'.gens, drawn := s'.drawn, toks := s'.toks } :=
        I2.call (s := { s1 with heap := h', toks := tk }) (ch := []) (Un.laid k3 hp hn) (I2.hok.laid k3 hp ⟨by rw [List.length_map]; exact Nat.le_of_lt (small1000 hl4), out.toList, cc, vals_of_strs hi3, hg3⟩) (by rw [g3]; exact I2.bare) (fun _ z => nomatch z)
      have e : s' = { s1 with heap := s'.heap, gens := s'.gens, drawn := s'.drawn, toks := s'.toks } := by
        cases s'
        cases s1
        cases o3
        rfl
      rw [e]
      exact ⟨.ref p, _, J, rfl, q1 zs' p hs3 (fun i => by rw [hm3, inK_iff, mem_inr]) hn⟩
/-- a text times a number -/
theorem op_mul_str : OpR X (binaryOp .Mult) (fun x y H Q => ∃ z i, x = .str z ∧ y = .int i ∧ z.length ≤ 1000 ∧ i ≤ 1000 ∧ -1000 ≤ i ∧ Q (.str (Txt.mul z i)) H) := by
  intro pins s σ H x y v u Q I rx ry h
  obtain ⟨z, i, rfl, rfl, h1, h2, h3, q⟩ := h
  obtain ⟨t, rfl⟩ := rx
  obtain ⟨t', rfl⟩ := ry
  refine SB.mul ⟨?_, fun h4 _ => ?_, fun h4 _ => ?_⟩ fun t2 k => ⟨.str (Txt.mul z i), H, I.tok _, ⟨_, rfl⟩, q⟩
  · rw [decide_eq_false (by omega), decide_eq_false (by omega)]
    rfl
  · have : (1000 : Int) ≤ (2 ^ 63 - 1) / i := by
      rw [Int.le_ediv_iff_mul_le (by omega)]
      omega
    omega
  · have h5 : z.length * i.toNat ≤ 1000 * 1000 := Nat.mul_le_mul h1 (by omega)
    refine decide_eq_false ?_
    rw [sizeLine_eq]
    omega
/-- ljust(n, c) -/
theorem mt_ljust3 : MtR X "str.ljust" (fun x xs H Q => ∃ (a f : Str) (i : Int), x = .str a ∧ xs = [.int i, .str f] ∧ PadOk i = true ∧ f.length = 1 ∧ Q (.str (Txt.ljustF a i (f.cps.getD 0 0))) H) := by
  intro pins s σ H x xs v us Q I rx rs h
  obtain ⟨a, f, i, rfl, rfl, hp, hf, q⟩ := h
  obtain ⟨t, rfl⟩ := rx
  cases rs with
  | cons r1 rs =>
    cases rs with
    | cons r2 rs =>
      cases rs
      obtain ⟨u, rfl⟩ := r1
      obtain ⟨u', rfl⟩ := r2
      exact ljust_fill hp hf fun t' k => ⟨.str _, H, I.tok k, ⟨t', rfl⟩, q⟩
end
end K1

set_option Elab.async false
set_option linter.all false
set_option maxRecDepth 100000
set_option maxHeartbeats 4000000
/-! exceptions: a def that raises where nothing is handled (context None), an own exception made by its __init__, isinstance of it in a suite, a def called in a suite -/
namespace K1
open PySem PySem.Spec PyProof.Rows L2
section
variable {P : Program} {w : World} {K : PySem.W.Frag} {mg : Str → Option Value} {base : Heap}
/-- a def that may raise -/
theorem okN {x qual : Str} {st : Stmt} {f : Addr} {fd : FuncData} {N ps : List Str} {k : Nat} {sp : Sp} (F : Fun K x qual st f fd) (S : FnScope N ps (defScope st)) (len : ∀ vs H Q E, sp vs H Q E → vs.length = ps.length)
    (hbody : ∀ (cdv : Value) (A : Around) (outer : List Env) (s : Shared) (H : Hp) (vs : List V) (Q : VK) (E : XK), Room k (A.deeper (envOfC qual (defScope st) s.heap.objs.size f cdv)) → sp vs H Q E →
      ∃ t, PSs (cxOf (L2N.CX P w) P w K mg base N qual (defScope st) f cdv A outer s H E) (defBody st) t ∧ t { nx := fun _ H' => Q .non H', rt := Q } (start N vs) H) : FnOk P w K mg base (L2N.CX P w) (k + 1) f fd ps sp := by
  obtain ⟨oc, od, kV, doc, pm, an, cdv, ct, osl, rfl, lk, hcd⟩ := F.ex
  exact fn_of lk hcd S len fun A outer s H vs Q E hr hsp => hbody cdv A outer s H vs Q E hr hsp
/-- a def that may be called while an exception is handled -/
theorem okH {x qual : Str} {st : Stmt} {f : Addr} {fd : FuncData} {N ps : List Str} {k : Nat} {sp : Sp} (F : Fun K x qual st f fd) (S : FnScope N ps (defScope st)) (len : ∀ vs H Q E, sp vs H Q E → vs.length = ps.length)
    (hbody : ∀ (cdv : Value) (A : Around) (outer : List Env) (s : Shared) (H : Hp) (vs : List V) (Q : VK) (E : XK) (p : Addr × Obj), sp vs H Q E →
      ∃ t, PSs (L2H.cxH CX0 P w K mg base N qual (defScope st) f cdv A outer s H E p) (defBody st) t ∧ t { nx := fun _ H' => Q .non H', rt := Q } (start N vs) H) : L2H.FnH P w K mg base CX0 (k + 1) f fd ps sp := by
  obtain ⟨oc, od, kV, doc, pm, an, cdv, ct, osl, rfl, lk, hcd⟩ := F.ex
  exact L2H.fn_ofH lk hcd S len fun A outer s H vs Q E p _ _ hsp => hbody cdv A outer s H vs Q E p hsp
end
theorem passN {X : Cx} : Passes (L2N.CX X.prog X.w) X E0 := fun _ _ _ _ _ _ _ h => by
  obtain ⟨_, _, _, _, _, _, _, _, _, _, _, _, z⟩ := h
  exact z.elim
section
variable {X : Cx} {e : Expr} {es : List Expr} {ta : TA} {p pos : Pos}
/-- C(e, ..), C's own __init__ keeping sp; the exception's context is None -/
theorem pmk_N {CX : CXT} {x : Str} {C fI : Addr} {k : Nat} {fd : FuncData} {ps : List Str} {sp : Sp} (T : OexC X.K C) (iC : PySem.W.findIn X.K (.ref C) "__init__" = some (some (.ref fI))) (tI : PySem.W.typeIn X.K (.ref fI) = some (.type "function"))
    (F1 : FnOk X.prog X.w X.K X.mg X.base CX k fI fd ps sp) (hr : Room (k + 1) X.A) (hb : Binds X.K fd ps []) (hx : Passes CX X (fun _ _ _ => False)) (hg : Gl X x) (hm : X.mg x = some (.ref C)) (ha : PA X (e :: es) ta)
    (hdb : (x == ("__debug__" : Str)) = false := by decide) (he : starEach (e :: es) X.env = (false, eval e X.env) :: starEach es X.env := by rfl) (hpl : (backTo pos (starEach es X.env)).any (·.1) = false := by rfl) :
    L2N.PMk X (.Call (.Name x p) (e :: es) [] pos) (tMkO C sp [] ta) := by
  intro pins s σ H Q I h
  obtain ⟨nm, q, N, bs, bm, sn, sub, ab, col, dd, k0, k1, k2, k3, k5, hC, hbm⟩ := T.cls
  refine wpAny_Call_Name_kw (ld_glob I hg hm ?_ hdb)
  refine PySem.W.callWith_K (h₀ := X.base) I.ok.mod.kin T.kC (thn (ha.run pos pins s σ H _ I h) fun us s1 ⟨vs, H1, I1, r1, hz, q1⟩ => ⟨I1.kIn, ?_⟩) he hpl
  show wpAny _ _ (call (.ref C) us) _ _ _
  obtain ⟨hp, g, dr, tk, os⟩ := s1
  have hsz : hp.objs.size ≤ hp.objs.size + 1 := Nat.le_succ _
  have hn : H1 (hp.objs.size + 1) = none := I1.hok.fresh hsz
  have hq := q1 (hp.objs.size + 1) hn
  have kk : ∀ b o, hp.get? b = some o → ((hp.push (PySem.W.kdv_tup us)).push (PySem.HandSPX.excO C hp.objs.size)).get? b = some o := fun b o e => Heap.get?_push_of_some _ (Heap.get?_push_of_some _ e)
  have hget : ((hp.push (PySem.W.kdv_tup us)).push (PySem.HandSPX.excO C hp.objs.size)).get? (hp.objs.size + 1) = some (PySem.HandSPX.excO C hp.objs.size) := by heap_get
  have I2 : Inv X pins σ (upd H1 (hp.objs.size + 1) (exo (hp.objs.size + 1) C none)) ⟨(hp.push (PySem.W.kdv_tup us)).push (PySem.HandSPX.excO C hp.objs.size), g, dr, tk, os⟩ :=
    I1.laid (t' := tk) (a := hp.objs.size + 1) (o := exo (hp.objs.size + 1) C none) (h' := (hp.push (PySem.W.kdv_tup us)).push (PySem.HandSPX.excO C hp.objs.size)) kk hsz (exo_ok hget)
  rw [List.append_nil] at hq
  have r2 : Vals (V.ref (hp.objs.size + 1) :: vs) (Value.ref (hp.objs.size + 1) :: us) := .cons rfl r1
  have hl : (Value.ref (hp.objs.size + 1) :: us ++ []).length = ps.length := by
    have e := r2.length
    rw [F1.len _ _ _ _ hq] at e
    rw [List.append_nil]
    exact e.symm
  have hus : us.length ≤ sizeLine := by
    rw [← Paired.length r1, sizeLine_eq]
    omega
  have b2 := hb _ (Value.ref (hp.objs.size + 1) :: us) I2.kIn hl
  rw [List.append_nil] at b2
  refine wpAny_call (PySem.HandSPX.call_own F.excBase_ValueError (fun Y => PySem.HandSPX.refsVE_contains Y bm hbm) (I1.kIn _ _ hC) (PySem.W.looks_findIn I1.kIn iC) (fun self => PySem.W.bind_fn I1.kIn self tI) hus
    (codeAny_mono (F1.run _ X.stack _ _ ⟨Value.ref (hp.objs.size + 1) :: us, []⟩ (Value.ref (hp.objs.size + 1) :: us) _ _ (fun _ _ _ => False) (hr.make C us []) (I2.env0.make C us []) b2 r2 hq) fun r s' hq' => ?_))
  cases r with
  | error er => exact hx pins σ _ _ er s' I2 hq'
  | ok fl =>
    cases fl with
    | ret u =>
      obtain ⟨v, H2, os2, bare2, un2, hok2, rv, ev, d, fs, ea, ed, hd1, q2⟩ := hq'
      subst ev
      obtain ⟨h2, g2, d2, t2, os'⟩ := s'
      obtain ⟨t0, G, J, kG, ge, hoe, na⟩ := mk_end0 (d2 := d2) (t2 := t2) I1 hsz kk un2 hok2 os2 bare2 ea ed hd1
      refine ⟨rv, hp.objs.size + 1, _, _, ⟨G, g2, d2, t2, os'⟩, _, .ref C, some d, rfl, J, kG, ge, hoe, ⟨rfl, rfl, fun vs hv => ?_⟩, rfl, rfl, na, rfl, bare2, raises_own T.exC T.tyC, q2⟩
      cases hv
      rfl
    | next => exact False.elim hq'
    | brk => exact False.elim hq'
    | cont => exact False.elim hq'
end
/-! isinstance(e, c) of the exception that a suite holds, an own one with its own dict at dd -/
structure ExcD (K : PySem.W.Frag) (D : Addr) : Prop where
  cl : (PySem.W.clsIn K D).isSome = true
  hg : PySem.W.findIn K (.ref D) "__getattribute__" = some (some (.builtin "BaseException.__getattribute__"))
  hk : PySem.W.findIn K (.ref D) "__getattr__" = some none
  hs : PySem.W.subIn K (.ref D) (.type "BaseException") = some true
  ha : PySem.W.findIn K (.ref D) "__class__" = some (some (.builtin "object.__class__"))
  hn : PySem.W.specialIn K (.builtin "object.__class__") "__get__" = some (some (.builtin "getset_descriptor.__get__"))
  ht : PySem.W.takesIn K (.builtin "object.__class__") = some true
  hm : PySem.W.mroIn K D (.type "object") = some true
def rIsD (K : PySem.W.Frag) (D a dd : Addr) : List V → Hp → VK → Prop := fun xs H Q => ∃ (c : V) (cv : Value) (b : Bool) (fs : List (Str × V)), xs = [.ref a, c] ∧ (∀ u, RelV c u → u = cv) ∧ H dd = some (.xd fs) ∧ PySem.W.kitOne K (.ref D) cv = some b ∧ Q (.bl b) H
theorem call_isD {X : Cx} {a D dd : Addr} {oe : Obj} {pn : List (Addr × Obj)} (C : ExcD X.K D) (hz : Zc (.ref D) (some dd) oe) (hf : ∃ vs, oe.data = .fields vs) : CallR (X.suite a ((a, oe) :: pn)) (.builtin "isinstance") (rIsD X.K D a dd) := by
  intro pins s σ H xs us Q I r h
  obtain ⟨c, cv, b, fs, rfl, hcv, hd, e, q⟩ := h
  cases r with
  | cons rx rr =>
    cases rr with
    | cons rt rr =>
      cases rr
      cases rx
      have ec := hcv _ rt
      subst ec
      obtain ⟨hget, _⟩ := I.pin (a, oe) (List.mem_append.mpr (.inl List.mem_cons_self))
      obtain ⟨vs, hv⟩ := hf
      have hx : ObjOk X.prog X.w H s.heap dd (.xd fs) := I.hok dd _ hd
      obtain ⟨mA, hns, hr⟩ := hx
      obtain ⟨od, ho, hl⟩ := lookIn_ns hns
      have J : PySem.W.InstAt s.heap a oe D (some od) := ⟨hget, hz.1, by unfold PySem.W.notCls; rw [hv] <;> rfl, by rw [hz.2]; exact ho⟩
      exact PySem.W.kia_one (PySem.W.kitx_exc C.cl C.hg C.hk C.hs C.ha C.hn C.ht C.hm) I.kIn J e (fun z => nomatch z) fun tk => ⟨.bl b, H, I.kept (t' := tk) fun _ _ z => z, rfl, q⟩
theorem hot_suite {X : Cx} {a : Addr} {oe : Obj} {cls : Value} {d : Option Addr} {pn : List (Addr × Obj)} (hz : L2N.Zn cls d oe) (hf : ∃ vs, oe.data = .fields vs) : L2H.HotC (X.suite a ((a, oe) :: pn)) := by
  obtain ⟨vs, hv⟩ := hf
  exact ⟨(a, oe), ⟨rfl, vs, hv, hz.2.2 vs hv⟩, List.mem_cons_self⟩
end K1

set_option Elab.async false
set_option linter.all false
set_option maxRecDepth 100000
set_option maxHeartbeats 4000000
namespace K1
open PySem PySem.Spec PyProof.Rows L2
/-! ### the text by places -/
def topS (i : Nat) : Stmt := PySem.Challenge.pw_colonnade_k01_values_in_order.main.body.getD i (.Pass ⟨0, 0, 0, 0⟩)
abbrev sInitN : Stmt := inClass (topS 2) 0
abbrev sInitV : Stmt := inClass (topS 3) 0
abbrev sIsWord : Stmt := topS 11
abbrev sIsName : Stmt := topS 12
abbrev sIsValue : Stmt := topS 13
abbrev sDomainOf : Stmt := topS 14
abbrev sNext : Stmt := topS 15
abbrev sBefore : Stmt := topS 16
abbrev sAbove : Stmt := topS 17
abbrev sBelow : Stmt := topS 18
abbrev sNear : Stmt := topS 19
abbrev sWritten : Stmt := topS 20
abbrev lDigits : Stmt := topS 22
abbrev lDraw : Stmt := topS 23
abbrev lNumber : Stmt := topS 24
abbrev lKeys : Stmt := topS 25
abbrev lLetters : Stmt := topS 26
abbrev lDrawn : Stmt := topS 27
abbrev lWord : Stmt := topS 28
abbrev lSizes : Stmt := topS 29
abbrev lRank : Stmt := topS 30
abbrev lRanked : Stmt := topS 31
abbrev lSame : Stmt := topS 32
abbrev lText : Stmt := topS 33
abbrev lTruth : Stmt := topS 34
abbrev lNeighbours : Stmt := topS 35
abbrev lValue : Stmt := topS 36
abbrev lNear : Stmt := topS 37
abbrev lList : Stmt := topS 38
abbrev lSigns : Stmt := topS 39
abbrev lOdd : Stmt := topS 40
abbrev lRefused : Stmt := topS 41
abbrev lNone : Stmt := topS 42
abbrev lLaw : Stmt := topS 43
/-! ### heaps -/
theorem same_upd {H : Hp} {p : Addr} {o : HO} (h : H p = none) : Same H (upd H p o) := fun b x e => by
  rw [upd_ne (ne_of_none e h)]
  exact e
theorem same_set {H H1 : Hp} {p : Addr} {o : HO} (s : Same H H1) (h : H p = none) : Same H (upd H1 p o) := fun b x e => by
  rw [upd_ne (ne_of_none e h)]
  exact s b x e
theorem Same.seqT {K : PySem.W.Frag} {H H' : Hp} {a : Addr} {xs : List V} (e : Same H H') (h : SqT K H a xs) : SqT K H' a xs := by
  rcases h with (h | ⟨o, h⟩) | h
  · exact .inl (.inl (e _ _ h))
  · exact .inl (.inr ⟨o, e _ _ h⟩)
  · exact .inr h
/-! ### a def of the text that keeps a promise, by its name -/
def Fn (P : Program) (w : World) (K : PySem.W.Frag) (mg : Str → Option Value) (base : Heap) (CX : CXT) (k : Nat) (x : Str) (ps : List Str) (sp : Sp) : Prop :=
  ∃ f fd, mg x = some (.ref f) ∧ FnOk P w K mg base CX k f fd ps sp ∧ PySem.W.keepIn K (.ref f) = true ∧ Binds K fd ps []
section
variable {X : Cx} {CX : CXT} {k : Nat} {ps : List Str} {sp : Sp} {E : XK} {x : Str} {p pos : Pos} {e : Expr} {es : List Expr} {t : TA}
theorem pe_fn (F : Fn X.prog X.w X.K X.mg X.base CX k x ps sp) (hr : Room k X.A) (hg : Gl X x) (hx : Passes CX X E) (ha : PA X (e :: es) t) (hdb : (x == ("__debug__" : Str)) = false := by decide)
    (he : starEach (e :: es) X.env = (false, eval e X.env) :: starEach es X.env := by rfl) (hpl : (backTo pos (starEach es X.env)).any (·.1) = false := by rfl) : PE X (.Call (.Name x p) (e :: es) [] pos) (tCall sp [] E t) := by
  obtain ⟨f, fd, hm, F, hk, hb⟩ := F
  exact pe_call F hr hg hm hk hb .nil hx ha hdb he hpl
theorem pe_fn0 (F : Fn X.prog X.w X.K X.mg X.base CX k x ps sp) (hr : Room k X.A) (hg : Gl X x) (hx : Passes CX X E) (hdb : (x == ("__debug__" : Str)) = false := by decide) : PE X (.Call (.Name x p) [] [] pos) (tCall sp [] E tNil) := by
  obtain ⟨f, fd, hm, F, hk, hb⟩ := F
  exact pe_call0 F hr hg hm hk hb .nil hx hdb
theorem pe_fnS {E : L2.St → XK} (F : Fn X.prog X.w X.K X.mg X.base CX k x ps sp) (hr : Room k X.A) (hg : Gl X x) (hx : ∀ σ, PassesAt CX X σ (E σ)) (ha : PA X (e :: es) t) (hdb : (x == ("__debug__" : Str)) = false := by decide)
    (he : starEach (e :: es) X.env = (false, eval e X.env) :: starEach es X.env := by rfl) (hpl : (backTo pos (starEach es X.env)).any (·.1) = false := by rfl) : PE X (.Call (.Name x p) (e :: es) [] pos) (tCallS sp E t) := by
  obtain ⟨f, fd, hm, F, hk, hb⟩ := F
  exact pe_callS F hr hg hm hk hb hx ha hdb he hpl
/-- a constant of the module -/
theorem pe_gv {v : V} (hg : Gl X x) (hm : ∃ u, X.mg x = some u ∧ RelV v u) (hdb : (x == ("__debug__" : Str)) = false := by decide) : PE X (.Name x pos) (tC v) := by
  obtain ⟨u, hm, r⟩ := hm
  exact pe_glob hg hm r hdb
end
/-- what the top has written: constants, and the built-in names that stand free -/
structure Txt (K : PySem.W.Frag) (mg : Str → Option Value) : Prop where
  letters : ∃ u, mg "LETTERS" = some u ∧ RelV (.str (tx LET)) u
  least : ∃ u, mg "LEAST" = some u ∧ RelV (.int (-999999999)) u
  greatest : ∃ u, mg "GREATEST" = some u ∧ RelV (.int 999999999) u
  longest : ∃ u, mg "LONGEST" = some u ∧ RelV (.int 8) u
  domains : ∃ a, mg "DOMAINS" = some (.ref a) ∧ ∀ H, SqT K H a [.str "number", .str "word"]
  keys : ∃ a, mg "KEY_WORDS" = some (.ref a) ∧ ∀ H, SqT K H a ((["from", "join", "on", "where", "and", "or", "not", "in", "group", "tell", "count", "distinct", "least", "greatest", "sum", "order", "down", "first", "at"] : List Str).map V.str)
  len : mg "len" = none
  all : mg "all" = none
  isi : mg "isinstance" = none
  int : mg "int" = none
  bool : mg "bool" = none
  str : mg "str" = none
  list : mg "list" = none
  sorted : mg "sorted" = none
  set : mg "set" = none
  abs : mg "abs" = none
  range : mg "range" = none
  valueError : mg "ValueError" = none
/-! ### comprehensions over a text -/
/-- a comprehension without a test keeps every item -/
theorem lc_keep {te : TE} {σ : L2.St} {H : Hp} {R : V → Hp → Prop} {Z : Hp → Prop} (h : te σ H R) : tYes σ H fun b H3 => if b = true then te σ H3 R else Z H3 := by
  show if true = true then te σ H R else Z H
  exact iteT h
theorem lc_str {z : Str} {g : TG} {tt : TT} {te : TE} {vs : List Nat} {σ : L2.St} {H1 : Hp} {D : Addr} {Qd : Hp → Prop} (Pv : Nat → Hp → Prop) (h0 : Pv 0 (upd H1 D (.lst [])))
    (hs : ∀ i c H, z.cps[i]? = some c → Pv i H → g (.str ⟨#[c]⟩) (wipe σ vs) H fun σ2 H2 => wipe σ2 vs = wipe σ vs ∧ tt σ2 H2 fun b H3 =>
      if b = true then te σ2 H3 fun y H4 => ∃ acc, H4 D = some (.lst acc) ∧ acc.length < sizeLine ∧ Pv (i + 1) (upd H4 D (.lst (acc ++ [y]))) else Pv (i + 1) H3) (hd : ∀ H, Pv z.cps.size H → Qd H) :
    ∃ W : Nat → Nat → Hp → Prop, (∃ m, W 0 m (upd H1 D (.lst []))) ∧ ∀ i m H, W i m H →
      ((Its z).stop i H ∧ Qd H) ∨ ((Its z).go i H ∧ ∃ Nx : Hp → Prop, (∀ H', Nx H' → ∃ m', m' < m ∧ W (i + 1) m' H') ∧ ∀ x H', (Its z).yld i H x H' → g x (wipe σ vs) H' fun σ2 H2 => wipe σ2 vs = wipe σ vs ∧ tt σ2 H2 fun b H3 =>
        if b = true then te σ2 H3 fun y H4 => ∃ acc, H4 D = some (.lst acc) ∧ acc.length < sizeLine ∧ Nx (upd H4 D (.lst (acc ++ [y]))) else Nx H3) := by
  refine ⟨fun i m H => m = z.cps.size - i ∧ i ≤ z.cps.size ∧ Pv i H, ⟨z.cps.size, by simp, Nat.zero_le _, h0⟩, ?_⟩
  rintro i m H ⟨rfl, hi, p⟩
  by_cases hlt : i < z.cps.size
  · refine .inr ⟨hlt, Pv (i + 1), fun H' p' => ⟨z.cps.size - (i + 1), by omega, rfl, hlt, p'⟩, fun x H' y => ?_⟩
    obtain ⟨e, c, hc, ex⟩ := y
    subst e ex
    exact hs i c _ hc p
  · obtain rfl : i = z.cps.size := by omega
    exact .inl ⟨Nat.le_refl _, hd H p⟩
end K1

set_option Elab.async false
set_option linter.all false
set_option maxRecDepth 100000
set_option maxHeartbeats 4000000
namespace K1
open PySem PySem.Spec PyProof.Rows L2
def isWl (l : List Nat) : Bool := decide (1 ≤ l.length) && (decide (l.length ≤ 8) && l.all fun c => decide (c ∈ LET))
theorem isWl_iff {l : List Nat} : isWl l = true ↔ isW l := by
  unfold isWl isW
  rw [Bool.and_eq_true, Bool.and_eq_true, decide_eq_true_eq, decide_eq_true_eq, List.all_eq_true]
  constructor
  · rintro ⟨a, b, c⟩
    exact ⟨a, b, fun x hx => (LET_mem x).mp (of_decide_eq_true (c x hx))⟩
  · rintro ⟨a, b, c⟩
    exact ⟨a, b, fun x hx => decide_eq_true ((LET_mem x).mpr (c x hx))⟩
def spIsWord : Sp := fun vs H Q _ => ∃ l : List Nat, vs = [.str (tx l)] ∧ l.length ≤ 1000 ∧ ∀ H', Same H H' → Q (.bl (isWl l)) H'
section
variable {P : Program} {w : World} {K : PySem.W.Frag} {mg : Str → Option Value} {base : Heap}
theorem scIsWord : FnScope ["text", "letter"] ["text"] (defScope sIsWord) := ⟨rfl, rfl, rfl, by decide +kernel, rfl, by decide +kernel, by decide +kernel⟩
theorem ok_isWord {f : Addr} {fd : FuncData} (F : Fun K "is_word" "is_word" sIsWord f fd) (T : Txt K mg) : FnOk P w K mg base CX0 1 f fd ["text"] spIsWord := by
  refine F.ok scIsWord (fun vs H Q E h => ?_) (fun cdv A outer s H vs Q E hr h => ?_)
  · obtain ⟨l, rfl, _⟩ := h
    rfl
  · obtain ⟨l, rfl, hl, q⟩ := h
    refine ⟨_, pss_one (ps_ret (pe_and (pe_chain op_le op_le pe_int (pe_callB call_len_str (by rfl) T.len PySem.boot_len (pa_cons (pv 0) pa_nil)) (pe_gv (by rfl) T.longest))
      (pe_one (pe_callB (cr_all rfl) (by rfl) T.all PyProof.Rows.boot_all (pa_cons (pe_lc (own := [("letter", 1)]) (g := gName 1) (tt := tYes) rfl scIsWord.nd (pi_str (pv 0)) (blkOk_by (N := ["text", "letter"]) (sc := defScope sIsWord) (by decide +kernel))
        (fun _ _ _ _ _ => pg_name (i := 1) scIsWord.nd rfl (Or.inl rfl)) (fun _ _ _ _ _ => pts_nil) (fun _ _ _ _ _ => pe_cmpR op_in_sign (pv 1) (pe_gv (by rfl) T.letters) rfl)) pa_nil))))), ?_⟩
    have hz : (tx l).length ≤ sizeLine := by rw [tx_len]; exact Nat.le_of_lt (small1000 hl)
    have fin : ∀ b, isWl l = b → ∀ H', Same H H' → Q (.bl b) H' := fun b e H' s => by rw [← e]; exact q H' s
    refine ⟨_, rfl, _, rfl, hz, _, _, rfl, rfl, _, rfl, ite2 (fun h1 => ?_) (fun h1 => ?_)⟩
    · refine ⟨_, _, rfl, rfl, _, rfl, ite2 (fun h2 => ?_) (fun h2 => ?_)⟩
      · have a1 := of_decide_eq_true h1
        have a2 := of_decide_eq_true h2
        rw [tx_len] at a1 a2
        refine ⟨_, rfl, tx l, rfl, fun D nD => ?_⟩
        have sD : Same H (upd H D (.lst [])) := same_upd nD
        refine lc_str (fun i H' => Same H H' ∧ H' D = some (.lst ((l.take i).map fun c => .bl (decide (c ∈ LET))))) ⟨sD, upd_same⟩ (fun i c H' hc ⟨s1, e1⟩ => ?_) (fun H' ⟨s1, e1⟩ => ?_)
        · have hc' : l[i]? = some c := by
            have := hc
            rw [← Array.getElem?_toList] at this
            exact this
          refine ⟨rfl, lc_keep ?_⟩
          refine ⟨_, rfl, c, tx LET, rfl, rfl, _, e1, ?_, same_set s1 nD, ?_⟩
          · rw [List.length_map, List.length_take]
            exact Nat.lt_of_le_of_lt (Nat.min_le_right _ _) (small1000 hl)
          · rw [upd_same, List.take_add_one, hc', List.map_append]
            rfl
        · refine ⟨D, l.map fun c => decide (c ∈ LET), rfl, SqL.of ?_, ?_⟩
          · have es : (tx l).cps.size = l.length := tx_len l
            rw [e1, es, List.take_length, List.map_map]
            rfl
          · refine fin _ ?_ _ s1
            unfold isWl
            rw [decide_eq_true (by omega), decide_eq_true (by omega), Bool.true_and, Bool.true_and, List.all_map]
            rfl
      · have a2 := of_decide_eq_false (Bool.eq_false_iff.mpr h2)
        rw [tx_len] at a2
        refine fin _ ?_ _ (Same.refl H)
        unfold isWl
        rw [decide_eq_false (p := l.length ≤ 8) (by omega), Bool.false_and, Bool.and_false]
    · have a1 := of_decide_eq_false (Bool.eq_false_iff.mpr h1)
      rw [tx_len] at a1
      refine ⟨_, rfl, iteF (fin _ ?_ _ (Same.refl H))⟩
      unfold isWl
      rw [decide_eq_false (by omega), Bool.false_and]
end
end K1

set_option Elab.async false
set_option linter.all false
set_option maxRecDepth 100000
set_option maxHeartbeats 4000000
namespace K1
open PySem PySem.Spec PyProof.Rows L2
/-- the name of a domain: words, numbers -/
def dom (w : Bool) : Str := if w then "word" else "number"
theorem dom_num (w : Bool) : decide (V.str (dom w) = V.str "number") = !w := by cases w <;> decide +kernel
theorem dom_word (w : Bool) : decide (V.str (dom w) = V.str "word") = w := by cases w <;> decide +kernel
def isVal (w : Bool) (v : V) : Prop :=
  match w with
  | true => ∃ l, isW l ∧ v = .str (tx l)
  | false => ∃ i : Int, (-999999999 ≤ i ∧ i ≤ 999999999) ∧ v = .int i
/-- is_value -/
def isValB (w : Bool) (v : V) : Bool :=
  match w, v with
  | true, .str z => isWl z.cps.toList
  | false, .int i => decide (-999999999 ≤ i) && decide (i ≤ 999999999)
  | _, _ => false
theorem isValB_iff {w : Bool} {v : V} : isValB w v = true ↔ isVal w v := by
  cases w with
  | true =>
    constructor
    · intro h
      cases v with
      | str z => exact ⟨z.cps.toList, isWl_iff.mp h, by rw [tx_of]⟩
      | _ => exact Bool.noConfusion h
    · rintro ⟨l, h, rfl⟩
      exact isWl_iff.mpr h
  | false =>
    constructor
    · intro h
      cases v with
      | int i =>
        have h' : (decide (-999999999 ≤ i) && decide (i ≤ 999999999)) = true := h
        rw [Bool.and_eq_true, decide_eq_true_eq, decide_eq_true_eq] at h'
        exact ⟨i, h', rfl⟩
      | _ => exact Bool.noConfusion h
    · rintro ⟨i, h, rfl⟩
      show (decide (-999999999 ≤ i) && decide (i ≤ 999999999)) = true
      rw [decide_eq_true h.1, decide_eq_true h.2]
      rfl
/-- what is asked: numbers, truth values, None, texts that are not too long -/
inductive Askd : V → Prop where
  | int (i : Int) : Askd (.int i)
  | str (l : List Nat) (h : l.length ≤ 1000) : Askd (.str (tx l))
  | bl (b : Bool) : Askd (.bl b)
  | non : Askd .non
theorem isVal.askd {w : Bool} {v : V} (h : isVal w v) : Askd v := by
  cases w with
  | true =>
    obtain ⟨l, hl, rfl⟩ := h
    exact .str l (by have := hl.2.1; omega)
  | false =>
    obtain ⟨i, _, rfl⟩ := h
    exact .int i
/-- a number or a text that is no value -/
structure OddV (v : V) : Prop where
  askd : Askd v
  kind : (∃ i, v = .int i) ∨ ∃ z, v = .str z
  no : ∀ w, isValB w v = false
/-- the number of a value -/
def rk : V → Int
  | .int i => i + 999999999
  | .str z => P 8 z.cps.toList - 1
  | _ => 0
/-- how many values a domain has -/
def NV (w : Bool) : Int := if w then NW else 1999999999
def nthV (w : Bool) (r : Int) : V := if w then .str (tx (W 8 r)) else .int (r - 999999999)
/-- the value with this number, or None -/
def rkd (w : Bool) (r : Int) : V := if 0 ≤ r ∧ r < NV w then nthV w r else .non
theorem rk_range {w : Bool} {v : V} (h : isVal w v) : 0 ≤ rk v ∧ rk v < NV w := by
  cases w with
  | true =>
    obtain ⟨l, hl, rfl⟩ := h
    exact isW_range hl
  | false =>
    obtain ⟨i, hi, rfl⟩ := h
    show 0 ≤ i + 999999999 ∧ i + 999999999 < 1999999999
    omega
theorem nth_rk {w : Bool} {v : V} (h : isVal w v) : nthV w (rk v) = v := by
  cases w with
  | true =>
    obtain ⟨l, hl, rfl⟩ := h
    show V.str (tx (W 8 (P 8 l - 1))) = _
    rw [W8_P hl]
  | false =>
    obtain ⟨i, hi, rfl⟩ := h
    show V.int (i + 999999999 - 999999999) = _
    congr 1
    omega
theorem nth_val {w : Bool} {r : Int} (h0 : 0 ≤ r) (h1 : r < NV w) : isVal w (nthV w r) ∧ rk (nthV w r) = r := by
  cases w with
  | true =>
    obtain ⟨a, b⟩ := W8_isW h0 h1
    refine ⟨⟨_, a, rfl⟩, ?_⟩
    show P 8 (W 8 r) - 1 = r
    omega
  | false =>
    have h1' : r < 1999999999 := h1
    refine ⟨⟨r - 999999999, by omega, rfl⟩, ?_⟩
    show r - 999999999 + 999999999 = r
    omega
theorem rkd_rk {w : Bool} {v : V} (h : isVal w v) : rkd w (rk v) = v := by
  unfold rkd
  rw [if_pos (rk_range h), nth_rk h]
theorem rkd_in {w : Bool} {r : Int} (h0 : 0 ≤ r) (h1 : r < NV w) : rkd w r = nthV w r := if_pos ⟨h0, h1⟩
theorem rkd_out {w : Bool} {r : Int} (h : ¬ (0 ≤ r ∧ r < NV w)) : rkd w r = .non := if_neg h
theorem rkd_val {w : Bool} {r : Int} : (rkd w r = .non ∧ ¬ (0 ≤ r ∧ r < NV w)) ∨ (isVal w (rkd w r) ∧ rk (rkd w r) = r ∧ 0 ≤ r ∧ r < NV w) := by
  by_cases h : 0 ≤ r ∧ r < NV w
  · rw [rkd_in h.1 h.2]
    obtain ⟨a, b⟩ := nth_val h.1 h.2
    exact .inr ⟨a, b, h.1, h.2⟩
  · exact .inl ⟨rkd_out h, h⟩
theorem isVal_non {w : Bool} : ¬ isVal w .non := by
  intro h
  cases w with
  | true =>
    obtain ⟨l, _, e⟩ := h
    cases e
  | false =>
    obtain ⟨l, _, e⟩ := h
    cases e
theorem isVal_inj {w : Bool} {u v : V} (hu : isVal w u) (hv : isVal w v) (e : rk u = rk v) : u = v := by
  rw [← nth_rk hu, ← nth_rk hv, e]
/-! kinds -/
def tyN : V → String
  | .non => "NoneType"
  | .bl _ => "bool"
  | .int _ => "int"
  | .str _ => "str"
  | _ => "list"
theorem tyX {K : PySem.W.Frag} {H : Hp} {v : V} (h : Askd v) : TyX K H v (.type (tyN v)) := by
  cases h with
  | int i => exact .base (.int i)
  | str l _ => exact .base (.str _)
  | bl b => exact .base (.bl b)
  | non => exact .base .non
theorem k_int_int : kitB "int" "int" = some true := by decide +kernel
theorem k_int_bool : kitB "int" "bool" = some false := by decide +kernel
theorem k_int_str : kitB "int" "str" = some false := by decide +kernel
theorem k_str_int : kitB "str" "int" = some false := by decide +kernel
theorem k_str_bool : kitB "str" "bool" = some false := by decide +kernel
theorem k_str_str : kitB "str" "str" = some true := by decide +kernel
theorem k_bool_int : kitB "bool" "int" = some true := by decide +kernel
theorem k_bool_bool : kitB "bool" "bool" = some true := by decide +kernel
theorem k_bool_str : kitB "bool" "str" = some false := by decide +kernel
theorem k_NoneType_int : kitB "NoneType" "int" = some false := by decide +kernel
theorem k_NoneType_bool : kitB "NoneType" "bool" = some false := by decide +kernel
theorem k_NoneType_str : kitB "NoneType" "str" = some false := by decide +kernel
theorem k_list_list : kitB "list" "list" = some true := by decide +kernel
end K1

set_option Elab.async false
set_option linter.all false
set_option maxRecDepth 100000
set_option maxHeartbeats 4000000
namespace K1
open PySem PySem.Spec PyProof.Rows L2
def KEYS : List Str := ["from", "join", "on", "where", "and", "or", "not", "in", "group", "tell", "count", "distinct", "least", "greatest", "sum", "order", "down", "first", "at"]
/-- is_name -/
def isNm (l : List Nat) : Bool := isWl l && !inV (.str (tx l)) (KEYS.map V.str)
theorem keys_flat : ((KEYS.map V.str).all flatV) = true := by decide +kernel
def spIsName : Sp := fun vs H Q _ => ∃ l : List Nat, vs = [.str (tx l)] ∧ l.length ≤ 1000 ∧ ∀ H', Same H H' → Q (.bl (isNm l)) H'
def spIsValue : Sp := fun vs H Q _ => ∃ (w : Bool) (v : V), vs = [.str (dom w), v] ∧ Askd v ∧ ∀ H', Same H H' → Q (.bl (isValB w v)) H'
section
variable {P : Program} {w : World} {K : PySem.W.Frag} {mg : Str → Option Value} {base : Heap}
theorem scIsName : FnScope ["text"] ["text"] (defScope sIsName) := ⟨rfl, rfl, rfl, by decide +kernel, rfl, by decide +kernel, by decide +kernel⟩
theorem ok_isName {f : Addr} {fd : FuncData} (F : Fun K "is_name" "is_name" sIsName f fd) (T : Txt K mg) (GW : Fn P w K mg base CX0 1 "is_word" ["text"] spIsWord) : FnOk P w K mg base CX0 2 f fd ["text"] spIsName := by
  refine F.ok scIsName (fun vs H Q E h => ?_) (fun cdv A outer s H vs Q E hr h => ?_)
  · obtain ⟨l, rfl, _⟩ := h
    rfl
  · obtain ⟨l, rfl, hl, q⟩ := h
    obtain ⟨a, hma, hka⟩ := T.keys
    refine ⟨_, pss_one (ps_ret (pe_and (pe_fn GW hr (by rfl) pass0 (pa_cons (pv 0) pa_nil)) (pe_one (pe_cmpR op_notIn_seq (pv 0) (pe_gv (v := .ref a) (by rfl) ⟨_, hma, rfl⟩) rfl)))), ?_⟩
    refine ⟨_, rfl, l, rfl, hl, fun H' s' => ⟨_, rfl, ?_⟩⟩
    cases hb : isWl l with
    | true =>
      refine iteT ⟨_, rfl, a, KEYS.map V.str, rfl, .inr (hka _), rfl, keys_flat, ?_⟩
      have e : isNm l = !inV (.str (tx l)) (KEYS.map V.str) := by
        unfold isNm
        rw [hb, Bool.true_and]
      show Q (.bl (!inV (.str (tx l)) (KEYS.map V.str))) H'
      rw [← e]
      exact q _ s'
    | false =>
      have e : isNm l = false := by
        unfold isNm
        rw [hb, Bool.false_and]
      refine iteF ?_
      rw [← e]
      exact q _ s'
/-! is_value -/
theorem scIsValue : FnScope ["domain", "value"] ["domain", "value"] (defScope sIsValue) := ⟨rfl, rfl, rfl, by decide +kernel, rfl, by decide +kernel, by decide +kernel⟩
theorem ok_isValue {f : Addr} {fd : FuncData} (F : Fun K "is_value" "is_value" sIsValue f fd) (T : Txt K mg) (GW : Fn P w K mg base CX0 1 "is_word" ["text"] spIsWord) : FnOk P w K mg base CX0 2 f fd ["domain", "value"] spIsValue := by
  refine F.ok scIsValue (fun vs H Q E h => ?_) (fun cdv A outer s H vs Q E hr h => ?_)
  · obtain ⟨d, v, rfl, _⟩ := h
    rfl
  · obtain ⟨d, v, rfl, hv, q⟩ := h
    refine ⟨_, pss_cons (ps_if (pt_cmpR op_eq (pv 0) pe_str (nomark _))
        (pss_one (ps_ret (pe_and (pe_callB call_isi (by rfl) T.isi PyProof.Rows.boot_isinstance (pa_cons (pv 1) (pa_cons (pe_bltn (v := .ty "int") (by rfl) T.int PyProof.Rows.boot_int rfl) pa_nil)))
          (pe_and (pe_not (pe_callB call_isi (by rfl) T.isi PyProof.Rows.boot_isinstance (pa_cons (pv 1) (pa_cons (pe_bltn (v := .ty "bool") (by rfl) T.bool (by decide +kernel) rfl) pa_nil))))
          (pe_one (pe_chain op_le op_le (pe_gv (by rfl) T.least) (pv 1) (pe_gv (by rfl) T.greatest))))))) pss_nil)
      (pss_one (ps_ret (pe_and (pe_cmpR op_eq (pv 0) pe_str (nomark _))
          (pe_and (pe_callB call_isi (by rfl) T.isi PyProof.Rows.boot_isinstance (pa_cons (pv 1) (pa_cons (pe_bltn (v := .ty "str") (by rfl) T.str PyProof.Rows.boot_str rfl) pa_nil)))
          (pe_one (pe_fn GW hr (by rfl) pass0 (pa_cons (pv 1) pa_nil))))))), ?_⟩
    refine ⟨_, rfl, rfl, _, rfl, ?_⟩
    rw [show decide (V.str (dom d) = V.str "number") = !d from dom_num d]
    have same := Same.refl H
    cases d with
    | false =>
      refine iteT ?_
      cases hv with
      | int i =>
        refine ⟨_, rfl, .int i, .ty "int", _, _, true, rfl, .ty "int", tyX (.int i), kit_ty k_int_int, _, rfl, iteT ?_⟩
        refine ⟨_, rfl, .int i, .ty "bool", _, _, false, rfl, .ty "bool", tyX (.int i), kit_ty k_int_bool, _, rfl, _, rfl, iteT ?_⟩
        refine ⟨_, rfl, _, _, rfl, rfl, _, rfl, ite2 (fun h1 => ?_) (fun h1 => ?_)⟩
        · refine ⟨_, _, rfl, rfl, ?_⟩
          have e : isValB false (.int i) = decide (i ≤ 999999999) := by
            show (decide (-999999999 ≤ i) && decide (i ≤ 999999999)) = _
            rw [h1, Bool.true_and]
          show Q (.bl (decide (i ≤ 999999999))) H
          rw [← e]
          exact q _ same
        · have e : isValB false (.int i) = false := by
            show (decide (-999999999 ≤ i) && decide (i ≤ 999999999)) = _
            rw [Bool.eq_false_iff.mpr h1, Bool.false_and]
          rw [← e]
          exact q _ same
      | str l hl =>
        refine ⟨_, rfl, .str (tx l), .ty "int", _, _, false, rfl, .ty "int", tyX (.str l hl), kit_ty k_str_int, _, rfl, iteF ?_⟩
        exact q _ same
      | bl b =>
        refine ⟨_, rfl, .bl b, .ty "int", _, _, true, rfl, .ty "int", tyX (.bl b), kit_ty k_bool_int, _, rfl, iteT ?_⟩
        refine ⟨_, rfl, .bl b, .ty "bool", _, _, true, rfl, .ty "bool", tyX (.bl b), kit_ty k_bool_bool, _, rfl, _, rfl, iteF ?_⟩
        exact q _ same
      | non =>
        refine ⟨_, rfl, .non, .ty "int", _, _, false, rfl, .ty "int", tyX .non, kit_ty k_NoneType_int, _, rfl, iteF ?_⟩
        exact q _ same
    | true =>
      refine iteF ?_
      refine ⟨_, rfl, rfl, _, rfl, ?_⟩
      rw [show decide (V.str (dom true) = V.str "word") = true from dom_word true]
      refine iteT ?_
      cases hv with
      | int i =>
        refine ⟨_, rfl, .int i, .ty "str", _, _, false, rfl, .ty "str", tyX (.int i), kit_ty k_int_str, _, rfl, iteF ?_⟩
        exact q _ same
      | str l hl =>
        refine ⟨_, rfl, .str (tx l), .ty "str", _, _, true, rfl, .ty "str", tyX (.str l hl), kit_ty k_str_str, _, rfl, iteT ?_⟩
        exact ⟨_, rfl, l, rfl, hl, q⟩
      | bl b =>
        refine ⟨_, rfl, .bl b, .ty "str", _, _, false, rfl, .ty "str", tyX (.bl b), kit_ty k_bool_str, _, rfl, iteF ?_⟩
        exact q _ same
      | non =>
        refine ⟨_, rfl, .non, .ty "str", _, _, false, rfl, .ty "str", tyX .non, kit_ty k_NoneType_str, _, rfl, iteF ?_⟩
        exact q _ same
end
end K1

set_option Elab.async false
set_option linter.all false
set_option maxRecDepth 100000
set_option maxHeartbeats 4000000
namespace K1
open PySem PySem.Spec PyProof.Rows L2
/-- what the written part says of BadValue, at C, its __init__ at fI -/
structure ExcT (K : PySem.W.Frag) (mg : Str → Option Value) (C fI : Addr) : Prop where
  gC : mg "BadValue" = some (.ref C)
  oex : OexC K C
  iC : PySem.W.findIn K (.ref C) "__init__" = some (some (.ref fI))
  tI : PySem.W.typeIn K (.ref fI) = some (.type "function")
  noV : PySem.W.findIn K (.ref C) "value" = some none
/-- self.value = value, of a fresh exception -/
def spInit (K : PySem.W.Frag) (C : Addr) : Sp := fun vs H Q _ => ∃ (a : Addr) (y : V), vs = [.ref a, y] ∧ H a = some (exo a C none) ∧
  ∀ dx, H dx = none → dx ≠ a → Q .non (upd (upd H dx (exd dx [("value", y)])) a (exo a C (some dx)))
/-- a value is asked: it belongs to a domain, or it is refused -/
def Refused (C : Addr) (v : V) (H : Hp) (E : XK) : Prop := OddV v → ∀ (H' : Hp) (d : Addr), Same H H' → H' d = some (.xd [("value", v)]) → E (.ref C) (some d) H'
def spDomainOf (C : Addr) : Sp := fun vs H Q E => ∃ v : V, vs = [v] ∧ ((∃ w, isVal w v) ∨ OddV v) ∧ (∀ w, isVal w v → ∀ H', Same H H' → Q (.str (dom w)) H') ∧ Refused C v H E
theorem isVal_other {w : Bool} {v : V} (h : isVal w v) : isValB (!w) v = false := by
  cases w with
  | true =>
    obtain ⟨l, _, rfl⟩ := h
    rfl
  | false =>
    obtain ⟨i, _, rfl⟩ := h
    rfl
section
variable {P : Program} {w : World} {K : PySem.W.Frag} {mg : Str → Option Value} {base : Heap}
theorem scInitV : FnScope ["self", "value"] ["self", "value"] (defScope sInitV) := ⟨rfl, rfl, rfl, by decide +kernel, rfl, by decide +kernel, by decide +kernel⟩
theorem ok_initV {f C fI : Addr} {fd : FuncData} (F : Fun K "__init__" "BadValue.__init__" sInitV f fd) (T : ExcT K mg C fI) : FnOk P w K mg base CX0 1 f fd ["self", "value"] (spInit K C) := by
  refine F.ok scInitV (fun vs H Q E h => ?_) (fun cdv A outer s H vs Q E hr h => ?_)
  · obtain ⟨a, y, rfl, _⟩ := h
    rfl
  · obtain ⟨a, y, rfl, ha, q⟩ := h
    refine ⟨_, pss_one (ps_ost (pv 0) (pv 1) rfl), ?_⟩
    exact ⟨_, rfl, _, rfl, a, C, rfl, T.oex, T.noV, .inl ⟨ha, q⟩⟩
theorem scDomainOf : FnScope ["value", "domain"] ["value"] (defScope sDomainOf) := ⟨rfl, rfl, rfl, by decide +kernel, rfl, by decide +kernel, by decide +kernel⟩
theorem ok_domainOf {f C fI : Addr} {fd fdI : FuncData} (F : Fun K "domain_of" "domain_of" sDomainOf f fd) (T : Txt K mg) (TE : ExcT K mg C fI) (GV : Fn P w K mg base CX0 2 "is_value" ["domain", "value"] spIsValue)
    (GI : FnOk P w K mg base CX0 1 fI fdI ["self", "value"] (spInit K C)) (bI : Binds K fdI ["self", "value"] []) : FnOk P w K mg base (L2N.CX P w) 3 f fd ["value"] (spDomainOf C) := by
  refine okN F scDomainOf (fun vs H Q E h => ?_) (fun cdv A outer s H vs Q E hr h => ?_)
  · obtain ⟨v, rfl, _⟩ := h
    rfl
  · obtain ⟨v, rfl, hv, q, e⟩ := h
    obtain ⟨aD, hmD, hD⟩ := T.domains
    refine ⟨_, pss_cons (ps_for (L2.passes_of rfl) rfl (pi_tup (pe_gv (v := .ref aD) (by rfl) ⟨_, hmD, rfl⟩)) (pg_name (i := 1) scDomainOf.nd rfl (.inl rfl))
        (pss_one (ps_if (pt_val (pe_fn GV hr (by rfl) pass0 (pa_cons (pv 1) (pa_cons (pv 0) pa_nil)))) (pss_one (ps_ret (pv 1))) pss_nil)))
      (pss_one (L2N.ps_raise rfl (L2N.takes_of rfl rfl rfl rfl) (pmk_N TE.oex TE.iC TE.tI GI hr bI pass0 (by rfl) TE.gC (pa_cons (pv 0) pa_nil)))), ?_⟩
    have ask : Askd v := by
      rcases hv with ⟨w, hw⟩ | o
      · exact hw.askd
      · exact o.askd
    refine ⟨aD, rfl, ⟨_, hD _⟩, for_tup (K := K) (a := aD) (xs := [.str "number", .str "word"]) (fun i σ H' => ∃ y1, σ = [some v, y1] ∧ Same H H' ∧ (0 < i → isValB false v = false) ∧ (1 < i → isValB true v = false))
      ⟨none, rfl, Same.refl H, fun z => absurd z (by decide), fun z => absurd z (by decide)⟩ (fun i σ H' _ _ => hD H') (fun i x σ H' hx ⟨y1, es, s1, g0, g1⟩ => ?_) (fun σ H' ⟨y1, es, s1, g0, g1⟩ => ?_)⟩
    · subst es
      have turn : ∀ w : Bool, x = .str (dom w) → (isValB w v = false → (0 < i + 1 → isValB false v = false) ∧ (1 < i + 1 → isValB true v = false)) →
          tIfS (tB (tCall spIsValue [] E0 (tCons (tVar 1) (tCons (tVar 0) tNil)))) (tRet (tVar 1)) tNext
            { nx := fun σ H' => ∃ y1, σ = [some v, y1] ∧ Same H H' ∧ (0 < i + 1 → isValB false v = false) ∧ (1 < i + 1 → isValB true v = false), rt := Q } [some v, some x] H' := by
        intro w ex hn
        refine ⟨x, rfl, v, rfl, w, v, by rw [ex]; rfl, ask, fun H2 s2 => ⟨_, rfl, ite2 (fun hb => ?_) (fun hb => ?_)⟩⟩
        · refine ⟨x, rfl, ?_⟩
          rw [ex]
          exact q w (isValB_iff.mp hb) H2 (s1.trans s2)
        · exact ⟨_, rfl, s1.trans s2, hn (Bool.eq_false_iff.mpr hb)⟩
      match i, hx with
      | 0, hx =>
        cases hx
        exact turn false rfl fun hb => ⟨fun _ => hb, fun z => absurd z (by omega)⟩
      | 1, hx =>
        cases hx
        exact turn true rfl fun hb => ⟨fun _ => g0 (by omega), fun _ => hb⟩
      | i + 2, hx => cases hx
    · subst es
      have odd : OddV v := by
        rcases hv with ⟨w, hw⟩ | o
        · exfalso
          have z := isValB_iff.mpr hw
          cases w with
          | true => rw [g1 (by decide)] at z; cases z
          | false => rw [g0 (by decide)] at z; cases z
        · exact o
      refine ⟨v, rfl, (by show 1 ≤ 1000; decide), fun a na => ?_⟩
      refine ⟨a, v, rfl, upd_same, fun dx ndx nda => ⟨rfl, dx, [("value", v)], upd_same, ?_, ?_, ?_⟩⟩
      · rw [upd_ne nda, upd_same]
      · rw [upd_ne nda] at ndx
        exact ndx
      · rw [upd_ne nda] at ndx
        refine e odd _ dx (fun b o hb => ?_) upd_same
        have h1 := s1 b o hb
        have nba : b ≠ a := ne_of_none h1 na
        have nbd : b ≠ dx := ne_of_none h1 ndx
        rw [upd_ne nbd, del_ne nba, upd_ne nba, upd_ne nbd, upd_ne nba]
        exact h1
end
end K1

set_option Elab.async false
set_option linter.all false
set_option maxRecDepth 100000
set_option maxHeartbeats 4000000
/-! the neighbours, over lists of letters and the text functions of the model -/
namespace K1
open PySem PySem.Spec PyProof.Rows L2
theorem rkd_word {l m : List Nat} {d : Int} (hl : isW l) (hm : isW m) (e : P 8 m = P 8 l + d) : rkd true (rk (.str (tx l)) + d) = .str (tx m) := by
  have hr := isW_range hm
  have e1 : rk (.str (tx l)) + d = P 8 m - 1 := by
    show P 8 l - 1 + d = P 8 m - 1
    omega
  have e2 : rkd true (P 8 m - 1) = nthV true (P 8 m - 1) := rkd_in hr.1 hr.2
  rw [e1, e2]
  show V.str (tx (W 8 (P 8 m - 1))) = _
  rw [W8_P hm]
theorem rkd_wout {l : List Nat} {d : Int} (h : P 8 l - 1 + d < 0 ∨ NW ≤ P 8 l - 1 + d) : rkd true (rk (.str (tx l)) + d) = .non := by
  refine rkd_out ?_
  show ¬ (0 ≤ P 8 l - 1 + d ∧ P 8 l - 1 + d < NW)
  omega
theorem rkd_num (i d : Int) : rkd false (rk (.int i) + d) = if -999999999 ≤ i + d ∧ i + d ≤ 999999999 then .int (i + d) else .non := by
  unfold rkd
  show (if 0 ≤ i + 999999999 + d ∧ i + 999999999 + d < 1999999999 then V.int (i + 999999999 + d - 999999999) else V.non) = _
  by_cases h : -999999999 ≤ i + d ∧ i + d ≤ 999999999
  · rw [if_pos h, if_pos (by omega)]
    congr 1
    omega
  · rw [if_neg h, if_neg (by omega)]
/-- a word that is not full: an a behind it -/
theorem nx_short {l : List Nat} (h : isW l) (h8 : l.length < 8) : rkd true (rk (.str (tx l)) + 1) = .str (tx (l ++ [97])) :=
  rkd_word h ⟨by rw [List.length_append]; have := h.1; omega, by rw [List.length_append, List.length_singleton]; omega, h.2.2.app (Lets.cons ⟨by omega, by omega⟩ Lets.nil)⟩ (P_a h8)
/-- a full word: its end of z off, the last letter that is left one further -/
theorem nx_full {b : List Nat} {c k : Nat} (h : isW (b ++ [c] ++ List.replicate k 122)) (h8 : (b ++ [c] ++ List.replicate k 122).length = 8) (hc : c ≠ 122) :
    rkd true (rk (.str (tx (b ++ [c] ++ List.replicate k 122))) + 1) = .str (tx (b ++ [c + 1])) := by
  have hlen : b.length + 1 + k = 8 := by
    simp only [List.length_append, List.length_singleton, List.length_replicate] at h8
    exact h8
  have hcl : Let c := h.2.2 c (by simp)
  refine rkd_word h ⟨by simp, by rw [List.length_append, List.length_singleton]; omega, ?_⟩ ?_
  · exact (h.2.2.left.left).app (Lets.cons ⟨by have := hcl.1; omega, by have := hcl.2; omega⟩ Lets.nil)
  · rw [P_step (k := k) hlen, List.append_assoc]
    rfl
theorem nx_last {k : Nat} (h : isW (List.replicate k 122)) (h8 : k = 8) : rkd true (rk (.str (tx (List.replicate k 122))) + 1) = .non := by
  subst h8
  refine rkd_wout (.inr ?_)
  rw [P_zs, S8]
  omega
theorem bf_first : rkd true (rk (.str (tx [97])) + -1) = .non := by
  refine rkd_wout (.inl ?_)
  have : P 8 [97] = 1 := by decide
  omega
theorem bf_a {b : List Nat} (h : isW (b ++ [97])) (hb : b ≠ []) : rkd true (rk (.str (tx (b ++ [97]))) + -1) = .str (tx b) := by
  have h2 := h.2.1
  rw [List.length_append, List.length_singleton] at h2
  have hbl : 1 ≤ b.length := by
    cases b with
    | nil => exact absurd rfl hb
    | cons x r => simp
  refine rkd_word h ⟨hbl, by omega, h.2.2.left⟩ ?_
  have := P_a (n := 8) (l := b) (by omega)
  omega
theorem bf_other {b : List Nat} {c : Nat} (h : isW (b ++ [c])) (hc : c ≠ 97) : rkd true (rk (.str (tx (b ++ [c]))) + -1) = .str (tx (b ++ [c - 1] ++ List.replicate (8 - (b ++ [c - 1]).length) 122)) := by
  have h2 := h.2.1
  rw [List.length_append, List.length_singleton] at h2
  have hcl : Let c := h.2.2 c (by simp)
  have hl1 : (b ++ [c - 1]).length = b.length + 1 := by rw [List.length_append, List.length_singleton]
  have hc1 : c - 1 + 1 = c := by have := hcl.1; omega
  refine rkd_word h ⟨?_, ?_, ?_⟩ ?_
  · rw [List.length_append, hl1]
    omega
  · rw [List.length_append, hl1, List.length_replicate]
    omega
  · exact ((h.2.2.left).app (Lets.cons ⟨by have := hcl.1; omega, by have := hcl.2; omega⟩ Lets.nil)).app (Lets.rep _ ⟨by omega, by omega⟩)
  · have := P_step (n := 8) (k := 8 - (b.length + 1)) (c := c - 1) (l := b) (by omega)
    rw [hc1] at this
    rw [hl1, this, List.append_assoc]
    show _ = P 8 (b ++ (c - 1) :: List.replicate (8 - (b.length + 1)) 122) + 1 + -1
    show P 8 (b ++ ((c - 1) :: List.replicate (8 - (b.length + 1)) 122)) = _
    omega
end K1

set_option Elab.async false
set_option linter.all false
set_option maxRecDepth 100000
set_option maxHeartbeats 4000000
namespace K1
open PySem PySem.Spec PyProof.Rows L2
/-- a neighbour: the value with the number that is d further, or None; what is no value is refused -/
def spStep (d : Int) (C : Addr) : Sp := fun vs H Q E => ∃ v : V, vs = [v] ∧ ((∃ w, isVal w v) ∨ OddV v) ∧ (∀ w, isVal w v → ∀ H', Same H H' → Q (rkd w (rk v + d)) H') ∧ Refused C v H E
section
variable {P : Program} {w : World} {K : PySem.W.Frag} {mg : Str → Option Value} {base : Heap}
theorem scNext : FnScope ["value", "kept"] ["value"] (defScope sNext) := ⟨rfl, rfl, rfl, by decide +kernel, rfl, by decide +kernel, by decide +kernel⟩
theorem ok_next {f C : Addr} {fd : FuncData} (F : Fun K "next_value" "next_value" sNext f fd) (T : Txt K mg) (GD : Fn P w K mg base (L2N.CX P w) 3 "domain_of" ["value"] (spDomainOf C)) : FnOk P w K mg base (L2N.CX P w) 4 f fd ["value"] (spStep 1 C) := by
  refine okN F scNext (fun vs H Q E h => ?_) (fun cdv A outer s H vs Q E hr h => ?_)
  · obtain ⟨v, rfl, _⟩ := h
    rfl
  · obtain ⟨v, rfl, hv, q, e⟩ := h
    have tk := L2N.takes_of (X := cxOf (L2N.CX P w) P w K mg base ["value", "kept"] "next_value" (defScope sNext) f cdv A outer s H E) (E := E) rfl rfl rfl rfl
    refine ⟨_, pss_cons (ps_if (pt_cmpR op_eq (pe_fn GD hr (by rfl) (L2N.passes_call (E := E) tk (fun _ _ _ _ h => h)) (pa_cons (pv 0) pa_nil)) pe_str (nomark _))
        (pss_one (ps_ret (pe_ifExp (pt_cmpR op_lt (pv 0) (pe_gv (by rfl) T.greatest) (nomark _)) (pe_op op_add (pv 0) pe_int) pe_non))) pss_nil)
      (pss_cons (ps_if (pt_cmpR op_lt (pe_callB call_len_str (by rfl) T.len PySem.boot_len (pa_cons (pv 0) pa_nil)) (pe_gv (by rfl) T.longest) (nomark _)) (pss_one (ps_ret (pe_op op_add_str (pv 0) pe_str))) pss_nil)
      (pss_cons (ps_set (i := 1) scNext.nd rfl (.inl rfl) (pe_bm PySem.F.plainAttrs_str PySem.F.slot_str_rstrip PySem.F.type_str_rstrip mt_rstripChars (pv 0) (pa_cons pe_str pa_nil)))
      (pss_cons (ps_if (pt_cmpR op_eq (pv 1) pe_str (nomark _)) (pss_one (ps_ret pe_non)) pss_nil)
      (pss_one (ps_ret (pe_op op_add_str (pe_slice sl_str (pv 1) po_none (po_some (pe_un un_neg pe_int)))
        (pe_ix ix_str (pe_gv (by rfl) T.letters) (pe_op op_add (pe_bm PySem.F.plainAttrs_str PySem.F.slot_str_index PySem.F.type_str_index mt_sindex (pe_gv (by rfl) T.letters) (pa_cons (pe_ix ix_str (pv 1) (pe_un un_neg pe_int) (fun _ _ => rfl)) pa_nil)) pe_int) (fun _ _ => rfl)))))))), ?_⟩
    refine ⟨v, rfl, v, rfl, hv, fun w hw H1 s1 => ?_, fun o H' d s' hd => e o H' d s' hd⟩
    refine ⟨rfl, _, rfl, ?_⟩
    rw [show decide (V.str (dom w) = V.str "number") = !w from dom_num w]
    cases w with
    | false =>
      obtain ⟨i, hi, rfl⟩ := hw
      have q' := q false ⟨i, hi, rfl⟩ H1 s1
      rw [rkd_num] at q'
      refine iteT ?_
      refine ⟨_, rfl, i, 999999999, rfl, rfl, _, rfl, ite2 (fun h1 => ?_) (fun h1 => ?_)⟩
      · have a1 := of_decide_eq_true h1
        rw [if_pos (by omega)] at q'
        exact ⟨_, rfl, i, 1, rfl, rfl, q'⟩
      · have a1 := of_decide_eq_false (Bool.eq_false_iff.mpr h1)
        rw [if_neg (by omega)] at q'
        exact q'
    | true =>
      obtain ⟨l, hl, rfl⟩ := hw
      have q' := q true ⟨l, hl, rfl⟩ H1 s1
      have hz : ∀ m : List Nat, m.length ≤ 8 → (tx m).length ≤ sizeLine := fun m hm => by rw [tx_len]; exact Nat.le_of_lt (small1000 (by omega))
      refine iteF ?_
      refine ⟨_, rfl, tx l, rfl, hz l hl.2.1, _, 8, rfl, rfl, _, rfl, ite2 (fun h1 => ?_) (fun h1 => ?_)⟩
      · have a1 := of_decide_eq_true h1
        rw [tx_len] at a1
        rw [nx_short hl (by omega)] at q'
        refine ⟨_, rfl, tx l, tx [97], rfl, by rw [a_eq], ?_, ?_⟩
        · rw [tx_len, tx_len]
          exact Nat.le_of_lt (small1000 (by have := hl.2.1; simp; omega))
        · rw [tx_app]
          exact q'
      · have a1 := of_decide_eq_false (Bool.eq_false_iff.mpr h1)
        rw [tx_len] at a1
        have h8 : l.length = 8 := by have := hl.2.1; omega
        obtain ⟨a, k, el, ha⟩ := split_z l
        have hst : Txt.rstripChars (tx l) "z" = tx a := by
          rw [z_eq, el]
          exact rstrip_z ha
        refine ⟨_, rfl, rfl, tx l, "z", rfl, rfl, hz l hl.2.1, ?_⟩
        rw [hst]
        refine ⟨_, rfl, rfl, _, rfl, ite2 (fun h2 => ?_) (fun h2 => ?_)⟩
        · have e2 : V.str (tx a) = V.str "" := of_decide_eq_true h2
          rw [e_eq] at e2
          have e3 : a = [] := tx_inj (V.str.inj e2)
          subst e3
          rw [List.nil_append] at el
          subst el
          rw [List.length_replicate] at h8
          rw [nx_last hl h8] at q'
          exact q'
        · have e2 : ¬ V.str (tx a) = V.str "" := of_decide_eq_false (Bool.eq_false_iff.mpr h2)
          rcases ha with ha | ⟨b, c, ha, hc⟩
          · exact absurd (by rw [ha, e_eq]) e2
          · subst ha
            subst el
            rw [nx_full hl h8 hc] at q'
            have hcl : Let c := hl.2.2 c (by simp)
            have hbl : (b ++ [c]).length ≤ 8 := by
              rw [List.length_append] at h8
              omega
            have hat : atI (tx (b ++ [c])).cps.toList (-1) = some c := atI_last b c
            have hat2 : atI (tx LET).cps.toList (((c - 97 : Nat) : Int) + 1) = some (c + 1) := by
              have h3 : ((c - 97 : Nat) : Int) + 1 = ((c - 96 : Nat) : Int) := by have := hcl.1; omega
              rw [h3]
              refine atI_nat ?_
              have h4 : c ≤ 121 := by have := hcl.2; omega
              rw [show c + 1 = 97 + (c - 96) by have := hcl.1; omega]
              exact LET_get (by omega)
            refine ⟨_, rfl, 1, rfl, -1, rfl, tx (b ++ [c]), rfl, hz _ hbl, ?_⟩
            rw [cut_last, List.dropLast_concat]
            refine ⟨rfl, _, rfl, 1, rfl, tx (b ++ [c]), -1, c, rfl, rfl, hz _ hbl, hat, tx LET, tx [c], c - 97, [], rfl, rfl, by rw [LET_len]; exact find_let hcl, _, 1, rfl, rfl, tx LET, _, c + 1, rfl, rfl, by rw [LET_len]; exact Nat.le_of_lt (small1000 (by decide)), hat2, ?_⟩
            refine ⟨tx b, tx [c + 1], rfl, rfl, ?_, ?_⟩
            · rw [tx_len, tx_len]
              exact Nat.le_of_lt (small1000 (by rw [List.length_append] at hbl; simp at hbl ⊢; omega))
            · rw [tx_app]
              exact q'
theorem scBefore : FnScope ["value", "lower"] ["value"] (defScope sBefore) := ⟨rfl, rfl, rfl, by decide +kernel, rfl, by decide +kernel, by decide +kernel⟩
theorem ok_before {f C : Addr} {fd : FuncData} (F : Fun K "value_before" "value_before" sBefore f fd) (T : Txt K mg) (GD : Fn P w K mg base (L2N.CX P w) 3 "domain_of" ["value"] (spDomainOf C)) : FnOk P w K mg base (L2N.CX P w) 4 f fd ["value"] (spStep (-1) C) := by
  refine okN F scBefore (fun vs H Q E h => ?_) (fun cdv A outer s H vs Q E hr h => ?_)
  · obtain ⟨v, rfl, _⟩ := h
    rfl
  · obtain ⟨v, rfl, hv, q, e⟩ := h
    have tk := L2N.takes_of (X := cxOf (L2N.CX P w) P w K mg base ["value", "lower"] "value_before" (defScope sBefore) f cdv A outer s H E) (E := E) rfl rfl rfl rfl
    refine ⟨_, pss_cons (ps_if (pt_cmpR op_eq (pe_fn GD hr (by rfl) (L2N.passes_call (E := E) tk (fun _ _ _ _ h => h)) (pa_cons (pv 0) pa_nil)) pe_str (nomark _))
        (pss_one (ps_ret (pe_ifExp (pt_cmpR op_gt (pv 0) (pe_gv (by rfl) T.least) (nomark _)) (pe_op op_sub (pv 0) pe_int) pe_non))) pss_nil)
      (pss_cons (ps_if (pt_cmpR op_eq (pv 0) pe_str (nomark _)) (pss_one (ps_ret pe_non)) pss_nil)
      (pss_cons (ps_if (pt_cmpR op_eq (pe_ix ix_str (pv 0) (pe_un un_neg pe_int) (fun _ _ => rfl)) pe_str (nomark _)) (pss_one (ps_ret (pe_slice sl_str (pv 0) po_none (po_some (pe_un un_neg pe_int))))) pss_nil)
      (pss_cons (ps_set (i := 1) scBefore.nd rfl (.inl rfl) (pe_op op_add_str (pe_slice sl_str (pv 0) po_none (po_some (pe_un un_neg pe_int)))
        (pe_ix ix_str (pe_gv (by rfl) T.letters) (pe_op op_sub (pe_bm PySem.F.plainAttrs_str PySem.F.slot_str_index PySem.F.type_str_index mt_sindex (pe_gv (by rfl) T.letters) (pa_cons (pe_ix ix_str (pv 0) (pe_un un_neg pe_int) (fun _ _ => rfl)) pa_nil)) pe_int) (fun _ _ => rfl))))
      (pss_one (ps_ret (pe_bm PySem.F.plainAttrs_str PySem.F.slot_str_ljust PySem.F.type_str_ljust mt_ljust3 (pv 1) (pa_cons (pe_gv (by rfl) T.longest) (pa_cons pe_str pa_nil)))))))), ?_⟩
    refine ⟨v, rfl, v, rfl, hv, fun w hw H1 s1 => ?_, fun o H' d s' hd => e o H' d s' hd⟩
    refine ⟨rfl, _, rfl, ?_⟩
    rw [show decide (V.str (dom w) = V.str "number") = !w from dom_num w]
    cases w with
    | false =>
      obtain ⟨i, hi, rfl⟩ := hw
      have q' := q false ⟨i, hi, rfl⟩ H1 s1
      rw [rkd_num] at q'
      refine iteT ?_
      refine ⟨_, rfl, i, -999999999, rfl, rfl, _, rfl, ite2 (fun h1 => ?_) (fun h1 => ?_)⟩
      · have a1 := of_decide_eq_true h1
        rw [if_pos (by omega)] at q'
        exact ⟨_, rfl, i, 1, rfl, rfl, q'⟩
      · have a1 := of_decide_eq_false (Bool.eq_false_iff.mpr h1)
        rw [if_neg (by omega)] at q'
        exact q'
    | true =>
      obtain ⟨l, hl, rfl⟩ := hw
      have q' := q true ⟨l, hl, rfl⟩ H1 s1
      have hz : ∀ m : List Nat, m.length ≤ 8 → (tx m).length ≤ sizeLine := fun m hm => by rw [tx_len]; exact Nat.le_of_lt (small1000 (by omega))
      refine iteF ?_
      refine ⟨_, rfl, rfl, _, rfl, ite2 (fun h1 => ?_) (fun h1 => ?_)⟩
      · have e1 : V.str (tx l) = V.str "a" := of_decide_eq_true h1
        rw [a_eq] at e1
        have e2 : l = [97] := tx_inj (V.str.inj e1)
        subst e2
        rw [bf_first] at q'
        exact q'
      · have e1 : ¬ V.str (tx l) = V.str "a" := of_decide_eq_false (Bool.eq_false_iff.mpr h1)
        obtain ⟨b, c, rfl⟩ : ∃ b c, l = b ++ [c] := by
          have hne := isW_ne hl
          exact ⟨l.dropLast, l.getLast hne, (List.dropLast_concat_getLast hne).symm⟩
        have hcl : Let c := hl.2.2 c (by simp)
        have hbl : (b ++ [c]).length ≤ 8 := hl.2.1
        have hbl' : b.length + 1 ≤ 8 := by
          rw [List.length_append, List.length_singleton] at hbl
          exact hbl
        have hat : atI (tx (b ++ [c])).cps.toList (-1) = some c := atI_last b c
        refine ⟨_, rfl, 1, rfl, tx (b ++ [c]), -1, c, rfl, rfl, hz _ hbl, hat, rfl, _, rfl, ite2 (fun h2 => ?_) (fun h2 => ?_)⟩
        · have e2 : V.str (tx [c]) = V.str "a" := of_decide_eq_true h2
          rw [a_eq] at e2
          have e3 := tx_inj (V.str.inj e2)
          cases e3
          have hb : b ≠ [] := fun z => e1 (by rw [z, a_eq]; rfl)
          rw [bf_a hl hb] at q'
          refine ⟨_, rfl, 1, rfl, -1, rfl, tx (b ++ [97]), rfl, hz _ hbl, ?_⟩
          rw [cut_last, List.dropLast_concat]
          exact q'
        · have e2 : ¬ V.str (tx [c]) = V.str "a" := of_decide_eq_false (Bool.eq_false_iff.mpr h2)
          have hc : c ≠ 97 := fun z => e2 (by rw [z, a_eq])
          rw [bf_other hl hc] at q'
          have hat2 : atI (tx LET).cps.toList (((c - 97 : Nat) : Int) - 1) = some (c - 1) := by
            have h3 : ((c - 97 : Nat) : Int) - 1 = ((c - 98 : Nat) : Int) := by have := hcl.1; omega
            rw [h3]
            refine atI_nat ?_
            rw [show c - 1 = 97 + (c - 98) by have := hcl.1; omega]
            exact LET_get (by have := hcl.2; omega)
          refine ⟨_, rfl, 1, rfl, -1, rfl, tx (b ++ [c]), rfl, hz _ hbl, ?_⟩
          rw [cut_last, List.dropLast_concat]
          refine ⟨rfl, _, rfl, 1, rfl, tx (b ++ [c]), -1, c, rfl, rfl, hz _ hbl, hat, tx LET, tx [c], c - 97, [], rfl, rfl, by rw [LET_len]; exact find_let hcl, _, 1, rfl, rfl, tx LET, _, c - 1, rfl, rfl, by rw [LET_len]; exact Nat.le_of_lt (small1000 (by decide)), hat2, ?_⟩
          refine ⟨tx b, tx [c - 1], rfl, rfl, ?_, ?_⟩
          · rw [tx_len, tx_len]
            exact Nat.le_of_lt (small1000 (by simp; omega))
          · rw [tx_app]
            refine ⟨_, rfl, rfl, tx (b ++ [c - 1]), "z", 8, rfl, rfl, rfl, by rw [z_eq, tx_len]; rfl, ?_⟩
            rw [z_eq, show ((tx [122]).cps.getD 0 0) = 122 from rfl, ljust_z]
            exact q'
end
end K1

set_option Elab.async false
set_option linter.all false
set_option maxRecDepth 100000
set_option maxHeartbeats 4000000
namespace K1
open PySem PySem.Spec PyProof.Rows L2
/-- up to n values from the number r on, by steps of d, until there is none -/
def runV (w : Bool) (d : Int) (r : Int) : Nat → List V
  | 0 => []
  | n + 1 => if 0 ≤ r + d ∧ r + d < NV w then nthV w (r + d) :: runV w d (r + d) n else []
theorem runV_out {w : Bool} {d r : Int} (h : ¬ (0 ≤ r + d ∧ r + d < NV w)) (n : Nat) : runV w d r n = [] := by
  cases n with
  | zero => rfl
  | succ n => exact if_neg h
theorem runV_in {w : Bool} {d r : Int} (h : 0 ≤ r + d ∧ r + d < NV w) (n : Nat) : runV w d r (n + 1) = nthV w (r + d) :: runV w d (r + d) n := if_pos h
theorem runV_len (w : Bool) (d : Int) : ∀ (n : Nat) (r : Int), (runV w d r n).length ≤ n
  | 0, r => Nat.le_refl _
  | n + 1, r => by
    by_cases h : 0 ≤ r + d ∧ r + d < NV w
    · rw [runV_in h, List.length_cons]
      have := runV_len w d n (r + d)
      omega
    · rw [runV_out h]
      exact Nat.zero_le _
theorem no_odd {w : Bool} {v : V} (h : isVal w v) (o : OddV v) : False := by
  have a := o.no w
  rw [isValB_iff.mpr h] at a
  cases a
/-- so many values on from v -/
def spVals (d : Int) : Sp := fun vs H Q _ => ∃ (w : Bool) (v : V) (n : Nat), vs = [v, .int n] ∧ isVal w v ∧ n ≤ 100 ∧ ∀ H' p, Same H H' → H p = none → H' p = some (.lst (runV w d (rk v) n)) → Q (.ref p) H'
section
variable {P : Program} {w : World} {K : PySem.W.Frag} {mg : Str → Option Value} {base : Heap}
theorem scAbove : FnScope ["value", "many", "found", "above"] ["value", "many"] (defScope sAbove) := ⟨rfl, rfl, rfl, by decide +kernel, rfl, by decide +kernel, by decide +kernel⟩
theorem ok_above {f C : Addr} {fd : FuncData} (F : Fun K "values_above" "values_above" sAbove f fd) (T : Txt K mg) (GN : Fn P w K mg base (L2N.CX P w) 4 "next_value" ["value"] (spStep 1 C)) : FnOk P w K mg base CX0 5 f fd ["value", "many"] (spVals 1) := by
  refine F.ok scAbove (fun vs H Q E h => ?_) (fun cdv A outer s H vs Q E hr h => ?_)
  · obtain ⟨w, v, n, rfl, _⟩ := h
    rfl
  · obtain ⟨b, v, n, rfl, hv, hn, q⟩ := h
    refine ⟨_, pss_cons (ps_set (i := 2) scAbove.nd rfl (.inl rfl) (pe_lst pa_nil))
      (pss_cons (ps_set (i := 3) scAbove.nd rfl (.inl rfl) (pe_fn GN hr (by rfl) passN (pa_cons (pv 0) pa_nil)))
      (pss_cons (ps_while PassesOwn.never (PW.pt (pw_and (pt_cmp (pc_notN (pv 3))) (pw_and1 (pt_cmpR op_lt (pe_callB call_len_seq (by rfl) T.len PySem.boot_len (pa_cons (pv 2) pa_nil)) (pv 1) (nomark _)))))
        (pss_cons (ps_expr (pe_bm PySem.F.plainAttrs_list PySem.F.slot_list_append PySem.F.type_list_append mt_append (pv 2) (pa_cons (pv 3) pa_nil)))
          (pss_one (ps_set (i := 3) scAbove.nd rfl (.inl rfl) (pe_fn GN hr (by rfl) passN (pa_cons (pv 3) pa_nil))))))
      (pss_one (ps_ret (pv 2))))), ?_⟩
    refine ⟨Nat.zero_le _, fun o no => ?_⟩
    have s0 : Same H (upd H o (.lst [])) := same_upd no
    refine ⟨v, rfl, v, rfl, .inl ⟨b, hv⟩, fun b' hb' H1 s1 => ?_, fun ho => (no_odd hv ho).elim⟩
    obtain rfl : b = b' := by
      cases b <;> cases b' <;> first | rfl | (obtain ⟨_, _, z1⟩ := hv; obtain ⟨_, _, z2⟩ := hb'; rw [z1] at z2; cases z2)
    have o1 : H1 o = some (.lst []) := s1 o _ upd_same
    refine ⟨fun m σ H' => ∃ (acc : List V) (c : Int), σ = [some v, some (.int n), some (.ref o), some (rkd b (c + 1))] ∧ Same H H' ∧ H' o = some (.lst acc) ∧ acc.length ≤ n ∧ m = n - acc.length ∧ acc ++ runV b 1 c (n - acc.length) = runV b 1 (rk v) n,
      ⟨n, [], rk v, rfl, s0.trans s1, o1, Nat.zero_le _, rfl, rfl⟩, fun m σ H' ⟨acc, c, es, s2, ho, hl, em, eq⟩ => ?_⟩
    subst es
    have fin : acc = runV b 1 (rk v) n → tRet (tVar 2) { nx := fun x H' => Q V.non H', rt := Q } [some v, some (.int n), some (.ref o), some (rkd b (c + 1))] H' := fun e => ⟨_, rfl, q H' o s2 no (by rw [← e]; exact ho)⟩
    refine ⟨_, rfl, _, rfl, ?_⟩
    by_cases hin : 0 ≤ c + 1 ∧ c + 1 < NV b
    · obtain ⟨nv1, nv2⟩ := nth_val hin.1 hin.2
      have hne : ¬ rkd b (c + 1) = .non := by
        rw [rkd_in hin.1 hin.2]
        intro z
        rw [z] at nv1
        exact isVal_non nv1
      rw [decide_eq_false hne]
      refine iteT ⟨_, rfl, o, acc, rfl, .inl (SqL.of ho), _, rfl, _, _, rfl, rfl, _, rfl, ite2 (fun h1 => ?_) (fun h1 => ?_)⟩
      · have a1 := of_decide_eq_true h1
        have a2 : acc.length < n := by omega
        obtain ⟨k, hk⟩ : ∃ k, n - acc.length = k + 1 := ⟨n - acc.length - 1, by omega⟩
        refine ⟨fun σ' H2 => ∃ (acc' : List V) (c' : Int), σ' = [some v, some (.int n), some (.ref o), some (rkd b (c' + 1))] ∧ Same H H2 ∧ H2 o = some (.lst acc') ∧ acc'.length ≤ n ∧ n - acc'.length < n - acc.length ∧ acc' ++ runV b 1 c' (n - acc'.length) = runV b 1 (rk v) n,
          fun σ' H2 ⟨acc', c', e1, e2, e3, e4, e5, e6⟩ => ⟨n - acc'.length, by omega, acc', c', e1, e2, e3, e4, rfl, e6⟩, ?_⟩
        rw [rkd_in hin.1 hin.2]
        refine ⟨_, rfl, .inl ⟨rfl, acc, SqL.of ho⟩, _, rfl, o, acc, _, rfl, rfl, ho, small1000 (by omega), ?_⟩
        have s3 : Same H (upd H' o (.lst (acc ++ [nthV b (c + 1)]))) := same_set s2 no
        refine ⟨_, rfl, nthV b (c + 1), rfl, .inl ⟨b, nv1⟩, fun b' hb' H3 s4 => ?_, fun ho => (no_odd nv1 ho).elim⟩
        obtain rfl : b = b' := by
          cases b <;> cases b' <;> first | rfl | (obtain ⟨_, _, z1⟩ := nv1; obtain ⟨_, _, z2⟩ := hb'; rw [z1] at z2; cases z2)
        refine ⟨acc ++ [nthV b (c + 1)], c + 1, by rw [nv2]; rfl, s3.trans s4, s4 o _ upd_same, by rw [List.length_append, List.length_singleton]; omega, by rw [List.length_append, List.length_singleton]; omega, ?_⟩
        rw [← eq, hk, runV_in hin, List.length_append, List.length_singleton, show n - (acc.length + 1) = k by omega, List.append_assoc]
        rfl
      · have a1 := of_decide_eq_false (Bool.eq_false_iff.mpr h1)
        refine fin ?_
        rw [← eq, show n - acc.length = 0 by omega]
        exact (List.append_nil _).symm
    · rw [rkd_out hin]
      refine iteF ?_
      have f := fin (by rw [← eq, runV_out hin, List.append_nil])
      rw [rkd_out hin] at f
      exact f
theorem scBelow : FnScope ["value", "many", "found", "lower"] ["value", "many"] (defScope sBelow) := ⟨rfl, rfl, rfl, by decide +kernel, rfl, by decide +kernel, by decide +kernel⟩
theorem ok_below {f C : Addr} {fd : FuncData} (F : Fun K "values_below" "values_below" sBelow f fd) (T : Txt K mg) (GN : Fn P w K mg base (L2N.CX P w) 4 "value_before" ["value"] (spStep (-1) C)) : FnOk P w K mg base CX0 5 f fd ["value", "many"] (spVals (-1)) := by
  refine F.ok scBelow (fun vs H Q E h => ?_) (fun cdv A outer s H vs Q E hr h => ?_)
  · obtain ⟨w, v, n, rfl, _⟩ := h
    rfl
  · obtain ⟨b, v, n, rfl, hv, hn, q⟩ := h
    refine ⟨_, pss_cons (ps_set (i := 2) scBelow.nd rfl (.inl rfl) (pe_lst pa_nil))
      (pss_cons (ps_set (i := 3) scBelow.nd rfl (.inl rfl) (pe_fn GN hr (by rfl) passN (pa_cons (pv 0) pa_nil)))
      (pss_cons (ps_while PassesOwn.never (PW.pt (pw_and (pt_cmp (pc_notN (pv 3))) (pw_and1 (pt_cmpR op_lt (pe_callB call_len_seq (by rfl) T.len PySem.boot_len (pa_cons (pv 2) pa_nil)) (pv 1) (nomark _)))))
        (pss_cons (ps_expr (pe_bm PySem.F.plainAttrs_list PySem.F.slot_list_append PySem.F.type_list_append mt_append (pv 2) (pa_cons (pv 3) pa_nil)))
          (pss_one (ps_set (i := 3) scBelow.nd rfl (.inl rfl) (pe_fn GN hr (by rfl) passN (pa_cons (pv 3) pa_nil))))))
      (pss_one (ps_ret (pv 2))))), ?_⟩
    refine ⟨Nat.zero_le _, fun o no => ?_⟩
    have s0 : Same H (upd H o (.lst [])) := same_upd no
    refine ⟨v, rfl, v, rfl, .inl ⟨b, hv⟩, fun b' hb' H1 s1 => ?_, fun ho => (no_odd hv ho).elim⟩
    obtain rfl : b = b' := by
      cases b <;> cases b' <;> first | rfl | (obtain ⟨_, _, z1⟩ := hv; obtain ⟨_, _, z2⟩ := hb'; rw [z1] at z2; cases z2)
    have o1 : H1 o = some (.lst []) := s1 o _ upd_same
    refine ⟨fun m σ H' => ∃ (acc : List V) (c : Int), σ = [some v, some (.int n), some (.ref o), some (rkd b (c + -1))] ∧ Same H H' ∧ H' o = some (.lst acc) ∧ acc.length ≤ n ∧ m = n - acc.length ∧ acc ++ runV b (-1) c (n - acc.length) = runV b (-1) (rk v) n,
      ⟨n, [], rk v, rfl, s0.trans s1, o1, Nat.zero_le _, rfl, rfl⟩, fun m σ H' ⟨acc, c, es, s2, ho, hl, em, eq⟩ => ?_⟩
    subst es
    have fin : acc = runV b (-1) (rk v) n → tRet (tVar 2) { nx := fun x H' => Q V.non H', rt := Q } [some v, some (.int n), some (.ref o), some (rkd b (c + -1))] H' := fun e => ⟨_, rfl, q H' o s2 no (by rw [← e]; exact ho)⟩
    refine ⟨_, rfl, _, rfl, ?_⟩
    by_cases hin : 0 ≤ c + -1 ∧ c + -1 < NV b
    · obtain ⟨nv1, nv2⟩ := nth_val hin.1 hin.2
      have hne : ¬ rkd b (c + -1) = .non := by
        rw [rkd_in hin.1 hin.2]
        intro z
        rw [z] at nv1
        exact isVal_non nv1
      rw [decide_eq_false hne]
      refine iteT ⟨_, rfl, o, acc, rfl, .inl (SqL.of ho), _, rfl, _, _, rfl, rfl, _, rfl, ite2 (fun h1 => ?_) (fun h1 => ?_)⟩
      · have a1 := of_decide_eq_true h1
        have a2 : acc.length < n := by omega
        obtain ⟨k, hk⟩ : ∃ k, n - acc.length = k + 1 := ⟨n - acc.length - 1, by omega⟩
        refine ⟨fun σ' H2 => ∃ (acc' : List V) (c' : Int), σ' = [some v, some (.int n), some (.ref o), some (rkd b (c' + -1))] ∧ Same H H2 ∧ H2 o = some (.lst acc') ∧ acc'.length ≤ n ∧ n - acc'.length < n - acc.length ∧ acc' ++ runV b (-1) c' (n - acc'.length) = runV b (-1) (rk v) n,
          fun σ' H2 ⟨acc', c', e1, e2, e3, e4, e5, e6⟩ => ⟨n - acc'.length, by omega, acc', c', e1, e2, e3, e4, rfl, e6⟩, ?_⟩
        rw [rkd_in hin.1 hin.2]
        refine ⟨_, rfl, .inl ⟨rfl, acc, SqL.of ho⟩, _, rfl, o, acc, _, rfl, rfl, ho, small1000 (by omega), ?_⟩
        have s3 : Same H (upd H' o (.lst (acc ++ [nthV b (c + -1)]))) := same_set s2 no
        refine ⟨_, rfl, nthV b (c + -1), rfl, .inl ⟨b, nv1⟩, fun b' hb' H3 s4 => ?_, fun ho => (no_odd nv1 ho).elim⟩
        obtain rfl : b = b' := by
          cases b <;> cases b' <;> first | rfl | (obtain ⟨_, _, z1⟩ := nv1; obtain ⟨_, _, z2⟩ := hb'; rw [z1] at z2; cases z2)
        refine ⟨acc ++ [nthV b (c + -1)], c + -1, by rw [nv2]; rfl, s3.trans s4, s4 o _ upd_same, by rw [List.length_append, List.length_singleton]; omega, by rw [List.length_append, List.length_singleton]; omega, ?_⟩
        rw [← eq, hk, runV_in hin, List.length_append, List.length_singleton, show n - (acc.length + 1) = k by omega, List.append_assoc]
        rfl
      · have a1 := of_decide_eq_false (Bool.eq_false_iff.mpr h1)
        refine fin ?_
        rw [← eq, show n - acc.length = 0 by omega]
        exact (List.append_nil _).symm
    · rw [rkd_out hin]
      refine iteF ?_
      have f := fin (by rw [← eq, runV_out hin, List.append_nil])
      rw [rkd_out hin] at f
      exact f
end
end K1

set_option Elab.async false
set_option linter.all false
set_option maxRecDepth 100000
set_option maxHeartbeats 4000000
namespace K1
open PySem PySem.Spec PyProof.Rows L2
theorem dom_uniq {b c : Bool} {v : V} (h : isVal b v) (h' : isVal c v) : b = c := by
  cases b <;> cases c
  · rfl
  · obtain ⟨_, _, z1⟩ := h
    obtain ⟨_, _, z2⟩ := h'
    rw [z1] at z2
    cases z2
  · obtain ⟨_, _, z1⟩ := h
    obtain ⟨_, _, z2⟩ := h'
    rw [z1] at z2
    cases z2
  · rfl
theorem runV_take (w : Bool) (d : Int) : ∀ (n m : Nat) (r : Int), m ≤ n → (runV w d r n).take m = runV w d r m
  | n, 0, r, _ => by
    rw [List.take_zero]
    rfl
  | 0, m + 1, r, h => absurd h (by omega)
  | n + 1, m + 1, r, h => by
    by_cases hin : 0 ≤ r + d ∧ r + d < NV w
    · rw [runV_in hin, runV_in hin, List.take_succ_cons, runV_take w d n m _ (by omega)]
    · rw [runV_out hin, runV_out hin, List.take_nil]
theorem NV_big (w : Bool) : 1999999999 ≤ NV w := by
  cases w
  · exact Int.le_refl _
  · show 1999999999 ≤ NW
    rw [NW_eq]
    decide
theorem runV_val (w : Bool) (d : Int) : ∀ (n : Nat) (r : Int), ∀ u ∈ runV w d r n, isVal w u
  | 0, r, u, h => absurd h List.not_mem_nil
  | n + 1, r, u, h => by
    by_cases hin : 0 ≤ r + d ∧ r + d < NV w
    · rw [runV_in hin] at h
      rcases List.mem_cons.mp h with e | h
      · rw [e]
        exact (nth_val hin.1 hin.2).1
      · exact runV_val w d n _ u h
    · rw [runV_out hin] at h
      exact absurd h List.not_mem_nil
theorem mem_up (w : Bool) : ∀ (n : Nat) (r : Int), 0 ≤ r + 1 → ∀ u, isVal w u → (u ∈ runV w 1 r n ↔ r < rk u ∧ rk u ≤ r + n)
  | 0, r, _, u, hu => by
    show u ∈ [] ↔ _
    constructor
    · intro h; exact absurd h List.not_mem_nil
    · intro h; omega
  | n + 1, r, h0, u, hu => by
    have hur := rk_range hu
    by_cases hin : 0 ≤ r + 1 ∧ r + 1 < NV w
    · obtain ⟨a, b⟩ := nth_val hin.1 hin.2
      rw [runV_in hin, List.mem_cons, mem_up w n (r + 1) (by omega) u hu]
      constructor
      · rintro (e | e)
        · rw [e, b]
          omega
        · omega
      · intro h
        by_cases e : rk u = r + 1
        · exact .inl (isVal_inj hu a (by rw [e, b]))
        · exact .inr (by omega)
    · rw [runV_out hin]
      constructor
      · intro h; exact absurd h List.not_mem_nil
      · intro h; omega
theorem mem_down (w : Bool) : ∀ (n : Nat) (r : Int), r + -1 < NV w → ∀ u, isVal w u → (u ∈ runV w (-1) r n ↔ rk u < r ∧ r ≤ rk u + n)
  | 0, r, _, u, hu => by
    show u ∈ [] ↔ _
    constructor
    · intro h; exact absurd h List.not_mem_nil
    · intro h; omega
  | n + 1, r, h0, u, hu => by
    have hur := rk_range hu
    by_cases hin : 0 ≤ r + -1 ∧ r + -1 < NV w
    · obtain ⟨a, b⟩ := nth_val hin.1 hin.2
      rw [runV_in hin, List.mem_cons, mem_down w n (r + -1) (by omega) u hu]
      constructor
      · rintro (e | e)
        · rw [e, b]
          omega
        · omega
      · intro h
        by_cases e : rk u = r + -1
        · exact .inl (isVal_inj hu a (by rw [e, b]))
        · exact .inr (by omega)
    · rw [runV_out hin]
      constructor
      · intro h; exact absurd h List.not_mem_nil
      · intro h; omega
/-- where the values begin that are told of no values -/
def startV (w : Bool) : V := if w then .str (tx [97]) else .int 0
theorem start_val (w : Bool) : isVal w (startV w) := by
  cases w
  · exact ⟨0, by omega, rfl⟩
  · exact ⟨[97], ⟨by decide, by decide, Lets.cons ⟨by decide, by decide⟩ Lets.nil⟩, rfl⟩
theorem start_run (w : Bool) (n : Nat) : (startV w :: runV w 1 (rk (startV w)) n).take n = runV w 1 (rk (startV w) - 1) n := by
  have hr := rk_range (start_val w)
  cases n with
  | zero => rfl
  | succ n =>
    rw [List.take_succ_cons, runV_take w 1 (n + 1) n _ (by omega), runV_in (by omega)]
    rw [show rk (startV w) - 1 + 1 = rk (startV w) by omega, nth_rk (start_val w)]
/-- R is the ascending list of the values that are at most n away from one of xs -/
def NearL (w : Bool) (xs : List V) (n : Nat) (R : List V) : Prop :=
  R.Pairwise (fun a b => rk a < rk b) ∧ (∀ u ∈ R, isVal w u) ∧ ∀ u, isVal w u → (u ∈ R ↔ ∃ x ∈ xs, rk x - n ≤ rk u ∧ rk u ≤ rk x + n)
def spNear (K : PySem.W.Frag) : Sp := fun vs H Q _ => ∃ (w : Bool) (xs : List V) (n : Nat) (a : Addr), vs = [.str (dom w), .ref a, .int n] ∧ SqL K H a xs ∧ xs.length ≤ 6 ∧ n ≤ 6 ∧ (∀ x ∈ xs, isVal w x) ∧
  ∀ H' p R, Same H H' → H p = none → H' p = some (.lst R) → (xs = [] → R = runV w 1 (rk (startV w) - 1) n) → (xs ≠ [] → NearL w xs n R) → Q (.ref p) H'
/-- the values around one -/
def around (w : Bool) (n : Nat) (x : V) : List V := runV w (-1) (rk x) n ++ runV w 1 (rk x) n
theorem around_len (w : Bool) (n : Nat) (x : V) : (around w n x).length ≤ 2 * n := by
  unfold around
  rw [List.length_append]
  have := runV_len w (-1) n (rk x)
  have := runV_len w 1 n (rk x)
  omega
def gathered (w : Bool) (n : Nat) (xs : List V) : List V := (xs.map (around w n)).flatten
theorem gathered_len (w : Bool) (n : Nat) : ∀ xs : List V, (gathered w n xs).length ≤ 2 * n * xs.length
  | [] => Nat.zero_le _
  | x :: xs => by
    have h1 := around_len w n x
    have h2 := gathered_len w n xs
    show (around w n x ++ gathered w n xs).length ≤ _
    rw [List.length_append, List.length_cons, Nat.mul_add]
    omega
theorem gathered_more (w : Bool) (n : Nat) {xs : List V} {i : Nat} {x : V} (h : xs[i]? = some x) : gathered w n (xs.take (i + 1)) = gathered w n (xs.take i) ++ around w n x := by
  unfold gathered
  rw [List.take_add_one, h]
  simp
theorem found_val {w : Bool} {n : Nat} {xs : List V} (hx : ∀ x ∈ xs, isVal w x) : ∀ u ∈ xs ++ gathered w n xs, isVal w u := by
  intro u hu
  rcases List.mem_append.mp hu with h | h
  · exact hx u h
  · obtain ⟨l, hl, hu⟩ := List.mem_flatten.mp h
    obtain ⟨x, hx', rfl⟩ := List.mem_map.mp hl
    rcases List.mem_append.mp hu with h | h
    · exact runV_val _ _ _ _ u h
    · exact runV_val _ _ _ _ u h
theorem found_mem {w : Bool} {n : Nat} {xs : List V} (hx : ∀ x ∈ xs, isVal w x) {u : V} (hu : isVal w u) : u ∈ xs ++ gathered w n xs ↔ ∃ x ∈ xs, rk x - n ≤ rk u ∧ rk u ≤ rk x + n := by
  have hur := rk_range hu
  constructor
  · intro h
    rcases List.mem_append.mp h with h | h
    · exact ⟨u, h, by omega, by omega⟩
    · obtain ⟨l, hl, h⟩ := List.mem_flatten.mp h
      obtain ⟨x, hx', rfl⟩ := List.mem_map.mp hl
      have hxr := rk_range (hx x hx')
      refine ⟨x, hx', ?_⟩
      rcases List.mem_append.mp h with h | h
      · have := (mem_down w n (rk x) (by omega) u hu).mp h
        omega
      · have := (mem_up w n (rk x) (by omega) u hu).mp h
        omega
  · rintro ⟨x, hx', h1, h2⟩
    have hxr := rk_range (hx x hx')
    by_cases e : rk u = rk x
    · exact List.mem_append.mpr (.inl (by rw [isVal_inj hu (hx x hx') e]; exact hx'))
    · refine List.mem_append.mpr (.inr (List.mem_flatten.mpr ⟨around w n x, List.mem_map.mpr ⟨x, hx', rfl⟩, ?_⟩))
      by_cases l : rk u < rk x
      · exact List.mem_append.mpr (.inl ((mem_down w n (rk x) (by omega) u hu).mpr (by omega)))
      · exact List.mem_append.mpr (.inr ((mem_up w n (rk x) (by omega) u hu).mpr (by omega)))
/-- all numbers, or all texts -/
theorem vals_form {w : Bool} : ∀ {xs : List V}, (∀ x ∈ xs, isVal w x) → (w = false ∧ ∃ ns : List Int, xs = ns.map V.int) ∨ (w = true ∧ ∃ zs : List Str, xs = zs.map V.str) := by
  intro xs h
  cases w with
  | false =>
    refine .inl ⟨rfl, ?_⟩
    induction xs with
    | nil => exact ⟨[], rfl⟩
    | cons x xs ih =>
      obtain ⟨ns, e⟩ := ih fun y hy => h y (List.mem_cons_of_mem _ hy)
      obtain ⟨i, _, ei⟩ := h x List.mem_cons_self
      exact ⟨i :: ns, by rw [e, ei]; rfl⟩
  | true =>
    refine .inr ⟨rfl, ?_⟩
    induction xs with
    | nil => exact ⟨[], rfl⟩
    | cons x xs ih =>
      obtain ⟨ns, e⟩ := ih fun y hy => h y (List.mem_cons_of_mem _ hy)
      obtain ⟨l, _, ei⟩ := h x List.mem_cons_self
      exact ⟨tx l :: ns, by rw [e, ei]; rfl⟩
theorem mem_int {l : List Int} {u : V} : u ∈ l.map V.int ↔ ∃ i ∈ l, u = .int i := by
  rw [List.mem_map]
  constructor
  · rintro ⟨i, h, rfl⟩
    exact ⟨i, h, rfl⟩
  · rintro ⟨i, h, rfl⟩
    exact ⟨i, h, rfl⟩
theorem mem_str {l : List Str} {u : V} : u ∈ l.map V.str ↔ ∃ i ∈ l, u = .str i := by
  rw [List.mem_map]
  constructor
  · rintro ⟨i, h, rfl⟩
    exact ⟨i, h, rfl⟩
  · rintro ⟨i, h, rfl⟩
    exact ⟨i, h, rfl⟩
theorem near_int {xs : List V} {n : Nat} {ns ns' : List Int} (hx : ∀ x ∈ xs, isVal false x) (e : xs ++ gathered false n xs = ns.map V.int) (hp : ns'.Pairwise (· < ·)) (hm : ∀ i, i ∈ ns' ↔ i ∈ ns) : NearL false xs n (ns'.map V.int) := by
  have hmem : ∀ u, u ∈ ns'.map V.int ↔ u ∈ xs ++ gathered false n xs := fun u => by
    rw [e, mem_int, mem_int]
    constructor
    · rintro ⟨i, h, q⟩
      exact ⟨i, (hm i).mp h, q⟩
    · rintro ⟨i, h, q⟩
      exact ⟨i, (hm i).mpr h, q⟩
  refine ⟨List.pairwise_map.mpr (hp.imp fun {a b} h => ?_), fun u hu => found_val hx u ((hmem u).mp hu), fun u hu => (hmem u).trans (found_mem hx hu)⟩
  show a + 999999999 < b + 999999999
  omega
theorem near_str {xs : List V} {n : Nat} {zs zs' : List Str} (hx : ∀ x ∈ xs, isVal true x) (e : xs ++ gathered true n xs = zs.map V.str) (hp : zs'.Pairwise (fun a b => a.cps.toList < b.cps.toList)) (hm : ∀ i, i ∈ zs' ↔ i ∈ zs) : NearL true xs n (zs'.map V.str) := by
  have hmem : ∀ u, u ∈ zs'.map V.str ↔ u ∈ xs ++ gathered true n xs := fun u => by
    rw [e, mem_str, mem_str]
    constructor
    · rintro ⟨i, h, q⟩
      exact ⟨i, (hm i).mp h, q⟩
    · rintro ⟨i, h, q⟩
      exact ⟨i, (hm i).mpr h, q⟩
  have hval : ∀ u ∈ zs'.map V.str, isVal true u := fun u hu => found_val hx u ((hmem u).mp hu)
  have hw : ∀ z ∈ zs', isW z.cps.toList := fun z hz => by
    obtain ⟨l, hl, q⟩ := hval (.str z) (List.mem_map.mpr ⟨z, hz, rfl⟩)
    cases q
    exact hl
  refine ⟨List.pairwise_map.mpr (hp.imp_of_mem fun {a b} ha hb h => ?_), hval, fun u hu => (hmem u).trans (found_mem hx hu)⟩
  show P 8 a.cps.toList - 1 < P 8 b.cps.toList - 1
  have := (P_lt 8 _ _ (hw a ha).2.2 (hw b hb).2.2 (hw a ha).2.1 (hw b hb).2.1).mpr h
  omega
theorem cutV_to (xs : List V) (n : Nat) : cutV xs none (some (n : Int)) = xs.take n := by
  unfold cutV
  rw [HT.sIx_none, HT.sIx_nat, List.drop_zero, Nat.sub_zero]
  rw [List.take_eq_take_iff]
  omega
section
variable {P : Program} {w : World} {K : PySem.W.Frag} {mg : Str → Option Value} {base : Heap}
theorem scNear : FnScope ["domain", "values", "many", "start", "found", "value"] ["domain", "values", "many"] (defScope sNear) := ⟨rfl, rfl, rfl, by decide +kernel, rfl, by decide +kernel, by decide +kernel⟩
theorem ok_near {f : Addr} {fd : FuncData} (F : Fun K "near_values" "near_values" sNear f fd) (T : Txt K mg) (GA : Fn P w K mg base CX0 5 "values_above" ["value", "many"] (spVals 1)) (GB : Fn P w K mg base CX0 5 "values_below" ["value", "many"] (spVals (-1))) :
    FnOk P w K mg base CX0 6 f fd ["domain", "values", "many"] (spNear K) := by
  refine F.ok scNear (fun vs H Q E h => ?_) (fun cdv A outer s H vs Q E hr h => ?_)
  · obtain ⟨w, xs, n, a, rfl, _⟩ := h
    rfl
  · obtain ⟨b, xs, n, a, rfl, hS, hl, hn, hx, q⟩ := h
    refine ⟨_, pss_cons (ps_if (pt_not (pt_truth (pv 1) (by intro _; rfl)))
        (pss_cons (ps_set (i := 3) scNear.nd rfl (.inl rfl) (pe_ifExp (pt_cmpR op_eq (pv 0) pe_str (nomark _)) pe_int pe_str))
          (pss_one (ps_ret (pe_slice sl_list (pe_op op_cat (pe_lst (pa_cons (pv 3) pa_nil)) (pe_fn GA hr (by rfl) pass0 (pa_cons (pv 3) (pa_cons (pv 2) pa_nil)))) po_none (po_some (pv 2)))))) pss_nil)
      (pss_cons (ps_set (i := 4) scNear.nd rfl (.inl rfl) (pe_callTy call_list_of (by rfl) T.list PyProof.Rows.boot_list (pa_cons (pv 1) pa_nil)))
      (pss_cons (ps_for PassesOwn.never rfl (pi_list (pv 1)) (pg_name (i := 5) scNear.nd rfl (.inl rfl))
        (pss_cons (ps_expr (pe_bm PySem.F.plainAttrs_list PySem.F.slot_list_extend PySem.F.type_list_extend mt_extend (pv 4) (pa_cons (pe_fn GB hr (by rfl) pass0 (pa_cons (pv 5) (pa_cons (pv 2) pa_nil))) pa_nil)))
          (pss_one (ps_expr (pe_bm PySem.F.plainAttrs_list PySem.F.slot_list_extend PySem.F.type_list_extend mt_extend (pv 4) (pa_cons (pe_fn GA hr (by rfl) pass0 (pa_cons (pv 5) (pa_cons (pv 2) pa_nil))) pa_nil))))))
      (pss_one (ps_ret (pe_sortSet rfl (by rfl) T.sorted (by rfl) T.set (pv 4)))))), ?_⟩
    refine ⟨_, rfl, !xs.isEmpty, .inl ⟨xs, hS, rfl⟩, ?_⟩
    cases xs with
    | nil =>
      refine iteT ?_
      refine ⟨_, rfl, rfl, _, rfl, ?_⟩
      rw [show decide (V.str (dom b) = V.str "number") = !b from dom_num b]
      have go : ∀ st, st = startV b → tRet (tSl (rSlL K) (tOp rCat (tLst (tCons (tVar 3) tNil)) (tCall (spVals 1) [] E0 (tCons (tVar 3) (tCons (tVar 2) tNil)))) tNoPart (tPart (tVar 2)))
          { nx := fun x H' => Q V.non H', rt := Q } [some (.str (dom b)), some (.ref a), some (.int n), some st, none, none] H := by
        rintro st rfl
        refine ⟨startV b, rfl, by show 1 ≤ sizeLine; decide, fun l1 nl1 => ?_⟩
        have s1 : Same H (upd H l1 (.lst [startV b])) := same_upd nl1
        refine ⟨startV b, rfl, _, rfl, b, startV b, n, rfl, start_val b, by omega, fun H2 l2 s2 nl2 hl2 => ?_⟩
        have h1 : H2 l1 = some (.lst [startV b]) := s2 l1 _ upd_same
        refine ⟨l1, l2, _, _, rfl, rfl, h1, hl2, ?_, fun l3 nl3 => ?_⟩
        · have := runV_len b 1 n (rk (startV b))
          refine Nat.le_of_lt (small1000 ?_)
          rw [List.length_singleton]
          omega
        · refine ⟨_, rfl, (n : Int), rfl, l3, _, rfl, SqL.of upd_same, fun l4 nl4 => ?_⟩
          have s3 : Same H (upd H2 l3 (.lst ([startV b] ++ runV b 1 (rk (startV b)) n))) := (s1.trans s2).trans (same_upd nl3)
          refine q _ l4 _ (s3.trans (same_upd nl4)) (s3.free nl4) upd_same (fun _ => ?_) (fun z => absurd rfl z)
          rw [cutV_to]
          exact start_run b n
      cases b with
      | false => exact iteT (go _ rfl)
      | true =>
        refine iteF ?_
        exact go (.str "a") (by rw [a_eq]; rfl)
    | cons x0 r0 =>
      refine iteF ?_
      refine ⟨_, rfl, a, x0 :: r0, rfl, .inl hS, fun o no => ?_⟩
      have s0 : Same H (upd H o (.lst (x0 :: r0))) := same_upd no
      generalize hxs : x0 :: r0 = xs at *
      have hne : xs ≠ [] := by rw [← hxs]; exact List.cons_ne_nil _ _
      have szs : ∀ i, (xs ++ gathered b n (xs.take i)).length ≤ 80 := fun i => by
        rw [List.length_append]
        have h1 := gathered_len b n (xs.take i)
        have h2 : (xs.take i).length ≤ 6 := by rw [List.length_take]; omega
        have h3 : 2 * n * (xs.take i).length ≤ 2 * n * 6 := Nat.mul_le_mul_left _ h2
        omega
      refine ⟨_, rfl, a, rfl, ⟨_, s0.seq hS⟩, for_list (K := K) (a := a) (xs := xs) (fun i σ H' => ∃ y5, σ = [some (.str (dom b)), some (.ref a), some (.int n), none, some (.ref o), y5] ∧ Same H H' ∧ H' o = some (.lst (xs ++ gathered b n (xs.take i))))
        ⟨none, rfl, s0, ?_⟩ (fun i σ H' _ ⟨_, _, s1, _⟩ => s1.seq hS) (fun i x σ H' hi ⟨y5, es, s1, ho⟩ => ?_) (fun σ H' ⟨y5, es, s1, ho⟩ => ?_)⟩
      · rw [upd_same, List.take_zero]
        show _ = some (HO.lst (xs ++ []))
        rw [List.append_nil]
      · subst es
        have hxv : isVal b x := hx x (List.mem_of_getElem? hi)
        have sz := szs i
        have l1 := runV_len b (-1) n (rk x)
        have l2 := runV_len b 1 n (rk x)
        refine ⟨_, rfl, .inl ⟨rfl, _, SqL.of ho⟩, x, rfl, _, rfl, b, x, n, rfl, hxv, by omega, fun H2 p2 s2 np2 hp2 => ?_⟩
        have ho2 := s2 o _ ho
        refine ⟨o, p2, _, _, rfl, rfl, ho2, hp2, Nat.le_of_lt (small1000 (by omega)), ?_⟩
        have s3 : Same H (upd H2 o (.lst ((xs ++ gathered b n (xs.take i)) ++ runV b (-1) (rk x) n))) := same_set (s1.trans s2) no
        refine ⟨_, rfl, .inl ⟨rfl, _, SqL.of upd_same⟩, x, rfl, _, rfl, b, x, n, rfl, hxv, by omega, fun H3 p3 s4 np3 hp3 => ?_⟩
        have ho3 := s4 o _ upd_same
        refine ⟨o, p3, _, _, rfl, rfl, ho3, hp3, Nat.le_of_lt (small1000 (by rw [List.length_append]; omega)), ?_⟩
        refine ⟨_, rfl, same_set (s3.trans s4) no, ?_⟩
        rw [upd_same, gathered_more b n hi]
        unfold around
        simp only [List.append_assoc]
      · subst es
        have sz := szs xs.length
        rw [List.take_length] at ho sz
        refine ⟨_, rfl, o, _, rfl, SqL.of ho, by omega, ?_⟩
        rcases vals_form (found_val (n := n) hx) with ⟨rfl, ns, en⟩ | ⟨rfl, zs, ez⟩
        · refine .inl ⟨ns, en, fun ns' p hp hm np => ?_⟩
          exact q _ p _ (s1.trans (same_upd np)) (s1.free np) upd_same (fun z => absurd z hne) (fun _ => near_int hx en hp hm)
        · refine .inr ⟨zs, ez, fun zs' p hp hm np => ?_⟩
          exact q _ p _ (s1.trans (same_upd np)) (s1.free np) upd_same (fun z => absurd z hne) (fun _ => near_str hx ez hp hm)
end
end K1

set_option Elab.async false
set_option linter.all false
set_option maxRecDepth 100000
set_option maxHeartbeats 4000000
namespace K1
open PySem PySem.Spec PyProof.Rows L2
/-! written -/
def wtx : V → Str
  | .str z => tx ([39] ++ z.cps.toList ++ [39])
  | .int i => if i < 0 then tx (45 :: TL.numL i.natAbs) else tx (TL.numL i.natAbs)
  | _ => tx []
theorem ofS (z : Str) : z = tx (TL.tl z) := (tx_of z).symm
theorem nat_text (n : Nat) : Str.ofString (toString (n : Int)) = tx (TL.numL n) := by rw [ofS (Str.ofString _), TL.tl_num]
theorem int_text (i : Int) : Str.ofString (toString i) = wtx (.int i) := by
  show _ = if i < 0 then tx (45 :: TL.numL i.natAbs) else tx (TL.numL i.natAbs)
  by_cases h : i < 0
  · rw [if_pos h, toString_neg h, ofS (Str.ofString _), TL.tl_ofString, String.toList_append, List.map_append]
    have e : (toString (0 - i)).toList.map Char.toNat = TL.numL i.natAbs := by
      rw [← TL.tl_ofString, show (0 - i) = ((i.natAbs : Nat) : Int) by omega, TL.tl_num]
    rw [e]
    rfl
  · rw [if_neg h]
    obtain ⟨n, rfl⟩ : ∃ n : Nat, i = n := ⟨i.toNat, by omega⟩
    rw [nat_text]
    rfl
def spWritten : Sp := fun vs H Q _ => ∃ (b : Bool) (v : V), vs = [v] ∧ isVal b v ∧ ∀ H', Same H H' → Q (.str (wtx v)) H'
theorem numL_more (n : Nat) : TL.numL n = (if n / 10 = 0 then [] else TL.numL (n / 10)) ++ [48 + n % 10] := by
  by_cases h : n < 10
  · rw [TL.numL_lt h, if_pos (by omega), show n % 10 = n by omega]
    rfl
  · rw [TL.numL_step (by omega), if_neg (by omega)]
section
variable {P : Program} {w : World} {K : PySem.W.Frag} {mg : Str → Option Value} {base : Heap}
theorem scWritten : FnScope ["value"] ["value"] (defScope sWritten) := ⟨rfl, rfl, rfl, by decide +kernel, rfl, by decide +kernel, by decide +kernel⟩
theorem ok_written {f : Addr} {fd : FuncData} (F : Fun K "written" "written" sWritten f fd) (T : Txt K mg) : FnOk P w K mg base CX0 1 f fd ["value"] spWritten := by
  refine F.ok scWritten (fun vs H Q E h => ?_) (fun cdv A outer s H vs Q E hr h => ?_)
  · obtain ⟨b, v, rfl, _⟩ := h
    rfl
  · obtain ⟨b, v, rfl, hv, q⟩ := h
    refine ⟨_, pss_cons (ps_if (pt_val (pe_callB call_isi (by rfl) T.isi PyProof.Rows.boot_isinstance (pa_cons (pv 0) (pa_cons (pe_bltn (v := .ty "str") (by rfl) T.str PyProof.Rows.boot_str rfl) pa_nil))))
        (pss_one (ps_ret (pe_op op_add_str (pe_op op_add_str pe_str (pv 0)) pe_str))) pss_nil)
      (pss_one (ps_ret (pe_callTy call_str_int (by rfl) T.str PyProof.Rows.boot_str (pa_cons (pv 0) pa_nil)))), ?_⟩
    have q' := q H (Same.refl H)
    cases b with
    | true =>
      obtain ⟨l, hl, rfl⟩ := hv
      refine ⟨_, rfl, .str (tx l), .ty "str", _, _, true, rfl, .ty "str", tyX (.str l (by have := hl.2.1; omega)), kit_ty k_str_str, _, rfl, iteT ?_⟩
      have h8 := hl.2.1
      refine ⟨_, rfl, tx [39], tx l, by rw [q_eq], rfl, by rw [tx_len, tx_len]; exact Nat.le_of_lt (small1000 (by simp; omega)), ?_⟩
      refine ⟨_, tx [39], rfl, by rw [q_eq], by rw [tx_app, tx_len, tx_len]; exact Nat.le_of_lt (small1000 (by simp; omega)), ?_⟩
      rw [tx_app, tx_app]
      exact q'
    | false =>
      obtain ⟨i, hi, rfl⟩ := hv
      refine ⟨_, rfl, .int i, .ty "str", _, _, false, rfl, .ty "str", tyX (.int i), kit_ty k_int_str, _, rfl, iteF ?_⟩
      refine ⟨_, rfl, i, rfl, ?_, ?_⟩
      · exact Nat.lt_trans (PySem.Flt.log2_lt_of (k := 30) (by decide) (by omega)) (by decide)
      · show Q (.str (Str.ofString (toString i))) H
        rw [int_text]
        exact q'
theorem scText : FnScope ["_law_value_here", "_law_text_here", "_law_rest", "_law_k"] ["_law_value_here"] (defScope lText) := ⟨rfl, rfl, rfl, by decide +kernel, rfl, by decide +kernel, by decide +kernel⟩
theorem dig_at {n : Nat} (h : n < 10) : atI (Str.ofString "0123456789").cps.toList (n : Int) = some (48 + n) := by
  refine atI_nat ?_
  have : ∀ i : Nat, i < 10 → (Str.ofString "0123456789").cps.toList[i]? = some (48 + i) := by decide +kernel
  exact this n h
theorem dig_len : (Str.ofString "0123456789").length ≤ 1000 := by decide +kernel
theorem ok_text {f : Addr} {fd : FuncData} (F : Fun K "_law_text" "_law_text" lText f fd) (T : Txt K mg) : FnOk P w K mg base CX0 1 f fd ["_law_value_here"] spWritten := by
  refine F.ok scText (fun vs H Q E h => ?_) (fun cdv A outer s H vs Q E hr h => ?_)
  · obtain ⟨b, v, rfl, _⟩ := h
    rfl
  · obtain ⟨b, v, rfl, hv, q⟩ := h
    refine ⟨_, pss_cons (ps_if (pt_val (pe_callB call_isi (by rfl) T.isi PyProof.Rows.boot_isinstance (pa_cons (pv 0) (pa_cons (pe_bltn (v := .ty "str") (by rfl) T.str PyProof.Rows.boot_str rfl) pa_nil))))
        (pss_one (ps_ret (pe_op op_add_str (pe_op op_add_str pe_str (pv 0)) pe_str))) pss_nil)
      (pss_cons (ps_set (i := 1) scText.nd rfl (.inl rfl) pe_str)
      (pss_cons (ps_set (i := 2) scText.nd rfl (.inl rfl) (pe_callB call_abs (by rfl) T.abs (by decide +kernel) (pa_cons (pv 0) pa_nil)))
      (pss_cons (ps_for PassesOwn.never rfl (pi_range1 (by rfl) T.range (pa_cons pe_int pa_nil)) (pg_name (i := 3) scText.nd rfl (.inl rfl))
        (pss_cons (ps_if (PW.pt (pw_or (pt_cmpR op_gt (pv 2) pe_int (nomark _)) (pw_or1 (pt_cmpR op_eq (pv 3) pe_int (nomark _)))))
          (pss_one (ps_set (i := 1) scText.nd rfl (.inl rfl) (pe_op op_add_str (pe_ix ix_str pe_str (pe_op op_mod (pe_callTy call_int1 (by rfl) T.int PyProof.Rows.boot_int (pa_cons (pv 2) pa_nil)) pe_int) (fun _ _ => rfl)) (pv 1)))) pss_nil)
        (pss_one (ps_set (i := 2) scText.nd rfl (.inl rfl) (pe_op op_fdiv (pv 2) pe_int)))))
      (pss_one (ps_ret (pe_ifExp (pt_cmpR op_lt (pv 0) pe_int (nomark _)) (pe_op op_add_str pe_str (pv 1)) (pv 1))))))), ?_⟩
    have q' := q H (Same.refl H)
    cases b with
    | true =>
      obtain ⟨l, hl, rfl⟩ := hv
      refine ⟨_, rfl, .str (tx l), .ty "str", _, _, true, rfl, .ty "str", tyX (.str l (by have := hl.2.1; omega)), kit_ty k_str_str, _, rfl, iteT ?_⟩
      have h8 := hl.2.1
      refine ⟨_, rfl, tx [39], tx l, by rw [q_eq], rfl, by rw [tx_len, tx_len]; exact Nat.le_of_lt (small1000 (by simp; omega)), ?_⟩
      refine ⟨_, tx [39], rfl, by rw [q_eq], by rw [tx_app, tx_len, tx_len]; exact Nat.le_of_lt (small1000 (by simp; omega)), ?_⟩
      rw [tx_app, tx_app]
      exact q'
    | false =>
      obtain ⟨i, hi, rfl⟩ := hv
      refine ⟨_, rfl, .int i, .ty "str", _, _, false, rfl, .ty "str", tyX (.int i), kit_ty k_int_str, _, rfl, iteF ?_⟩
      refine ⟨_, rfl, i, rfl, ?_⟩
      rw [show (if i < 0 then -i else i) = ((i.natAbs : Nat) : Int) by split <;> omega]
      have ha : i.natAbs ≤ 999999999 := by omega
      have hq : wtx (.int i) = if i < 0 then tx (45 :: TL.numL i.natAbs) else tx (TL.numL i.natAbs) := rfl
      generalize i.natAbs = a at ha hq ⊢
      rw [hq] at q'
      refine ⟨_, rfl, by decide, by decide, for_range (lo := 0) (n := 10) (fun k σ H' => ∃ (r : Nat) (t : List Nat) (y3 : Option V), σ = [some (.int i), some (.str (tx t)), some (.int r), y3] ∧ H' = H ∧ r = a / 10 ^ k ∧ t.length ≤ k ∧ (k = 0 → t = []) ∧ (0 < k → (if r = 0 then [] else TL.numL r) ++ t = TL.numL a))
        ⟨a, [], none, by rw [← e_eq]; rfl, rfl, by rw [Nat.pow_zero, Nat.div_one], Nat.le_refl _, fun _ => rfl, fun z => absurd z (by decide)⟩ (fun k σ H' hk ⟨r, t, y3, es, eH, hr, hl, h0, h1⟩ => ?_) (fun σ H' ⟨r, t, y3, es, eH, hr, hl, h0, h1⟩ => ?_)⟩
      · subst es eH
        obtain ⟨r', er⟩ : ∃ r' : Nat, r' = r / 10 := ⟨_, rfl⟩
        have hr' : r' = a / 10 ^ (k + 1) := by rw [er, hr, Nat.div_div_eq_div_mul, Nat.pow_succ]
        have push : (r : Int) % 10 = ((r % 10 : Nat) : Int) := rfl
        have hk0 : decide (V.int (0 + (k : Int)) = V.int 0) = decide (k = 0) := by
          apply decide_eq_decide.mpr
          constructor
          · intro z
            have := V.int.inj z
            omega
          · rintro rfl
            rfl
        refine ⟨_, rfl, _, _, rfl, rfl, _, rfl, ite2 (fun h2 => iteT ?_) (fun h2 => ?_)⟩
        · have a2 := of_decide_eq_true h2
          refine ⟨_, rfl, .inl ⟨_, rfl, _, _, rfl, rfl, (by show (0 : Int) < 10; decide), _, _, _, rfl, rfl, Nat.le_of_lt (small1000 dig_len), dig_at (n := r % 10) (by omega), _, rfl, tx [48 + r % 10], tx t, rfl, rfl, (by rw [tx_len, tx_len]; exact Nat.le_of_lt (small1000 (by simp; omega))), ?_⟩⟩
          rw [tx_app]
          refine ⟨_, rfl, _, _, rfl, rfl, ⟨by decide, by decide⟩, r', (48 + r % 10) :: t, _, by rw [er]; rfl, rfl, hr', by simp; omega, fun z => absurd z (by omega), fun _ => ?_⟩
          by_cases hk0 : k = 0
          · rw [h0 hk0]
            subst hk0
            rw [Nat.pow_zero, Nat.div_one] at hr
            subst hr
            rw [er]
            exact (numL_more r).symm
          · have e1 := h1 (by omega)
            rw [if_neg (by omega), numL_more r, List.append_assoc, ← er] at e1
            exact e1
        · have a2 := of_decide_eq_false (Bool.eq_false_iff.mpr h2)
          have hr0 : r = 0 := by omega
          refine ⟨_, rfl, rfl, _, rfl, ?_⟩
          rw [hk0]
          refine ite2 (fun h3 => ?_) (fun h3 => ?_)
          · have a3 := of_decide_eq_true h3
            refine ⟨_, rfl, .inl ⟨_, rfl, _, _, rfl, rfl, (by show (0 : Int) < 10; decide), _, _, _, rfl, rfl, Nat.le_of_lt (small1000 dig_len), dig_at (n := r % 10) (by omega), _, rfl, tx [48 + r % 10], tx t, rfl, rfl, (by rw [tx_len, tx_len]; exact Nat.le_of_lt (small1000 (by simp; omega))), ?_⟩⟩
            rw [tx_app]
            refine ⟨_, rfl, _, _, rfl, rfl, ⟨by decide, by decide⟩, r', (48 + r % 10) :: t, _, by rw [er]; rfl, rfl, hr', by simp; omega, fun z => absurd z (by omega), fun _ => ?_⟩
            rw [h0 a3]
            subst a3
            rw [Nat.pow_zero, Nat.div_one] at hr
            subst hr
            rw [er]
            exact (numL_more r).symm
          · have a3 := of_decide_eq_false (Bool.eq_false_iff.mpr h3)
            refine ⟨_, rfl, _, _, rfl, rfl, ⟨by decide, by decide⟩, r', t, _, by rw [er]; rfl, rfl, hr', by omega, fun z => absurd z (by omega), fun _ => ?_⟩
            have e1 := h1 (by omega)
            rw [if_pos hr0] at e1
            rw [if_pos (by omega)]
            exact e1
      · subst es eH
        have hr0 : r = 0 := by
          rw [hr]
          exact Nat.div_eq_of_lt (by omega)
        subst hr0
        have e1 := h1 (by decide)
        rw [if_pos rfl, List.nil_append] at e1
        subst e1
        refine ⟨_, rfl, _, _, rfl, rfl, _, rfl, ite2 (fun h2 => ?_) (fun h2 => ?_)⟩
        · have a2 := of_decide_eq_true h2
          rw [if_pos a2] at q'
          refine ⟨_, rfl, tx [45], _, by rw [show Str.ofString "-" = tx [45] by decide +kernel], rfl, ?_, ?_⟩
          · rw [tx_len, tx_len]
            exact Nat.le_of_lt (small1000 (by simp; omega))
          · rw [tx_app]
            exact q'
        · have a2 := of_decide_eq_false (Bool.eq_false_iff.mpr h2)
          rw [if_neg a2] at q'
          exact ⟨_, rfl, q'⟩
end
end K1

set_option Elab.async false
set_option linter.all false
set_option maxRecDepth 100000
set_option maxHeartbeats 4000000
namespace K1
open PySem PySem.Spec PyProof.Rows L2
def spTruth : Sp := fun vs H Q _ => ∃ a b : Bool, vs = [.bl a, .bl b] ∧ ∀ H', Same H H' → Q (.bl (decide (a = b))) H'
def spLetters : Sp := fun vs H Q _ => vs = [] ∧ ∀ H', Same H H' → Q (.str (tx LET)) H'
def spKeys : Sp := fun vs H Q _ => vs = [] ∧ ∀ H' p, Same H H' → H p = none → H' p = some (.lst (KEYS.map V.str)) → Q (.ref p) H'
def sizesV : List V := (List.range 9).map fun i => V.int (S i)
def spSizes : Sp := fun vs H Q _ => vs = [] ∧ ∀ H' p, Same H H' → H p = none → H' p = some (.lst sizesV) → Q (.ref p) H'
/-- no truth value -/
def NoBl (v : V) : Prop := ∀ b, v ≠ .bl b
def spSame : Sp := fun vs H Q _ => ∃ t d : V, vs = [t, d] ∧ Askd t ∧ Askd d ∧ NoBl t ∧ NoBl d ∧ ∀ H', Same H H' → Q (.bl (decide (t = d))) H'
section
variable {P : Program} {w : World} {K : PySem.W.Frag} {mg : Str → Option Value} {base : Heap}
theorem scTruth : FnScope ["_law_told", "_law_due"] ["_law_told", "_law_due"] (defScope lTruth) := ⟨rfl, rfl, rfl, by decide +kernel, rfl, by decide +kernel, by decide +kernel⟩
theorem ok_truth {f : Addr} {fd : FuncData} (F : Fun K "_law_truth" "_law_truth" lTruth f fd) (T : Txt K mg) : FnOk P w K mg base CX0 1 f fd ["_law_told", "_law_due"] spTruth := by
  refine F.ok scTruth (fun vs H Q E h => ?_) (fun cdv A outer s H vs Q E hr h => ?_)
  · obtain ⟨a, b, rfl, _⟩ := h
    rfl
  · obtain ⟨a, b, rfl, q⟩ := h
    refine ⟨_, pss_one (ps_ret (pe_and (pe_callB call_isi (by rfl) T.isi PyProof.Rows.boot_isinstance (pa_cons (pv 0) (pa_cons (pe_bltn (v := .ty "bool") (by rfl) T.bool (by decide +kernel) rfl) pa_nil)))
      (pe_one (pe_cmpR op_eq (pv 0) (pv 1) (nomark _))))), ?_⟩
    refine ⟨_, rfl, .bl a, .ty "bool", _, _, true, rfl, .ty "bool", tyX (.bl a), kit_ty k_bool_bool, _, rfl, iteT ?_⟩
    refine ⟨_, rfl, _, rfl, rfl, ?_⟩
    have e : decide (V.bl a = V.bl b) = decide (a = b) := by cases a <;> cases b <;> rfl
    rw [e]
    exact q H (Same.refl H)
theorem scLetters : FnScope [] [] (defScope lLetters) := ⟨rfl, rfl, rfl, by decide +kernel, rfl, by decide +kernel, by decide +kernel⟩
theorem ok_letters {f : Addr} {fd : FuncData} (F : Fun K "_law_letters" "_law_letters" lLetters f fd) : FnOk P w K mg base CX0 1 f fd [] spLetters := by
  refine F.ok scLetters (fun vs H Q E h => ?_) (fun cdv A outer s H vs Q E hr h => ?_)
  · obtain ⟨rfl, _⟩ := h
    rfl
  · obtain ⟨rfl, q⟩ := h
    refine ⟨_, pss_one (ps_ret pe_str), ?_⟩
    have q' := q H (Same.refl H)
    rw [← LET_eq] at q'
    exact q'
theorem scKeys : FnScope ["_law_keys_here"] [] (defScope lKeys) := ⟨rfl, rfl, rfl, by decide +kernel, rfl, by decide +kernel, by decide +kernel⟩
theorem ok_keys {f : Addr} {fd : FuncData} (F : Fun K "_law_keys" "_law_keys" lKeys f fd) : FnOk P w K mg base CX0 1 f fd [] spKeys := by
  refine F.ok scKeys (fun vs H Q E h => ?_) (fun cdv A outer s H vs Q E hr h => ?_)
  · obtain ⟨rfl, _⟩ := h
    rfl
  · obtain ⟨rfl, q⟩ := h
    refine ⟨_, pss_cons (ps_set (i := 0) scKeys.nd rfl (.inl rfl) (pe_lst (pa_cons pe_str (pa_cons pe_str (pa_cons pe_str (pa_cons pe_str (pa_cons pe_str (pa_cons pe_str (pa_cons pe_str (pa_cons pe_str (pa_cons pe_str (pa_cons pe_str (pa_cons pe_str pa_nil)))))))))))))
      (pss_one (ps_ret (pe_op op_cat (pv 0) (pe_lst (pa_cons pe_str (pa_cons pe_str (pa_cons pe_str (pa_cons pe_str (pa_cons pe_str (pa_cons pe_str (pa_cons pe_str (pa_cons pe_str pa_nil)))))))))))), ?_⟩
    refine ⟨(by show 11 ≤ sizeLine; decide), fun o no => ?_⟩
    refine ⟨_, rfl, (by show 8 ≤ sizeLine; decide), fun o2 no2 => ?_⟩
    have s1 := same_upd (o := HO.lst ((["from", "join", "on", "where", "and", "or", "not", "in", "group", "tell", "count"] : List Str).map V.str)) no
    refine ⟨o, o2, _, _, rfl, rfl, same_upd no2 _ _ upd_same, upd_same, (by show 19 ≤ sizeLine; decide), fun p np => ?_⟩
    have s2 := (s1.trans (same_upd no2)).trans (same_upd np (o := .lst (KEYS.map V.str)))
    exact q _ p s2 ((s1.trans (same_upd no2)).free np) upd_same
theorem scSizes : FnScope ["_law_sizes_here", "_law_k"] [] (defScope lSizes) := ⟨rfl, rfl, rfl, by decide +kernel, rfl, by decide +kernel, by decide +kernel⟩
theorem ok_sizes {f : Addr} {fd : FuncData} (F : Fun K "_law_sizes" "_law_sizes" lSizes f fd) (T : Txt K mg) : FnOk P w K mg base CX0 1 f fd [] spSizes := by
  refine F.ok scSizes (fun vs H Q E h => ?_) (fun cdv A outer s H vs Q E hr h => ?_)
  · obtain ⟨rfl, _⟩ := h
    rfl
  · obtain ⟨rfl, q⟩ := h
    refine ⟨_, pss_cons (ps_set (i := 0) scSizes.nd rfl (.inl rfl) (pe_lst (pa_cons pe_int pa_nil)))
      (pss_cons (ps_for PassesOwn.never rfl (pi_range1 (by rfl) T.range (pa_cons pe_int pa_nil)) (pg_name (i := 1) scSizes.nd rfl (.inl rfl))
        (pss_one (ps_expr (pe_bm PySem.F.plainAttrs_list PySem.F.slot_list_append PySem.F.type_list_append mt_append (pv 0)
          (pa_cons (pe_op op_add (pe_op op_mul pe_int (pe_ix ix_list (pv 0) (pe_un un_neg pe_int) (fun _ _ => rfl))) pe_int) pa_nil)))))
      (pss_one (ps_ret (pv 0)))), ?_⟩
    refine ⟨(by show 1 ≤ sizeLine; decide), fun o no => ?_⟩
    refine ⟨_, rfl, by decide, by decide, for_range (lo := 0) (n := 8) (fun k σ H' => ∃ y, σ = [some (.ref o), y] ∧ Same H H' ∧ H' o = some (.lst ((List.range (k + 1)).map fun i => V.int (S i))))
      ⟨none, rfl, same_upd no, upd_same⟩ (fun k σ H' hk ⟨y, es, s1, ho⟩ => ?_) (fun σ H' ⟨y, es, s1, ho⟩ => ?_)⟩
    · subst es
      refine ⟨_, rfl, .inl ⟨rfl, _, SqL.of ho⟩, _, rfl, 1, rfl, o, _, -1, .int (S k), rfl, rfl, SqL.of ho, ?_, 26, S k, rfl, rfl, .inl (by decide), _, 1, rfl, rfl, ?_⟩
      · rw [List.range_succ, List.map_append]
        exact atI_last _ _
      · refine ⟨o, _, _, rfl, rfl, ho, ?_, _, rfl, same_set s1 no, ?_⟩
        · exact small1000 (by simp; omega)
        · rw [upd_same, List.range_succ (n := k + 1), List.map_append]
          rfl
    · subst es
      exact ⟨_, rfl, q H' o s1 no ho⟩
/-! _law_same -/
theorem scSame : FnScope ["_law_told", "_law_due"] ["_law_told", "_law_due"] (defScope lSame) := ⟨rfl, rfl, rfl, by decide +kernel, rfl, by decide +kernel, by decide +kernel⟩
theorem same_len {vs : List V} {H : Hp} {Q : VK} {E : XK} (h : spSame vs H Q E) : vs.length = 2 := by
  obtain ⟨t, d, rfl, _⟩ := h
  rfl
theorem ok_same {f : Addr} {fd : FuncData} (F : Fun K "_law_same" "_law_same" lSame f fd) (T : Txt K mg) : FnOk P w K mg base CX0 1 f fd ["_law_told", "_law_due"] spSame := by
  refine F.ok scSame (fun vs H Q E h => same_len h) (fun cdv A outer s H vs Q E hr h => ?_)
  obtain ⟨t, d, rfl, ht, hd, nt, nd, q⟩ := h
  refine ⟨_, pss_cons (ps_if (pt_cmp (pc_isN (pv 1))) (pss_one (ps_ret (pe_cmp (pc_isN (pv 0))))) pss_nil)
    (pss_cons (ps_if (pt_val (pe_callB call_isi (by rfl) T.isi PyProof.Rows.boot_isinstance (pa_cons (pv 1) (pa_cons (pe_bltn (v := .ty "str") (by rfl) T.str PyProof.Rows.boot_str rfl) pa_nil))))
      (pss_one (ps_ret (pe_and (pe_callB call_isi (by rfl) T.isi PyProof.Rows.boot_isinstance (pa_cons (pv 0) (pa_cons (pe_bltn (v := .ty "str") (by rfl) T.str PyProof.Rows.boot_str rfl) pa_nil))) (pe_one (pe_cmpR op_eq (pv 0) (pv 1) (nomark _)))))) pss_nil)
    (pss_one (ps_ret (pe_and (pe_callB call_isi (by rfl) T.isi PyProof.Rows.boot_isinstance (pa_cons (pv 0) (pa_cons (pe_bltn (v := .ty "int") (by rfl) T.int PyProof.Rows.boot_int rfl) pa_nil)))
      (pe_and (pe_not (pe_callB call_isi (by rfl) T.isi PyProof.Rows.boot_isinstance (pa_cons (pv 0) (pa_cons (pe_bltn (v := .ty "bool") (by rfl) T.bool (by decide +kernel) rfl) pa_nil)))) (pe_one (pe_cmpR op_eq (pv 0) (pv 1) (nomark _)))))))), ?_⟩
  have q' := q H (Same.refl H)
  refine ⟨_, rfl, _, rfl, ?_⟩
  cases hd with
  | non =>
    refine iteT ⟨_, rfl, ?_⟩
    exact q'
  | bl b => exact absurd rfl (nd b)
  | str m hm =>
    refine iteF ?_
    refine ⟨_, rfl, .str (tx m), .ty "str", _, _, true, rfl, .ty "str", tyX (.str m hm), kit_ty k_str_str, _, rfl, iteT ?_⟩
    cases ht with
    | bl b => exact absurd rfl (nt b)
    | non => exact ⟨_, rfl, .non, .ty "str", _, _, false, rfl, .ty "str", tyX .non, kit_ty k_NoneType_str, _, rfl, iteF (by rwa [decide_eq_false (fun z => nomatch z)] at q')⟩
    | int i => exact ⟨_, rfl, .int i, .ty "str", _, _, false, rfl, .ty "str", tyX (.int i), kit_ty k_int_str, _, rfl, iteF (by rwa [decide_eq_false (fun z => nomatch z)] at q')⟩
    | str l hl => exact ⟨_, rfl, .str (tx l), .ty "str", _, _, true, rfl, .ty "str", tyX (.str l hl), kit_ty k_str_str, _, rfl, iteT ⟨_, rfl, _, rfl, rfl, q'⟩⟩
  | int j =>
    refine iteF ?_
    refine ⟨_, rfl, .int j, .ty "str", _, _, false, rfl, .ty "str", tyX (.int j), kit_ty k_int_str, _, rfl, iteF ?_⟩
    cases ht with
    | bl b => exact absurd rfl (nt b)
    | non => exact ⟨_, rfl, .non, .ty "int", _, _, false, rfl, .ty "int", tyX .non, kit_ty k_NoneType_int, _, rfl, iteF (by rwa [decide_eq_false (fun z => nomatch z)] at q')⟩
    | str l hl => exact ⟨_, rfl, .str (tx l), .ty "int", _, _, false, rfl, .ty "int", tyX (.str l hl), kit_ty k_str_int, _, rfl, iteF (by rwa [decide_eq_false (fun z => nomatch z)] at q')⟩
    | int i =>
      refine ⟨_, rfl, .int i, .ty "int", _, _, true, rfl, .ty "int", tyX (.int i), kit_ty k_int_int, _, rfl, iteT ?_⟩
      exact ⟨_, rfl, .int i, .ty "bool", _, _, false, rfl, .ty "bool", tyX (.int i), kit_ty k_int_bool, _, rfl, _, rfl, iteT ⟨_, rfl, _, rfl, rfl, q'⟩⟩
theorem ok_sameH {f : Addr} {fd : FuncData} (F : Fun K "_law_same" "_law_same" lSame f fd) (T : Txt K mg) : L2H.FnH P w K mg base CX0 1 f fd ["_law_told", "_law_due"] spSame := by
  refine okH F scSame (fun vs H Q E h => same_len h) (fun cdv A outer s H vs Q E p h => ?_)
  obtain ⟨t, d, rfl, ht, hd, nt, nd, q⟩ := h
  refine ⟨_, pss_cons (ps_if (pt_cmp (pc_isN (pv 1))) (pss_one (ps_ret (pe_cmp (pc_isN (pv 0))))) pss_nil)
    (pss_cons (ps_if (pt_val (pe_callB call_isi (by rfl) T.isi PyProof.Rows.boot_isinstance (pa_cons (pv 1) (pa_cons (pe_bltn (v := .ty "str") (by rfl) T.str PyProof.Rows.boot_str rfl) pa_nil))))
      (pss_one (ps_ret (pe_and (pe_callB call_isi (by rfl) T.isi PyProof.Rows.boot_isinstance (pa_cons (pv 0) (pa_cons (pe_bltn (v := .ty "str") (by rfl) T.str PyProof.Rows.boot_str rfl) pa_nil))) (pe_one (pe_cmpR op_eq (pv 0) (pv 1) (nomark _)))))) pss_nil)
    (pss_one (ps_ret (pe_and (pe_callB call_isi (by rfl) T.isi PyProof.Rows.boot_isinstance (pa_cons (pv 0) (pa_cons (pe_bltn (v := .ty "int") (by rfl) T.int PyProof.Rows.boot_int rfl) pa_nil)))
      (pe_and (pe_not (pe_callB call_isi (by rfl) T.isi PyProof.Rows.boot_isinstance (pa_cons (pv 0) (pa_cons (pe_bltn (v := .ty "bool") (by rfl) T.bool (by decide +kernel) rfl) pa_nil)))) (pe_one (pe_cmpR op_eq (pv 0) (pv 1) (nomark _)))))))), ?_⟩
  have q' := q H (Same.refl H)
  refine ⟨_, rfl, _, rfl, ?_⟩
  cases hd with
  | non =>
    refine iteT ⟨_, rfl, ?_⟩
    exact q'
  | bl b => exact absurd rfl (nd b)
  | str m hm =>
    refine iteF ?_
    refine ⟨_, rfl, .str (tx m), .ty "str", _, _, true, rfl, .ty "str", tyX (.str m hm), kit_ty k_str_str, _, rfl, iteT ?_⟩
    cases ht with
    | bl b => exact absurd rfl (nt b)
    | non => exact ⟨_, rfl, .non, .ty "str", _, _, false, rfl, .ty "str", tyX .non, kit_ty k_NoneType_str, _, rfl, iteF (by rwa [decide_eq_false (fun z => nomatch z)] at q')⟩
    | int i => exact ⟨_, rfl, .int i, .ty "str", _, _, false, rfl, .ty "str", tyX (.int i), kit_ty k_int_str, _, rfl, iteF (by rwa [decide_eq_false (fun z => nomatch z)] at q')⟩
    | str l hl => exact ⟨_, rfl, .str (tx l), .ty "str", _, _, true, rfl, .ty "str", tyX (.str l hl), kit_ty k_str_str, _, rfl, iteT ⟨_, rfl, _, rfl, rfl, q'⟩⟩
  | int j =>
    refine iteF ?_
    refine ⟨_, rfl, .int j, .ty "str", _, _, false, rfl, .ty "str", tyX (.int j), kit_ty k_int_str, _, rfl, iteF ?_⟩
    cases ht with
    | bl b => exact absurd rfl (nt b)
    | non => exact ⟨_, rfl, .non, .ty "int", _, _, false, rfl, .ty "int", tyX .non, kit_ty k_NoneType_int, _, rfl, iteF (by rwa [decide_eq_false (fun z => nomatch z)] at q')⟩
    | str l hl => exact ⟨_, rfl, .str (tx l), .ty "int", _, _, false, rfl, .ty "int", tyX (.str l hl), kit_ty k_str_int, _, rfl, iteF (by rwa [decide_eq_false (fun z => nomatch z)] at q')⟩
    | int i =>
      refine ⟨_, rfl, .int i, .ty "int", _, _, true, rfl, .ty "int", tyX (.int i), kit_ty k_int_int, _, rfl, iteT ?_⟩
      exact ⟨_, rfl, .int i, .ty "bool", _, _, false, rfl, .ty "bool", tyX (.int i), kit_ty k_int_bool, _, rfl, _, rfl, iteT ⟨_, rfl, _, rfl, rfl, q'⟩⟩
end
end K1

set_option Elab.async false
set_option linter.all false
set_option maxRecDepth 100000
set_option maxHeartbeats 4000000
namespace K1
open PySem PySem.Spec PyProof.Rows L2
/-! the pool of numbers -/
def Pool (H : Hp) (p : Addr) : Prop := ∃ ds : List Int, H p = some (.lst (ds.map V.int))
/-- all but p stays -/
def But (p : Addr) (H H' : Hp) : Prop := ∀ b o, b ≠ p → H b = some o → H' b = some o
theorem But.refl (p : Addr) (H : Hp) : But p H H := fun _ _ _ e => e
theorem But.trans {p : Addr} {H H' H2 : Hp} (a : But p H H') (b : But p H' H2) : But p H H2 := fun x o n e => b x o n (a x o n e)
theorem But.of {p : Addr} {H H' : Hp} (a : Same H H') : But p H H' := fun x o _ e => a x o e
theorem But.upd {p : Addr} {H H' : Hp} {o : HO} (a : But p H H') : But p H (upd H' p o) := fun b x n e => by
  rw [upd_ne n]
  exact a b x n e
theorem Pool.same {H H' : Hp} {p : Addr} (h : Pool H p) (s : Same H H') : Pool H' p := by
  obtain ⟨ds, e⟩ := h
  exact ⟨ds, s _ _ e⟩
theorem Pool.ne {H : Hp} {p x : Addr} (h : Pool H p) (e : H x = none) : x ≠ p := fun z => by
  obtain ⟨ds, h⟩ := h
  rw [← z, e] at h
  cases h
theorem But.free {p x : Addr} {H H' : Hp} (s : But p H H') (h : Pool H' p) (e : H' x = none) : H x = none := by
  cases q : H x with
  | none => rfl
  | some o =>
    rw [s x o (h.ne e) q] at e
    cases e
theorem But.new {p x : Addr} {H H' : Hp} {o : HO} (s : But p H H') (h : Pool H' p) (e : H' x = none) : But p H (L2.upd H' x o) := s.trans (But.of (same_upd e))
def spDigits (K : PySem.W.Frag) : Sp := fun vs H Q _ => ∃ (a : Addr) (ns : List Int), vs = [.ref a] ∧ SqL K H a (ns.map V.int) ∧ ∀ H' p, Same H H' → H p = none → Pool H' p → Q (.ref p) H'
def spDraw : Sp := fun vs H Q _ => ∃ (p : Addr) (m : Int), vs = [.ref p, .int m] ∧ Pool H p ∧ (0 < m ∧ m ≤ 10 ^ 18) ∧ ∀ H' d, But p H H' → Pool H' p → 0 ≤ d → d < m → Q (.int d) H'
theorem p60 : (0 : Int) < 10 ^ (60 : Int).toNat := by decide +kernel
theorem d_all (K : PySem.W.Frag) (H : Hp) : ∀ ds : List Int, DpAll K H (ds.map V.int) (ds.map PyData.int)
  | [] => .nil
  | d :: ds => .cons (.int d) (d_all K H ds)
theorem can_ints : ∀ ds : List Int, PyData.canLayAll0 (ds.map PyData.int) = true
  | [] => rfl
  | d :: ds => by
    show (PyData.canLay0 (.int d) && PyData.canLayAll0 (ds.map PyData.int)) = true
    rw [can_ints ds]
    rfl
theorem dep_ints : ∀ ds : List Int, PyData.depthAll (ds.map PyData.int) = 0
  | [] => rfl
  | d :: ds => by
    show max (PyData.depth (.int d)) (PyData.depthAll (ds.map PyData.int)) = 0
    rw [dep_ints ds]
    rfl
theorem shape_ints (ds : List Int) : SeqAt.shaped (.list (ds.map PyData.int)) = true := by
  show (PyData.canLayAll0 (ds.map PyData.int) && decide (PyData.depthAll (ds.map PyData.int) + 1 ≤ 64)) = true
  rw [can_ints, dep_ints]
  rfl
theorem at0 (x : V) (xs : List V) : atI (x :: xs) 0 = some x := atI_nat (j := 0) rfl
theorem ix0 (n : Nat) : ixN (n + 1) 0 = some 0 := by
  unfold ixN
  rw [if_pos (by decide), if_pos (by omega)]
  rfl
theorem sx0 (n : Nat) : seqIndex? 0 (n + 1) = some 0 := PySem.StrLaws.seqIndex_nonneg (by decide) (by omega)
theorem div_draw {m : Int} (h : 0 < m ∧ m ≤ 10 ^ 18) (d : Int) : CDivW d m := wide_div (b := 64) h.1 (by omega) (by decide) (by decide)
section
variable {P : Program} {w : World} {K : PySem.W.Frag} {mg : Str → Option Value} {base : Heap}
theorem scDigits : FnScope ["_law_script", "_law_cell"] ["_law_script"] (defScope lDigits) := ⟨rfl, rfl, rfl, by decide +kernel, rfl, by decide +kernel, by decide +kernel⟩
theorem ok_digits {f : Addr} {fd : FuncData} (F : Fun K "_law_digits" "_law_digits" lDigits f fd) (T : Txt K mg) : FnOk P w K mg base CX0 1 f fd ["_law_script"] (spDigits K) := by
  refine F.ok scDigits (fun vs H Q E h => ?_) (fun cdv A outer s H vs Q E hr h => ?_)
  · obtain ⟨a, ns, rfl, _⟩ := h
    rfl
  · obtain ⟨a, ns, rfl, hS, q⟩ := h
    refine ⟨_, pss_one (ps_ret (pe_lc (own := [("_law_cell", 1)]) (g := gName 1) (tt := tYes) rfl scDigits.nd (pi_list (pe_slice sl_list (pv 0) po_none (po_some pe_int))) (blkOk_by (N := ["_law_script", "_law_cell"]) (sc := defScope lDigits) (by decide +kernel))
        (fun _ _ _ _ _ => pg_name (i := 1) scDigits.nd rfl (Or.inl rfl)) (fun _ _ _ _ _ => pts_nil) (fun _ _ _ _ _ => pe_op op_mod (pe_callB call_abs (by rfl) T.abs (by decide +kernel) (pa_cons (pv 1) pa_nil)) (pe_op op_pow pe_int pe_int)))), ?_⟩
    refine ⟨_, rfl, (63 : Nat), rfl, a, _, rfl, hS, fun p np => ?_⟩
    rw [cutV_to, ← List.map_take]
    have s1 := same_upd (o := HO.lst ((ns.take 63).map V.int)) np
    refine ⟨p, rfl, ⟨_, SqL.of upd_same⟩, fun D nD => ?_⟩
    have hD : H D = none := s1.free nD
    have sD := s1.trans (same_upd nD (o := HO.lst []))
    refine lc_list (K := K) (a := p) (xs := (ns.take 63).map V.int) (fun i H' => Same H H' ∧ (H' p = some (.lst ((ns.take 63).map V.int)) ∧ i ≤ 63) ∧ ∃ ds : List Int, H' D = some (.lst (ds.map V.int)) ∧ ds.length = i)
      ⟨sD, ⟨same_upd nD _ _ upd_same, by decide⟩, [], upd_same, rfl⟩ (fun i H' _ ⟨_, ⟨h, _⟩, _⟩ => SqL.of h) (fun i x H' hx ⟨s2, ⟨hp, hi⟩, ds, hd, hl⟩ => ?_) (fun H' ⟨s2, _, ds, hd, _⟩ => ?_)
    · rw [List.getElem?_map] at hx
      have hi2 : i < 63 := by
        cases e : (ns.take 63)[i]? with
        | none => rw [e] at hx; cases hx
        | some n =>
          have := (List.getElem?_eq_some_iff.mp e).1
          rw [List.length_take] at this
          omega
      obtain ⟨n, rfl⟩ : ∃ n, x = .int n := by
        cases e : (ns.take 63)[i]? with
        | none => rw [e] at hx; cases hx
        | some n => rw [e] at hx; exact ⟨n, (Option.some.inj hx).symm⟩
      refine ⟨rfl, lc_keep ?_⟩
      refine ⟨_, rfl, n, rfl, 10, 60, rfl, rfl, ⟨by decide, by decide, by decide⟩, _, _, rfl, rfl, p60, _, hd, small1000 (by rw [List.length_map]; omega), same_set s2 hD, ⟨?_, hi2⟩, ds ++ [(if n < 0 then -n else n) % (10 ^ Int.toNat 60)], ?_, ?_⟩
      · rw [upd_ne (fun z => ?_)]
        · exact hp
        · rw [← z, upd_same] at nD
          cases nD
      · rw [upd_same, List.map_append]
        rfl
      · rw [List.length_append, hl]
        rfl
    · exact q H' D s2 hD ⟨ds, hd⟩
theorem scDraw : FnScope ["_law_pool", "_law_many", "_law_digit"] ["_law_pool", "_law_many"] (defScope lDraw) := ⟨rfl, rfl, rfl, by decide +kernel, rfl, by decide +kernel, by decide +kernel⟩
theorem ok_draw {f : Addr} {fd : FuncData} (F : Fun K "_law_draw" "_law_draw" lDraw f fd) (T : Txt K mg) : FnOk P w K mg base CX0 1 f fd ["_law_pool", "_law_many"] spDraw := by
  refine F.ok scDraw (fun vs H Q E h => ?_) (fun cdv A outer s H vs Q E hr h => ?_)
  · obtain ⟨p, m, rfl, _⟩ := h
    rfl
  · obtain ⟨p, m, rfl, ⟨ds, hp⟩, hm, q⟩ := h
    refine ⟨_, pss_cons (ps_if (pt_cmpR (op_eqD hr.units) (pv 0) (pe_lst pa_nil) (nomark _)) (pss_one (ps_ret pe_int)) pss_nil)
      (pss_cons (ps_set (i := 2) scDraw.nd rfl (.inl rfl) (pe_op op_mod (pe_callTy call_int1 (by rfl) T.int PyProof.Rows.boot_int (pa_cons (pe_ix ix_list (pv 0) pe_int (fun _ _ => rfl)) pa_nil)) (pv 1)))
      (pss_cons (ps_asg (pe_op op_fdivW (pe_ix ix_list (pv 0) pe_int (fun _ _ => rfl)) (pv 1)) (pg_sub (pv 0) pe_int set_list))
      (pss_cons (ps_if (pt_cmpR op_eq (pe_ix ix_list (pv 0) pe_int (fun _ _ => rfl)) pe_int (nomark _))
        (pss_one (ps_expr (pe_bm PySem.F.plainAttrs_list PySem.F.slot_list_pop PySem.F.type_list_pop mt_popAt (pv 0) (pa_cons pe_int pa_nil)))) pss_nil)
      (pss_one (ps_ret (pv 2)))))), ?_⟩
    refine ⟨_, rfl, (by show 0 ≤ sizeLine; decide), fun o no => ?_⟩
    have h1 := same_upd (o := HO.lst []) no _ _ hp
    refine ⟨.list (ds.map PyData.int), .list [], .lst (SqL.of h1) (d_all _ _ ds), .lst (SqL.of upd_same) .nil, shape_ints ds, rfl, _, rfl, ?_⟩
    have b1 : But p H (upd H o (.lst [])) := But.of (same_upd no)
    cases ds with
    | nil => exact iteT (q _ 0 b1 ⟨[], h1⟩ (by decide) hm.1)
    | cons d ds =>
      refine iteF ?_
      refine ⟨_, rfl, p, _, 0, .int d, rfl, rfl, SqL.of h1, at0 _ _, .inl ⟨_, rfl, _, rfl, _, _, rfl, rfl, hm.1, _, rfl, p, _, 0, .int d, rfl, rfl, SqL.of h1, at0 _ _, _, rfl, _, _, rfl, rfl, div_draw hm d, _, rfl, p, _, 0, 0, rfl, rfl, h1, ix0 _, ?_⟩⟩
      refine ⟨_, rfl, p, _, 0, .int (d / m), rfl, rfl, SqL.of upd_same, at0 _ _, rfl, _, rfl, ite2 (fun h2 => ?_) (fun h2 => ?_)⟩
      · refine ⟨_, rfl, .inl ⟨rfl, _, SqL.of upd_same⟩, p, _, 0, 0, .int (d / m), rfl, rfl, upd_same, by decide, by decide, sx0 _, rfl, _, rfl, ?_⟩
        exact q _ _ (But.upd (But.upd b1)) ⟨ds, upd_same⟩ (Int.emod_nonneg d (by omega)) (Int.emod_lt_of_pos d hm.1)
      · refine ⟨_, rfl, ?_⟩
        exact q _ _ (But.upd b1) ⟨(d / m) :: ds, upd_same⟩ (Int.emod_nonneg d (by omega)) (Int.emod_lt_of_pos d hm.1)
end
end K1

set_option Elab.async false
set_option linter.all false
set_option maxRecDepth 100000
set_option maxHeartbeats 4000000
namespace K1
open PySem PySem.Spec PyProof.Rows L2
/-- a value that the pool tells -/
def spNumber : Sp := fun vs H Q _ => ∃ (p : Addr) (k : Int), vs = [.ref p, .int k] ∧ Pool H p ∧ ∀ H' v, But p H H' → Pool H' p → isVal false v → Q v H'
def spDrawn : Sp := fun vs H Q _ => ∃ (p : Addr) (n : Nat), vs = [.ref p, .int n] ∧ Pool H p ∧ n ≤ 8 ∧ ∀ H' l, But p H H' → Pool H' p → Lets l → l.length = n → Q (.str (tx l)) H'
theorem let_at {j : Int} (h0 : 0 ≤ j) (h1 : j < 26) : ∃ c : Nat, Let c ∧ (c : Int) = 97 + j ∧ atI (tx LET).cps.toList j = some c := by
  obtain ⟨n, rfl⟩ : ∃ n : Nat, j = n := ⟨j.toNat, by omega⟩
  exact ⟨97 + n, ⟨by omega, by omega⟩, by omega, atI_nat (LET_get (by omega))⟩
section
variable {P : Program} {w : World} {K : PySem.W.Frag} {mg : Str → Option Value} {base : Heap}
theorem scNumber : FnScope ["_law_pool", "_law_k", "_law_kind", "_law_size"] ["_law_pool", "_law_k"] (defScope lNumber) := ⟨rfl, rfl, rfl, by decide +kernel, rfl, by decide +kernel, by decide +kernel⟩
theorem ok_number {f : Addr} {fd : FuncData} (F : Fun K "_law_number" "_law_number" lNumber f fd) (T : Txt K mg) (GD : Fn P w K mg base CX0 1 "_law_draw" ["_law_pool", "_law_many"] spDraw) : FnOk P w K mg base CX0 2 f fd ["_law_pool", "_law_k"] spNumber := by
  refine F.ok scNumber (fun vs H Q E h => ?_) (fun cdv A outer s H vs Q E hr h => ?_)
  · obtain ⟨p, k, rfl, _⟩ := h
    rfl
  · obtain ⟨p, k, rfl, hp, q⟩ := h
    refine ⟨_, pss_cons (ps_set (i := 2) scNumber.nd rfl (.inl rfl) (pe_fn GD hr (by rfl) pass0 (pa_cons (pv 0) (pa_cons pe_int pa_nil))))
      (pss_cons (ps_if (pt_cmpR op_eq (pv 2) pe_int (nomark _))
        (pss_cons (ps_set (i := 3) scNumber.nd rfl (.inl rfl) (pe_fn GD hr (by rfl) pass0 (pa_cons (pv 0) (pa_cons pe_int pa_nil))))
        (pss_one (ps_ret (pe_ifExp (pt_cmpR op_eq (pe_op op_mod (pe_callTy call_int1 (by rfl) T.int PyProof.Rows.boot_int (pa_cons (pv 3) pa_nil)) pe_int) pe_int (nomark _))
          (pe_op op_fdiv (pv 3) pe_int) (pe_op op_sub (pe_un un_neg pe_int) (pe_op op_fdiv (pv 3) pe_int)))))) pss_nil)
      (pss_cons (ps_if (pt_cmpR op_eq (pv 2) pe_int (nomark _))
        (pss_one (ps_ret (pe_ix ix_list (pe_lst (pa_cons pe_int (pa_cons (pe_un un_neg pe_int) (pa_cons pe_int (pa_cons (pe_un un_neg pe_int) (pa_cons pe_int pa_nil)))))) (pe_fn GD hr (by rfl) pass0 (pa_cons (pv 0) (pa_cons pe_int pa_nil))) (fun _ _ => rfl)))) pss_nil)
      (pss_one (ps_ret (pe_op op_mod (pe_callTy call_int1 (by rfl) T.int PyProof.Rows.boot_int (pa_cons (pe_op op_add (pe_fn GD hr (by rfl) pass0 (pa_cons (pv 0) (pa_cons pe_int pa_nil))) (pv 1)) pa_nil)) pe_int))))), ?_⟩
    refine ⟨_, rfl, p, 5, rfl, hp, by decide, fun H1 d b1 p1 h0 h1 => ?_⟩
    refine ⟨_, rfl, rfl, _, rfl, ite2 (fun h2 => ?_) (fun h2 => ?_)⟩
    · refine ⟨_, rfl, p, 1999999999, rfl, p1, by decide, fun H2 z b2 p2 g0 g1 => ?_⟩
      refine ⟨_, rfl, .inl ⟨z, rfl, z, 2, rfl, rfl, (by show (0 : Int) < 2; decide), rfl, _, rfl, ite2 (fun h3 => ?_) (fun h3 => ?_)⟩⟩
      · refine ⟨_, rfl, z, 2, rfl, rfl, ⟨by decide, by decide⟩, ?_⟩
        exact q _ _ (b1.trans b2) p2 ⟨z / 2, by omega, rfl⟩
      · refine ⟨1, rfl, _, rfl, z, 2, rfl, rfl, ⟨by decide, by decide⟩, _, _, rfl, rfl, ?_⟩
        have a3 : ¬ z % 2 = 0 := fun e => of_decide_eq_false (Bool.eq_false_iff.mpr h3) (congrArg V.int e)
        exact q _ _ (b1.trans b2) p2 ⟨-1 - z / 2, by omega, rfl⟩
    · refine ⟨_, rfl, rfl, _, rfl, ite2 (fun h3 => ?_) (fun h3 => ?_)⟩
      · refine ⟨999999999, rfl, 1, rfl, (by show 5 ≤ sizeLine; decide), fun o no => ?_⟩
        have s1 := same_upd (o := HO.lst [.int 999999999, .int (-999999999), .int 999999998, .int (-1), .int 536870912]) no
        refine ⟨_, rfl, p, 5, rfl, p1.same s1, by decide, fun H2 z b2 p2 g0 g1 => ?_⟩
        have ho := b2 o _ (p1.ne no) (upd_same (o := HO.lst [.int 999999999, .int (-999999999), .int 999999998, .int (-1), .int 536870912]))
        have fin : ∀ i : Int, -999999999 ≤ i ∧ i ≤ 999999999 → Q (.int i) H2 := fun i hi => q _ _ ((b1.trans (But.of s1)).trans b2) p2 ⟨i, hi, rfl⟩
        have hz : z = 0 ∨ z = 1 ∨ z = 2 ∨ z = 3 ∨ z = 4 := by omega
        rcases hz with rfl | rfl | rfl | rfl | rfl
        · exact ⟨o, _, _, .int 999999999, rfl, rfl, SqL.of ho, rfl, fin _ (by decide)⟩
        · exact ⟨o, _, _, .int (-999999999), rfl, rfl, SqL.of ho, rfl, fin _ (by decide)⟩
        · exact ⟨o, _, _, .int 999999998, rfl, rfl, SqL.of ho, rfl, fin _ (by decide)⟩
        · exact ⟨o, _, _, .int (-1), rfl, rfl, SqL.of ho, rfl, fin _ (by decide)⟩
        · exact ⟨o, _, _, .int 536870912, rfl, rfl, SqL.of ho, rfl, fin _ (by decide)⟩
      · refine ⟨_, rfl, p, 10, rfl, p1, by decide, fun H2 z b2 p2 g0 g1 => ?_⟩
        refine ⟨_, rfl, z, k, rfl, rfl, .inl ⟨_, rfl, _, _, rfl, rfl, (by show (0 : Int) < 10; decide), ?_⟩⟩
        exact q _ _ (b1.trans b2) p2 ⟨(z + k) % 10, by omega, rfl⟩
theorem scDrawn : FnScope ["_law_pool", "_law_many", "_law_text_here", "_law_at"] ["_law_pool", "_law_many"] (defScope lDrawn) := ⟨rfl, rfl, rfl, by decide +kernel, rfl, by decide +kernel, by decide +kernel⟩
theorem ok_drawn {f : Addr} {fd : FuncData} (F : Fun K "_law_drawn" "_law_drawn" lDrawn f fd) (T : Txt K mg) (GD : Fn P w K mg base CX0 1 "_law_draw" ["_law_pool", "_law_many"] spDraw) (GL : Fn P w K mg base CX0 1 "_law_letters" [] spLetters) : FnOk P w K mg base CX0 2 f fd ["_law_pool", "_law_many"] spDrawn := by
  refine F.ok scDrawn (fun vs H Q E h => ?_) (fun cdv A outer s H vs Q E hr h => ?_)
  · obtain ⟨p, k, rfl, _⟩ := h
    rfl
  · obtain ⟨p, n, rfl, hp, hn, q⟩ := h
    refine ⟨_, pss_cons (ps_set (i := 2) scDrawn.nd rfl (.inl rfl) pe_str)
      (pss_cons (ps_for PassesOwn.never rfl (pi_range1 (by rfl) T.range (pa_cons (pv 1) pa_nil)) (pg_name (i := 3) scDrawn.nd rfl (.inl rfl))
        (pss_one (ps_set (i := 2) scDrawn.nd rfl (.inl rfl) (pe_op op_add_str (pv 2) (pe_ix ix_str (pe_fn0 GL hr (by rfl) pass0) (pe_fn GD hr (by rfl) pass0 (pa_cons (pv 0) (pa_cons pe_int pa_nil))) (fun _ _ => rfl))))))
      (pss_one (ps_ret (pv 2)))), ?_⟩
    refine ⟨_, rfl, _, rfl, by omega, by omega, for_range (lo := 0) (n := n) (fun i σ H' => ∃ (l : List Nat) (y : Option V), σ = [some (.ref p), some (.int n), some (.str (tx l)), y] ∧ But p H H' ∧ Pool H' p ∧ Lets l ∧ l.length = i)
      ⟨[], none, by rw [← e_eq]; rfl, But.refl p H, hp, Lets.nil, rfl⟩ (fun i σ H' hi ⟨l, y, es, b1, p1, hl, hli⟩ => ?_) (fun σ H' ⟨l, y, es, b1, p1, hl, hli⟩ => ?_)⟩
    · subst es
      refine ⟨_, rfl, rfl, fun H2 s2 => ?_⟩
      refine ⟨_, rfl, p, 26, rfl, p1.same s2, by decide, fun H3 z b3 p3 g0 g1 => ?_⟩
      obtain ⟨c, hc, _, hat⟩ := let_at g0 g1
      refine ⟨tx LET, z, c, rfl, rfl, by rw [LET_len]; exact Nat.le_of_lt (small1000 (by decide)), hat, tx l, tx [c], rfl, rfl, ?_, ?_⟩
      · rw [tx_len, tx_len]
        exact Nat.le_of_lt (small1000 (by simp; omega))
      · rw [tx_app]
        exact ⟨l ++ [c], _, rfl, (b1.trans (But.of s2)).trans b3, p3, hl.app (Lets.cons hc Lets.nil), by simp; exact hli⟩
    · subst es
      exact ⟨_, rfl, q _ _ b1 p1 hl hli⟩
end
end K1

set_option Elab.async false
set_option linter.all false
set_option maxRecDepth 100000
set_option maxHeartbeats 4000000
namespace K1
open PySem PySem.Spec PyProof.Rows L2
def spWord : Sp := fun vs H Q _ => ∃ (p : Addr) (k : Int), vs = [.ref p, .int k] ∧ Pool H p ∧ ∀ H' v, But p H H' → Pool H' p → isVal true v → Q v H'
def spRank : Sp := fun vs H Q _ => ∃ (b : Bool) (v : V), vs = [v] ∧ isVal b v ∧ ∀ H', Same H H' → Q (.int (rk v)) H'
def spRanked : Sp := fun vs H Q _ => ∃ (b : Bool) (r : Int), vs = [.bl b, .int r] ∧ ∀ H', Same H H' → Q (rkd b r) H'
def KNOWN : List Str := ["oslo", "rome", "a", "aa", "ab", "b", "paris", "pisa", "zz", "zzzzzzzz", "z"]
theorem known_all : ((KNOWN ++ KEYS).all fun z => isWl z.cps.toList) = true := by decide +kernel
theorem known_len : (KNOWN ++ KEYS).length = 30 := rfl
theorem word_at {i : Int} (h0 : 0 ≤ i) (h1 : i < 30) : ∃ v, atI ((KNOWN ++ KEYS).map V.str) i = some v ∧ isVal true v := by
  obtain ⟨n, rfl⟩ : ∃ n : Nat, i = n := ⟨i.toNat, by omega⟩
  have hn : n < (KNOWN ++ KEYS).length := by rw [known_len]; omega
  refine ⟨.str (KNOWN ++ KEYS)[n], atI_nat ?_, (KNOWN ++ KEYS)[n].cps.toList, isWl_iff.mp ?_, by rw [tx_of]⟩
  · rw [List.getElem?_map, List.getElem?_eq_getElem hn]
    rfl
  · exact List.all_eq_true.mp known_all _ (List.getElem_mem hn)
theorem size_at {n : Nat} (h : n < 9) : atI sizesV (n : Int) = some (.int (S n)) := by
  refine atI_nat ?_
  unfold sizesV
  rw [List.getElem?_map, List.getElem?_range h]
  rfl
section
variable {P : Program} {w : World} {K : PySem.W.Frag} {mg : Str → Option Value} {base : Heap}
theorem scWord : FnScope ["_law_pool", "_law_k", "_law_kind", "_law_known", "_law_text_here"] ["_law_pool", "_law_k"] (defScope lWord) := ⟨rfl, rfl, rfl, by decide +kernel, rfl, by decide +kernel, by decide +kernel⟩
theorem ok_word {f : Addr} {fd : FuncData} (F : Fun K "_law_word" "_law_word" lWord f fd) (T : Txt K mg) (GD : Fn P w K mg base CX0 1 "_law_draw" ["_law_pool", "_law_many"] spDraw) (GK : Fn P w K mg base CX0 1 "_law_keys" [] spKeys)
    (GW : Fn P w K mg base CX0 2 "_law_drawn" ["_law_pool", "_law_many"] spDrawn) : FnOk P w K mg base CX0 3 f fd ["_law_pool", "_law_k"] spWord := by
  refine F.ok scWord (fun vs H Q E h => ?_) (fun cdv A outer s H vs Q E hr h => ?_)
  · obtain ⟨p, k, rfl, _⟩ := h
    rfl
  · obtain ⟨p, k, rfl, hp, q⟩ := h
    have hr1 := hr.mono (show 1 ≤ 2 by decide)
    refine ⟨_, pss_cons (ps_set (i := 2) scWord.nd rfl (.inl rfl) (pe_fn GD hr1 (by rfl) pass0 (pa_cons (pv 0) (pa_cons pe_int pa_nil))))
      (pss_cons (ps_if (pt_cmpR op_lt (pv 2) pe_int (nomark _))
        (pss_cons (ps_set (i := 3) scWord.nd rfl (.inl rfl) (pe_lst (pa_cons pe_str (pa_cons pe_str (pa_cons pe_str (pa_cons pe_str (pa_cons pe_str (pa_cons pe_str (pa_cons pe_str (pa_cons pe_str (pa_cons pe_str (pa_cons pe_str (pa_cons pe_str pa_nil)))))))))))))
        (pss_cons (ps_set (i := 3) scWord.nd rfl (.inl rfl) (pe_op op_cat (pv 3) (pe_fn0 GK hr1 (by rfl) pass0)))
        (pss_one (ps_ret (pe_ix ix_list (pv 3) (pe_op op_mod (pe_callTy call_int1 (by rfl) T.int PyProof.Rows.boot_int (pa_cons (pe_op op_add (pe_fn GD hr1 (by rfl) pass0 (pa_cons (pv 0) (pa_cons pe_int pa_nil))) (pv 1)) pa_nil)) pe_int) (fun _ _ => rfl)))))) pss_nil)
      (pss_cons (ps_set (i := 4) scWord.nd rfl (.inl rfl) (pe_fn GW hr (by rfl) pass0 (pa_cons (pv 0) (pa_cons (pe_op op_add pe_int (pe_fn GD hr1 (by rfl) pass0 (pa_cons (pv 0) (pa_cons pe_int pa_nil)))) pa_nil))))
      (pss_cons (ps_if (pt_cmpR op_eq (pv 2) pe_int (nomark _)) (pss_one (ps_ret (pe_op op_add_str (pv 4) (pe_op op_mul_str pe_str (pe_op op_sub pe_int (pe_callB call_len_str (by rfl) T.len PySem.boot_len (pa_cons (pv 4) pa_nil))))))) pss_nil)
      (pss_cons (ps_if (pt_cmpR op_eq (pv 2) pe_int (nomark _)) (pss_one (ps_set (i := 4) scWord.nd rfl (.inl rfl) (pe_op op_add_str (pv 4) (pe_op op_mul_str pe_str (pe_fn GD hr1 (by rfl) pass0 (pa_cons (pv 0) (pa_cons pe_int pa_nil))))))) pss_nil)
      (pss_one (ps_ret (pe_slice sl_str (pv 4) po_none (po_some pe_int)))))))), ?_⟩
    refine ⟨_, rfl, p, 5, rfl, hp, by decide, fun H1 d b1 p1 h0 h1 => ?_⟩
    refine ⟨_, rfl, _, _, rfl, rfl, _, rfl, ite2 (fun h2 => ?_) (fun h2 => ?_)⟩
    · refine ⟨(by show 11 ≤ sizeLine; decide), fun o no => ?_⟩
      have s1 := same_upd (o := HO.lst (KNOWN.map V.str)) no
      refine ⟨_, rfl, rfl, fun H2 o2 s2 n2 ho2 => ?_⟩
      refine ⟨o, o2, _, _, rfl, rfl, s2 o _ upd_same, ho2, (by show 30 ≤ sizeLine; decide), fun o3 no3 => ?_⟩
      have s3 := (s1.trans s2).trans (same_upd (o := HO.lst ((KNOWN ++ KEYS).map V.str)) no3)
      have p3 := p1.same s3
      refine ⟨_, rfl, _, rfl, p, 30, rfl, p3, by decide, fun H4 z b4 p4 g0 g1 => ?_⟩
      obtain ⟨v, hat, hv⟩ := word_at (i := (z + k) % 30) (by omega) (by omega)
      have ho3 : H4 o3 = some (.lst ((KNOWN ++ KEYS).map V.str)) := b4 o3 _ (fun e => (p1.same (s1.trans s2)).ne no3 e) upd_same
      refine ⟨_, rfl, z, k, rfl, rfl, .inl ⟨_, rfl, _, _, rfl, rfl, (by show (0 : Int) < 30; decide), o3, _, _, v, rfl, rfl, SqL.of ho3, hat, ?_⟩⟩
      exact q _ _ ((b1.trans (But.of s3)).trans b4) p4 hv
    · refine ⟨_, rfl, _, rfl, p, 8, rfl, p1, by decide, fun H2 z b2 p2 g0 g1 => ?_⟩
      refine ⟨1, z, rfl, rfl, p, (1 + z).toNat, ?_, p2, by omega, fun H3 l b3 p3 hl hll => ?_⟩
      · rw [show ((1 + z).toNat : Int) = 1 + z by omega]
        rfl
      have l8 : 1 ≤ l.length ∧ l.length ≤ 8 := by omega
      have b13 := (b1.trans b2).trans b3
      have slen : ∀ n : Nat, n ≤ 1000 → n ≤ sizeLine := fun n h => Nat.le_of_lt (small1000 h)
      refine ⟨_, rfl, rfl, _, rfl, ite2 (fun h3 => ?_) (fun h3 => ?_)⟩
      · refine ⟨_, rfl, _, rfl, tx l, rfl, slen _ (by rw [tx_len]; omega), _, _, rfl, rfl, ?_⟩
        rw [tx_len]
        refine ⟨_, _, rfl, rfl, (by rw [z_eq, tx_len]; simp), by omega, by omega, ?_⟩
        rw [z_eq, mul_one]
        refine ⟨_, _, rfl, rfl, slen _ (by rw [tx_len, tx_len, List.length_replicate]; omega), ?_⟩
        rw [tx_app]
        exact q _ _ b13 p3 ⟨_, ⟨by rw [List.length_append]; omega, by rw [List.length_append, List.length_replicate]; omega, hl.app (Lets.rep _ ⟨by omega, by omega⟩)⟩, rfl⟩
      · have cut : ∀ (H4 : Hp) (m : List Nat), But p H H4 → Pool H4 p → Lets m → 1 ≤ m.length → m.length ≤ 1000 → tRet (tSl rSlS (tVar 4) tNoPart (tPart (tC (V.int 8)))) { nx := fun x H' => Q V.non H', rt := Q } [some (.ref p), some (.int k), some (.int d), none, some (.str (tx m))] H4 := fun H4 m b4 p4 hm h1 h1000 => by
          refine ⟨_, rfl, (8 : Nat), rfl, tx m, rfl, slen _ (by rw [tx_len]; exact h1000), ?_⟩
          rw [cut_to]
          exact q _ _ b4 p4 ⟨_, ⟨by rw [List.length_take]; omega, by rw [List.length_take]; omega, fun x hx => hm x (List.mem_of_mem_take hx)⟩, rfl⟩
        refine ⟨_, rfl, rfl, _, rfl, ite2 (fun h4 => ?_) (fun h4 => ?_)⟩
        · refine ⟨_, rfl, _, rfl, p, 8, rfl, p3, by decide, fun H4 y b4 p4 e0 e1 => ?_⟩
          refine ⟨_, y, rfl, rfl, (by rw [a_eq, tx_len]; simp), by omega, by omega, ?_⟩
          rw [a_eq, mul_one]
          refine ⟨_, _, rfl, rfl, slen _ (by rw [tx_len, tx_len, List.length_replicate]; omega), ?_⟩
          rw [tx_app]
          exact cut H4 _ (b13.trans b4) p4 (hl.app (Lets.rep _ ⟨by omega, by omega⟩)) (by rw [List.length_append]; omega) (by rw [List.length_append, List.length_replicate]; omega)
        · exact cut H3 l b13 p3 hl l8.1 (by omega)
theorem scRank : FnScope ["_law_value_here", "_law_sizes_here", "_law_rank_here", "_law_k", "_law_at"] ["_law_value_here"] (defScope lRank) := ⟨rfl, rfl, rfl, by decide +kernel, rfl, by decide +kernel, by decide +kernel⟩
theorem ok_rank {f : Addr} {fd : FuncData} (F : Fun K "_law_rank" "_law_rank" lRank f fd) (T : Txt K mg) (GS : Fn P w K mg base CX0 1 "_law_sizes" [] spSizes) (GL : Fn P w K mg base CX0 1 "_law_letters" [] spLetters) : FnOk P w K mg base CX0 2 f fd ["_law_value_here"] spRank := by
  refine F.ok scRank (fun vs H Q E h => ?_) (fun cdv A outer s H vs Q E hr h => ?_)
  · obtain ⟨b, v, rfl, _⟩ := h
    rfl
  · obtain ⟨b, v, rfl, hv, q⟩ := h
    refine ⟨_, pss_cons (ps_if (pt_not (pt_val (pe_callB call_isi (by rfl) T.isi PyProof.Rows.boot_isinstance (pa_cons (pv 0) (pa_cons (pe_bltn (v := .ty "str") (by rfl) T.str PyProof.Rows.boot_str rfl) pa_nil)))))
        (pss_one (ps_ret (pe_op op_add (pv 0) pe_int))) pss_nil)
      (pss_cons (ps_set (i := 1) scRank.nd rfl (.inl rfl) (pe_fn0 GS hr (by rfl) pass0))
      (pss_cons (ps_set (i := 2) scRank.nd rfl (.inl rfl) (pe_un un_neg pe_int))
      (pss_cons (ps_for PassesOwn.never rfl (pi_range1 (by rfl) T.range (pa_cons (pe_callB call_len_str (by rfl) T.len PySem.boot_len (pa_cons (pv 0) pa_nil)) pa_nil)) (pg_name (i := 3) scRank.nd rfl (.inl rfl))
        (pss_cons (ps_set (i := 4) scRank.nd rfl (.inl rfl) (pe_bm PySem.F.plainAttrs_str PySem.F.slot_str_find PySem.F.type_str_find mt_find (pe_fn0 GL hr (by rfl) pass0) (pa_cons (pe_ix ix_str (pv 0) (pv 3) (fun _ _ => rfl)) pa_nil)))
        (pss_one (ps_set (i := 2) scRank.nd rfl (.inl rfl) (pe_op op_add (pe_op op_add (pv 2) pe_int) (pe_op op_mul (pv 4) (pe_ix ix_list (pv 1) (pe_op op_sub pe_int (pv 3)) (fun _ _ => rfl))))))))
      (pss_one (ps_ret (pv 2)))))), ?_⟩
    cases b with
    | false =>
      obtain ⟨i, hi, rfl⟩ := hv
      refine ⟨_, rfl, .int i, .ty "str", _, _, false, rfl, .ty "str", tyX (.int i), kit_ty k_int_str, _, rfl, iteT ?_⟩
      exact ⟨_, rfl, i, _, rfl, rfl, q H (Same.refl H)⟩
    | true =>
      obtain ⟨l, hl, rfl⟩ := hv
      have h8 := hl.2.1
      have hz : (tx l).length ≤ sizeLine := by rw [tx_len]; exact Nat.le_of_lt (small1000 (by omega))
      refine ⟨_, rfl, .str (tx l), .ty "str", _, _, true, rfl, .ty "str", tyX (.str l (by omega)), kit_ty k_str_str, _, rfl, iteF ?_⟩
      refine ⟨rfl, fun H1 a s1 na ha => ?_⟩
      refine ⟨1, rfl, _, rfl, tx l, rfl, hz, _, rfl, by rw [tx_len]; omega, by rw [tx_len]; omega, ?_⟩
      rw [tx_len]
      refine for_range (lo := 0) (n := l.length) (fun i σ H' => ∃ y3 y4 : Option V, σ = [some (.str (tx l)), some (.ref a), some (.int (K1.P 8 l - 1 - K1.P (8 - i) (l.drop i))), y3, y4] ∧ Same H H' ∧ H' a = some (.lst sizesV))
        ⟨none, none, ?_, s1, ha⟩ (fun i σ H' hi ⟨y3, y4, es, s2, ha2⟩ => ?_) (fun σ H' ⟨y3, y4, es, s2, ha2⟩ => ?_)
      · show [_, _, some (V.int (-1)), _, _] = [_, _, some (V.int (K1.P 8 l - 1 - K1.P 8 l)), _, _]
        rw [show K1.P 8 l - 1 - K1.P 8 l = -1 by omega]
      · subst es
        refine ⟨rfl, fun H2 s3 => ?_⟩
        obtain ⟨c, hc⟩ : ∃ c, l[i]? = some c := ⟨l[i], List.getElem?_eq_getElem hi⟩
        have hlc : Let c := hl.2.2 c (List.mem_of_getElem? hc)
        have hat : atI (tx l).cps.toList (0 + (i : Int)) = some c := by rw [Int.zero_add]; exact atI_nat hc
        have hat2 : atI sizesV (7 - (0 + (i : Int))) = some (.int (S (7 - i))) := by
          rw [show 7 - (0 + (i : Int)) = ((7 - i : Nat) : Int) by omega]
          exact size_at (by omega)
        refine ⟨rfl, _, rfl, _, rfl, tx l, _, c, rfl, rfl, hz, hat, tx LET, tx [c], rfl, rfl, ?_⟩
        rw [find_let' hlc]
        refine ⟨_, rfl, _, _, rfl, rfl, _, rfl, _, rfl, _, rfl, _, _, rfl, rfl, a, _, _, _, rfl, rfl, SqL.of (s3 a _ ha2), hat2, _, _, rfl, rfl, .inl (by have := hlc.1; have := hlc.2; omega), _, _, rfl, rfl, some (.int (0 + i)), some (.int ((c : Int) - 97)), ?_, s2.trans s3, s3 a _ ha2⟩
        have hd : l.drop i = c :: l.drop (i + 1) := by
          rw [List.drop_eq_getElem_cons hi]
          congr 1
          exact Option.some.inj ((List.getElem?_eq_getElem hi).symm.trans hc)
        have e1 : K1.P (8 - i) (l.drop i) = 1 + ((c : Int) - 97) * S (7 - i) + K1.P (8 - (i + 1)) (l.drop (i + 1)) := by
          rw [hd, show 8 - i = (7 - i) + 1 by omega, P_cons, show 8 - (i + 1) = 7 - i by omega]
        have e2 : K1.P 8 l - 1 - K1.P (8 - i) (l.drop i) + 1 + ((c : Int) - 97) * S (7 - i) = K1.P 8 l - 1 - K1.P (8 - (i + 1)) (l.drop (i + 1)) := by
          rw [e1]
          omega
        rw [← e2]
        rfl
      · subst es
        refine ⟨_, rfl, ?_⟩
        have e : K1.P 8 l - 1 - K1.P (8 - l.length) (l.drop l.length) = rk (.str (tx l)) := by
          rw [List.drop_length, P_nil]
          show _ = K1.P 8 l - 1
          omega
        rw [e]
        exact q H' s2
end
end K1

set_option Elab.async false
set_option linter.all false
set_option maxRecDepth 100000
set_option maxHeartbeats 4000000
namespace K1
open PySem PySem.Spec PyProof.Rows L2
theorem W_step (n : Nat) (r : Int) : W (n + 1) r = (97 + (r / S n).toNat) :: (if r % S n = 0 then [] else W n (r % S n - 1)) := rfl
theorem size_ok {n : Nat} (h : n < 9) : 0 < S n ∧ (S n).natAbs.log2 < 9000 := by
  have : ∀ n : Nat, n < 9 → 0 < S n ∧ (S n).natAbs.log2 < 9000 := by decide +kernel
  exact this n h
section
variable {P : Program} {w : World} {K : PySem.W.Frag} {mg : Str → Option Value} {base : Heap}
theorem scRanked : FnScope ["_law_words", "_law_rank_here", "_law_sizes_here", "_law_text_here", "_law_k"] ["_law_words", "_law_rank_here"] (defScope lRanked) := ⟨rfl, rfl, rfl, by decide +kernel, rfl, by decide +kernel, by decide +kernel⟩
theorem ok_ranked {f : Addr} {fd : FuncData} (F : Fun K "_law_ranked" "_law_ranked" lRanked f fd) (T : Txt K mg) (GS : Fn P w K mg base CX0 1 "_law_sizes" [] spSizes) (GL : Fn P w K mg base CX0 1 "_law_letters" [] spLetters) : FnOk P w K mg base CX0 2 f fd ["_law_words", "_law_rank_here"] spRanked := by
  refine F.ok scRanked (fun vs H Q E h => ?_) (fun cdv A outer s H vs Q E hr h => ?_)
  · obtain ⟨b, v, rfl, _⟩ := h
    rfl
  · obtain ⟨b, r, rfl, q⟩ := h
    refine ⟨_, pss_cons (ps_if (pt_not (pt_val (pv 0)))
        (pss_one (ps_ret (pe_ifExp (pt_chain op_le op_le pe_int (pv 1) pe_int) (pe_op op_sub (pv 1) pe_int) pe_non))) pss_nil)
      (pss_cons (ps_set (i := 2) scRanked.nd rfl (.inl rfl) (pe_fn0 GS hr (by rfl) pass0))
      (pss_cons (ps_if (pt_not (pt_chain op_le op_lt pe_int (pv 1) (pe_op op_mul pe_int (pe_ix ix_list (pv 2) pe_int (fun _ _ => rfl))))) (pss_one (ps_ret pe_non)) pss_nil)
      (pss_cons (ps_set (i := 3) scRanked.nd rfl (.inl rfl) pe_str)
      (pss_cons (ps_for PassesOwn.never rfl (pi_range1 (by rfl) T.range (pa_cons pe_int pa_nil)) (pg_name (i := 4) scRanked.nd rfl (.inl rfl))
        (pss_cons (ps_set (i := 3) scRanked.nd rfl (.inl rfl) (pe_op op_add_str (pv 3) (pe_ix ix_str (pe_fn0 GL hr (by rfl) pass0) (pe_op op_fdivW (pv 1) (pe_ix ix_list (pv 2) (pe_op op_sub pe_int (pv 4)) (fun _ _ => rfl))) (fun _ _ => rfl))))
        (pss_cons (ps_set (i := 1) scRanked.nd rfl (.inl rfl) (pe_op op_mod (pe_callTy call_int1 (by rfl) T.int PyProof.Rows.boot_int (pa_cons (pv 1) pa_nil)) (pe_ix ix_list (pv 2) (pe_op op_sub pe_int (pv 4)) (fun _ _ => rfl))))
        (pss_cons (ps_if (pt_cmpR op_eq (pv 1) pe_int (nomark _)) (pss_one (ps_ret (pv 3))) pss_nil)
        (pss_one (ps_set (i := 1) scRanked.nd rfl (.inl rfl) (pe_op op_sub (pv 1) pe_int)))))))
      (pss_one (ps_ret (pv 3))))))), ?_⟩
    refine ⟨_, rfl, _, rfl, ?_⟩
    cases b with
    | false =>
      have q' := q H (Same.refl H)
      refine iteT ?_
      refine ⟨_, rfl, _, _, rfl, rfl, _, rfl, ite2 (fun h1 => ?_) (fun h1 => ?_)⟩
      · refine ⟨_, _, rfl, rfl, _, rfl, ite2 (fun h2 => ?_) (fun h2 => ?_)⟩
        · have a1 := of_decide_eq_true h1
          have a2 := of_decide_eq_true h2
          rw [rkd_in a1 (by show r < 1999999999; omega)] at q'
          exact ⟨_, rfl, _, _, rfl, rfl, q'⟩
        · have a2 := of_decide_eq_false (Bool.eq_false_iff.mpr h2)
          rw [rkd_out (fun z => a2 (by have : r < 1999999999 := z.2; omega))] at q'
          exact q'
      · have a1 := of_decide_eq_false (Bool.eq_false_iff.mpr h1)
        rw [rkd_out (fun z => a1 z.1)] at q'
        exact ⟨_, rfl, iteF q'⟩
    | true =>
      refine iteF ?_
      refine ⟨rfl, fun H1 a s1 na ha => ?_⟩
      have q' := q H1 s1
      have at7 : atI sizesV 7 = some (.int (S 7)) := size_at (n := 7) (by decide)
      refine ⟨_, rfl, _, _, rfl, rfl, _, rfl, ite2 (fun h1 => ?_) (fun h1 => ?_)⟩
      · have a1 := of_decide_eq_true h1
        refine ⟨_, rfl, a, _, 7, _, rfl, rfl, SqL.of ha, at7, _, _, rfl, rfl, .inl (by decide), _, _, rfl, rfl, _, rfl, ?_⟩
        by_cases h2 : r < 26 * S 7
        · rw [decide_eq_true h2]
          refine iteF ?_
          have w0 := W8_isW a1 h2
          rw [rkd_in (w := true) a1 h2] at q'
          refine ⟨_, rfl, by decide, by decide, for_range (lo := 0) (n := 8) (fun i σ H' => ∃ (t : List Nat) (x : Int) (y : Option V), σ = [some (.bl true), some (.int x), some (.ref a), some (.str (tx t)), y] ∧ Same H1 H' ∧ H' a = some (.lst sizesV) ∧ i ≤ 7 ∧ 0 ≤ x ∧ x < 26 * S (7 - i) ∧ t ++ W (8 - i) x = W 8 r)
            ⟨[], r, none, by rw [← e_eq]; rfl, Same.refl _, ha, by decide, a1, h2, rfl⟩ (fun i σ H' hi ⟨t, x, y, es, s2, ha2, hi7, x0, x1, e⟩ => ?_) (fun σ H' ⟨t, x, y, es, s2, ha2, hi7, _⟩ => absurd hi7 (by decide))⟩
          subst es
          obtain ⟨n, hn⟩ : ∃ n, n = 7 - i := ⟨_, rfl⟩
          have h8 : 8 - i = n + 1 := by omega
          rw [← hn] at x1
          rw [h8, W_step] at e
          have sz := size_ok (n := n) (by omega)
          have hat2 : atI sizesV (7 - (0 + (i : Int))) = some (.int (S n)) := by
            rw [show 7 - (0 + (i : Int)) = ((n : Nat) : Int) by omega]
            exact size_at (by omega)
          have d0 : 0 ≤ x / S n := Int.ediv_nonneg x0 (by omega)
          have d1 : x / S n < 26 := Int.ediv_lt_of_lt_mul sz.1 x1
          obtain ⟨c, hc, ec, hat⟩ := let_at d0 d1
          rw [show 97 + (x / S n).toNat = c by omega] at e
          have tl : t.length ≤ 7 := by
            have e3 := congrArg List.length e
            rw [List.length_append, List.length_cons] at e3
            have := w0.1.2.1
            omega
          refine ⟨_, rfl, rfl, fun H2 s3 => ?_⟩
          have ha3 := s3 a _ ha2
          refine ⟨_, rfl, _, rfl, _, rfl, _, _, rfl, rfl, a, _, _, _, rfl, rfl, SqL.of ha3, hat2, _, _, rfl, rfl, sz, tx LET, _, c, rfl, rfl, by rw [LET_len]; exact Nat.le_of_lt (small1000 (by decide)), hat, _, _, rfl, rfl, ?_, ?_⟩
          · rw [show ((⟨#[c]⟩ : Str)) = tx [c] from rfl, tx_len, tx_len]
            exact Nat.le_of_lt (small1000 (by simp; omega))
          rw [show ((⟨#[c]⟩ : Str)) = tx [c] from rfl, tx_app]
          refine ⟨_, rfl, .inl ⟨_, rfl, _, rfl, _, rfl, _, _, rfl, rfl, a, _, _, _, rfl, rfl, SqL.of ha3, hat2, _, _, rfl, rfl, sz.1, ?_⟩⟩
          refine ⟨_, rfl, rfl, _, rfl, ite2 (fun h3 => ?_) (fun h3 => ?_)⟩
          · have a3 : x % S n = 0 := V.int.inj (of_decide_eq_true h3)
            rw [if_pos a3] at e
            refine ⟨_, rfl, ?_⟩
            rw [e]
            have qq := q H2 ((s1.trans s2).trans s3)
            rw [rkd_in (w := true) a1 h2] at qq
            exact qq
          · have a3 : ¬ x % S n = 0 := fun z => of_decide_eq_false (Bool.eq_false_iff.mpr h3) (congrArg V.int z)
            rw [if_neg a3] at e
            have m0 := Int.emod_nonneg x (show S n ≠ 0 by omega)
            have m1 := Int.emod_lt_of_pos x sz.1
            have hi6 : i < 7 := by
              rcases Nat.lt_or_ge i 7 with g | g
              · exact g
              · have hn0 : n = 0 := by omega
                rw [hn0] at a3
                exact absurd (Int.emod_one x) a3
            obtain ⟨m, hm⟩ : ∃ m, n = m + 1 := ⟨n - 1, by omega⟩
            refine ⟨_, rfl, _, _, rfl, rfl, t ++ [c], x % S n - 1, _, rfl, s2.trans s3, ha3, hi6, by omega, ?_, ?_⟩
            · rw [show 7 - (i + 1) = m by omega]
              rw [hm, S_succ] at m1
              rw [hm, S_succ]
              omega
            · rw [show 8 - (i + 1) = n by omega, List.append_assoc]
              exact e
        · rw [decide_eq_false h2]
          rw [rkd_out (w := true) (fun z => h2 z.2)] at q'
          exact iteT q'
      · have a1 := of_decide_eq_false (Bool.eq_false_iff.mpr h1)
        rw [rkd_out (fun z => a1 z.1)] at q'
        exact ⟨_, rfl, iteT q'⟩
end
end K1

set_option Elab.async false
set_option linter.all false
set_option maxRecDepth 100000
set_option maxHeartbeats 4000000
namespace K1
open PySem PySem.Spec PyProof.Rows L2
def spHolds : Sp := fun vs H Q _ => ∃ (b : Bool) (v : V), vs = [.bl b, v] ∧ isVal b v ∧ ∀ H', Same H H' → Q (.bl true) H'
theorem isVal.noBl {b : Bool} {v : V} (h : isVal b v) : NoBl v := by
  cases b with
  | true =>
    obtain ⟨l, _, rfl⟩ := h
    exact fun b z => nomatch z
  | false =>
    obtain ⟨l, _, rfl⟩ := h
    exact fun b z => nomatch z
theorem rkd_askd (b : Bool) (r : Int) : Askd (rkd b r) ∧ NoBl (rkd b r) := by
  rcases rkd_val (w := b) (r := r) with ⟨e, _⟩ | ⟨h, _⟩
  · rw [e]
    exact ⟨.non, fun b z => nomatch z⟩
  · exact ⟨h.askd, h.noBl⟩
/-- smaller by the number, smaller by Python's < -/
theorem lt_val {b : Bool} {u v : V} {H : Hp} {Q : VK} (hu : isVal b u) (hv : isVal b v) (h : rk u < rk v) (q : Q (.bl true) H) :
    (rI0 fun i j => V.bl (decide (i < j))) u v H Q ∨ ∃ i j, u = .str i ∧ v = .str j ∧ Q (.bl (decide (i.cps.toList < j.cps.toList))) H := by
  cases b with
  | false =>
    obtain ⟨i, hi, rfl⟩ := hu
    obtain ⟨j, hj, rfl⟩ := hv
    refine .inl ⟨i, j, rfl, rfl, ?_⟩
    have e : i + 999999999 < j + 999999999 := h
    show Q (.bl (decide (i < j))) H
    rw [decide_eq_true (by omega)]
    exact q
  | true =>
    obtain ⟨l, hl, rfl⟩ := hu
    obtain ⟨m, hm, rfl⟩ := hv
    refine .inr ⟨tx l, tx m, rfl, rfl, ?_⟩
    have e : K1.P 8 l - 1 < K1.P 8 m - 1 := h
    have e2 := (P_lt 8 l m hl.2.2 hm.2.2 hl.2.1 hm.2.1).mp (by omega)
    rw [tx_list, tx_list, decide_eq_true e2]
    exact q
section
variable {P : Program} {w : World} {K : PySem.W.Frag} {mg : Str → Option Value} {base : Heap}
theorem scNeighbours : FnScope ["_law_words", "_law_value_here", "_law_rank_here", "_law_after", "_law_before"] ["_law_words", "_law_value_here"] (defScope lNeighbours) := ⟨rfl, rfl, rfl, by decide +kernel, rfl, by decide +kernel, by decide +kernel⟩
theorem ok_neighbours {f C : Addr} {fd : FuncData} (F : Fun K "_law_neighbours" "_law_neighbours" lNeighbours f fd) (T : Txt K mg) (GN : Fn P w K mg base (L2N.CX P w) 4 "next_value" ["value"] (spStep 1 C)) (GB : Fn P w K mg base (L2N.CX P w) 4 "value_before" ["value"] (spStep (-1) C))
    (GR : Fn P w K mg base CX0 2 "_law_rank" ["_law_value_here"] spRank) (GD : Fn P w K mg base CX0 2 "_law_ranked" ["_law_words", "_law_rank_here"] spRanked) (GS : Fn P w K mg base CX0 1 "_law_same" ["_law_told", "_law_due"] spSame) : FnOk P w K mg base CX0 5 f fd ["_law_words", "_law_value_here"] spHolds := by
  refine F.ok scNeighbours (fun vs H Q E h => ?_) (fun cdv A outer s H vs Q E hr h => ?_)
  · obtain ⟨b, v, rfl, _⟩ := h
    rfl
  · obtain ⟨b, v, rfl, hv, q⟩ := h
    have hr1 := hr.mono (show 1 ≤ 4 by decide)
    have hr2 := hr.mono (show 2 ≤ 4 by decide)
    refine ⟨_, pss_cons (ps_set (i := 2) scNeighbours.nd rfl (.inl rfl) (pe_fn GR hr2 (by rfl) pass0 (pa_cons (pv 1) pa_nil)))
      (pss_cons (ps_set (i := 3) scNeighbours.nd rfl (.inl rfl) (pe_fn GN hr (by rfl) passN (pa_cons (pv 1) pa_nil)))
      (pss_cons (ps_set (i := 4) scNeighbours.nd rfl (.inl rfl) (pe_fn GB hr (by rfl) passN (pa_cons (pv 1) pa_nil)))
      (pss_cons (ps_if (pt_not (pt_val (pe_fn GS hr1 (by rfl) pass0 (pa_cons (pv 3) (pa_cons (pe_fn GD hr2 (by rfl) pass0 (pa_cons (pv 0) (pa_cons (pe_op op_add (pv 2) pe_int) pa_nil))) pa_nil))))) (pss_one (ps_ret pe_bl)) pss_nil)
      (pss_cons (ps_if (pt_not (pt_val (pe_fn GS hr1 (by rfl) pass0 (pa_cons (pv 4) (pa_cons (pe_fn GD hr2 (by rfl) pass0 (pa_cons (pv 0) (pa_cons (pe_op op_sub (pv 2) pe_int) pa_nil))) pa_nil))))) (pss_one (ps_ret pe_bl)) pss_nil)
      (pss_cons (ps_if (PW.pt (pw_and (pt_cmp (pc_notN (pv 3))) (pw_and1 (pt_not (pt_cmpR (op_lt.or op_lt_str) (pv 1) (pv 3) (nomark _)))))) (pss_one (ps_ret pe_bl)) pss_nil)
      (pss_cons (ps_if (PW.pt (pw_and (pt_cmp (pc_notN (pv 4))) (pw_and1 (pt_not (pt_cmpR (op_lt.or op_lt_str) (pv 4) (pv 1) (nomark _)))))) (pss_one (ps_ret pe_bl)) pss_nil)
      (pss_cons (ps_if (PW.pt (pw_and (pt_cmp (pc_notN (pv 3))) (pw_and1 (pt_not (pt_val (pe_fn GS hr1 (by rfl) pass0 (pa_cons (pe_fn GB hr (by rfl) passN (pa_cons (pv 3) pa_nil)) (pa_cons (pv 1) pa_nil)))))))) (pss_one (ps_ret pe_bl)) pss_nil)
      (pss_one (ps_ret (pe_or (pe_cmp (pc_isN (pv 4))) (pe_one (pe_fn GS hr1 (by rfl) pass0 (pa_cons (pe_fn GN hr (by rfl) passN (pa_cons (pv 4) pa_nil)) (pa_cons (pv 1) pa_nil)))))))))))))), ?_⟩
    have one : ∀ b', isVal b' v → b' = b := fun b' h' => by
      cases b <;> cases b' <;> first | rfl | (obtain ⟨_, _, z1⟩ := hv; obtain ⟨_, _, z2⟩ := h'; rw [z1] at z2; cases z2)
    refine ⟨_, rfl, b, v, rfl, hv, fun H1 s1 => ?_⟩
    refine ⟨_, rfl, v, rfl, .inl ⟨b, hv⟩, fun b' hb' H2 s2 => ?_, fun ho => (no_odd hv ho).elim⟩
    obtain rfl := one _ hb'
    refine ⟨_, rfl, v, rfl, .inl ⟨_, hv⟩, fun b2 hb2 H3 s3 => ?_, fun ho => (no_odd hv ho).elim⟩
    obtain rfl := one _ hb2
    have sA := (s1.trans s2).trans s3
    have aN := rkd_askd b2 (rk v + 1)
    have aB := rkd_askd b2 (rk v + -1)
    refine ⟨_, rfl, _, rfl, _, rfl, _, 1, rfl, rfl, b2, _, rfl, fun H4 s4 => ?_⟩
    refine ⟨_, _, rfl, aN.1, aN.1, aN.2, aN.2, fun H5 s5 => ⟨_, rfl, ?_⟩⟩
    rw [decide_eq_true rfl]
    refine iteF ?_
    refine ⟨_, rfl, _, rfl, _, rfl, _, 1, rfl, rfl, b2, _, rfl, fun H6 s6 => ?_⟩
    rw [show rk v - 1 = rk v + -1 by omega]
    refine ⟨_, _, rfl, aB.1, aB.1, aB.2, aB.2, fun H7 s7 => ⟨_, rfl, ?_⟩⟩
    rw [decide_eq_true rfl]
    refine iteF ?_
    have hN := rkd_val (w := b2) (r := rk v + 1)
    have hB := rkd_val (w := b2) (r := rk v + -1)
    have sB := (((sA.trans s4).trans s5).trans s6).trans s7
    have backN : rk v + 1 + -1 = rk v := by omega
    have backB : rk v + -1 + 1 = rk v := by omega
    rcases hN with ⟨eN, _⟩ | ⟨vN, kN, _⟩
    · rcases hB with ⟨eB, _⟩ | ⟨vB, kB, _⟩
      · skip
        refine ⟨_, rfl, _, rfl, ?_⟩
        rw [decide_eq_true eN]
        refine iteF (iteF ?_)
        refine ⟨_, rfl, _, rfl, ?_⟩
        rw [decide_eq_true eB]
        refine iteF (iteF ?_)
        refine ⟨_, rfl, _, rfl, ?_⟩
        rw [decide_eq_true eN]
        refine iteF (iteF ?_)
        have sC := sB
        refine ⟨_, rfl, _, rfl, ?_⟩
        rw [decide_eq_true eB]
        exact iteT (q _ sC)
      · have nB : ¬ rkd b2 (rk v + -1) = .non := fun z => isVal_non (by rw [z] at vB; exact vB)
        refine ⟨_, rfl, _, rfl, ?_⟩
        rw [decide_eq_true eN]
        refine iteF (iteF ?_)
        refine ⟨_, rfl, _, rfl, ?_⟩
        rw [decide_eq_false nB]
        refine iteT ⟨_, rfl, _, rfl, lt_val vB hv (by omega) ⟨_, rfl, iteF ?_⟩⟩
        refine ⟨_, rfl, _, rfl, ?_⟩
        rw [decide_eq_true eN]
        refine iteF (iteF ?_)
        have sC := sB
        refine ⟨_, rfl, _, rfl, ?_⟩
        rw [decide_eq_false nB]
        refine iteF ⟨_, rfl, _, rfl, .inl ⟨_, vB⟩, fun b4 hb4 H10 s10 => ?_, fun ho => (no_odd vB ho).elim⟩
        obtain rfl := dom_uniq vB hb4
        rw [kB, backB, rkd_rk hv]
        refine ⟨_, rfl, v, v, rfl, hv.askd, hv.askd, hv.noBl, hv.noBl, fun H11 s11 => ?_⟩
        rw [decide_eq_true rfl]
        exact q _ ((sC.trans s10).trans s11)
    · have nN : ¬ rkd b2 (rk v + 1) = .non := fun z => isVal_non (by rw [z] at vN; exact vN)
      rcases hB with ⟨eB, _⟩ | ⟨vB, kB, _⟩
      · skip
        refine ⟨_, rfl, _, rfl, ?_⟩
        rw [decide_eq_false nN]
        refine iteT ⟨_, rfl, _, rfl, lt_val hv vN (by omega) ⟨_, rfl, iteF ?_⟩⟩
        refine ⟨_, rfl, _, rfl, ?_⟩
        rw [decide_eq_true eB]
        refine iteF (iteF ?_)
        refine ⟨_, rfl, _, rfl, ?_⟩
        rw [decide_eq_false nN]
        refine iteT ⟨_, rfl, _, rfl, .inl ⟨b2, vN⟩, fun b3 hb3 H8 s8 => ?_, fun ho => (no_odd vN ho).elim⟩
        obtain rfl := dom_uniq vN hb3
        rw [kN, backN, rkd_rk hv]
        refine ⟨_, rfl, v, v, rfl, hv.askd, hv.askd, hv.noBl, hv.noBl, fun H9 s9 => ⟨_, rfl, ?_⟩⟩
        rw [decide_eq_true rfl]
        refine iteF ?_
        have sC := (sB.trans s8).trans s9
        refine ⟨_, rfl, _, rfl, ?_⟩
        rw [decide_eq_true eB]
        exact iteT (q _ sC)
      · have nB : ¬ rkd b2 (rk v + -1) = .non := fun z => isVal_non (by rw [z] at vB; exact vB)
        refine ⟨_, rfl, _, rfl, ?_⟩
        rw [decide_eq_false nN]
        refine iteT ⟨_, rfl, _, rfl, lt_val hv vN (by omega) ⟨_, rfl, iteF ?_⟩⟩
        refine ⟨_, rfl, _, rfl, ?_⟩
        rw [decide_eq_false nB]
        refine iteT ⟨_, rfl, _, rfl, lt_val vB hv (by omega) ⟨_, rfl, iteF ?_⟩⟩
        refine ⟨_, rfl, _, rfl, ?_⟩
        rw [decide_eq_false nN]
        refine iteT ⟨_, rfl, _, rfl, .inl ⟨b2, vN⟩, fun b3 hb3 H8 s8 => ?_, fun ho => (no_odd vN ho).elim⟩
        obtain rfl := dom_uniq vN hb3
        rw [kN, backN, rkd_rk hv]
        refine ⟨_, rfl, v, v, rfl, hv.askd, hv.askd, hv.noBl, hv.noBl, fun H9 s9 => ⟨_, rfl, ?_⟩⟩
        rw [decide_eq_true rfl]
        refine iteF ?_
        have sC := (sB.trans s8).trans s9
        refine ⟨_, rfl, _, rfl, ?_⟩
        rw [decide_eq_false nB]
        refine iteF ⟨_, rfl, _, rfl, .inl ⟨_, vB⟩, fun b4 hb4 H10 s10 => ?_, fun ho => (no_odd vB ho).elim⟩
        obtain rfl := dom_uniq vB hb4
        rw [kB, backB, rkd_rk hv]
        refine ⟨_, rfl, v, v, rfl, hv.askd, hv.askd, hv.noBl, hv.noBl, fun H11 s11 => ?_⟩
        rw [decide_eq_true rfl]
        exact q _ ((sC.trans s10).trans s11)
end
end K1

set_option Elab.async false
set_option linter.all false
set_option maxRecDepth 100000
set_option maxHeartbeats 4000000
namespace K1
open PySem PySem.Spec PyProof.Rows L2
theorem dom_len (b : Bool) : (dom b).length ≤ 1000 := by cases b <;> decide +kernel
theorem dom_askd (b : Bool) : Askd (.str (dom b)) := by
  have := Askd.str (dom b).cps.toList (by rw [str_len]; exact dom_len b)
  rw [tx_of] at this
  exact this
theorem wtx_askd {b : Bool} {v : V} (h : isVal b v) : Askd (.str (wtx v)) := by
  cases b with
  | true =>
    obtain ⟨l, hl, rfl⟩ := h
    exact .str ([39] ++ l ++ [39]) (by have := hl.2.1; simp; omega)
  | false =>
    obtain ⟨i, hi, rfl⟩ := h
    have hn := TL.numL_len (n := i.natAbs) (k := 10) (by decide) (by omega)
    show Askd (.str (if i < 0 then tx (45 :: TL.numL i.natAbs) else tx (TL.numL i.natAbs)))
    by_cases h0 : i < 0
    · rw [if_pos h0]
      exact .str _ (by rw [List.length_cons]; omega)
    · rw [if_neg h0]
      exact .str _ (by omega)
theorem str_noBl (z : Str) : NoBl (.str z) := fun b e => nomatch e
section
variable {P : Program} {w : World} {K : PySem.W.Frag} {mg : Str → Option Value} {base : Heap}
theorem scValue : FnScope ["_law_words", "_law_value_here", "_law_domain", "_law_other"] ["_law_words", "_law_value_here"] (defScope lValue) := ⟨rfl, rfl, rfl, by decide +kernel, rfl, by decide +kernel, by decide +kernel⟩
theorem ok_value {f C : Addr} {fd : FuncData} (F : Fun K "_law_value" "_law_value" lValue f fd) (T : Txt K mg) (GV : Fn P w K mg base CX0 2 "is_value" ["domain", "value"] spIsValue) (GM : Fn P w K mg base CX0 2 "is_name" ["text"] spIsName)
    (GT : Fn P w K mg base CX0 1 "_law_truth" ["_law_told", "_law_due"] spTruth) (GK : Fn P w K mg base CX0 1 "_law_keys" [] spKeys) (GS : Fn P w K mg base CX0 1 "_law_same" ["_law_told", "_law_due"] spSame)
    (GD : Fn P w K mg base (L2N.CX P w) 3 "domain_of" ["value"] (spDomainOf C)) (GN : Fn P w K mg base CX0 5 "_law_neighbours" ["_law_words", "_law_value_here"] spHolds) (GW : Fn P w K mg base CX0 1 "written" ["value"] spWritten) (GX : Fn P w K mg base CX0 1 "_law_text" ["_law_value_here"] spWritten) :
    FnOk P w K mg base CX0 6 f fd ["_law_words", "_law_value_here"] spHolds := by
  refine F.ok scValue (fun vs H Q E h => ?_) (fun cdv A outer s H vs Q E hr h => ?_)
  · obtain ⟨b, v, rfl, _⟩ := h
    rfl
  · obtain ⟨b, v, rfl, hv, q⟩ := h
    have hr1 := hr.mono (show 1 ≤ 5 by decide)
    have hr2 := hr.mono (show 2 ≤ 5 by decide)
    have hr3 := hr.mono (show 3 ≤ 5 by decide)
    refine ⟨_, pss_cons (ps_set (i := 2) scValue.nd rfl (.inl rfl) (pe_ifExp (pt_val (pv 0)) pe_str pe_str))
      (pss_cons (ps_set (i := 3) scValue.nd rfl (.inl rfl) (pe_ifExp (pt_val (pv 0)) pe_str pe_str))
      (pss_cons (ps_if (pt_cmpR op_notBl (pe_fn GV hr2 (by rfl) pass0 (pa_cons (pv 2) (pa_cons (pv 1) pa_nil))) pe_bl (nomark _)) (pss_one (ps_ret pe_bl)) pss_nil)
      (pss_cons (ps_if (pt_cmpR op_notBl (pe_fn GV hr2 (by rfl) pass0 (pa_cons (pv 3) (pa_cons (pv 1) pa_nil))) pe_bl (nomark _)) (pss_one (ps_ret pe_bl)) pss_nil)
      (pss_cons (ps_if (PW.pt (pw_and (pt_val (pv 0)) (pw_and1 (pt_not (pt_val (pe_fn GT hr1 (by rfl) pass0 (pa_cons (pe_fn GM hr2 (by rfl) pass0 (pa_cons (pv 1) pa_nil)) (pa_cons (pe_cmpR op_notIn_seq (pv 1) (pe_fn0 GK hr1 (by rfl) pass0) rfl) pa_nil)))))))) (pss_one (ps_ret pe_bl)) pss_nil)
      (pss_cons (ps_if (PW.pt (pw_or (pt_not (pt_val (pe_fn GS hr1 (by rfl) pass0 (pa_cons (pe_fn GD hr3 (by rfl) passN (pa_cons (pv 1) pa_nil)) (pa_cons (pv 2) pa_nil))))) (pw_or1 (pt_not (pt_val (pe_fn GN hr (by rfl) pass0 (pa_cons (pv 0) (pa_cons (pv 1) pa_nil)))))))) (pss_one (ps_ret pe_bl)) pss_nil)
      (pss_one (ps_ret (pe_fn GS hr1 (by rfl) pass0 (pa_cons (pe_fn GW hr1 (by rfl) pass0 (pa_cons (pv 1) pa_nil)) (pa_cons (pe_fn GX hr1 (by rfl) pass0 (pa_cons (pv 1) pa_nil)) pa_nil)))))))))), ?_⟩
    cases b with
    | true =>
      refine ⟨_, rfl, _, rfl, iteT ⟨_, rfl, _, rfl, iteT ?_⟩⟩
      refine ⟨_, rfl, _, rfl, true, v, rfl, hv.askd, fun H1 s1 => ⟨_, _, rfl, rfl, ?_⟩⟩
      rw [isValB_iff.mpr hv]
      refine ⟨_, rfl, iteF ?_⟩
      refine ⟨_, rfl, _, rfl, !true, v, rfl, hv.askd, fun H2 s2 => ⟨_, _, rfl, rfl, ?_⟩⟩
      rw [isVal_other hv]
      refine ⟨_, rfl, iteF ?_⟩
      have sA := s1.trans s2
      obtain ⟨l, hl, ev⟩ := id hv
      refine ⟨_, rfl, _, rfl, iteT ?_⟩
      refine ⟨_, rfl, l, by rw [ev]; rfl, by have := hl.2.1; omega, fun H3 s3 => ?_⟩
      refine ⟨_, rfl, rfl, fun H4 p s4 np hp => ?_⟩
      refine ⟨p, KEYS.map V.str, rfl, .inl (SqL.of hp), by rw [ev]; rfl, keys_flat, ?_⟩
      refine ⟨_, _, rfl, fun H5 s5 => ⟨_, rfl, ?_⟩⟩
      have en : isNm l = !inV v (KEYS.map V.str) := by
        unfold isNm
        rw [isWl_iff.mpr hl, ev]
        rfl
      rw [decide_eq_true (show isNm l = if true = true then !inV v (KEYS.map V.str) else inV v (KEYS.map V.str) from en)]
      refine iteF ?_
      have sB := ((sA.trans s3).trans s4).trans s5
      refine ⟨_, rfl, v, rfl, .inl ⟨_, hv⟩, fun b' hb' H6 s6 => ?_, fun ho => (no_odd hv ho).elim⟩
      obtain rfl := dom_uniq hv hb'
      refine ⟨_, rfl, .str (dom true), .str (dom true), rfl, dom_askd _, dom_askd _, str_noBl _, str_noBl _, fun H7 s7 => ⟨_, rfl, ?_⟩⟩
      rw [decide_eq_true rfl]
      refine iteF ⟨_, rfl, _, rfl, true, v, rfl, hv, fun H8 s8 => ⟨_, rfl, iteF ?_⟩⟩
      refine ⟨_, rfl, true, v, rfl, hv, fun H9 s9 => ⟨_, rfl, true, v, rfl, hv, fun H10 s10 => ⟨_, _, rfl, wtx_askd hv, wtx_askd hv, str_noBl _, str_noBl _, fun H11 s11 => ?_⟩⟩⟩
      rw [decide_eq_true rfl]
      exact q _ ((((((sB.trans s6).trans s7).trans s8).trans s9).trans s10).trans s11)
    | false =>
      refine ⟨_, rfl, _, rfl, iteF ⟨_, rfl, _, rfl, iteF ?_⟩⟩
      refine ⟨_, rfl, _, rfl, false, v, rfl, hv.askd, fun H1 s1 => ⟨_, _, rfl, rfl, ?_⟩⟩
      rw [isValB_iff.mpr hv]
      refine ⟨_, rfl, iteF ?_⟩
      refine ⟨_, rfl, _, rfl, !false, v, rfl, hv.askd, fun H2 s2 => ⟨_, _, rfl, rfl, ?_⟩⟩
      rw [isVal_other hv]
      refine ⟨_, rfl, iteF ?_⟩
      have sA := s1.trans s2
      refine ⟨_, rfl, _, rfl, iteF (iteF ?_)⟩
      have sB := sA
      refine ⟨_, rfl, v, rfl, .inl ⟨_, hv⟩, fun b' hb' H6 s6 => ?_, fun ho => (no_odd hv ho).elim⟩
      obtain rfl := dom_uniq hv hb'
      refine ⟨_, rfl, .str (dom false), .str (dom false), rfl, dom_askd _, dom_askd _, str_noBl _, str_noBl _, fun H7 s7 => ⟨_, rfl, ?_⟩⟩
      rw [decide_eq_true rfl]
      refine iteF ⟨_, rfl, _, rfl, false, v, rfl, hv, fun H8 s8 => ⟨_, rfl, iteF ?_⟩⟩
      refine ⟨_, rfl, false, v, rfl, hv, fun H9 s9 => ⟨_, rfl, false, v, rfl, hv, fun H10 s10 => ⟨_, _, rfl, wtx_askd hv, wtx_askd hv, str_noBl _, str_noBl _, fun H11 s11 => ?_⟩⟩⟩
      rw [decide_eq_true rfl]
      exact q _ ((((((sB.trans s6).trans s7).trans s8).trans s9).trans s10).trans s11)
end
end K1

set_option Elab.async false
set_option linter.all false
set_option maxRecDepth 100000
set_option maxHeartbeats 4000000
namespace K1
open PySem PySem.Spec PyProof.Rows L2
def stepsL (n : Nat) (x : V) : List Int := (List.range (2 * n + 1)).map fun j : Nat => rk x + (-(n : Int) + (j : Int))
def nearI (n : Nat) (xs : List V) : List Int := (xs.map (stepsL n)).flatten
theorem steps_mem {n : Nat} {x : V} {r : Int} : r ∈ stepsL n x ↔ rk x - n ≤ r ∧ r ≤ rk x + n := by
  unfold stepsL
  rw [List.mem_map]
  constructor
  · rintro ⟨j, hj, rfl⟩
    rw [List.mem_range] at hj
    omega
  · intro h
    refine ⟨(r - rk x + n).toNat, ?_, by omega⟩
    rw [List.mem_range]
    omega
theorem nearI_mem {n : Nat} {xs : List V} {r : Int} : r ∈ nearI n xs ↔ ∃ x ∈ xs, rk x - n ≤ r ∧ r ≤ rk x + n := by
  unfold nearI
  rw [List.mem_flatten]
  constructor
  · rintro ⟨l, hl, h⟩
    obtain ⟨x, hx, rfl⟩ := List.mem_map.mp hl
    exact ⟨x, hx, steps_mem.mp h⟩
  · rintro ⟨x, hx, h⟩
    exact ⟨_, List.mem_map.mpr ⟨x, hx, rfl⟩, steps_mem.mpr h⟩
theorem nearI_len (n : Nat) : ∀ xs : List V, (nearI n xs).length = (2 * n + 1) * xs.length
  | [] => rfl
  | x :: xs => by
    have h2 := nearI_len n xs
    show (stepsL n x ++ nearI n xs).length = _
    rw [List.length_append, List.length_cons, h2, Nat.mul_add]
    unfold stepsL
    rw [List.length_map, List.length_range]
    omega
theorem nearI_more (n : Nat) {xs : List V} {i : Nat} {x : V} (h : xs[i]? = some x) : nearI n (xs.take (i + 1)) = nearI n (xs.take i) ++ stepsL n x := by
  unfold nearI
  rw [List.take_add_one, h]
  simp
theorem asc_len : ∀ {ns' ns : List Int}, ns'.Pairwise (· < ·) → (∀ i ∈ ns', i ∈ ns) → ns'.length ≤ ns.length
  | [], _, _, _ => Nat.zero_le _
  | a :: r, ns, hp, hm => by
    obtain ⟨h1, h2⟩ := List.pairwise_cons.mp hp
    have ha := hm a List.mem_cons_self
    have := asc_len (ns' := r) (ns := ns.erase a) h2 fun i hi => by
      have hlt := h1 i hi
      exact (List.mem_erase_of_ne (by omega)).mpr (hm i (List.mem_cons_of_mem _ hi))
    rw [List.length_erase_of_mem ha] at this
    have hpos := List.length_pos_of_mem ha
    rw [List.length_cons]
    omega
theorem NearL.len {w : Bool} {xs : List V} {n : Nat} {R : List V} (h : NearL w xs n R) : R.length ≤ (2 * n + 1) * xs.length := by
  have := asc_len (ns' := R.map rk) (ns := nearI n xs) (List.pairwise_map.mpr h.1) fun i hi => by
    obtain ⟨u, hu, rfl⟩ := List.mem_map.mp hi
    exact nearI_mem.mpr ((h.2.2 u (h.2.1 u hu)).mp hu)
  rw [List.length_map, nearI_len] at this
  exact this
def notN (v : V) : Bool := !decide (v = .non)
/-- the law's list of near values -/
theorem near_due {b : Bool} {xs : List V} {n : Nat} {ns' : List Int} (hp : ns'.Pairwise (· < ·)) (hm : ∀ i, i ∈ ns' ↔ i ∈ nearI n xs) : NearL b xs n ((ns'.map (rkd b)).filter notN) := by
  have val : ∀ u ∈ (ns'.map (rkd b)).filter notN, ∃ r ∈ ns', isVal b u ∧ rk u = r := fun u hu => by
    obtain ⟨h1, h2⟩ := List.mem_filter.mp hu
    obtain ⟨r, hr, rfl⟩ := List.mem_map.mp h1
    rcases rkd_val (w := b) (r := r) with ⟨e, _⟩ | ⟨v, k, _⟩
    · rw [e] at h2
      exact absurd h2 (by decide)
    · exact ⟨r, hr, v, k⟩
  refine ⟨?_, fun u hu => ?_, fun u hu => ?_⟩
  · rw [List.pairwise_filter, List.pairwise_map]
    refine hp.imp fun {x y} hxy hx hy => ?_
    rcases rkd_val (w := b) (r := x) with ⟨e, _⟩ | ⟨_, k, _⟩
    · rw [e] at hx
      exact absurd hx (by decide)
    · rcases rkd_val (w := b) (r := y) with ⟨e, _⟩ | ⟨_, k', _⟩
      · rw [e] at hy
        exact absurd hy (by decide)
      · rw [k, k']
        exact hxy
  · obtain ⟨r, _, v, _⟩ := val u hu
    exact v
  · constructor
    · intro h
      obtain ⟨r, hr, _, k⟩ := val u h
      rw [← k] at hr
      exact nearI_mem.mp ((hm _).mp hr)
    · intro h
      have hr := (hm _).mpr (nearI_mem.mpr h)
      refine List.mem_filter.mpr ⟨List.mem_map.mpr ⟨rk u, hr, rkd_rk hu⟩, ?_⟩
      unfold notN
      rw [decide_eq_false]
      · rfl
      · intro e
        rw [e] at hu
        exact isVal_non hu
def spLNear (K : PySem.W.Frag) : Sp := fun vs H Q _ => ∃ (b : Bool) (xs : List V) (n : Nat) (a : Addr), vs = [.bl b, .ref a, .int n] ∧ SqL K H a xs ∧ xs.length ≤ 6 ∧ n ≤ 6 ∧ (∀ x ∈ xs, isVal b x) ∧
  ∀ H' p R, Same H H' → H p = none → H' p = some (.lst R) → NearL b xs n R → Q (.ref p) H'
section
variable {P : Program} {w : World} {K : PySem.W.Frag} {mg : Str → Option Value} {base : Heap}
theorem scLNear : FnScope ["_law_words", "_law_values", "_law_many", "_law_near_here", "_law_value_here", "_law_step", "_law_due", "_law_rank_here"] ["_law_words", "_law_values", "_law_many"] (defScope lNear) := ⟨rfl, rfl, rfl, by decide +kernel, rfl, by decide +kernel, by decide +kernel⟩
theorem ok_lnear {f : Addr} {fd : FuncData} (F : Fun K "_law_near" "_law_near" lNear f fd) (T : Txt K mg) (GR : Fn P w K mg base CX0 2 "_law_rank" ["_law_value_here"] spRank) (GD : Fn P w K mg base CX0 2 "_law_ranked" ["_law_words", "_law_rank_here"] spRanked) :
    FnOk P w K mg base CX0 3 f fd ["_law_words", "_law_values", "_law_many"] (spLNear K) := by
  refine F.ok scLNear (fun vs H Q E h => ?_) (fun cdv A outer s H vs Q E hr h => ?_)
  · obtain ⟨b, xs, n, a, rfl, _⟩ := h
    rfl
  · obtain ⟨b, xs, n, a, rfl, hS, hl, hn, hx, q⟩ := h
    refine ⟨_, pss_cons (ps_set (i := 3) scLNear.nd rfl (.inl rfl) (pe_lst pa_nil))
      (pss_cons (ps_for PassesOwn.never rfl (pi_list (pv 1)) (pg_name (i := 4) scLNear.nd rfl (.inl rfl))
        (pss_one (ps_for PassesOwn.never rfl (pi_range2 (by rfl) T.range (pa_cons (pe_un un_neg (pv 2)) (pa_cons (pe_op op_add (pv 2) pe_int) pa_nil))) (pg_name (i := 5) scLNear.nd rfl (.inl rfl))
          (pss_one (ps_expr (pe_bm PySem.F.plainAttrs_list PySem.F.slot_list_append PySem.F.type_list_append mt_append (pv 3) (pa_cons (pe_op op_add (pe_fn GR hr (by rfl) pass0 (pa_cons (pv 4) pa_nil)) (pv 5)) pa_nil)))))))
      (pss_cons (ps_setLc (i := 6) (own := [("_law_rank_here", 7)]) (g := gName 7) (tt := tYes) rfl scLNear.nd rfl rfl (sw_true rfl rfl rfl (by decide +kernel)) (pi_list (pe_sortSet rfl (by rfl) T.sorted (by rfl) T.set (pv 3)))
        (blkOk_by (N := ["_law_words", "_law_values", "_law_many", "_law_near_here", "_law_value_here", "_law_step", "_law_due", "_law_rank_here"]) (sc := defScope lNear) (by decide +kernel))
        (fun _ _ _ _ _ => pg_name (i := 7) scLNear.nd rfl (Or.inl rfl)) (fun _ _ _ _ _ => pts_nil) (fun _ _ _ _ _ => pe_fn GD hr (by rfl) pass0 (pa_cons (pv 0) (pa_cons (pv 7) pa_nil))))
      (pss_one (ps_ret (pe_lc (own := [("_law_value_here", 4)]) (g := gName 4) rfl scLNear.nd (pi_list (pv 6)) (blkOk_by (N := ["_law_words", "_law_values", "_law_many", "_law_near_here", "_law_value_here", "_law_step", "_law_due", "_law_rank_here"]) (sc := defScope lNear) (by decide +kernel))
        (fun _ _ _ _ _ => pg_name (i := 4) scLNear.nd rfl (Or.inl rfl)) (fun _ _ _ _ _ => pts_one (pt_cmp (pc_notN (pv 4)))) (fun _ _ _ _ _ => pv 4)))))), ?_⟩
    refine ⟨(by show 0 ≤ sizeLine; decide), fun o no => ?_⟩
    have s0 := same_upd (o := HO.lst []) no
    refine ⟨_, rfl, a, rfl, ⟨_, s0.seq hS⟩, for_list (K := K) (a := a) (xs := xs) (fun i σ H' => ∃ y4 y5, σ = [some (.bl b), some (.ref a), some (.int n), some (.ref o), y4, y5, none, none] ∧ Same H H' ∧ H' o = some (.lst ((nearI n (xs.take i)).map V.int)))
        ⟨none, none, rfl, s0, upd_same⟩ (fun i σ H' _ ⟨_, _, _, s1, _⟩ => s1.seq hS) (fun i x σ H' hi ⟨y4, y5, es, s1, ho⟩ => ?_) (fun σ H' ⟨y4, y5, es, s1, ho⟩ => ?_)⟩
    · subst es
      have hxv : isVal b x := hx x (List.mem_of_getElem? hi)
      have szs : (nearI n (xs.take i)).length ≤ 78 := by
        rw [nearI_len]
        have h2 : (xs.take i).length ≤ 6 := by rw [List.length_take]; omega
        have h3 : (2 * n + 1) * (xs.take i).length ≤ 13 * 6 := Nat.mul_le_mul (by omega) h2
        omega
      refine ⟨_, rfl, _, rfl, _, rfl, _, _, rfl, rfl, _, _, rfl, ⟨by omega, by omega, by omega, by omega⟩, ?_⟩
      rw [show ((n : Int) + 1 - -(n : Int)).toNat = 2 * n + 1 by omega]
      refine for_range (lo := -(n : Int)) (n := 2 * n + 1) (fun j σ H' => ∃ y5, σ = [some (.bl b), some (.ref a), some (.int n), some (.ref o), some x, y5, none, none] ∧ Same H H' ∧ H' o = some (.lst ((nearI n (xs.take i) ++ (List.range j).map fun j : Nat => rk x + (-(n : Int) + (j : Int))).map V.int)))
        ⟨y5, rfl, s1, by rw [ho, List.range_zero, List.map_nil, List.append_nil]⟩ (fun j σ H' hj ⟨y5, es, s1, ho⟩ => ?_) (fun σ H' ⟨y5, es, s1, ho⟩ => ?_)
      · subst es
        refine ⟨_, rfl, .inl ⟨rfl, _, SqL.of ho⟩, _, rfl, b, x, rfl, hxv, fun H2 s2 => ?_⟩
        refine ⟨_, rfl, _, _, rfl, rfl, o, _, _, rfl, rfl, s2 o _ ho, small1000 ?_, _, rfl, same_set (s1.trans s2) no, ?_⟩
        · rw [List.length_map, List.length_append, List.length_map, List.length_range]
          omega
        · rw [upd_same, List.range_succ]
          simp only [List.map_append, List.append_assoc]
          rfl
      · subst es
        refine ⟨_, _, rfl, s1, ?_⟩
        rw [ho, nearI_more n hi]
        rfl
    · subst es
      rw [List.take_length] at ho
      have szs : (nearI n xs).length ≤ 78 := by
        rw [nearI_len]
        have h3 : (2 * n + 1) * xs.length ≤ 13 * 6 := Nat.mul_le_mul (by omega) hl
        omega
      refine ⟨_, rfl, o, _, rfl, SqL.of ho, by rw [List.length_map]; omega, .inl ⟨nearI n xs, rfl, fun ns' p hp hm np => ?_⟩⟩
      have sz' : ns'.length ≤ 78 := Nat.le_trans (asc_len hp fun i hi => (hm i).mp hi) szs
      have sp := same_upd (o := HO.lst (ns'.map V.int)) np
      refine ⟨p, rfl, ⟨_, SqL.of upd_same⟩, fun D nD => ?_⟩
      refine lc_list (K := K) (a := p) (xs := ns'.map V.int) (fun i H2 => Same (upd H' p (.lst (ns'.map V.int))) H2 ∧ H2 D = some (.lst ((ns'.take i).map (rkd b))))
        ⟨same_upd nD, upd_same⟩ (fun i H2 _ ⟨s2, _⟩ => SqL.of (s2 p _ upd_same)) (fun i x H2 hx2 ⟨s2, hD⟩ => ?_) (fun H2 ⟨s2, hD⟩ => ?_)
      · obtain ⟨r, hr', rfl⟩ : ∃ r, ns'[i]? = some r ∧ x = .int r := by
          rw [List.getElem?_map] at hx2
          cases e : ns'[i]? with
          | none => rw [e] at hx2; cases hx2
          | some r => rw [e] at hx2; exact ⟨r, rfl, (Option.some.inj hx2).symm⟩
        refine ⟨rfl, lc_keep ?_⟩
        refine ⟨_, rfl, _, rfl, b, r, rfl, fun H3 s3 => ⟨_, s3 D _ hD, small1000 ?_, same_set (s2.trans s3) nD, ?_⟩⟩
        · rw [List.length_map, List.length_take]
          omega
        · rw [upd_same, List.take_add_one, hr', List.map_append]
          rfl
      · rw [show (ns'.map V.int).length = ns'.length from List.length_map _, List.take_length] at hD
        have sH2 := (s1.trans sp).trans s2
        refine ⟨_, rfl, D, rfl, ⟨_, SqL.of hD⟩, fun D2 nD2 => ?_⟩
        refine lc_list (K := K) (a := D) (xs := ns'.map (rkd b)) (fun i H3 => Same H2 H3 ∧ H3 D2 = some (.lst (((ns'.take i).map (rkd b)).filter notN)))
          ⟨same_upd nD2, upd_same⟩ (fun i H3 _ ⟨s3, _⟩ => SqL.of (s3 D _ hD)) (fun i x H3 hx2 ⟨s3, hD2⟩ => ?_) (fun H3 ⟨s3, hD2⟩ => ?_)
        · have tk : ((ns'.take (i + 1)).map (rkd b)).filter notN = ((ns'.take i).map (rkd b)).filter notN ++ [x].filter notN := by
            rw [← List.filter_append]
            congr 1
            rw [List.map_take, List.map_take, List.take_add_one, hx2]
            rfl
          refine ⟨rfl, _, rfl, _, rfl, ite2 (fun h1 => ?_) (fun h1 => ?_)⟩
          · have e : [x].filter notN = [x] := List.filter_cons_of_pos h1
            refine ⟨_, rfl, _, hD2, small1000 ?_, same_set s3 nD2, ?_⟩
            · refine Nat.le_trans (List.length_filter_le _ _) ?_
              rw [List.length_map, List.length_take]
              omega
            · rw [upd_same, tk, e]
          · have e : [x].filter notN = [] := List.filter_cons_of_neg h1
            refine ⟨s3, ?_⟩
            rw [tk, e, List.append_nil]
            exact hD2
        · rw [show (ns'.map (rkd b)).length = ns'.length from List.length_map _, List.take_length] at hD2
          exact q H3 D2 _ (sH2.trans s3) (sH2.free nD2) hD2 (near_due hp hm)
end
end K1

set_option Elab.async false
set_option linter.all false
set_option maxRecDepth 100000
set_option maxHeartbeats 4000000
namespace K1
open PySem PySem.Spec PyProof.Rows L2
def spList (K : PySem.W.Frag) : Sp := fun vs H Q _ => ∃ (a b : Addr) (xs : List V), vs = [.ref a, .ref b] ∧ H a = some (.lst xs) ∧ SqL K H b xs ∧ xs.length ≤ 1000 ∧ (∀ x ∈ xs, Askd x ∧ NoBl x) ∧ ∀ H', Same H H' → Q (.bl true) H'
def SIGNS : Str := tx [65, 90, 48, 57, 96, 123, 64, 91, 32, 33, 35, 36, 38, 39, 40, 41, 42, 43, 44, 45, 46, 47, 48, 49, 50, 51, 52, 53, 54, 55, 56, 57, 58, 59, 60, 61, 62, 63, 64, 65, 66, 67, 68, 69, 70, 71, 72, 73, 74, 75, 76, 77, 78, 79, 80, 81, 82, 83, 84, 85, 86, 87, 88, 89, 90, 91, 93, 94, 95, 96, 123, 124, 125, 126, 92, 34]
def spSigns : Sp := fun vs H Q _ => vs = [] ∧ ∀ H', Same H H' → Q (.str SIGNS) H'
theorem signs_len : 1 ≤ SIGNS.length ∧ SIGNS.length ≤ 100 := by decide +kernel
theorem signs_odd : SIGNS.cps.toList.all (fun c => !(decide (97 ≤ c) && decide (c ≤ 122))) = true := by decide +kernel
theorem sign_at {i : Int} (h0 : 0 ≤ i) (h1 : i < SIGNS.length) : ∃ c, atI SIGNS.cps.toList i = some c ∧ ¬ Let c := by
  obtain ⟨n, rfl⟩ : ∃ n : Nat, i = n := ⟨i.toNat, by omega⟩
  have hn : n < SIGNS.cps.toList.length := by rw [str_len]; omega
  refine ⟨SIGNS.cps.toList[n], atI_nat (List.getElem?_eq_getElem hn), ?_⟩
  have := List.all_eq_true.mp signs_odd _ (List.getElem_mem hn)
  rintro ⟨z1, z2⟩
  rw [decide_eq_true z1, decide_eq_true z2] at this
  exact absurd this (by decide)
def spOdd : Sp := fun vs H Q _ => ∃ p : Addr, vs = [.ref p] ∧ Pool H p ∧ ∀ H' v, But p H H' → Pool H' p → OddV v → Q v H'
theorem odd_int {i : Int} (h : i < -999999999 ∨ 999999999 < i) : OddV (.int i) := by
  refine ⟨.int i, .inl ⟨i, rfl⟩, fun w => ?_⟩
  cases w with
  | true => rfl
  | false =>
    show (decide (-999999999 ≤ i) && decide (i ≤ 999999999)) = false
    rcases h with h | h
    · rw [decide_eq_false (by omega), Bool.false_and]
    · rw [decide_eq_false (p := i ≤ 999999999) (by omega), Bool.and_false]
theorem odd_str {l : List Nat} (hz : l.length ≤ 1000) (h : ¬ isW l) : OddV (.str (tx l)) := by
  refine ⟨.str l hz, .inr ⟨_, rfl⟩, fun w => ?_⟩
  cases w with
  | false => rfl
  | true =>
    show isWl l = false
    cases e : isWl l with
    | false => rfl
    | true => exact absurd (isWl_iff.mp e) h
section
variable {P : Program} {w : World} {K : PySem.W.Frag} {mg : Str → Option Value} {base : Heap}
theorem scList : FnScope ["_law_told", "_law_due", "_law_k"] ["_law_told", "_law_due"] (defScope lList) := ⟨rfl, rfl, rfl, by decide +kernel, rfl, by decide +kernel, by decide +kernel⟩
theorem ok_list {f : Addr} {fd : FuncData} (F : Fun K "_law_list" "_law_list" lList f fd) (T : Txt K mg) (GS : Fn P w K mg base CX0 1 "_law_same" ["_law_told", "_law_due"] spSame) : FnOk P w K mg base CX0 2 f fd ["_law_told", "_law_due"] (spList K) := by
  refine F.ok scList (fun vs H Q E h => ?_) (fun cdv A outer s H vs Q E hr h => ?_)
  · obtain ⟨a, b, xs, rfl, _⟩ := h
    rfl
  · obtain ⟨a, b, xs, rfl, ha, hb, hl, hx, q⟩ := h
    refine ⟨_, pss_cons (ps_if (PW.pt (pw_or (pt_not (pt_val (pe_callB call_isi (by rfl) T.isi PyProof.Rows.boot_isinstance (pa_cons (pv 0) (pa_cons (pe_bltn (v := .ty "list") (by rfl) T.list PyProof.Rows.boot_list rfl) pa_nil)))))
        (pw_or1 (pt_cmpR op_ne (pe_callB call_len_seq (by rfl) T.len PySem.boot_len (pa_cons (pv 0) pa_nil)) (pe_callB call_len_seq (by rfl) T.len PySem.boot_len (pa_cons (pv 1) pa_nil)) (nomark _))))) (pss_one (ps_ret pe_bl)) pss_nil)
      (pss_one (ps_ret (pe_callB (cr_all rfl) (by rfl) T.all PyProof.Rows.boot_all (pa_cons (pe_lc (own := [("_law_k", 2)]) (g := gName 2) (tt := tYes) rfl scList.nd (pi_range1 (by rfl) T.range (pa_cons (pe_callB call_len_seq (by rfl) T.len PySem.boot_len (pa_cons (pv 1) pa_nil)) pa_nil))
        (blkOk_by (N := ["_law_told", "_law_due", "_law_k"]) (sc := defScope lList) (by decide +kernel))
        (fun _ _ _ _ _ => pg_name (i := 2) scList.nd rfl (Or.inl rfl)) (fun _ _ _ _ _ => pts_nil)
        (fun _ _ _ _ _ => pe_fn GS hr (by rfl) pass0 (pa_cons (pe_ix (r := rIxL K) ix_list (pv 0) (pv 2) (fun _ _ => rfl)) (pa_cons (pe_ix (r := rIxL K) ix_list (pv 1) (pv 2) (fun _ _ => rfl)) pa_nil)))) pa_nil)))), ?_⟩
    refine ⟨_, rfl, .ref a, .ty "list", _, _, true, rfl, .ty "list", .base (.lst ha), kit_ty k_list_list, _, rfl, iteF ?_⟩
    refine ⟨_, rfl, a, xs, rfl, .inl (SqL.of ha), _, rfl, b, xs, rfl, .inl hb, rfl, _, rfl, ?_⟩
    rw [decide_eq_true rfl]
    refine iteF ?_
    refine ⟨_, rfl, b, xs, rfl, .inl hb, _, rfl, by omega, by omega, fun D nD => ?_⟩
    have sD := same_upd (o := HO.lst []) nD
    refine lc_range (lo := 0) (n := xs.length) (fun i H' => Same H H' ∧ H' D = some (.lst (List.replicate i (.bl true)))) ⟨sD, upd_same⟩ (fun i H' hi ⟨s1, hD⟩ => ?_) (fun H' ⟨s1, hD⟩ => ?_)
    · obtain ⟨x, hxi⟩ : ∃ x, xs[i]? = some x := ⟨xs[i], List.getElem?_eq_getElem hi⟩
      have hat : atI xs (0 + (i : Int)) = some x := by rw [Int.zero_add]; exact atI_nat hxi
      have hv := hx x (List.mem_of_getElem? hxi)
      refine ⟨rfl, lc_keep ?_⟩
      refine ⟨_, rfl, _, rfl, a, xs, _, x, rfl, rfl, SqL.of (s1 a _ ha), hat, _, rfl, _, rfl, b, xs, _, x, rfl, rfl, s1.seq hb, hat, x, x, rfl, hv.1, hv.1, hv.2, hv.2, fun H2 s2 => ?_⟩
      rw [decide_eq_true rfl]
      refine ⟨_, s2 D _ hD, small1000 (by rw [List.length_replicate]; omega), same_set (s1.trans s2) nD, ?_⟩
      rw [upd_same, List.replicate_succ']
    · refine ⟨D, List.replicate xs.length true, rfl, SqL.of (by rw [hD, List.map_replicate]), ?_⟩
      have e : (List.replicate xs.length true).all id = true := by
        rw [List.all_eq_true]
        intro x hx
        exact (List.mem_replicate.mp hx).2
      rw [e]
      exact q H' s1
theorem scSigns : FnScope ["_law_signs_here"] [] (defScope lSigns) := ⟨rfl, rfl, rfl, by decide +kernel, rfl, by decide +kernel, by decide +kernel⟩
theorem ok_signs {f : Addr} {fd : FuncData} (F : Fun K "_law_signs" "_law_signs" lSigns f fd) : FnOk P w K mg base CX0 1 f fd [] spSigns := by
  refine F.ok scSigns (fun vs H Q E h => ?_) (fun cdv A outer s H vs Q E hr h => ?_)
  · obtain ⟨rfl, _⟩ := h
    rfl
  · obtain ⟨rfl, q⟩ := h
    refine ⟨_, pss_cons (ps_set (i := 0) scSigns.nd rfl (.inl rfl) pe_str) (pss_one (ps_ret (pe_op op_add_str (pe_op op_add_str pe_str (pv 0)) pe_str))), ?_⟩
    have hz : (1000 : Nat) ≤ sizeLine := Nat.le_of_lt (small1000 (Nat.le_refl _))
    refine ⟨_, rfl, _, _, rfl, rfl, Nat.le_trans (by decide +kernel) hz, _, _, rfl, rfl, Nat.le_trans (by decide +kernel) hz, ?_⟩
    exact (show ∀ z : Str, z = SIGNS → Q (.str z) H from fun z e => by rw [e]; exact q H (Same.refl H)) _ (by decide +kernel)
theorem scOdd : FnScope ["_law_pool", "_law_kind", "_law_text_here", "_law_at", "_law_sign"] ["_law_pool"] (defScope lOdd) := ⟨rfl, rfl, rfl, by decide +kernel, rfl, by decide +kernel, by decide +kernel⟩
theorem ok_odd {f : Addr} {fd : FuncData} (F : Fun K "_law_odd" "_law_odd" lOdd f fd) (T : Txt K mg) (GD : Fn P w K mg base CX0 1 "_law_draw" ["_law_pool", "_law_many"] spDraw) (GW : Fn P w K mg base CX0 2 "_law_drawn" ["_law_pool", "_law_many"] spDrawn)
    (GS : Fn P w K mg base CX0 1 "_law_signs" [] spSigns) : FnOk P w K mg base CX0 3 f fd ["_law_pool"] spOdd := by
  refine F.ok scOdd (fun vs H Q E h => ?_) (fun cdv A outer s H vs Q E hr h => ?_)
  · obtain ⟨p, rfl, _⟩ := h
    rfl
  · obtain ⟨p, rfl, hp, q⟩ := h
    have hr1 := hr.mono (show 1 ≤ 2 by decide)
    refine ⟨_, pss_cons (ps_set (i := 1) scOdd.nd rfl (.inl rfl) (pe_fn GD hr1 (by rfl) pass0 (pa_cons (pv 0) (pa_cons pe_int pa_nil))))
      (pss_cons (ps_if (pt_cmpR op_eq (pv 1) pe_int (nomark _)) (pss_one (ps_ret (pe_op op_add pe_int (pe_fn GD hr1 (by rfl) pass0 (pa_cons (pv 0) (pa_cons pe_int pa_nil)))))) pss_nil)
      (pss_cons (ps_if (pt_cmpR op_eq (pv 1) pe_int (nomark _)) (pss_one (ps_ret (pe_op op_sub (pe_un un_neg pe_int) (pe_fn GD hr1 (by rfl) pass0 (pa_cons (pv 0) (pa_cons (pe_op op_pow pe_int pe_int) pa_nil)))))) pss_nil)
      (pss_cons (ps_set (i := 2) scOdd.nd rfl (.inl rfl) (pe_fn GW hr (by rfl) pass0 (pa_cons (pv 0) (pa_cons (pe_fn GD hr1 (by rfl) pass0 (pa_cons (pv 0) (pa_cons pe_int pa_nil))) pa_nil))))
      (pss_cons (ps_if (PW.pt (pw_and (pt_cmpR op_eq (pv 1) pe_int (nomark _)) (pw_and1 (pt_cmpR op_eq (pv 2) pe_str (nomark _))))) (pss_one (ps_ret (pv 2))) pss_nil)
      (pss_cons (ps_if (pt_cmpR op_eq (pv 1) pe_int (nomark _)) (pss_one (ps_ret (pe_op op_add_str (pe_op op_add_str (pv 2) (pe_op op_mul_str pe_str (pe_op op_sub pe_int (pe_callB call_len_str (by rfl) T.len PySem.boot_len (pa_cons (pv 2) pa_nil)))))
        (pe_op op_mul_str pe_str (pe_fn GD hr1 (by rfl) pass0 (pa_cons (pv 0) (pa_cons pe_int pa_nil))))))) pss_nil)
      (pss_cons (ps_set (i := 3) scOdd.nd rfl (.inl rfl) (pe_fn GD hr1 (by rfl) pass0 (pa_cons (pv 0) (pa_cons (pe_op op_add (pe_callB call_len_str (by rfl) T.len PySem.boot_len (pa_cons (pv 2) pa_nil)) pe_int) pa_nil))))
      (pss_cons (ps_set (i := 4) scOdd.nd rfl (.inl rfl) (pe_ix ix_str (pe_fn0 GS hr1 (by rfl) pass0) (pe_fn GD hr1 (by rfl) pass0 (pa_cons (pv 0) (pa_cons (pe_callB call_len_str (by rfl) T.len PySem.boot_len (pa_cons (pe_fn0 GS hr1 (by rfl) pass0) pa_nil)) pa_nil))) (fun _ _ => rfl)))
      (pss_one (ps_ret (pe_op op_add_str (pe_op op_add_str (pe_slice sl_str (pv 2) po_none (po_some (pv 3))) (pv 4)) (pe_slice sl_str (pv 2) (po_some (pv 3)) po_none))))))))))), ?_⟩
    have hz : ∀ n : Nat, n ≤ 1000 → n ≤ sizeLine := fun n h => Nat.le_of_lt (small1000 h)
    refine ⟨_, rfl, p, 4, rfl, hp, by decide, fun H1 d b1 p1 h0 h1 => ?_⟩
    refine ⟨_, rfl, rfl, _, rfl, ite2 (fun h2 => ?_) (fun h2 => ?_)⟩
    · refine ⟨_, rfl, p, 3, rfl, p1, by decide, fun H2 z b2 p2 g0 g1 => ?_⟩
      exact ⟨_, _, rfl, rfl, q _ _ (b1.trans b2) p2 (odd_int (.inr (by omega)))⟩
    refine ⟨_, rfl, rfl, _, rfl, ite2 (fun h3 => ?_) (fun h3 => ?_)⟩
    · refine ⟨_, rfl, _, rfl, 10, 18, rfl, rfl, ⟨by decide, by decide, by decide⟩, p, _, rfl, p1, by decide, fun H2 z b2 p2 g0 g1 => ?_⟩
      exact ⟨_, _, rfl, rfl, q _ _ (b1.trans b2) p2 (odd_int (.inl (by omega)))⟩
    refine ⟨_, rfl, _, rfl, p, 9, rfl, p1, by decide, fun H2 z b2 p2 g0 g1 => ?_⟩
    refine ⟨p, z.toNat, (by rw [show (z.toNat : Int) = z by omega]; rfl), p2, by omega, fun H3 l b3 p3 hl hll => ?_⟩
    have bb := (b1.trans b2).trans b3
    have l8 : l.length ≤ 8 := by omega
    refine ⟨_, rfl, rfl, _, rfl, ite2 (fun h4 => ?_) (fun h4 => iteF ?_)⟩
    · refine ⟨_, rfl, rfl, _, rfl, ite2 (fun h5 => ?_) (fun h5 => ?_)⟩
      · have e5 : V.str (tx l) = V.str "" := of_decide_eq_true h5
        rw [e_eq] at e5
        have e6 : l = [] := tx_inj (V.str.inj e5)
        exact ⟨_, rfl, q _ _ bb p3 (odd_str (by omega) (fun hw => isW_ne hw e6))⟩
      · refine ⟨_, rfl, rfl, _, rfl, ite2 (fun h6 => ?_) (fun h6 => absurd h4 h6)⟩
        refine ⟨_, rfl, _, rfl, tx l, rfl, hz _ (by rw [tx_len]; omega), _, _, rfl, rfl, ?_⟩
        rw [tx_len]
        refine ⟨_, _, rfl, rfl, (by rw [z_eq, tx_len]; simp), by omega, by omega, ?_⟩
        rw [z_eq, mul_one]
        refine ⟨_, _, rfl, rfl, hz _ (by rw [tx_len, tx_len, List.length_replicate]; omega), ?_⟩
        rw [tx_app]
        refine ⟨_, rfl, p, 3, rfl, p3, by decide, fun H4 y b4 p4 e0 e1 => ?_⟩
        refine ⟨_, y, rfl, rfl, (by rw [a_eq, tx_len]; simp), by omega, by omega, ?_⟩
        rw [a_eq, mul_one]
        refine ⟨_, _, rfl, rfl, hz _ (by rw [tx_len, tx_len, List.length_append, List.length_replicate, List.length_replicate]; omega), ?_⟩
        rw [tx_app]
        refine q _ _ (bb.trans b4) p4 (odd_str ?_ fun hw => ?_)
        · rw [List.length_append, List.length_append, List.length_replicate, List.length_replicate]
          omega
        · have h8 := hw.2.1
          rw [List.length_append, List.length_append, List.length_replicate, List.length_replicate] at h8
          omega
    · refine ⟨_, rfl, rfl, _, rfl, ite2 (fun h6 => absurd h6 h4) (fun _ => ?_)⟩
      refine ⟨_, rfl, _, rfl, tx l, rfl, hz _ (by rw [tx_len]; omega), _, 1, rfl, rfl, ?_⟩
      rw [tx_len]
      refine ⟨p, _, rfl, p3, ⟨by omega, by omega⟩, fun H4 at_ b4 p4 a0 a1 => ?_⟩
      obtain ⟨n, rfl⟩ : ∃ n : Nat, at_ = n := ⟨at_.toNat, by omega⟩
      refine ⟨rfl, fun H5 s5 => ?_⟩
      refine ⟨_, rfl, rfl, fun H6 s6 => ?_⟩
      have sl := signs_len
      have p6 := (p4.same s5).same s6
      refine ⟨SIGNS, rfl, hz _ (by omega), p, _, rfl, p6, ⟨by omega, by omega⟩, fun H7 j b7 p7 j0 j1 => ?_⟩
      obtain ⟨c, hat, hc⟩ := sign_at j0 j1
      have b47 := (((bb.trans b4).trans (But.of s5)).trans (But.of s6)).trans b7
      refine ⟨SIGNS, j, c, rfl, rfl, hz _ (by omega), hat, ?_⟩
      refine ⟨_, rfl, _, rfl, n, rfl, tx l, rfl, hz _ (by rw [tx_len]; omega), ?_⟩
      rw [cut_to]
      refine ⟨_, rfl, _, _, rfl, rfl, ?_, ?_⟩
      · rw [show ((⟨#[c]⟩ : Str)) = tx [c] from rfl, tx_len, tx_len, List.length_take]
        exact hz _ (by simp; omega)
      rw [show ((⟨#[c]⟩ : Str)) = tx [c] from rfl, tx_app]
      refine ⟨_, rfl, _, rfl, n, rfl, tx l, rfl, hz _ (by rw [tx_len]; omega), ?_⟩
      rw [cut_from]
      refine ⟨_, _, rfl, rfl, ?_, ?_⟩
      · rw [tx_len, tx_len, List.length_append, List.length_take, List.length_drop]
        exact hz _ (by simp; omega)
      rw [tx_app]
      refine q _ _ b47 p7 (odd_str ?_ fun hw => ?_)
      · rw [List.length_append, List.length_append, List.length_take, List.length_drop]
        simp
        omega
      · exact hc (hw.2.2 c (by simp))
end
end K1

set_option Elab.async false
set_option linter.all false
set_option maxRecDepth 100000
set_option maxHeartbeats 4000000
namespace K1
open PySem PySem.Spec PyProof.Rows L2
/-- what the law asks of the classes of errors -/
structure ExcL (K : PySem.W.Frag) (mg : Str → Option Value) (C CE CN : Addr) : Prop where
  gC : mg "BadValue" = some (.ref C)
  gE : mg "ColonnadeError" = some (.ref CE)
  gN : mg "BadName" = some (.ref CN)
  kE : PySem.W.kitOne K (.ref C) (.ref CE) = some true
  kV : PySem.W.kitOne K (.ref C) (.type "ValueError") = some true
  kN : PySem.W.kitOne K (.ref C) (.ref CN) = some false
  exD : ExcD K C
  xf : XfC K C
  noV : PySem.W.findIn K (.ref C) "value" = some none
  exm : PySem.W.exmOne K (.ref C) (.ref C) = some true
def rIsW (K : PySem.W.Frag) (D a : Addr) (cls : Value) (d : Option Addr) : List V → Hp → VK → Prop := fun xs H Q => cls = .ref D ∧ ∃ dd, d = some dd ∧ rIsD K D a dd xs H Q
theorem call_isW {X : Cx} {a D : Addr} {oe : Obj} {cls : Value} {d : Option Addr} {pn : List (Addr × Obj)} (C : ExcD X.K D) (hz : Zc cls d oe) (hf : ∃ vs, oe.data = .fields vs) : CallR (X.suite a ((a, oe) :: pn)) (.builtin "isinstance") (rIsW X.K D a cls d) := by
  intro pins s σ H xs us Q I r h
  obtain ⟨rfl, dd, rfl, h⟩ := h
  exact call_isD C hz hf pins s σ H xs us Q I r h
theorem takes0N {X : Cx} : L2N.Takes X (fun _ _ _ _ => False) := fun _ _ x => by
  obtain ⟨_, _, _, _, _, _, _, _, _, _, _, _, _, _, _, _, z⟩ := x
  exact z.elim
theorem OddV.noBl {v : V} (h : OddV v) : NoBl v := fun b e => by
  rcases h.kind with ⟨i, q⟩ | ⟨z, q⟩
  · rw [q] at e
    cases e
  · rw [q] at e
    cases e
def spRefused : Sp := fun vs H Q _ => ∃ (k : Int) (v : V), vs = [.int k, v] ∧ OddV v ∧ ∀ H', Same H H' → Q (.bl true) H'
def FnHot (P : Program) (w : World) (K : PySem.W.Frag) (mg : Str → Option Value) (base : Heap) (CX : CXT) (k : Nat) (x : Str) (ps : List Str) (sp : Sp) : Prop :=
  ∃ f fd, mg x = some (.ref f) ∧ L2H.FnH P w K mg base CX k f fd ps sp ∧ PySem.W.keepIn K (.ref f) = true ∧ Binds K fd ps []
theorem pe_fnH {X : Cx} {CX : CXT} {k : Nat} {ps : List Str} {sp : Sp} {E : L2.St → XK} {x : Str} {p pos : Pos} {e : Expr} {es : List Expr} {t : TA} (F : FnHot X.prog X.w X.K X.mg X.base CX k x ps sp) (hr : L2H.RoomH k X.A) (hc : L2H.HotC X) (hg : Gl X x) (hx : ∀ σ, PassesAt CX X σ (E σ)) (ha : PA X (e :: es) t)
    (hdb : (x == ("__debug__" : Str)) = false := by decide)
    (he : starEach (e :: es) X.env = (false, eval e X.env) :: starEach es X.env := by rfl) (hpl : (backTo pos (starEach es X.env)).any (·.1) = false := by rfl) : PE X (.Call (.Name x p) (e :: es) [] pos) (tCallS sp E t) := by
  obtain ⟨f, fd, hm, F, hk, hb⟩ := F
  exact L2H.pe_callH F hr hc hg hm hk hb hx ha hdb he hpl
section
variable {P : Program} {w : World} {K : PySem.W.Frag} {mg : Str → Option Value} {base : Heap}
theorem scRefused : FnScope ["_law_which", "_law_odd_here", "e", "_law_kin"] ["_law_which", "_law_odd_here"] (defScope lRefused) := ⟨rfl, rfl, rfl, by decide +kernel, rfl, by decide +kernel, by decide +kernel⟩
theorem ok_refused {f C CE CN : Addr} {fd : FuncData} (F : Fun K "_law_refused" "_law_refused" lRefused f fd) (T : Txt K mg) (L : ExcL K mg C CE CN) (GD : Fn P w K mg base (L2N.CX P w) 3 "domain_of" ["value"] (spDomainOf C))
    (GN : Fn P w K mg base (L2N.CX P w) 4 "next_value" ["value"] (spStep 1 C)) (GB : Fn P w K mg base (L2N.CX P w) 4 "value_before" ["value"] (spStep (-1) C)) (GS : FnHot P w K mg base CX0 1 "_law_same" ["_law_told", "_law_due"] spSame) :
    FnOk P w K mg base CX0 5 f fd ["_law_which", "_law_odd_here"] spRefused := by
  refine F.ok scRefused (fun vs H Q E h => ?_) (fun cdv A outer s H vs Q E hr h => ?_)
  · obtain ⟨k, v, rfl, _⟩ := h
    rfl
  · obtain ⟨k, v, rfl, ho, q⟩ := h
    have hr3 := hr.mono (show 3 ≤ 4 by decide)
    have hr1 := hr.mono (show 1 ≤ 4 by decide)
    refine ⟨_, pss_cons (L2N.ps_try_as (i := 2) (Wout := fun _ _ _ _ => False) rfl rfl scRefused.nd rfl rfl ⟨rfl, by decide, Or.inl L.gC⟩ takes0N
        (fun W pn xe tk _ => pss_one (ps_if (pt_cmpR op_eq (pv 0) pe_int (nomark _)) (pss_one (ps_expr (pe_fnS GD hr3 (by rfl) (fun σ => L2N.passAt tk σ) (pa_cons (pv 1) pa_nil))))
          (pss_one (ps_if (pt_cmpR op_eq (pv 0) pe_int (nomark _)) (pss_one (ps_expr (pe_fnS GN hr (by rfl) (fun σ => L2N.passAt tk σ) (pa_cons (pv 1) pa_nil))))
            (pss_one (ps_expr (pe_fnS GB hr (by rfl) (fun σ => L2N.passAt tk σ) (pa_cons (pv 1) pa_nil))))))))
        (fun a oe cls d pn hz hf => pss_cons (ps_set (i := 3) scRefused.nd rfl (.inl rfl) (pe_and (pe_callB (call_isW L.exD hz.zc hf) (by rfl) T.isi PyProof.Rows.boot_isinstance (pa_cons (pv 2) (pa_cons (pe_gv (v := .ref CE) (by rfl) ⟨_, L.gE, rfl⟩) pa_nil)))
            (pe_one (pe_callB (call_isW L.exD hz.zc hf) (by rfl) T.isi PyProof.Rows.boot_isinstance (pa_cons (pv 2) (pa_cons (pe_bltn (v := .ty "ValueError") (by rfl) T.valueError (by decide +kernel) rfl) pa_nil))))))
          (pss_one (ps_ret (pe_and (pv 3) (pe_and (pe_not (pe_callB (call_isW L.exD hz.zc hf) (by rfl) T.isi PyProof.Rows.boot_isinstance (pa_cons (pv 2) (pa_cons (pe_gv (v := .ref CN) (by rfl) ⟨_, L.gN, rfl⟩) pa_nil))))
            (pe_one (pe_fnH (E := fun _ => E0) GS ⟨hr1.dp, hr1.un⟩ (hot_suite hz hf) (by rfl) (fun _ _ _ _ _ _ _ z => z.elim) (pa_cons (pe_xf L.xf L.noV hz.zc hf (pv 2)) (pa_cons (pv 1) pa_nil))))))))))
      (pss_one (ps_ret pe_bl)), ?_⟩
    refine ⟨_, rfl, rfl, _, rfl, ite2 (fun h1 => ?_) (fun h1 => ?_)⟩
    · refine ⟨_, rfl, v, rfl, .inr ho, fun w hw => (no_odd hw ho).elim, fun ho H' d s' hd => ⟨true, L.exm, fun _ a na => ?_, fun z => nomatch z⟩⟩
      · refine ⟨_, rfl, rfl, d, rfl, .ref CE, .ref CE, true, _, rfl, fun u r => r, hd, L.kE, _, rfl, iteT ?_⟩
        refine ⟨_, rfl, rfl, d, rfl, .ty "ValueError", .type "ValueError", true, _, rfl, fun u r => r, hd, L.kV, ?_⟩
        refine ⟨_, rfl, _, rfl, iteT ?_⟩
        refine ⟨_, rfl, rfl, d, rfl, .ref CN, .ref CN, false, _, rfl, fun u r => r, hd, L.kN, _, rfl, _, rfl, iteT ?_⟩
        refine ⟨_, rfl, rfl, rfl, d, _, v, rfl, hd, rfl, _, rfl, v, v, rfl, ho.askd, ho.askd, ho.noBl, ho.noBl, fun H2 s2 => ?_⟩
        rw [decide_eq_true rfl]
        exact q _ (s'.trans s2)
    · refine ⟨_, rfl, rfl, _, rfl, ite2 (fun h2 => ?_) (fun h2 => ?_)⟩
      · refine ⟨_, rfl, v, rfl, .inr ho, fun w hw => (no_odd hw ho).elim, fun ho H' d s' hd => ⟨true, L.exm, fun _ a na => ?_, fun z => nomatch z⟩⟩
        · refine ⟨_, rfl, rfl, d, rfl, .ref CE, .ref CE, true, _, rfl, fun u r => r, hd, L.kE, _, rfl, iteT ?_⟩
          refine ⟨_, rfl, rfl, d, rfl, .ty "ValueError", .type "ValueError", true, _, rfl, fun u r => r, hd, L.kV, ?_⟩
          refine ⟨_, rfl, _, rfl, iteT ?_⟩
          refine ⟨_, rfl, rfl, d, rfl, .ref CN, .ref CN, false, _, rfl, fun u r => r, hd, L.kN, _, rfl, _, rfl, iteT ?_⟩
          refine ⟨_, rfl, rfl, rfl, d, _, v, rfl, hd, rfl, _, rfl, v, v, rfl, ho.askd, ho.askd, ho.noBl, ho.noBl, fun H2 s2 => ?_⟩
          rw [decide_eq_true rfl]
          exact q _ (s'.trans s2)
      · refine ⟨_, rfl, v, rfl, .inr ho, fun w hw => (no_odd hw ho).elim, fun ho H' d s' hd => ⟨true, L.exm, fun _ a na => ?_, fun z => nomatch z⟩⟩
        · refine ⟨_, rfl, rfl, d, rfl, .ref CE, .ref CE, true, _, rfl, fun u r => r, hd, L.kE, _, rfl, iteT ?_⟩
          refine ⟨_, rfl, rfl, d, rfl, .ty "ValueError", .type "ValueError", true, _, rfl, fun u r => r, hd, L.kV, ?_⟩
          refine ⟨_, rfl, _, rfl, iteT ?_⟩
          refine ⟨_, rfl, rfl, d, rfl, .ref CN, .ref CN, false, _, rfl, fun u r => r, hd, L.kN, _, rfl, _, rfl, iteT ?_⟩
          refine ⟨_, rfl, rfl, rfl, d, _, v, rfl, hd, rfl, _, rfl, v, v, rfl, ho.askd, ho.askd, ho.noBl, ho.noBl, fun H2 s2 => ?_⟩
          rw [decide_eq_true rfl]
          exact q _ (s'.trans s2)
end
end K1

set_option Elab.async false
set_option linter.all false
set_option maxRecDepth 100000
set_option maxHeartbeats 4000000
namespace K1
open PySem PySem.Spec PyProof.Rows L2
def spNone : Sp := fun vs H Q _ => ∃ v : V, vs = [v] ∧ OddV v ∧ ∀ H', Same H H' → Q (.bl true) H'
section
variable {P : Program} {w : World} {K : PySem.W.Frag} {mg : Str → Option Value} {base : Heap}
theorem scNone : FnScope ["_law_odd_here", "_law_domain", "_law_other", "_law_which"] ["_law_odd_here"] (defScope lNone) := ⟨rfl, rfl, rfl, by decide +kernel, rfl, by decide +kernel, by decide +kernel⟩
theorem ok_none {f : Addr} {fd : FuncData} (F : Fun K "_law_none" "_law_none" lNone f fd) (T : Txt K mg) (GV : Fn P w K mg base CX0 2 "is_value" ["domain", "value"] spIsValue) (GM : Fn P w K mg base CX0 2 "is_name" ["text"] spIsName)
    (GR : Fn P w K mg base CX0 5 "_law_refused" ["_law_which", "_law_odd_here"] spRefused) : FnOk P w K mg base CX0 6 f fd ["_law_odd_here"] spNone := by
  refine F.ok scNone (fun vs H Q E h => ?_) (fun cdv A outer s H vs Q E hr h => ?_)
  · obtain ⟨v, rfl, _⟩ := h
    rfl
  · obtain ⟨v, rfl, ho, q⟩ := h
    have hr2 := hr.mono (show 2 ≤ 5 by decide)
    refine ⟨_, pss_cons (ps_for PassesOwn.never rfl (pi_list (pe_lst (pa_cons pe_str (pa_cons pe_str pa_nil)))) (pg_name (i := 1) scNone.nd rfl (.inl rfl))
        (pss_one (ps_for PassesOwn.never rfl (pi_list (pe_lst (pa_cons (pv 0) (pa_cons pe_bl (pa_cons pe_bl (pa_cons pe_non pa_nil)))))) (pg_name (i := 2) scNone.nd rfl (.inl rfl))
          (pss_one (ps_if (pt_cmpR op_notBl (pe_fn GV hr2 (by rfl) pass0 (pa_cons (pv 1) (pa_cons (pv 2) pa_nil))) pe_bl (nomark _)) (pss_one (ps_ret pe_bl)) pss_nil)))))
      (pss_cons (ps_if (PW.pt (pw_and (pt_val (pe_callB call_isi (by rfl) T.isi PyProof.Rows.boot_isinstance (pa_cons (pv 0) (pa_cons (pe_bltn (v := .ty "str") (by rfl) T.str PyProof.Rows.boot_str rfl) pa_nil))))
        (pw_and1 (pt_cmpR op_notBl (pe_fn GM hr2 (by rfl) pass0 (pa_cons (pv 0) pa_nil)) pe_bl (nomark _))))) (pss_one (ps_ret pe_bl)) pss_nil)
      (pss_one (ps_ret (pe_callB (cr_all rfl) (by rfl) T.all PyProof.Rows.boot_all (pa_cons (pe_lc (own := [("_law_which", 3)]) (g := gName 3) (tt := tYes) rfl scNone.nd (pi_range1 (by rfl) T.range (pa_cons pe_int pa_nil))
        (blkOk_by (N := ["_law_odd_here", "_law_domain", "_law_other", "_law_which"]) (sc := defScope lNone) (by decide +kernel))
        (fun _ _ _ _ _ => pg_name (i := 3) scNone.nd rfl (Or.inl rfl)) (fun _ _ _ _ _ => pts_nil)
        (fun _ _ _ _ _ => pe_fn GR hr (by rfl) pass0 (pa_cons (pv 3) (pa_cons (pv 0) pa_nil)))) pa_nil))))), ?_⟩
    refine ⟨(by show 2 ≤ sizeLine; decide), fun o no => ?_⟩
    have s0 := same_upd (o := HO.lst [V.str (dom false), V.str (dom true)]) no
    refine ⟨o, rfl, ⟨_, SqL.of upd_same⟩, for_list (K := K) (a := o) (xs := [V.str (dom false), V.str (dom true)]) (fun i σ H' => ∃ y1 y2, σ = [some v, y1, y2, none] ∧ Same (upd H o (.lst [V.str (dom false), V.str (dom true)])) H')
      ⟨none, none, rfl, Same.refl _⟩ (fun i σ H' _ ⟨_, _, _, s1⟩ => SqL.of (s1 o _ upd_same)) (fun i x σ H' hi ⟨y1, y2, es, s1⟩ => ?_) (fun σ H' ⟨y1, y2, es, s1⟩ => ?_)⟩
    · subst es
      obtain ⟨b, rfl⟩ : ∃ b, x = .str (dom b) := by
        match i, hi with
        | 0, hi => cases hi; exact ⟨false, rfl⟩
        | 1, hi => cases hi; exact ⟨true, rfl⟩
        | i + 2, hi => cases hi
      refine ⟨_, rfl, (by show 4 ≤ sizeLine; decide), fun o2 no2 => ?_⟩
      refine ⟨o2, rfl, ⟨_, SqL.of upd_same⟩, for_list (K := K) (a := o2) (xs := [v, .bl true, .bl false, .non]) (fun j σ H2 => ∃ y2, σ = [some v, some (.str (dom b)), y2, none] ∧ Same (upd H' o2 (.lst [v, .bl true, .bl false, .non])) H2)
        ⟨_, rfl, Same.refl _⟩ (fun i σ H' _ ⟨_, _, s2⟩ => SqL.of (s2 o2 _ upd_same)) (fun j x σ H2 hj ⟨y2, es, s2⟩ => ?_) (fun σ H2 ⟨y2, es, s2⟩ => ?_)⟩
      · subst es
        have hx : Askd x ∧ isValB b x = false := by
          match j, hj with
          | 0, hj => cases hj; exact ⟨ho.askd, ho.no b⟩
          | 1, hj => cases hj; exact ⟨.bl true, by cases b <;> rfl⟩
          | 2, hj => cases hj; exact ⟨.bl false, by cases b <;> rfl⟩
          | 3, hj => cases hj; exact ⟨.non, by cases b <;> rfl⟩
          | j + 4, hj => cases hj
        refine ⟨_, rfl, _, rfl, b, x, rfl, hx.1, fun H3 s3 => ⟨_, _, rfl, rfl, ?_⟩⟩
        rw [hx.2]
        exact ⟨_, rfl, iteF ⟨_, rfl, s2.trans s3⟩⟩
      · subst es
        exact ⟨_, _, rfl, (s1.trans (same_upd no2)).trans s2⟩
    · subst es
      have s1 := s0.trans s1
      have hk : (∃ i, v = .int i) ∨ ∃ l : List Nat, v = .str (tx l) ∧ l.length ≤ 1000 := by
        have hb := ho.noBl
        have ha := ho.askd
        rcases ho.kind with h | ⟨z, rfl⟩
        · exact .inl h
        · cases ha with
          | str l hl => exact .inr ⟨l, rfl, hl⟩
      rcases hk with ⟨i, ev⟩ | ⟨l, ev, hl⟩
      · refine ⟨_, rfl, v, .ty "str", _, _, false, rfl, .ty "str", by rw [ev]; exact tyX (.int i), kit_ty k_int_str, _, rfl, iteF (iteF ?_)⟩
        refine ⟨_, rfl, by decide, by decide, fun D nD => ?_⟩
        refine lc_range (lo := 0) (n := 3) (fun i H2 => Same H' H2 ∧ H2 D = some (.lst (List.replicate i (.bl true)))) ⟨same_upd nD, upd_same⟩ (fun i H2 hi ⟨s5, hD⟩ => ?_) (fun H2 ⟨s5, hD⟩ => ?_)
        · refine ⟨rfl, lc_keep ?_⟩
          refine ⟨_, rfl, _, rfl, _, v, rfl, ho, fun H3 s6 => ⟨_, s6 D _ hD, small1000 (by rw [List.length_replicate]; omega), same_set (s5.trans s6) nD, ?_⟩⟩
          rw [upd_same, List.replicate_succ']
        · refine ⟨D, List.replicate 3 true, rfl, SqL.of (by rw [hD, List.map_replicate]), ?_⟩
          exact q H2 (s1.trans s5)
      · refine ⟨_, rfl, v, .ty "str", _, _, true, rfl, .ty "str", by rw [ev]; exact tyX (.str l hl), kit_ty k_str_str, _, rfl, iteT ?_⟩
        refine ⟨_, rfl, l, by rw [ev]; rfl, hl, fun H9 s9 => ⟨_, _, rfl, rfl, ?_⟩⟩
        have en : isNm l = false := by
          have := ho.no true
          rw [ev] at this
          have e2 : isWl l = false := this
          unfold isNm
          rw [e2, Bool.false_and]
        rw [en]
        refine ⟨_, rfl, iteF ?_⟩
        refine ⟨_, rfl, by decide, by decide, fun D nD => ?_⟩
        refine lc_range (lo := 0) (n := 3) (fun i H2 => Same H9 H2 ∧ H2 D = some (.lst (List.replicate i (.bl true)))) ⟨same_upd nD, upd_same⟩ (fun i H2 hi ⟨s5, hD⟩ => ?_) (fun H2 ⟨s5, hD⟩ => ?_)
        · refine ⟨rfl, lc_keep ?_⟩
          refine ⟨_, rfl, _, rfl, _, v, rfl, ho, fun H3 s6 => ⟨_, s6 D _ hD, small1000 (by rw [List.length_replicate]; omega), same_set (s5.trans s6) nD, ?_⟩⟩
          rw [upd_same, List.replicate_succ']
        · refine ⟨D, List.replicate 3 true, rfl, SqL.of (by rw [hD, List.map_replicate]), ?_⟩
          exact q H2 ((s1.trans s9).trans s5)
end
end K1

set_option Elab.async false
set_option linter.all false
set_option maxRecDepth 100000
set_option maxHeartbeats 4000000
namespace K1
open PySem PySem.Spec PyProof.Rows L2
/-- an ascending list is told by its members -/
theorem asc_eq (f : V → Int) : ∀ {R R' : List V}, R.Pairwise (fun a b => f a < f b) → R'.Pairwise (fun a b => f a < f b) → (∀ u, u ∈ R ↔ u ∈ R') → R = R'
  | [], [], _, _, _ => rfl
  | [], a :: r, _, _, h => absurd ((h a).mpr List.mem_cons_self) List.not_mem_nil
  | a :: r, [], _, _, h => absurd ((h a).mp List.mem_cons_self) List.not_mem_nil
  | a :: r, c :: r', hp, hp', h => by
    obtain ⟨h1, h2⟩ := List.pairwise_cons.mp hp
    obtain ⟨g1, g2⟩ := List.pairwise_cons.mp hp'
    have e : a = c := by
      rcases List.mem_cons.mp ((h a).mp List.mem_cons_self) with e | e
      · exact e
      · rcases List.mem_cons.mp ((h c).mpr List.mem_cons_self) with e' | e'
        · exact e'.symm
        · have := g1 a e
          have := h1 c e'
          omega
    subst e
    congr 1
    refine asc_eq f h2 g2 fun u => ?_
    constructor
    · intro hu
      rcases List.mem_cons.mp ((h u).mp (List.mem_cons_of_mem _ hu)) with e | e
      · subst e
        have := h1 u hu
        omega
      · exact e
    · intro hu
      rcases List.mem_cons.mp ((h u).mpr (List.mem_cons_of_mem _ hu)) with e | e
      · subst e
        have := g1 u hu
        omega
      · exact e
theorem near_uniq {b : Bool} {xs : List V} {n : Nat} {R R' : List V} (h : NearL b xs n R) (h' : NearL b xs n R') : R = R' := by
  refine asc_eq rk h.1 h'.1 fun u => ?_
  constructor
  · intro hu
    have hv := h.2.1 u hu
    exact (h'.2.2 u hv).mpr ((h.2.2 u hv).mp hu)
  · intro hu
    have hv := h'.2.1 u hu
    exact (h.2.2 u hv).mpr ((h'.2.2 u hv).mp hu)
theorem near_more {b : Bool} {xs : List V} {n : Nat} {R : List V} {x : V} (h : NearL b xs n R) (hx : x ∈ xs) : NearL b (xs ++ [x]) n R := by
  refine ⟨h.1, h.2.1, fun u hu => (h.2.2 u hu).trans ?_⟩
  constructor
  · rintro ⟨y, hy, q⟩
    exact ⟨y, List.mem_append.mpr (.inl hy), q⟩
  · rintro ⟨y, hy, q⟩
    rcases List.mem_append.mp hy with h | h
    · exact ⟨y, h, q⟩
    · rw [List.mem_singleton] at h
      exact ⟨x, hx, by rw [← h]; exact q⟩
theorem due_run (b : Bool) : ∀ (m : Nat) (L : Int), 0 ≤ L → L + m ≤ NV b → (List.range m).map (fun k : Nat => rkd b (L + (0 + (k : Int)))) = runV b 1 (L - 1) m
  | 0, L, _, _ => rfl
  | m + 1, L, h0, h1 => by
    rw [List.range_succ_eq_map, List.map_cons, List.map_map, runV_in (by omega)]
    rw [show L - 1 + 1 = L by omega]
    congr 1
    · show rkd b (L + (0 + ((0 : Nat) : Int))) = _
      rw [show L + (0 + ((0 : Nat) : Int)) = L by omega]
      exact rkd_in h0 (by omega)
    · have := due_run b m (L + 1) (by omega) (by omega)
      rw [show L + 1 - 1 = L by omega] at this
      rw [← this]
      apply List.map_congr_left
      intro k _
      show rkd b (L + (0 + ((k + 1 : Nat) : Int))) = _
      congr 1
      omega
def toD : V → PyData
  | .int i => .int i
  | .str z => .str z
  | _ => .none
theorem vals_all (K : PySem.W.Frag) (H : Hp) {b : Bool} : ∀ {xs : List V}, (∀ x ∈ xs, isVal b x) → DpAll K H xs (xs.map toD)
  | [], _ => .nil
  | x :: xs, h => by
    have r := vals_all K H (xs := xs) fun y hy => h y (List.mem_cons_of_mem _ hy)
    have hx := h x List.mem_cons_self
    cases b with
    | true =>
      obtain ⟨l, _, rfl⟩ := hx
      exact .cons (.str _) r
    | false =>
      obtain ⟨i, _, rfl⟩ := hx
      exact .cons (.int _) r
theorem vals_shape {b : Bool} : ∀ {xs : List V}, (∀ x ∈ xs, isVal b x) → PyData.canLayAll0 (xs.map toD) = true ∧ PyData.depthAll (xs.map toD) = 0 ∧ PyData.eqvAll (xs.map toD) (xs.map toD) = true
  | [], _ => ⟨rfl, rfl, rfl⟩
  | x :: xs, h => by
    obtain ⟨h1, h2, h3⟩ := vals_shape (xs := xs) fun y hy => h y (List.mem_cons_of_mem _ hy)
    have hx := h x List.mem_cons_self
    have e : PyData.canLay0 (toD x) = true ∧ PyData.depth (toD x) = 0 ∧ PyData.eqv (toD x) (toD x) = true := by
      cases b with
      | true =>
        obtain ⟨l, hl, rfl⟩ := hx
        refine ⟨?_, rfl, ?_⟩
        · show (tx l).cps.all (· < 0x110000) = true
          rw [← Array.all_toList, List.all_eq_true]
          intro c hc
          have := hl.2.2 c hc
          exact decide_eq_true (by have := this.2; omega)
        · show (tx l == tx l) = true
          exact beq_self_eq_true _
      | false =>
        obtain ⟨i, _, rfl⟩ := hx
        refine ⟨rfl, rfl, ?_⟩
        show (i == i) = true
        exact beq_self_eq_true _
    refine ⟨?_, ?_, ?_⟩
    · show (PyData.canLay0 (toD x) && PyData.canLayAll0 (xs.map toD)) = true
      rw [e.1, h1]
      rfl
    · show max (PyData.depth (toD x)) (PyData.depthAll (xs.map toD)) = 0
      rw [e.2.1, h2]
      rfl
    · show (PyData.eqv (toD x) (toD x) && PyData.eqvAll (xs.map toD) (xs.map toD)) = true
      rw [e.2.2, h3]
      rfl
theorem vals_shaped {b : Bool} {xs : List V} (h : ∀ x ∈ xs, isVal b x) : SeqAt.shaped (.list (xs.map toD)) = true := by
  obtain ⟨h1, h2, _⟩ := vals_shape h
  show (PyData.canLayAll0 (xs.map toD) && decide (PyData.depthAll (xs.map toD) + 1 ≤ 64)) = true
  rw [h1, h2]
  rfl
theorem vals_eqv {b : Bool} {xs : List V} (h : ∀ x ∈ xs, isVal b x) : PyData.eqv (.list (xs.map toD)) (.list (xs.map toD)) = true := (vals_shape h).2.2
/-! choices by a truth value -/
def tDom (i : Nat) : TE := fun σ H Q => tVar i σ H fun x H1 => ∃ b, x = .bl b ∧ Q (.str (dom b)) H1
def tStart (i : Nat) : TE := fun σ H Q => tVar i σ H fun x H1 => ∃ b, x = .bl b ∧ Q (startV b) H1
theorem PE.imp {X : Cx} {e : Expr} {t t' : TE} (h : PE X e t) (i : ∀ σ H Q, t' σ H Q → t σ H Q) : PE X e t' := ⟨fun pins s σ H Q I q => h.run pins s σ H Q I (i σ H Q q)⟩
section
variable {X : Cx} {c : Expr} {i : Nat} {pos p1 p2 : Pos} {j1 j2}
theorem pe_dom (h : PE X c (tVar i)) (hc : PT X c (tB (tVar i))) : PE X (.IfExp c (.Constant (.str "word") j1 p1) (.Constant (.str "number") j2 p2) pos) (tDom i) :=
  PE.imp (pe_ifExp hc pe_str pe_str) fun σ H Q ⟨x, hx, b, e, q⟩ => ⟨x, hx, b, e, by
    cases b with
    | true => exact iteT q
    | false => exact iteF q⟩
theorem pe_start (h : PE X c (tVar i)) (hc : PT X c (tB (tVar i))) : PE X (.IfExp c (.Constant (.str "a") j1 p1) (.Constant (.int 0) j2 p2) pos) (tStart i) :=
  PE.imp (pe_ifExp hc pe_str pe_int) fun σ H Q ⟨x, hx, b, e, q⟩ => ⟨x, hx, b, e, by
    cases b with
    | true =>
      refine iteT ?_
      show Q (.str "a") H
      rw [a_eq]
      exact q
    | false => exact iteF q⟩
end
end K1

set_option Elab.async false
set_option linter.all false
set_option maxRecDepth 100000
set_option maxHeartbeats 8000000
namespace K1
open PySem PySem.Spec PyProof.Rows L2
def spLaw (K : PySem.W.Frag) : Sp := fun vs H Q _ => ∃ (a : Addr) (ns : List Int), vs = [.ref a] ∧ SqL K H a (ns.map V.int) ∧ ns.length ≤ 63 ∧ ∀ H', Q (.bl true) H'
section
variable {P : Program} {w : World} {K : PySem.W.Frag} {mg : Str → Option Value} {base : Heap}
theorem scLaw : FnScope ["_law_script", "_law_pool", "_law_words", "_law_domain", "_law_values", "_law_k", "_law_many", "_law_odd_here", "_law_value_here", "_law_handed", "_law_due", "_law_told", "_law_low", "_law_due_none"] ["_law_script"] (defScope lLaw) := ⟨rfl, rfl, rfl, by decide +kernel, rfl, by decide +kernel, by decide +kernel⟩
theorem ok_law {f : Addr} {fd : FuncData} (F : Fun K "law" "law" lLaw f fd) (T : Txt K mg)
    (G1 : Fn P w K mg base CX0 1 "_law_digits" ["_law_script"] (spDigits K)) (G2 : Fn P w K mg base CX0 1 "_law_draw" ["_law_pool", "_law_many"] spDraw)
    (G3 : Fn P w K mg base CX0 3 "_law_word" ["_law_pool", "_law_k"] spWord) (G4 : Fn P w K mg base CX0 2 "_law_number" ["_law_pool", "_law_k"] spNumber)
    (G5 : Fn P w K mg base CX0 3 "_law_odd" ["_law_pool"] spOdd) (G6 : Fn P w K mg base CX0 6 "_law_none" ["_law_odd_here"] spNone)
    (G7 : Fn P w K mg base CX0 6 "_law_value" ["_law_words", "_law_value_here"] spHolds) (G8 : Fn P w K mg base CX0 3 "_law_near" ["_law_words", "_law_values", "_law_many"] (spLNear K))
    (G9 : Fn P w K mg base CX0 6 "near_values" ["domain", "values", "many"] (spNear K)) (G10 : Fn P w K mg base CX0 2 "_law_list" ["_law_told", "_law_due"] (spList K))
    (G11 : Fn P w K mg base CX0 2 "_law_rank" ["_law_value_here"] spRank) (G12 : Fn P w K mg base CX0 2 "_law_ranked" ["_law_words", "_law_rank_here"] spRanked) : FnOk P w K mg base CX0 7 f fd ["_law_script"] (spLaw K) := by
  refine F.ok scLaw (fun vs H Q E h => ?_) (fun cdv A outer s H vs Q E hr h => ?_)
  · obtain ⟨a, ns, rfl, _⟩ := h
    rfl
  · obtain ⟨a, ns, rfl, hS, _, q⟩ := h
    have hr1 := hr.mono (show 1 ≤ 6 by decide)
    have hr2 := hr.mono (show 2 ≤ 6 by decide)
    have hr3 := hr.mono (show 3 ≤ 6 by decide)
    refine ⟨_, pss_cons (ps_set (i := 1) scLaw.nd rfl (.inl rfl) (pe_fn G1 hr1 (by rfl) pass0 (pa_cons (pv 0) pa_nil)))
      (pss_cons (ps_set (i := 2) scLaw.nd rfl (.inr rfl) (pe_cmpR op_eq (pe_fn G2 hr1 (by rfl) pass0 (pa_cons (pv 1) (pa_cons pe_int pa_nil))) pe_int (nomark _)))
      (pss_cons (ps_set (i := 3) scLaw.nd rfl (.inl rfl) (pe_dom (i := 2) (pv 2) (pt_val (pv 2))))
      (pss_cons (ps_set (i := 4) scLaw.nd rfl (.inl rfl) (pe_lst pa_nil))
      (pss_cons (ps_for PassesOwn.never rfl (pi_range1 (by rfl) T.range (pa_cons (pe_op op_add pe_int (pe_op op_mod (pe_callTy call_int1 (by rfl) T.int PyProof.Rows.boot_int (pa_cons (pe_op op_add (pe_fn G2 hr1 (by rfl) pass0 (pa_cons (pv 1) (pa_cons pe_int pa_nil))) pe_int) pa_nil)) pe_int)) pa_nil)) (pg_name (i := 5) scLaw.nd rfl (.inl rfl))
        (pss_one (ps_expr (pe_bm PySem.F.plainAttrs_list PySem.F.slot_list_append PySem.F.type_list_append mt_append (pv 4)
          (pa_cons (pe_ifExp (pt_val (pv 2)) (pe_fn G3 hr3 (by rfl) pass0 (pa_cons (pv 1) (pa_cons (pv 5) pa_nil))) (pe_fn G4 hr2 (by rfl) pass0 (pa_cons (pv 1) (pa_cons (pv 5) pa_nil)))) pa_nil)))))
      (pss_cons (ps_set (i := 6) scLaw.nd rfl (.inl rfl) (pe_op op_mod (pe_callTy call_int1 (by rfl) T.int PyProof.Rows.boot_int (pa_cons (pe_op op_add (pe_fn G2 hr1 (by rfl) pass0 (pa_cons (pv 1) (pa_cons pe_int pa_nil))) pe_int) pa_nil)) pe_int))
      (pss_cons (ps_set (i := 7) scLaw.nd rfl (.inl rfl) (pe_fn G5 hr3 (by rfl) pass0 (pa_cons (pv 1) pa_nil)))
      (pss_cons (ps_if (pt_not (pt_val (pe_fn G6 hr (by rfl) pass0 (pa_cons (pv 7) pa_nil)))) (pss_one (ps_ret pe_bl)) pss_nil)
      (pss_cons (ps_for PassesOwn.never rfl (pi_list (pv 4)) (pg_name (i := 8) scLaw.nd rfl (.inl rfl))
        (pss_one (ps_if (pt_not (pt_val (pe_fn G7 hr (by rfl) pass0 (pa_cons (pv 2) (pa_cons (pv 8) pa_nil))))) (pss_one (ps_ret pe_bl)) pss_nil)))
      (pss_cons (ps_set (i := 9) scLaw.nd rfl (.inl rfl) (pe_callTy call_list_of (by rfl) T.list PyProof.Rows.boot_list (pa_cons (pv 4) pa_nil)))
      (pss_cons (ps_set (i := 10) scLaw.nd rfl (.inl rfl) (pe_fn G8 hr3 (by rfl) pass0 (pa_cons (pv 2) (pa_cons (pv 4) (pa_cons (pv 6) pa_nil)))))
      (pss_cons (ps_set (i := 11) scLaw.nd rfl (.inl rfl) (pe_fn G9 hr (by rfl) pass0 (pa_cons (pv 3) (pa_cons (pv 9) (pa_cons (pv 6) pa_nil)))))
      (pss_cons (ps_if (PW.pt (pw_or (pt_not (pt_val (pe_fn G10 hr2 (by rfl) pass0 (pa_cons (pv 11) (pa_cons (pv 10) pa_nil))))) (pw_or1 (pt_cmpR (op_neD hr.units) (pv 9) (pv 4) (nomark _))))) (pss_one (ps_ret pe_bl)) pss_nil)
      (pss_cons (ps_expr (pe_bm PySem.F.plainAttrs_list PySem.F.slot_list_append PySem.F.type_list_append mt_append (pv 11) (pa_cons (pe_ix ix_list (pv 4) pe_int (fun _ _ => rfl)) pa_nil)))
      (pss_cons (ps_expr (pe_bm PySem.F.plainAttrs_list PySem.F.slot_list_append PySem.F.type_list_append mt_append (pv 9) (pa_cons (pe_ix ix_list (pv 4) pe_int (fun _ _ => rfl)) pa_nil)))
      (pss_cons (ps_set (i := 12) scLaw.nd rfl (.inr rfl) (pe_fn G11 hr2 (by rfl) pass0 (pa_cons (pe_start (i := 2) (pv 2) (pt_val (pv 2))) pa_nil)))
      (pss_cons (ps_setLc (i := 13) (own := [("_law_k", 5)]) (g := gName 5) (tt := tYes) rfl scLaw.nd rfl rfl (sw_true rfl rfl rfl (by decide +kernel)) (pi_range1 (by rfl) T.range (pa_cons (pv 6) pa_nil))
        (blkOk_by (N := ["_law_script", "_law_pool", "_law_words", "_law_domain", "_law_values", "_law_k", "_law_many", "_law_odd_here", "_law_value_here", "_law_handed", "_law_due", "_law_told", "_law_low", "_law_due_none"]) (sc := defScope lLaw) (by decide +kernel))
        (fun _ _ _ _ _ => pg_name (i := 5) scLaw.nd rfl (Or.inl rfl)) (fun _ _ _ _ _ => pts_nil) (fun _ _ _ _ _ => pe_fn G12 hr2 (by rfl) pass0 (pa_cons (pv 2) (pa_cons (pe_op op_add (pv 12) (pv 5)) pa_nil))))
      (pss_cons (ps_if (pt_not (pt_val (pe_fn G10 hr2 (by rfl) pass0 (pa_cons (pe_fn G9 hr (by rfl) pass0 (pa_cons (pv 3) (pa_cons (pe_lst pa_nil) (pa_cons (pv 6) pa_nil)))) (pa_cons (pv 13) pa_nil))))) (pss_one (ps_ret pe_bl)) pss_nil)
      (pss_one (ps_ret (pe_and (pe_fn G10 hr2 (by rfl) pass0 (pa_cons (pe_fn G9 hr (by rfl) pass0 (pa_cons (pv 3) (pa_cons (pv 9) (pa_cons (pv 6) pa_nil)))) (pa_cons (pv 10) pa_nil))) (pe_one (pe_fn G6 hr (by rfl) pass0 (pa_cons (pv 7) pa_nil))))))))))))))))))))))), ?_⟩
    refine ⟨_, rfl, a, ns, rfl, hS, fun H1 p s1 _ p1 => ?_⟩
    refine ⟨_, rfl, p, 2, rfl, p1, by decide, fun H2 d b2 p2 _ _ => ?_⟩
    refine ⟨rfl, ?_⟩
    generalize decide (V.int d = V.int 1) = b
    refine ⟨_, rfl, b, rfl, ?_⟩
    refine ⟨(by show 0 ≤ sizeLine; decide), fun vA nA => ?_⟩
    have nep := p2.ne nA
    have p3 := p2.same (same_upd (o := HO.lst []) nA)
    refine ⟨_, rfl, p, 5, rfl, p3, by decide, fun H4 z b4 p4 z0 z1 => ?_⟩
    have hv4 := b4 vA _ nep upd_same
    refine ⟨_, 2, rfl, rfl, .inl ⟨_, rfl, _, _, rfl, rfl, (by show (0 : Int) < 5; decide), 1, _, rfl, rfl, ?_⟩⟩
    obtain ⟨n, hn⟩ : ∃ n : Nat, n = (1 + (z + 2) % 5).toNat := ⟨_, rfl⟩
    refine ⟨_, rfl, by omega, by omega, ?_⟩
    rw [← hn]
    have hn5 : 1 ≤ n ∧ n ≤ 5 := by omega
    refine for_range (lo := 0) (n := n) (fun i σ H' => ∃ (vs : List V) (y5 : Option V), σ = [some (.ref a), some (.ref p), some (.bl b), some (.str (dom b)), some (.ref vA), y5, none, none, none, none, none, none, none, none] ∧ Pool H' p ∧ H' vA = some (.lst vs) ∧ vs.length = i ∧ ∀ x ∈ vs, isVal b x)
      ⟨[], none, rfl, p4, hv4, rfl, fun _ h => absurd h List.not_mem_nil⟩ (fun i σ H' hi ⟨vs, y5, es, p5, hv, hl, hx⟩ => ?_) (fun σ H' ⟨vs, y5, es, p5, hv, hl, hx⟩ => ?_)
    · subst es
      have fin : ∀ (H5 : Hp) (v : V), But p H' H5 → Pool H5 p → isVal b v → H5 vA = some (.lst vs) ∧ Pool (upd H5 vA (.lst (vs ++ [v]))) p ∧ (vs ++ [v]).length = i + 1 ∧ ∀ x ∈ vs ++ [v], isVal b x := fun H5 v b5 p5 hv5 => by
        refine ⟨b5 vA _ nep hv, ?_, by simp; exact hl, fun x h => ?_⟩
        · obtain ⟨ds, e⟩ := p5
          exact ⟨ds, by rw [upd_ne nep.symm]; exact e⟩
        · rcases List.mem_append.mp h with h | h
          · exact hx x h
          · rw [List.mem_singleton] at h
            rw [h]
            exact hv5
      refine ⟨_, rfl, .inl ⟨rfl, _, SqL.of hv⟩, _, rfl, _, rfl, ite2 (fun hb => ?_) (fun hb => ?_)⟩
      · subst hb
        refine ⟨_, rfl, _, rfl, p, _, rfl, p5, fun H5 v b5 p6 hv5 => ?_⟩
        obtain ⟨f1, f2, f3, f4⟩ := fin H5 v b5 p6 hv5
        exact ⟨vA, vs, v, rfl, rfl, f1, small1000 (by omega), vs ++ [v], _, rfl, f2, upd_same, f3, f4⟩
      · have hb' := Bool.eq_false_iff.mpr hb
        subst hb'
        refine ⟨_, rfl, _, rfl, p, _, rfl, p5, fun H5 v b5 p6 hv5 => ?_⟩
        obtain ⟨f1, f2, f3, f4⟩ := fin H5 v b5 p6 hv5
        exact ⟨vA, vs, v, rfl, rfl, f1, small1000 (by omega), vs ++ [v], _, rfl, f2, upd_same, f3, f4⟩
    · subst es
      obtain ⟨x0, hx0⟩ : ∃ x0, vs[0]? = some x0 := ⟨vs[0]'(by omega), List.getElem?_eq_getElem _⟩
      have hne : vs ≠ [] := fun z => by rw [z] at hl; simp at hl; omega
      have hm0 : x0 ∈ vs := List.mem_of_getElem? hx0
      refine ⟨_, rfl, p, 7, rfl, p5, by decide, fun H6 y b6 p6 y0 y1 => ?_⟩
      have hv6 := b6 vA _ nep hv
      refine ⟨y, 2, rfl, rfl, .inl ⟨y + 2, rfl, y + 2, 7, rfl, rfl, (by show (0 : Int) < 7; decide), ?_⟩⟩
      obtain ⟨m, hm⟩ : ∃ m : Nat, (y + 2) % 7 = (m : Int) := ⟨((y + 2) % 7).toNat, by omega⟩
      have hm6 : m ≤ 6 := by omega
      refine ⟨_, rfl, p, rfl, p6, fun H7 ov b7 p7 ho => ?_⟩
      have hv7 := b7 vA _ nep hv6
      refine ⟨_, rfl, ov, rfl, ho, fun H8 s8 => ⟨_, rfl, iteF ?_⟩⟩
      have hv8 := s8 vA _ hv7
      refine ⟨_, rfl, vA, rfl, ⟨_, SqL.of hv8⟩, for_list (K := K) (a := vA) (xs := vs) (fun i σ H' => ∃ y8 : Option V, σ = [some (.ref a), some (.ref p), some (.bl b), some (.str (dom b)), some (.ref vA), y5, some (.int ((y + 2) % 7)), some ov, y8, none, none, none, none, none] ∧ Same H8 H')
        ⟨none, rfl, Same.refl _⟩ (fun i σ H' _ ⟨_, _, s9⟩ => SqL.of (s9 vA _ hv8)) (fun i x σ H' hi ⟨y8, es, s9⟩ => ?_) (fun σ H9 ⟨y8, es, s9⟩ => ?_)⟩
      · subst es
        exact ⟨_, rfl, _, rfl, b, x, rfl, hx x (List.mem_of_getElem? hi), fun H10 s10 => ⟨_, rfl, iteF ⟨_, rfl, s9.trans s10⟩⟩⟩
      subst es
      have hv9 := s9 vA _ hv8
      refine ⟨_, rfl, vA, vs, rfl, .inl (SqL.of hv9), fun hA nH => ?_⟩
      have hv10 := same_upd (o := HO.lst vs) nH _ _ hv9
      have hH10 : upd H9 hA (HO.lst vs) hA = some (HO.lst vs) := upd_same
      refine ⟨_, rfl, _, rfl, _, rfl, b, vs, m, vA, by rw [← hm]; rfl, SqL.of hv10, by omega, hm6, hx, fun H11 dA R s11 nD hD hR => ?_⟩
      have hv11 := s11 vA _ hv10
      have hH11 := s11 hA _ hH10
      refine ⟨_, rfl, _, rfl, _, rfl, b, vs, m, hA, by rw [← hm]; rfl, SqL.of hH11, by omega, hm6, hx, fun H12 tA R' s12 nT hT _ hR' => ?_⟩
      obtain rfl := near_uniq hR (hR' hne)
      have hv12 := s12 vA _ hv11
      have hH12 := s12 hA _ hH11
      have hD12 := s12 dA _ hD
      have lR : R.length ≤ 78 := Nat.le_trans hR.len (Nat.le_trans (Nat.mul_le_mul (show 2 * m + 1 ≤ 13 by omega) (show vs.length ≤ 6 by omega)) (by decide))
      have aR : ∀ x ∈ R, Askd x ∧ NoBl x := fun x h => ⟨(hR.2.1 x h).askd, (hR.2.1 x h).noBl⟩
      have nvT : vA ≠ tA := ne_of_none hv11 nT
      have nhT : hA ≠ tA := ne_of_none hH11 nT
      have ndT : dA ≠ tA := ne_of_none hD nT
      have nvH : vA ≠ hA := ne_of_none hv9 nH
      have ndH : dA ≠ hA := (ne_of_none hH10 nD).symm
      refine ⟨_, rfl, _, rfl, tA, dA, R, rfl, hT, SqL.of hD12, by omega, aR, fun H13 s13 => ⟨_, rfl, iteF ?_⟩⟩
      have hv13 := s13 vA _ hv12
      have hH13 := s13 hA _ hH12
      have hD13 := s13 dA _ hD12
      have hT13 := s13 tA _ hT
      refine ⟨_, rfl, _, rfl, .list (vs.map toD), .list (vs.map toD), .lst (SqL.of hH13) (vals_all _ _ hx), .lst (SqL.of hv13) (vals_all _ _ hx), vals_shaped hx, vals_shaped hx, ?_⟩
      rw [vals_eqv hx]
      refine ⟨_, rfl, iteF ?_⟩
      have at00 : atI vs 0 = some x0 := atI_nat (j := 0) hx0
      refine ⟨_, rfl, .inl ⟨rfl, _, SqL.of hT13⟩, _, rfl, vA, vs, 0, x0, rfl, rfl, SqL.of hv13, at00, tA, R, x0, rfl, rfl, hT13, small1000 (by omega), ?_⟩
      have hv14 : upd H13 tA (.lst (R ++ [x0])) vA = some (.lst vs) := by rw [upd_ne nvT]; exact hv13
      have hH14 : upd H13 tA (.lst (R ++ [x0])) hA = some (.lst vs) := by rw [upd_ne nhT]; exact hH13
      have hD14 : upd H13 tA (.lst (R ++ [x0])) dA = some (.lst R) := by rw [upd_ne ndT]; exact hD13
      generalize upd H13 tA (.lst (R ++ [x0])) = H14 at hv14 hH14 hD14 ⊢
      refine ⟨_, rfl, .inl ⟨rfl, _, SqL.of hH14⟩, _, rfl, vA, vs, 0, x0, rfl, rfl, SqL.of hv14, at00, hA, vs, x0, rfl, rfl, hH14, small1000 (by omega), ?_⟩
      have hH15 : upd H14 hA (.lst (vs ++ [x0])) hA = some (.lst (vs ++ [x0])) := upd_same
      have hD15 : upd H14 hA (.lst (vs ++ [x0])) dA = some (.lst R) := by rw [upd_ne ndH]; exact hD14
      generalize upd H14 hA (.lst (vs ++ [x0])) = H15 at hH15 hD15 ⊢
      refine ⟨_, rfl, b, rfl, b, startV b, rfl, start_val b, fun H16 s16 => ?_⟩
      have hH16 := s16 hA _ hH15
      have hD16 := s16 dA _ hD15
      have rs := rk_range (start_val b)
      have rm : rk (startV b) + m ≤ NV b := by
        cases b with
        | false => 
          show (0 : Int) + 999999999 + m ≤ 1999999999
          omega
        | true =>
          have e0 : rk (startV true) = 0 := by decide
          rw [e0]
          show 0 + (m : Int) ≤ NW
          rw [NW_eq]
          omega
      refine ⟨_, rfl, _, rfl, by omega, by omega, fun eD nE => ?_⟩
      have e7 : ((y + 2) % 7).toNat = m := by omega
      rw [e7]
      refine lc_range (lo := 0) (n := m) (fun i H' => Same H16 H' ∧ H' eD = some (.lst ((List.range i).map fun k : Nat => rkd b (rk (startV b) + (0 + (k : Int)))))) ⟨same_upd nE, upd_same⟩ (fun i H' hi ⟨s17, hE⟩ => ?_) (fun H17 ⟨s17, hE⟩ => ?_)
      · refine ⟨rfl, lc_keep ?_⟩
        refine ⟨_, rfl, _, rfl, _, rfl, _, _, rfl, rfl, b, _, rfl, fun H18 s18 => ⟨_, s18 eD _ hE, small1000 (by simp; omega), same_set (s17.trans s18) nE, ?_⟩⟩
        rw [upd_same, List.range_succ, List.map_append]
        rfl
      rw [due_run b m _ rs.1 rm] at hE
      have hH17 := s17 hA _ hH16
      have hD17 := s17 dA _ hD16
      have lU := runV_len b 1 m (rk (startV b) - 1)
      have aU : ∀ x ∈ runV b 1 (rk (startV b) - 1) m, Askd x ∧ NoBl x := fun x h => ⟨(runV_val _ _ _ _ x h).askd, (runV_val _ _ _ _ x h).noBl⟩
      refine ⟨_, rfl, (by show 0 ≤ sizeLine; decide), fun eA nA2 => ?_⟩
      refine ⟨_, rfl, b, [], m, eA, by rw [← hm]; rfl, SqL.of upd_same, by simp, hm6, fun x h => absurd h List.not_mem_nil, fun H18 fA R2 s18 nF hF hrun _ => ?_⟩
      have s18' := (same_upd (o := HO.lst []) nA2).trans s18
      obtain rfl := hrun rfl
      refine ⟨_, rfl, fA, eD, _, rfl, hF, SqL.of (s18' eD _ hE), by omega, aU, fun H19 s19 => ⟨_, rfl, iteF ?_⟩⟩
      have hH19 := s19 hA _ (s18' hA _ hH17)
      have hD19 := s19 dA _ (s18' dA _ hD17)
      refine ⟨_, rfl, _, rfl, _, rfl, b, vs ++ [x0], m, hA, by rw [← hm]; rfl, SqL.of hH19, by simp; omega, hm6, fun x h => ?_, fun H20 gA R3 s20 nG hG _ hR3 => ?_⟩
      · rcases List.mem_append.mp h with h | h
        · exact hx x h
        · rw [List.mem_singleton] at h
          rw [h]
          exact hx x0 hm0
      · obtain rfl := near_uniq (near_more hR hm0) (hR3 (by simp))
        refine ⟨_, rfl, gA, dA, R, rfl, hG, SqL.of (s20 dA _ hD19), by omega, aR, fun H21 s21 => ⟨_, rfl, iteT ?_⟩⟩
        exact ⟨_, rfl, ov, rfl, ho, fun H22 s22 => q H22⟩
end
end K1

set_option Elab.async false
set_option linter.all false
set_option maxRecDepth 100000
set_option maxHeartbeats 8000000
namespace K1
open PySem PySem.Spec PyProof.Rows L2
theorem exm_mk {K : PySem.W.Frag} {C : Addr} {cls : Value} {b : Bool} (h1 : PySem.W.subIn K (.ref C) (.type "BaseException") = some true) (hc : (PySem.W.clsIn K C).isSome = true) (ht : PySem.W.typeIn K (.ref C) = some (.type "type")) (h4 : PySem.W.subIn K cls (.ref C) = some b) : PySem.W.exmOne K cls (.ref C) = some b := by
  have e1 : (PySem.W.subIn K (.ref C) (.type "BaseException") == some true) = true := by rw [h1] <;> rfl
  have e2 : ((PySem.W.clsIn K C).isSome && PySem.W.typeIn K (.ref C) == some (.type "type")) = true := by rw [hc, ht] <;> rfl
  show (if (PySem.W.subIn K (.ref C) (.type "BaseException") == some true) = true then (if ((PySem.W.clsIn K C).isSome && PySem.W.typeIn K (.ref C) == some (.type "type")) = true then PySem.W.subIn K cls (.ref C) else none) else none) = some b
  rw [if_pos e1, if_pos e2]
  exact h4
theorem kit_mk {K : PySem.W.Frag} {C D : Addr} {b : Bool} (hc : PySem.W.isClsIn K D = true) (ht : PySem.W.typeIn K (.ref D) = some (.type "type")) (hs : PySem.W.subIn K (.ref C) (.ref D) = some b) (h : C = D → b = true) : PySem.W.kitOne K (.ref C) (.ref D) = some b := by
  have hc' : (PySem.W.clsIn K D).isSome = true := hc
  have e2 : ((PySem.W.clsIn K D).isSome && PySem.W.typeIn K (.ref D) == some (.type "type")) = true := by rw [hc', ht] <;> rfl
  show (if ((Value.ref C) == (Value.ref D)) = true then some true else if ((PySem.W.clsIn K D).isSome && PySem.W.typeIn K (.ref D) == some (.type "type")) = true then PySem.W.subIn K (.ref C) (.ref D) else none) = some b
  by_cases e : ((Value.ref C) == (Value.ref D)) = true
  · rw [if_pos e]
    have e3 := beq_iff_eq.mp e
    cases e3
    rw [h rfl]
  · rw [if_neg e, if_pos e2]
    exact hs
theorem kit_bl {K : PySem.W.Frag} {C : Addr} {T : String} {b : Bool} (hs : PySem.W.subIn K (.ref C) (.type T) = some b) (hm : PySem.W.kitMeta T = true) : PySem.W.kitOne K (.ref C) (.type T) = some b := by
  show (if ((Value.ref C) == (Value.type T)) = true then some true else if PySem.W.kitMeta T = true then PySem.W.subIn K (.ref C) (.type T) else none) = some b
  rw [if_neg (by intro z; have e := beq_iff_eq.mp z; cases e), if_pos hm]
  exact hs
/-- what the top has left: where each def stands, the class, the constants -/
theorem all_mk {l : PySem.W.OpenLaw} {w : World} {K : PySem.W.Frag} {h : Heap} {mg : Str → Option Value} {fa : Addr} (X : K.In h) (G : h.Ns mainGlobals mg) (hfa : mg "law" = some (.ref fa))
    {f0 f1 f2 f3 f4 f5 f6 f7 f8 f9 f10 f11 f12 f13 f14 f15 f16 f17 f18 f19 f20 f21 f22 f23 f24 f25 f26 f27 f28 f29 f30 f31 f32 C CE CN aD aK : Addr}
    {od0 an0 od1 an1 od2 an2 od3 an3 od4 an4 od5 an5 od6 an6 od7 an7 od8 an8 od9 an9 od10 an10 od11 an11 od12 an12 od13 an13 od14 an14 od15 an15 od16 an16 od17 an17 od18 an18 od19 an19 od20 an20 od21 an21 od22 an22 od23 an23 od24 an24 od25 an25 od26 an26 od27 an27 od28 an28 od29 an29 od30 an30 od31 an31 od32 an32 : Option Addr}
    {sl0 sl1 sl2 sl3 sl4 sl5 sl6 sl7 sl8 sl9 sl10 sl11 sl12 sl13 sl14 sl15 sl16 sl17 sl18 sl19 sl20 sl21 sl22 sl23 sl24 sl25 sl26 sl27 sl28 sl29 sl30 sl31 sl32 : Array (Option Value)}
    {oc0 kV0 dc0 pm0 cd0 ct0 oc1 kV1 dc1 pm1 cd1 ct1 oc2 kV2 dc2 pm2 cd2 ct2 oc3 kV3 dc3 pm3 cd3 ct3 oc4 kV4 dc4 pm4 cd4 ct4 oc5 kV5 dc5 pm5 cd5 ct5 oc6 kV6 dc6 pm6 cd6 ct6 oc7 kV7 dc7 pm7 cd7 ct7 oc8 kV8 dc8 pm8 cd8 ct8 oc9 kV9 dc9 pm9 cd9 ct9 oc10 kV10 dc10 pm10 cd10 ct10 oc11 kV11 dc11 pm11 cd11 ct11 oc12 kV12 dc12 pm12 cd12 ct12 oc13 kV13 dc13 pm13 cd13 ct13 oc14 kV14 dc14 pm14 cd14 ct14 oc15 kV15 dc15 pm15 cd15 ct15 oc16 kV16 dc16 pm16 cd16 ct16 oc17 kV17 dc17 pm17 cd17 ct17 oc18 kV18 dc18 pm18 cd18 ct18 oc19 kV19 dc19 pm19 cd19 ct19 oc20 kV20 dc20 pm20 cd20 ct20 oc21 kV21 dc21 pm21 cd21 ct21 oc22 kV22 dc22 pm22 cd22 ct22 oc23 kV23 dc23 pm23 cd23 ct23 oc24 kV24 dc24 pm24 cd24 ct24 oc25 kV25 dc25 pm25 cd25 ct25 oc26 kV26 dc26 pm26 cd26 ct26 oc27 kV27 dc27 pm27 cd27 ct27 oc28 kV28 dc28 pm28 cd28 ct28 oc29 kV29 dc29 pm29 cd29 ct29 oc30 kV30 dc30 pm30 cd30 ct30 oc31 kV31 dc31 pm31 cd31 ct31 oc32 kV32 dc32 pm32 cd32 ct32 : Value}
    {nm q : Str} {NN : Addr} {bs bm : List Value} {sn : List Str} {sub : List Value} {ab : Bool} {col : Option Bool} {dd : Option Addr} {m0 m1 m2 m3 m5 : Option Value}
    {zL : Str} {tL t_least t_greatest t_longest : Tok} {i_least i_greatest i_longest : Int} {oD oK : Obj}
    (a1 : PySem.W.nsIn K mainGlobals "is_word" = some (some (.ref f1)))
    (l1 : K.lookup f1 = some ⟨oc1, od1, .func (PySem.W.fnOf "is_word" "is_word" (defArgs sIsWord) (defBody sIsWord) (defScope sIsWord) .none kV1 dc1 pm1 an1 cd1 ct1), sl1⟩)
    (c1 : PySem.W.codeIn K cd1 "is_word" = true)
    (k1 : PySem.W.keepIn K (.ref f1) = true)
    (a2 : PySem.W.nsIn K mainGlobals "is_name" = some (some (.ref f2)))
    (l2 : K.lookup f2 = some ⟨oc2, od2, .func (PySem.W.fnOf "is_name" "is_name" (defArgs sIsName) (defBody sIsName) (defScope sIsName) .none kV2 dc2 pm2 an2 cd2 ct2), sl2⟩)
    (c2 : PySem.W.codeIn K cd2 "is_name" = true)
    (k2 : PySem.W.keepIn K (.ref f2) = true)
    (a3 : PySem.W.nsIn K mainGlobals "is_value" = some (some (.ref f3)))
    (l3 : K.lookup f3 = some ⟨oc3, od3, .func (PySem.W.fnOf "is_value" "is_value" (defArgs sIsValue) (defBody sIsValue) (defScope sIsValue) .none kV3 dc3 pm3 an3 cd3 ct3), sl3⟩)
    (c3 : PySem.W.codeIn K cd3 "is_value" = true)
    (k3 : PySem.W.keepIn K (.ref f3) = true)
    (a4 : PySem.W.nsIn K mainGlobals "domain_of" = some (some (.ref f4)))
    (l4 : K.lookup f4 = some ⟨oc4, od4, .func (PySem.W.fnOf "domain_of" "domain_of" (defArgs sDomainOf) (defBody sDomainOf) (defScope sDomainOf) .none kV4 dc4 pm4 an4 cd4 ct4), sl4⟩)
    (c4 : PySem.W.codeIn K cd4 "domain_of" = true)
    (k4 : PySem.W.keepIn K (.ref f4) = true)
    (a5 : PySem.W.nsIn K mainGlobals "next_value" = some (some (.ref f5)))
    (l5 : K.lookup f5 = some ⟨oc5, od5, .func (PySem.W.fnOf "next_value" "next_value" (defArgs sNext) (defBody sNext) (defScope sNext) .none kV5 dc5 pm5 an5 cd5 ct5), sl5⟩)
    (c5 : PySem.W.codeIn K cd5 "next_value" = true)
    (k5 : PySem.W.keepIn K (.ref f5) = true)
    (a6 : PySem.W.nsIn K mainGlobals "value_before" = some (some (.ref f6)))
    (l6 : K.lookup f6 = some ⟨oc6, od6, .func (PySem.W.fnOf "value_before" "value_before" (defArgs sBefore) (defBody sBefore) (defScope sBefore) .none kV6 dc6 pm6 an6 cd6 ct6), sl6⟩)
    (c6 : PySem.W.codeIn K cd6 "value_before" = true)
    (k6 : PySem.W.keepIn K (.ref f6) = true)
    (a7 : PySem.W.nsIn K mainGlobals "values_above" = some (some (.ref f7)))
    (l7 : K.lookup f7 = some ⟨oc7, od7, .func (PySem.W.fnOf "values_above" "values_above" (defArgs sAbove) (defBody sAbove) (defScope sAbove) .none kV7 dc7 pm7 an7 cd7 ct7), sl7⟩)
    (c7 : PySem.W.codeIn K cd7 "values_above" = true)
    (k7 : PySem.W.keepIn K (.ref f7) = true)
    (a8 : PySem.W.nsIn K mainGlobals "values_below" = some (some (.ref f8)))
    (l8 : K.lookup f8 = some ⟨oc8, od8, .func (PySem.W.fnOf "values_below" "values_below" (defArgs sBelow) (defBody sBelow) (defScope sBelow) .none kV8 dc8 pm8 an8 cd8 ct8), sl8⟩)
    (c8 : PySem.W.codeIn K cd8 "values_below" = true)
    (k8 : PySem.W.keepIn K (.ref f8) = true)
    (a9 : PySem.W.nsIn K mainGlobals "near_values" = some (some (.ref f9)))
    (l9 : K.lookup f9 = some ⟨oc9, od9, .func (PySem.W.fnOf "near_values" "near_values" (defArgs sNear) (defBody sNear) (defScope sNear) .none kV9 dc9 pm9 an9 cd9 ct9), sl9⟩)
    (c9 : PySem.W.codeIn K cd9 "near_values" = true)
    (k9 : PySem.W.keepIn K (.ref f9) = true)
    (a10 : PySem.W.nsIn K mainGlobals "written" = some (some (.ref f10)))
    (l10 : K.lookup f10 = some ⟨oc10, od10, .func (PySem.W.fnOf "written" "written" (defArgs sWritten) (defBody sWritten) (defScope sWritten) .none kV10 dc10 pm10 an10 cd10 ct10), sl10⟩)
    (c10 : PySem.W.codeIn K cd10 "written" = true)
    (k10 : PySem.W.keepIn K (.ref f10) = true)
    (a11 : PySem.W.nsIn K mainGlobals "_law_digits" = some (some (.ref f11)))
    (l11 : K.lookup f11 = some ⟨oc11, od11, .func (PySem.W.fnOf "_law_digits" "_law_digits" (defArgs lDigits) (defBody lDigits) (defScope lDigits) .none kV11 dc11 pm11 an11 cd11 ct11), sl11⟩)
    (c11 : PySem.W.codeIn K cd11 "_law_digits" = true)
    (k11 : PySem.W.keepIn K (.ref f11) = true)
    (a12 : PySem.W.nsIn K mainGlobals "_law_draw" = some (some (.ref f12)))
    (l12 : K.lookup f12 = some ⟨oc12, od12, .func (PySem.W.fnOf "_law_draw" "_law_draw" (defArgs lDraw) (defBody lDraw) (defScope lDraw) .none kV12 dc12 pm12 an12 cd12 ct12), sl12⟩)
    (c12 : PySem.W.codeIn K cd12 "_law_draw" = true)
    (k12 : PySem.W.keepIn K (.ref f12) = true)
    (a13 : PySem.W.nsIn K mainGlobals "_law_number" = some (some (.ref f13)))
    (l13 : K.lookup f13 = some ⟨oc13, od13, .func (PySem.W.fnOf "_law_number" "_law_number" (defArgs lNumber) (defBody lNumber) (defScope lNumber) .none kV13 dc13 pm13 an13 cd13 ct13), sl13⟩)
    (c13 : PySem.W.codeIn K cd13 "_law_number" = true)
    (k13 : PySem.W.keepIn K (.ref f13) = true)
    (a14 : PySem.W.nsIn K mainGlobals "_law_keys" = some (some (.ref f14)))
    (l14 : K.lookup f14 = some ⟨oc14, od14, .func (PySem.W.fnOf "_law_keys" "_law_keys" (defArgs lKeys) (defBody lKeys) (defScope lKeys) .none kV14 dc14 pm14 an14 cd14 ct14), sl14⟩)
    (c14 : PySem.W.codeIn K cd14 "_law_keys" = true)
    (k14 : PySem.W.keepIn K (.ref f14) = true)
    (a15 : PySem.W.nsIn K mainGlobals "_law_letters" = some (some (.ref f15)))
    (l15 : K.lookup f15 = some ⟨oc15, od15, .func (PySem.W.fnOf "_law_letters" "_law_letters" (defArgs lLetters) (defBody lLetters) (defScope lLetters) .none kV15 dc15 pm15 an15 cd15 ct15), sl15⟩)
    (c15 : PySem.W.codeIn K cd15 "_law_letters" = true)
    (k15 : PySem.W.keepIn K (.ref f15) = true)
    (a16 : PySem.W.nsIn K mainGlobals "_law_drawn" = some (some (.ref f16)))
    (l16 : K.lookup f16 = some ⟨oc16, od16, .func (PySem.W.fnOf "_law_drawn" "_law_drawn" (defArgs lDrawn) (defBody lDrawn) (defScope lDrawn) .none kV16 dc16 pm16 an16 cd16 ct16), sl16⟩)
    (c16 : PySem.W.codeIn K cd16 "_law_drawn" = true)
    (k16 : PySem.W.keepIn K (.ref f16) = true)
    (a17 : PySem.W.nsIn K mainGlobals "_law_word" = some (some (.ref f17)))
    (l17 : K.lookup f17 = some ⟨oc17, od17, .func (PySem.W.fnOf "_law_word" "_law_word" (defArgs lWord) (defBody lWord) (defScope lWord) .none kV17 dc17 pm17 an17 cd17 ct17), sl17⟩)
    (c17 : PySem.W.codeIn K cd17 "_law_word" = true)
    (k17 : PySem.W.keepIn K (.ref f17) = true)
    (a18 : PySem.W.nsIn K mainGlobals "_law_sizes" = some (some (.ref f18)))
    (l18 : K.lookup f18 = some ⟨oc18, od18, .func (PySem.W.fnOf "_law_sizes" "_law_sizes" (defArgs lSizes) (defBody lSizes) (defScope lSizes) .none kV18 dc18 pm18 an18 cd18 ct18), sl18⟩)
    (c18 : PySem.W.codeIn K cd18 "_law_sizes" = true)
    (k18 : PySem.W.keepIn K (.ref f18) = true)
    (a19 : PySem.W.nsIn K mainGlobals "_law_rank" = some (some (.ref f19)))
    (l19 : K.lookup f19 = some ⟨oc19, od19, .func (PySem.W.fnOf "_law_rank" "_law_rank" (defArgs lRank) (defBody lRank) (defScope lRank) .none kV19 dc19 pm19 an19 cd19 ct19), sl19⟩)
    (c19 : PySem.W.codeIn K cd19 "_law_rank" = true)
    (k19 : PySem.W.keepIn K (.ref f19) = true)
    (a20 : PySem.W.nsIn K mainGlobals "_law_ranked" = some (some (.ref f20)))
    (l20 : K.lookup f20 = some ⟨oc20, od20, .func (PySem.W.fnOf "_law_ranked" "_law_ranked" (defArgs lRanked) (defBody lRanked) (defScope lRanked) .none kV20 dc20 pm20 an20 cd20 ct20), sl20⟩)
    (c20 : PySem.W.codeIn K cd20 "_law_ranked" = true)
    (k20 : PySem.W.keepIn K (.ref f20) = true)
    (a21 : PySem.W.nsIn K mainGlobals "_law_same" = some (some (.ref f21)))
    (l21 : K.lookup f21 = some ⟨oc21, od21, .func (PySem.W.fnOf "_law_same" "_law_same" (defArgs lSame) (defBody lSame) (defScope lSame) .none kV21 dc21 pm21 an21 cd21 ct21), sl21⟩)
    (c21 : PySem.W.codeIn K cd21 "_law_same" = true)
    (k21 : PySem.W.keepIn K (.ref f21) = true)
    (a22 : PySem.W.nsIn K mainGlobals "_law_text" = some (some (.ref f22)))
    (l22 : K.lookup f22 = some ⟨oc22, od22, .func (PySem.W.fnOf "_law_text" "_law_text" (defArgs lText) (defBody lText) (defScope lText) .none kV22 dc22 pm22 an22 cd22 ct22), sl22⟩)
    (c22 : PySem.W.codeIn K cd22 "_law_text" = true)
    (k22 : PySem.W.keepIn K (.ref f22) = true)
    (a23 : PySem.W.nsIn K mainGlobals "_law_truth" = some (some (.ref f23)))
    (l23 : K.lookup f23 = some ⟨oc23, od23, .func (PySem.W.fnOf "_law_truth" "_law_truth" (defArgs lTruth) (defBody lTruth) (defScope lTruth) .none kV23 dc23 pm23 an23 cd23 ct23), sl23⟩)
    (c23 : PySem.W.codeIn K cd23 "_law_truth" = true)
    (k23 : PySem.W.keepIn K (.ref f23) = true)
    (a24 : PySem.W.nsIn K mainGlobals "_law_neighbours" = some (some (.ref f24)))
    (l24 : K.lookup f24 = some ⟨oc24, od24, .func (PySem.W.fnOf "_law_neighbours" "_law_neighbours" (defArgs lNeighbours) (defBody lNeighbours) (defScope lNeighbours) .none kV24 dc24 pm24 an24 cd24 ct24), sl24⟩)
    (c24 : PySem.W.codeIn K cd24 "_law_neighbours" = true)
    (k24 : PySem.W.keepIn K (.ref f24) = true)
    (a25 : PySem.W.nsIn K mainGlobals "_law_value" = some (some (.ref f25)))
    (l25 : K.lookup f25 = some ⟨oc25, od25, .func (PySem.W.fnOf "_law_value" "_law_value" (defArgs lValue) (defBody lValue) (defScope lValue) .none kV25 dc25 pm25 an25 cd25 ct25), sl25⟩)
    (c25 : PySem.W.codeIn K cd25 "_law_value" = true)
    (k25 : PySem.W.keepIn K (.ref f25) = true)
    (a26 : PySem.W.nsIn K mainGlobals "_law_near" = some (some (.ref f26)))
    (l26 : K.lookup f26 = some ⟨oc26, od26, .func (PySem.W.fnOf "_law_near" "_law_near" (defArgs lNear) (defBody lNear) (defScope lNear) .none kV26 dc26 pm26 an26 cd26 ct26), sl26⟩)
    (c26 : PySem.W.codeIn K cd26 "_law_near" = true)
    (k26 : PySem.W.keepIn K (.ref f26) = true)
    (a27 : PySem.W.nsIn K mainGlobals "_law_list" = some (some (.ref f27)))
    (l27 : K.lookup f27 = some ⟨oc27, od27, .func (PySem.W.fnOf "_law_list" "_law_list" (defArgs lList) (defBody lList) (defScope lList) .none kV27 dc27 pm27 an27 cd27 ct27), sl27⟩)
    (c27 : PySem.W.codeIn K cd27 "_law_list" = true)
    (k27 : PySem.W.keepIn K (.ref f27) = true)
    (a28 : PySem.W.nsIn K mainGlobals "_law_signs" = some (some (.ref f28)))
    (l28 : K.lookup f28 = some ⟨oc28, od28, .func (PySem.W.fnOf "_law_signs" "_law_signs" (defArgs lSigns) (defBody lSigns) (defScope lSigns) .none kV28 dc28 pm28 an28 cd28 ct28), sl28⟩)
    (c28 : PySem.W.codeIn K cd28 "_law_signs" = true)
    (k28 : PySem.W.keepIn K (.ref f28) = true)
    (a29 : PySem.W.nsIn K mainGlobals "_law_odd" = some (some (.ref f29)))
    (l29 : K.lookup f29 = some ⟨oc29, od29, .func (PySem.W.fnOf "_law_odd" "_law_odd" (defArgs lOdd) (defBody lOdd) (defScope lOdd) .none kV29 dc29 pm29 an29 cd29 ct29), sl29⟩)
    (c29 : PySem.W.codeIn K cd29 "_law_odd" = true)
    (k29 : PySem.W.keepIn K (.ref f29) = true)
    (a30 : PySem.W.nsIn K mainGlobals "_law_refused" = some (some (.ref f30)))
    (l30 : K.lookup f30 = some ⟨oc30, od30, .func (PySem.W.fnOf "_law_refused" "_law_refused" (defArgs lRefused) (defBody lRefused) (defScope lRefused) .none kV30 dc30 pm30 an30 cd30 ct30), sl30⟩)
    (c30 : PySem.W.codeIn K cd30 "_law_refused" = true)
    (k30 : PySem.W.keepIn K (.ref f30) = true)
    (a31 : PySem.W.nsIn K mainGlobals "_law_none" = some (some (.ref f31)))
    (l31 : K.lookup f31 = some ⟨oc31, od31, .func (PySem.W.fnOf "_law_none" "_law_none" (defArgs lNone) (defBody lNone) (defScope lNone) .none kV31 dc31 pm31 an31 cd31 ct31), sl31⟩)
    (c31 : PySem.W.codeIn K cd31 "_law_none" = true)
    (k31 : PySem.W.keepIn K (.ref f31) = true)
    (a32 : PySem.W.nsIn K mainGlobals "law" = some (some (.ref f32)))
    (l32 : K.lookup f32 = some ⟨oc32, od32, .func (PySem.W.fnOf "law" "law" (defArgs lLaw) (defBody lLaw) (defScope lLaw) .none kV32 dc32 pm32 an32 cd32 ct32), sl32⟩)
    (c32 : PySem.W.codeIn K cd32 "law" = true)
    (k32 : PySem.W.keepIn K (.ref f32) = true)
    (aC : PySem.W.nsIn K mainGlobals "BadValue" = some (some (.ref C)))
    (aE : PySem.W.nsIn K mainGlobals "ColonnadeError" = some (some (.ref CE)))
    (aN : PySem.W.nsIn K mainGlobals "BadName" = some (some (.ref CN)))
    (iC : PySem.W.findIn K (.ref C) "__init__" = some (some (.ref f0)))
    (tI : PySem.W.typeIn K (.ref f0) = some (.type "function"))
    (l0 : K.lookup f0 = some ⟨oc0, od0, .func (PySem.W.fnOf "__init__" "BadValue.__init__" (defArgs sInitV) (defBody sInitV) (defScope sInitV) .none kV0 dc0 pm0 an0 cd0 ct0), sl0⟩)
    (c0 : PySem.W.codeIn K cd0 "BadValue.__init__" = true)
    (k0 : PySem.W.keepIn K (.ref f0) = true)
    (noV : PySem.W.findIn K (.ref C) "value" = some none)
    (xC : K.lookup C = some (excClassObj nm q C NN bs bm true sn sub ab col dd m0 m1 m2 m3 m5 "ValueError.__new__"))
    (rC : PySem.HandSPX.refsVE bm = true)
    (sa : PySem.W.findIn K (.ref C) "__setattr__" = some (some (.builtin "object.__setattr__")))
    (exC : PySem.W.subIn K (.ref C) (.type "BaseException") = some true)
    (tyC : PySem.W.typeIn K (.ref C) = some (.type "type"))
    (kC : PySem.W.keepIn K (.ref C) = true)
    (hdC : PySem.W.hasDictIn K C = true)
    (sC : PySem.W.subIn K (.ref C) (.ref C) = some true)
    (icC : PySem.W.isClsIn K C = true)
    (icE : PySem.W.isClsIn K CE = true)
    (icN : PySem.W.isClsIn K CN = true)
    (tyE : PySem.W.typeIn K (.ref CE) = some (.type "type"))
    (tyN : PySem.W.typeIn K (.ref CN) = some (.type "type"))
    (suE : PySem.W.subIn K (.ref C) (.ref CE) = some true)
    (suV : PySem.W.subIn K (.ref C) (.type "ValueError") = some true)
    (suN : PySem.W.subIn K (.ref C) (.ref CN) = some false)
    (ga : PySem.W.findIn K (.ref C) "__getattribute__" = some (some (.builtin "BaseException.__getattribute__")))
    (gg : PySem.W.findIn K (.ref C) "__getattr__" = some none)
    (eha : PySem.W.findIn K (.ref C) "__class__" = some (some (.builtin "object.__class__")))
    (ehn : PySem.W.specialIn K (.builtin "object.__class__") "__get__" = some (some (.builtin "getset_descriptor.__get__")))
    (eht : PySem.W.takesIn K (.builtin "object.__class__") = some true)
    (ehm : PySem.W.mroIn K C (.type "object") = some true)
    (aL : PySem.W.nsIn K mainGlobals "LETTERS" = some (some (.str zL tL)))
    (eL : zL = tx LET)
    (a_least : PySem.W.nsIn K mainGlobals "LEAST" = some (some (.int i_least t_least)))
    (e_least : i_least = -999999999)
    (a_greatest : PySem.W.nsIn K mainGlobals "GREATEST" = some (some (.int i_greatest t_greatest)))
    (e_greatest : i_greatest = 999999999)
    (a_longest : PySem.W.nsIn K mainGlobals "LONGEST" = some (some (.int i_longest t_longest)))
    (e_longest : i_longest = 8)
    (aDom : PySem.W.nsIn K mainGlobals "DOMAINS" = some (some (.ref aD)))
    (xDom : K.lookup aD = some oD)
    (vDom : ∃ its n, oD.cls = .type "tuple" ∧ oD.data = .seq its n ∧ its.size ≤ sizeLine ∧ Vals [.str "number", .str "word"] its.toList)
    (aKey : PySem.W.nsIn K mainGlobals "KEY_WORDS" = some (some (.ref aK)))
    (xKey : K.lookup aK = some oK)
    (vKey : ∃ its n, oK.cls = .type "tuple" ∧ oK.data = .seq its n ∧ its.size ≤ sizeLine ∧ Vals (KEYS.map V.str) its.toList)
    (z_len : PySem.W.nsIn K mainGlobals "len" = some none)
    (z_all : PySem.W.nsIn K mainGlobals "all" = some none)
    (z_isinstance : PySem.W.nsIn K mainGlobals "isinstance" = some none)
    (z_int : PySem.W.nsIn K mainGlobals "int" = some none)
    (z_bool : PySem.W.nsIn K mainGlobals "bool" = some none)
    (z_str : PySem.W.nsIn K mainGlobals "str" = some none)
    (z_list : PySem.W.nsIn K mainGlobals "list" = some none)
    (z_sorted : PySem.W.nsIn K mainGlobals "sorted" = some none)
    (z_set : PySem.W.nsIn K mainGlobals "set" = some none)
    (z_abs : PySem.W.nsIn K mainGlobals "abs" = some none)
    (z_range : PySem.W.nsIn K mainGlobals "range" = some none)
    (z_ValueError : PySem.W.nsIn K mainGlobals "ValueError" = some none) :
    ∃ fd : FuncData, (∀ (s : Shared) (v : Value), BindsTo s fd ⟨[v], []⟩ [("_law_script", v)]) ∧ ∀ base : Heap, K.In base → base.Ns mainGlobals mg → FnOk l.prog w K mg base CX0 7 fa fd ["_law_script"] (spLaw K) := by
  have e := hfa.symm.trans (PySem.W.mg_of X G a32)
  cases e
  subst eL e_least e_greatest e_longest
  have T : Txt K mg :=
    { letters := ⟨_, PySem.W.mg_of X G aL, _, rfl⟩, least := ⟨_, PySem.W.mg_of X G a_least, _, rfl⟩, greatest := ⟨_, PySem.W.mg_of X G a_greatest, _, rfl⟩, longest := ⟨_, PySem.W.mg_of X G a_longest, _, rfl⟩,
      domains := ⟨aD, PySem.W.mg_of X G aDom, fun H => by obtain ⟨its, n, h1, h2, h3, h4⟩ := vDom; exact .inr ⟨oD, its, n, xDom, h1, h2, h3, h4⟩⟩,
      keys := ⟨aK, PySem.W.mg_of X G aKey, fun H => by obtain ⟨its, n, h1, h2, h3, h4⟩ := vKey; exact .inr ⟨oK, its, n, xKey, h1, h2, h3, h4⟩⟩,
      len := PySem.W.mg_none_of X G z_len, all := PySem.W.mg_none_of X G z_all, isi := PySem.W.mg_none_of X G z_isinstance, int := PySem.W.mg_none_of X G z_int, bool := PySem.W.mg_none_of X G z_bool, str := PySem.W.mg_none_of X G z_str,
      list := PySem.W.mg_none_of X G z_list, sorted := PySem.W.mg_none_of X G z_sorted, set := PySem.W.mg_none_of X G z_set, abs := PySem.W.mg_none_of X G z_abs, range := PySem.W.mg_none_of X G z_range, valueError := PySem.W.mg_none_of X G z_ValueError }
  have oex : OexC K C := ⟨⟨nm, q, NN, bs, bm, sn, sub, ab, col, dd, m0, m1, m2, m3, m5, xC, rC⟩, sa, exC, tyC, kC⟩
  have TE : ExcT K mg C f0 := ⟨PySem.W.mg_of X G aC, oex, iC, tI, noV⟩
  have TL : ExcL K mg C CE CN := ⟨PySem.W.mg_of X G aC, PySem.W.mg_of X G aE, PySem.W.mg_of X G aN, kit_mk icE tyE suE (fun _ => rfl), kit_bl suV (by decide +kernel), kit_mk icN tyN suN (fun z => by rw [← z, sC] at suN; cases suN), ⟨icC, ga, gg, exC, eha, ehn, eht, ehm⟩, ⟨ga, gg, exC, hdC⟩, noV, exm_mk exC icC tyC sC⟩
  have F0 := fun_mk (st := sInitV) l0 c0 k0
  have b0 : Binds K _ ["self", "value"] [] := F0.binds fun _ _ _ _ _ _ us hl => match us, hl with | [_, _], _ => rfl
  have F1 := fun_mk (st := sIsWord) l1 c1 k1
  have b1 : Binds K _ ["text"] [] := F1.binds fun _ _ _ _ _ _ us hl => match us, hl with | [_], _ => rfl
  have F2 := fun_mk (st := sIsName) l2 c2 k2
  have b2 : Binds K _ ["text"] [] := F2.binds fun _ _ _ _ _ _ us hl => match us, hl with | [_], _ => rfl
  have F3 := fun_mk (st := sIsValue) l3 c3 k3
  have b3 : Binds K _ ["domain", "value"] [] := F3.binds fun _ _ _ _ _ _ us hl => match us, hl with | [_, _], _ => rfl
  have F4 := fun_mk (st := sDomainOf) l4 c4 k4
  have b4 : Binds K _ ["value"] [] := F4.binds fun _ _ _ _ _ _ us hl => match us, hl with | [_], _ => rfl
  have F5 := fun_mk (st := sNext) l5 c5 k5
  have b5 : Binds K _ ["value"] [] := F5.binds fun _ _ _ _ _ _ us hl => match us, hl with | [_], _ => rfl
  have F6 := fun_mk (st := sBefore) l6 c6 k6
  have b6 : Binds K _ ["value"] [] := F6.binds fun _ _ _ _ _ _ us hl => match us, hl with | [_], _ => rfl
  have F7 := fun_mk (st := sAbove) l7 c7 k7
  have b7 : Binds K _ ["value", "many"] [] := F7.binds fun _ _ _ _ _ _ us hl => match us, hl with | [_, _], _ => rfl
  have F8 := fun_mk (st := sBelow) l8 c8 k8
  have b8 : Binds K _ ["value", "many"] [] := F8.binds fun _ _ _ _ _ _ us hl => match us, hl with | [_, _], _ => rfl
  have F9 := fun_mk (st := sNear) l9 c9 k9
  have b9 : Binds K _ ["domain", "values", "many"] [] := F9.binds fun _ _ _ _ _ _ us hl => match us, hl with | [_, _, _], _ => rfl
  have F10 := fun_mk (st := sWritten) l10 c10 k10
  have b10 : Binds K _ ["value"] [] := F10.binds fun _ _ _ _ _ _ us hl => match us, hl with | [_], _ => rfl
  have F11 := fun_mk (st := lDigits) l11 c11 k11
  have b11 : Binds K _ ["_law_script"] [] := F11.binds fun _ _ _ _ _ _ us hl => match us, hl with | [_], _ => rfl
  have F12 := fun_mk (st := lDraw) l12 c12 k12
  have b12 : Binds K _ ["_law_pool", "_law_many"] [] := F12.binds fun _ _ _ _ _ _ us hl => match us, hl with | [_, _], _ => rfl
  have F13 := fun_mk (st := lNumber) l13 c13 k13
  have b13 : Binds K _ ["_law_pool", "_law_k"] [] := F13.binds fun _ _ _ _ _ _ us hl => match us, hl with | [_, _], _ => rfl
  have F14 := fun_mk (st := lKeys) l14 c14 k14
  have b14 : Binds K _ [] [] := F14.binds fun _ _ _ _ _ _ us hl => match us, hl with | [], _ => rfl
  have F15 := fun_mk (st := lLetters) l15 c15 k15
  have b15 : Binds K _ [] [] := F15.binds fun _ _ _ _ _ _ us hl => match us, hl with | [], _ => rfl
  have F16 := fun_mk (st := lDrawn) l16 c16 k16
  have b16 : Binds K _ ["_law_pool", "_law_many"] [] := F16.binds fun _ _ _ _ _ _ us hl => match us, hl with | [_, _], _ => rfl
  have F17 := fun_mk (st := lWord) l17 c17 k17
  have b17 : Binds K _ ["_law_pool", "_law_k"] [] := F17.binds fun _ _ _ _ _ _ us hl => match us, hl with | [_, _], _ => rfl
  have F18 := fun_mk (st := lSizes) l18 c18 k18
  have b18 : Binds K _ [] [] := F18.binds fun _ _ _ _ _ _ us hl => match us, hl with | [], _ => rfl
  have F19 := fun_mk (st := lRank) l19 c19 k19
  have b19 : Binds K _ ["_law_value_here"] [] := F19.binds fun _ _ _ _ _ _ us hl => match us, hl with | [_], _ => rfl
  have F20 := fun_mk (st := lRanked) l20 c20 k20
  have b20 : Binds K _ ["_law_words", "_law_rank_here"] [] := F20.binds fun _ _ _ _ _ _ us hl => match us, hl with | [_, _], _ => rfl
  have F21 := fun_mk (st := lSame) l21 c21 k21
  have b21 : Binds K _ ["_law_told", "_law_due"] [] := F21.binds fun _ _ _ _ _ _ us hl => match us, hl with | [_, _], _ => rfl
  have F22 := fun_mk (st := lText) l22 c22 k22
  have b22 : Binds K _ ["_law_value_here"] [] := F22.binds fun _ _ _ _ _ _ us hl => match us, hl with | [_], _ => rfl
  have F23 := fun_mk (st := lTruth) l23 c23 k23
  have b23 : Binds K _ ["_law_told", "_law_due"] [] := F23.binds fun _ _ _ _ _ _ us hl => match us, hl with | [_, _], _ => rfl
  have F24 := fun_mk (st := lNeighbours) l24 c24 k24
  have b24 : Binds K _ ["_law_words", "_law_value_here"] [] := F24.binds fun _ _ _ _ _ _ us hl => match us, hl with | [_, _], _ => rfl
  have F25 := fun_mk (st := lValue) l25 c25 k25
  have b25 : Binds K _ ["_law_words", "_law_value_here"] [] := F25.binds fun _ _ _ _ _ _ us hl => match us, hl with | [_, _], _ => rfl
  have F26 := fun_mk (st := lNear) l26 c26 k26
  have b26 : Binds K _ ["_law_words", "_law_values", "_law_many"] [] := F26.binds fun _ _ _ _ _ _ us hl => match us, hl with | [_, _, _], _ => rfl
  have F27 := fun_mk (st := lList) l27 c27 k27
  have b27 : Binds K _ ["_law_told", "_law_due"] [] := F27.binds fun _ _ _ _ _ _ us hl => match us, hl with | [_, _], _ => rfl
  have F28 := fun_mk (st := lSigns) l28 c28 k28
  have b28 : Binds K _ [] [] := F28.binds fun _ _ _ _ _ _ us hl => match us, hl with | [], _ => rfl
  have F29 := fun_mk (st := lOdd) l29 c29 k29
  have b29 : Binds K _ ["_law_pool"] [] := F29.binds fun _ _ _ _ _ _ us hl => match us, hl with | [_], _ => rfl
  have F30 := fun_mk (st := lRefused) l30 c30 k30
  have b30 : Binds K _ ["_law_which", "_law_odd_here"] [] := F30.binds fun _ _ _ _ _ _ us hl => match us, hl with | [_, _], _ => rfl
  have F31 := fun_mk (st := lNone) l31 c31 k31
  have b31 : Binds K _ ["_law_odd_here"] [] := F31.binds fun _ _ _ _ _ _ us hl => match us, hl with | [_], _ => rfl
  have F32 := fun_mk (st := lLaw) l32 c32 k32
  refine ⟨PySem.W.fnOf "law" "law" (defArgs lLaw) (defBody lLaw) (defScope lLaw) .none kV32 dc32 pm32 an32 cd32 ct32, fun s v => .of_eq rfl, fun base _ _ => ?_⟩
  have GI := ok_initV (P := l.prog) (w := w) (mg := mg) (base := base) F0 TE
  have G1 : Fn l.prog w K mg base (CX0) 1 "is_word" ["text"] spIsWord := ⟨f1, _, PySem.W.mg_of X G a1, ok_isWord F1 T, k1, b1⟩
  have G2 : Fn l.prog w K mg base (CX0) 2 "is_name" ["text"] spIsName := ⟨f2, _, PySem.W.mg_of X G a2, ok_isName F2 T G1, k2, b2⟩
  have G3 : Fn l.prog w K mg base (CX0) 2 "is_value" ["domain", "value"] spIsValue := ⟨f3, _, PySem.W.mg_of X G a3, ok_isValue F3 T G1, k3, b3⟩
  have G4 : Fn l.prog w K mg base (L2N.CX l.prog w) 3 "domain_of" ["value"] (spDomainOf C) := ⟨f4, _, PySem.W.mg_of X G a4, ok_domainOf F4 T TE G3 GI b0, k4, b4⟩
  have G5 : Fn l.prog w K mg base (L2N.CX l.prog w) 4 "next_value" ["value"] (spStep 1 C) := ⟨f5, _, PySem.W.mg_of X G a5, ok_next F5 T G4, k5, b5⟩
  have G6 : Fn l.prog w K mg base (L2N.CX l.prog w) 4 "value_before" ["value"] (spStep (-1) C) := ⟨f6, _, PySem.W.mg_of X G a6, ok_before F6 T G4, k6, b6⟩
  have G7 : Fn l.prog w K mg base (CX0) 5 "values_above" ["value", "many"] (spVals 1) := ⟨f7, _, PySem.W.mg_of X G a7, ok_above F7 T G5, k7, b7⟩
  have G8 : Fn l.prog w K mg base (CX0) 5 "values_below" ["value", "many"] (spVals (-1)) := ⟨f8, _, PySem.W.mg_of X G a8, ok_below F8 T G6, k8, b8⟩
  have G9 : Fn l.prog w K mg base (CX0) 6 "near_values" ["domain", "values", "many"] (spNear K) := ⟨f9, _, PySem.W.mg_of X G a9, ok_near F9 T G7 G8, k9, b9⟩
  have G10 : Fn l.prog w K mg base (CX0) 1 "written" ["value"] spWritten := ⟨f10, _, PySem.W.mg_of X G a10, ok_written F10 T, k10, b10⟩
  have G11 : Fn l.prog w K mg base (CX0) 1 "_law_digits" ["_law_script"] (spDigits K) := ⟨f11, _, PySem.W.mg_of X G a11, ok_digits F11 T, k11, b11⟩
  have G12 : Fn l.prog w K mg base (CX0) 1 "_law_draw" ["_law_pool", "_law_many"] spDraw := ⟨f12, _, PySem.W.mg_of X G a12, ok_draw F12 T, k12, b12⟩
  have G13 : Fn l.prog w K mg base (CX0) 2 "_law_number" ["_law_pool", "_law_k"] spNumber := ⟨f13, _, PySem.W.mg_of X G a13, ok_number F13 T G12, k13, b13⟩
  have G14 : Fn l.prog w K mg base (CX0) 1 "_law_keys" [] spKeys := ⟨f14, _, PySem.W.mg_of X G a14, ok_keys F14 , k14, b14⟩
  have G15 : Fn l.prog w K mg base (CX0) 1 "_law_letters" [] spLetters := ⟨f15, _, PySem.W.mg_of X G a15, ok_letters F15 , k15, b15⟩
  have G16 : Fn l.prog w K mg base (CX0) 2 "_law_drawn" ["_law_pool", "_law_many"] spDrawn := ⟨f16, _, PySem.W.mg_of X G a16, ok_drawn F16 T G12 G15, k16, b16⟩
  have G17 : Fn l.prog w K mg base (CX0) 3 "_law_word" ["_law_pool", "_law_k"] spWord := ⟨f17, _, PySem.W.mg_of X G a17, ok_word F17 T G12 G14 G16, k17, b17⟩
  have G18 : Fn l.prog w K mg base (CX0) 1 "_law_sizes" [] spSizes := ⟨f18, _, PySem.W.mg_of X G a18, ok_sizes F18 T, k18, b18⟩
  have G19 : Fn l.prog w K mg base (CX0) 2 "_law_rank" ["_law_value_here"] spRank := ⟨f19, _, PySem.W.mg_of X G a19, ok_rank F19 T G18 G15, k19, b19⟩
  have G20 : Fn l.prog w K mg base (CX0) 2 "_law_ranked" ["_law_words", "_law_rank_here"] spRanked := ⟨f20, _, PySem.W.mg_of X G a20, ok_ranked F20 T G18 G15, k20, b20⟩
  have G21 : Fn l.prog w K mg base (CX0) 1 "_law_same" ["_law_told", "_law_due"] spSame := ⟨f21, _, PySem.W.mg_of X G a21, ok_same F21 T, k21, b21⟩
  have GH : FnHot l.prog w K mg base CX0 1 "_law_same" ["_law_told", "_law_due"] spSame := ⟨f21, _, PySem.W.mg_of X G a21, ok_sameH F21 T, k21, b21⟩
  have G22 : Fn l.prog w K mg base (CX0) 1 "_law_text" ["_law_value_here"] spWritten := ⟨f22, _, PySem.W.mg_of X G a22, ok_text F22 T, k22, b22⟩
  have G23 : Fn l.prog w K mg base (CX0) 1 "_law_truth" ["_law_told", "_law_due"] spTruth := ⟨f23, _, PySem.W.mg_of X G a23, ok_truth F23 T, k23, b23⟩
  have G24 : Fn l.prog w K mg base (CX0) 5 "_law_neighbours" ["_law_words", "_law_value_here"] spHolds := ⟨f24, _, PySem.W.mg_of X G a24, ok_neighbours F24 T G5 G6 G19 G20 G21, k24, b24⟩
  have G25 : Fn l.prog w K mg base (CX0) 6 "_law_value" ["_law_words", "_law_value_here"] spHolds := ⟨f25, _, PySem.W.mg_of X G a25, ok_value F25 T G3 G2 G23 G14 G21 G4 G24 G10 G22, k25, b25⟩
  have G26 : Fn l.prog w K mg base (CX0) 3 "_law_near" ["_law_words", "_law_values", "_law_many"] (spLNear K) := ⟨f26, _, PySem.W.mg_of X G a26, ok_lnear F26 T G19 G20, k26, b26⟩
  have G27 : Fn l.prog w K mg base (CX0) 2 "_law_list" ["_law_told", "_law_due"] (spList K) := ⟨f27, _, PySem.W.mg_of X G a27, ok_list F27 T G21, k27, b27⟩
  have G28 : Fn l.prog w K mg base (CX0) 1 "_law_signs" [] spSigns := ⟨f28, _, PySem.W.mg_of X G a28, ok_signs F28 , k28, b28⟩
  have G29 : Fn l.prog w K mg base (CX0) 3 "_law_odd" ["_law_pool"] spOdd := ⟨f29, _, PySem.W.mg_of X G a29, ok_odd F29 T G12 G16 G28, k29, b29⟩
  have G30 : Fn l.prog w K mg base (CX0) 5 "_law_refused" ["_law_which", "_law_odd_here"] spRefused := ⟨f30, _, PySem.W.mg_of X G a30, ok_refused F30 T TL G4 G5 G6 GH, k30, b30⟩
  have G31 : Fn l.prog w K mg base (CX0) 6 "_law_none" ["_law_odd_here"] spNone := ⟨f31, _, PySem.W.mg_of X G a31, ok_none F31 T G3 G2 G30, k31, b31⟩
  exact ok_law F32 T G11 G12 G17 G13 G29 G31 G25 G26 G9 G27 G19 G20
theorem walk {l : PySem.W.OpenLaw} {q : Program} {loose : List Str} {XP : (Str → Option Value) → Heap → Prop} {YP : World → Heap → Prop} {d : DefRec} {K : Params → PySem.W.Frag} (hn : l.most = some 63) (hdf : d.params.defaults = [])
    (hY : ∀ (w : World) (h : Heap), YP w h → (K w.params).In h)
    (F : ∀ (w : World) (mg : Str → Option Value) (fa : Addr) (h : Heap), (K w.params).In h → h.Ns mainGlobals mg → mg d.name = some (.ref fa) →
      ∃ fd : FuncData, (∀ (s : Shared) (u : Value), BindsTo s fd ⟨[u], []⟩ [("_law_script", u)]) ∧ ∀ base : Heap, (K w.params).In base → base.Ns mainGlobals mg → FnOk l.prog w (K w.params) mg base CX0 7 fa fd ["_law_script"] (spLaw (K w.params))) :
    PySem.W.WalkO q loose XP YP l.row.toRowW d [] (fun f vs => PySem.call f vs) :=
  L2.walk_of (n := 63) (k := 7) (x := "_law_script") (CX := fun _ => CX0) (sp := fun w => spLaw (K w.params)) hn (by decide) hdf ⟨rfl, by decide, by decide⟩ hY F (fun _ _ a ns hl _ hS => ⟨a, ns, rfl, hS, hl, fun _ => rfl⟩) fun _ _ _ _ _ z => z
end K1

open PySem PySem.W PyProof.Rows K1 in
set_option maxRecDepth 100000 in
set_option maxHeartbeats 0 in
theorem PySem.Challenge.cw_colonnade_k01_values_in_order_holds : PySem.Challenge.rw_colonnade_k01_values_in_order.Holds := by
  w_on; o_law; k_head; (case hw => w_witness2)
  k_fill
  refine K1.walk (l := PySem.Challenge.rw_colonnade_k01_values_in_order) rfl rfl (fun w h Y => PySem.W.kIn_of Y) ?F
  case F =>
    intro w mg fa h KX G hmg
    refine' K1.all_mk KX G hmg ?a1 ?l1 ?c1 ?k1 ?a2 ?l2 ?c2 ?k2 ?a3 ?l3 ?c3 ?k3 ?a4 ?l4 ?c4 ?k4 ?a5 ?l5 ?c5 ?k5 ?a6 ?l6 ?c6 ?k6 ?a7 ?l7 ?c7 ?k7 ?a8 ?l8 ?c8 ?k8 ?a9 ?l9 ?c9 ?k9 ?a10 ?l10 ?c10 ?k10 ?a11 ?l11 ?c11 ?k11 ?a12 ?l12 ?c12 ?k12 ?a13 ?l13 ?c13 ?k13 ?a14 ?l14 ?c14 ?k14 ?a15 ?l15 ?c15 ?k15 ?a16 ?l16 ?c16 ?k16 ?a17 ?l17 ?c17 ?k17 ?a18 ?l18 ?c18 ?k18 ?a19 ?l19 ?c19 ?k19 ?a20 ?l20 ?c20 ?k20 ?a21 ?l21 ?c21 ?k21 ?a22 ?l22 ?c22 ?k22 ?a23 ?l23 ?c23 ?k23 ?a24 ?l24 ?c24 ?k24 ?a25 ?l25 ?c25 ?k25 ?a26 ?l26 ?c26 ?k26 ?a27 ?l27 ?c27 ?k27 ?a28 ?l28 ?c28 ?k28 ?a29 ?l29 ?c29 ?k29 ?a30 ?l30 ?c30 ?k30 ?a31 ?l31 ?c31 ?k31 ?a32 ?l32 ?c32 ?k32 ?aC ?aE ?aN ?iC ?tI ?l0 ?c0 ?k0 ?noV ?xC ?rC ?sa ?exC ?tyC ?kC ?hdC ?sC ?icC ?icE ?icN ?tyE ?tyN ?suE ?suV ?suN ?ga ?gg ?eha ?ehn ?eht ?ehm ?aL ?eL ?a_least ?e_least ?a_greatest ?e_greatest ?a_longest ?e_longest ?aDom ?xDom ?vDom ?aKey ?xKey ?vKey ?z_len ?z_all ?z_isinstance ?z_int ?z_bool ?z_str ?z_list ?z_sorted ?z_set ?z_abs ?z_range ?z_ValueError
    (case a1 => k_is)
    (case l1 => k_is)
    (case c1 => k_is)
    (case k1 => k_is)
    (case a2 => k_is)
    (case l2 => k_is)
    (case c2 => k_is)
    (case k2 => k_is)
    (case a3 => k_is)
    (case l3 => k_is)
    (case c3 => k_is)
    (case k3 => k_is)
    (case a4 => k_is)
    (case l4 => k_is)
    (case c4 => k_is)
    (case k4 => k_is)
    (case a5 => k_is)
    (case l5 => k_is)
    (case c5 => k_is)
    (case k5 => k_is)
    (case a6 => k_is)
    (case l6 => k_is)
    (case c6 => k_is)
    (case k6 => k_is)
    (case a7 => k_is)
    (case l7 => k_is)
    (case c7 => k_is)
    (case k7 => k_is)
    (case a8 => k_is)
    (case l8 => k_is)
    (case c8 => k_is)
    (case k8 => k_is)
    (case a9 => k_is)
    (case l9 => k_is)
    (case c9 => k_is)
    (case k9 => k_is)
    (case a10 => k_is)
    (case l10 => k_is)
    (case c10 => k_is)
    (case k10 => k_is)
    (case a11 => k_is)
    (case l11 => k_is)
    (case c11 => k_is)
    (case k11 => k_is)
    (case a12 => k_is)
    (case l12 => k_is)
    (case c12 => k_is)
    (case k12 => k_is)
    (case a13 => k_is)
    (case l13 => k_is)
    (case c13 => k_is)
    (case k13 => k_is)
    (case a14 => k_is)
    (case l14 => k_is)
    (case c14 => k_is)
    (case k14 => k_is)
    (case a15 => k_is)
    (case l15 => k_is)
    (case c15 => k_is)
    (case k15 => k_is)
    (case a16 => k_is)
    (case l16 => k_is)
    (case c16 => k_is)
    (case k16 => k_is)
    (case a17 => k_is)
    (case l17 => k_is)
    (case c17 => k_is)
    (case k17 => k_is)
    (case a18 => k_is)
    (case l18 => k_is)
    (case c18 => k_is)
    (case k18 => k_is)
    (case a19 => k_is)
    (case l19 => k_is)
    (case c19 => k_is)
    (case k19 => k_is)
    (case a20 => k_is)
    (case l20 => k_is)
    (case c20 => k_is)
    (case k20 => k_is)
    (case a21 => k_is)
    (case l21 => k_is)
    (case c21 => k_is)
    (case k21 => k_is)
    (case a22 => k_is)
    (case l22 => k_is)
    (case c22 => k_is)
    (case k22 => k_is)
    (case a23 => k_is)
    (case l23 => k_is)
    (case c23 => k_is)
    (case k23 => k_is)
    (case a24 => k_is)
    (case l24 => k_is)
    (case c24 => k_is)
    (case k24 => k_is)
    (case a25 => k_is)
    (case l25 => k_is)
    (case c25 => k_is)
    (case k25 => k_is)
    (case a26 => k_is)
    (case l26 => k_is)
    (case c26 => k_is)
    (case k26 => k_is)
    (case a27 => k_is)
    (case l27 => k_is)
    (case c27 => k_is)
    (case k27 => k_is)
    (case a28 => k_is)
    (case l28 => k_is)
    (case c28 => k_is)
    (case k28 => k_is)
    (case a29 => k_is)
    (case l29 => k_is)
    (case c29 => k_is)
    (case k29 => k_is)
    (case a30 => k_is)
    (case l30 => k_is)
    (case c30 => k_is)
    (case k30 => k_is)
    (case a31 => k_is)
    (case l31 => k_is)
    (case c31 => k_is)
    (case k31 => k_is)
    (case a32 => k_is)
    (case l32 => k_is)
    (case c32 => k_is)
    (case k32 => k_is)
    (case aC => k_is)
    (case aE => k_is)
    (case aN => k_is)
    (case iC => k_is)
    (case tI => k_is)
    (case l0 => k_is)
    (case c0 => k_is)
    (case k0 => k_is)
    (case noV => k_is)
    (case xC => k_is)
    (case rC => decide +kernel)
    (case sa => k_is)
    (case exC => k_is)
    (case tyC => k_is)
    (case kC => k_is)
    (case hdC => k_is)
    (case sC => first | rfl | k_is)
    (case icC => k_is)
    (case icE => k_is)
    (case icN => k_is)
    (case tyE => k_is)
    (case tyN => k_is)
    (case suE => k_is)
    (case suV => k_is)
    (case suN => k_is)
    (case ga => k_is)
    (case gg => k_is)
    (case eha => k_is)
    (case ehn => k_is)
    (case eht => k_is)
    (case ehm => k_is)
    (case aL => k_is)
    (case eL => decide +kernel)
    (case a_least => k_is)
    (case e_least => decide +kernel)
    (case a_greatest => k_is)
    (case e_greatest => decide +kernel)
    (case a_longest => k_is)
    (case e_longest => decide +kernel)
    (case aDom => k_is)
    (case xDom => k_is)
    (case vDom => exact ⟨_, _, rfl, rfl, by decide, (.cons ⟨_, rfl⟩ (.cons ⟨_, rfl⟩ .nil))⟩)
    (case aKey => k_is)
    (case xKey => k_is)
    (case vKey => exact ⟨_, _, rfl, rfl, by decide, (.cons ⟨_, rfl⟩ (.cons ⟨_, rfl⟩ (.cons ⟨_, rfl⟩ (.cons ⟨_, rfl⟩ (.cons ⟨_, rfl⟩ (.cons ⟨_, rfl⟩ (.cons ⟨_, rfl⟩ (.cons ⟨_, rfl⟩ (.cons ⟨_, rfl⟩ (.cons ⟨_, rfl⟩ (.cons ⟨_, rfl⟩ (.cons ⟨_, rfl⟩ (.cons ⟨_, rfl⟩ (.cons ⟨_, rfl⟩ (.cons ⟨_, rfl⟩ (.cons ⟨_, rfl⟩ (.cons ⟨_, rfl⟩ (.cons ⟨_, rfl⟩ (.cons ⟨_, rfl⟩ .nil)))))))))))))))))))⟩)
    (case z_len => k_is)
    (case z_all => k_is)
    (case z_isinstance => k_is)
    (case z_int => k_is)
    (case z_bool => k_is)
    (case z_str => k_is)
    (case z_list => k_is)
    (case z_sorted => k_is)
    (case z_set => k_is)
    (case z_abs => k_is)
    (case z_range => k_is)
    (case z_ValueError => k_is)
