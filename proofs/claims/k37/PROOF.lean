import PyProof.Rows.All
import Wide.All
import OpenK.AllK
import Wide.FinOn
import KE.KStateDown
import Lean
import KE.KNest
import KE.KNestM
import KE.DataCmp
import PyProof.SumWalkG
import PyProof.WalksMore
import PyProof.ReprRoads
import HandS.ForMost
import HandS.Defaults
import HandS.IsInst
import HandS.Wide
import HandS.WideBits
import HandS.Style
import HandS.Flow
import HandS.Lambda
import HandS.EndBits
import HandS.EndTab
import HandS.HeadWalk
import HandS.Nested
import HandS.Head0
import HandS.Head1
import HandS.Head2
import HandS.HeadHook1
import HandS.HeadHook2
import HandS.HeadHook3
import HandS.HeadHook4
import HandS.TryOnly
import PySem.Challenge.RW_healwires_k37_whole_contents_of_a_harm
set_option Elab.async false
set_option linter.all false
set_option maxRecDepth 100000
set_option maxHeartbeats 4000000
/-! part M1 -/
namespace HM
set_option autoImplicit false
/-! binomials by Pascal's rule -/
def bi : Nat → Nat → Nat
  | _, 0 => 1
  | 0, _ + 1 => 0
  | n + 1, k + 1 => bi n k + bi n (k + 1)
theorem bi_zero (n : Nat) : bi n 0 = 1 := by cases n <;> rfl
theorem bi_succ (n k : Nat) : bi (n + 1) (k + 1) = bi n k + bi n (k + 1) := rfl
theorem bi_lt : ∀ {n k : Nat}, n < k → bi n k = 0
  | 0, 0, h => absurd h (Nat.lt_irrefl _)
  | 0, k + 1, _ => rfl
  | n + 1, 0, h => absurd h (Nat.not_lt_zero _)
  | n + 1, k + 1, h => by rw [bi_succ, bi_lt (n := n) (k := k) (by omega), bi_lt (n := n) (k := k + 1) (by omega)]
theorem bi_one : ∀ n : Nat, bi n 1 = n
  | 0 => rfl
  | n + 1 => by rw [bi_succ, bi_zero, bi_one n]; omega
theorem bi_step : ∀ {n k : Nat}, k ≤ n → bi n (k + 1) * (k + 1) = bi n k * (n - k)
  | 0, 0, _ => rfl
  | 0, k + 1, h => absurd h (by omega)
  | n + 1, 0, _ => by rw [bi_one, bi_zero]; omega
  | n + 1, k + 1, h => by
    by_cases e : k = n
    · subst e
      have h1 : bi (k + 1) (k + 1 + 1) = 0 := bi_lt (by omega)
      rw [h1]; simp
    · have h1 := bi_step (n := n) (k := k + 1) (by omega)
      have h2 := bi_step (n := n) (k := k) (by omega)
      rw [bi_succ n (k + 1), bi_succ n k, Nat.add_mul, h1]
      have e1 : n + 1 - (k + 1) = n - k := by omega
      have e2 : n - k = (n - (k + 1)) + 1 := by omega
      have e3 : bi n (k + 1) * (k + 1 + 1) = bi n (k + 1) * (k + 1) + bi n (k + 1) := by rw [Nat.mul_succ]
      have e4 : bi n (k + 1) * (n - k) = bi n (k + 1) * (n - (k + 1)) + bi n (k + 1) := by rw [e2, Nat.mul_succ]
      rw [e3, h2, e1, Nat.add_mul, e4]
      omega
theorem bi_le : ∀ (n k : Nat), bi n k ≤ (n + 1) ^ k
  | n, 0 => by rw [bi_zero]; exact Nat.le_refl _
  | 0, k + 1 => by show 0 ≤ _; exact Nat.zero_le _
  | n + 1, k + 1 => by
    rw [bi_succ]
    have h1 := bi_le n k
    have h2 := bi_le n (k + 1)
    have h3 : (n + 1) ^ (k + 1) = (n + 1) ^ k * (n + 1) := Nat.pow_succ ..
    have h4 : (n + 1) ^ k * (n + 1) + (n + 1) ^ k = (n + 1) ^ k * (n + 1 + 1) := (Nat.mul_succ ..).symm
    have h5 : (n + 1) ^ k ≤ (n + 1 + 1) ^ k := Nat.pow_le_pow_left (by omega) k
    have h6 : (n + 1) ^ k * (n + 1 + 1) ≤ (n + 1 + 1) ^ k * (n + 1 + 1) := Nat.mul_le_mul_right _ h5
    have h7 : (n + 1 + 1) ^ (k + 1) = (n + 1 + 1) ^ k * (n + 1 + 1) := Nat.pow_succ ..
    omega
/-- the program's choose: 0 below the size -/
def ch (n : Int) (k : Nat) : Int := if n < (k : Int) then 0 else (bi n.toNat k : Int)
theorem ch_nn (n : Int) (k : Nat) : 0 ≤ ch n k := by
  unfold ch; split
  · exact Int.le_refl _
  · exact Int.natCast_nonneg _
theorem ch_low {n : Int} {k : Nat} (h : n < (k : Int)) : ch n k = 0 := if_pos h
theorem ch_nat (n k : Nat) : ch (n : Int) k = (bi n k : Int) := by
  unfold ch; split
  · rename_i h
    rw [bi_lt (by omega)]; rfl
  · rw [Int.toNat_natCast]
theorem ch_succ (n : Int) (k : Nat) (hk : 1 ≤ k) : ch (n + 1) (k + 1) = ch n k + ch n (k + 1) := by
  by_cases h : 0 ≤ n
  · obtain ⟨m, rfl⟩ := Int.eq_ofNat_of_zero_le h
    have e : ((m : Int) + 1) = ((m + 1 : Nat) : Int) := by omega
    rw [e, ch_nat, ch_nat, ch_nat, bi_succ]; omega
  · rw [ch_low (n := n + 1) (by omega), ch_low (n := n) (by omega), ch_low (n := n) (by omega)]; rfl
theorem ch_one (n : Int) (h : 0 ≤ n) : ch n 1 = n := by
  obtain ⟨m, rfl⟩ := Int.eq_ofNat_of_zero_le h
  rw [ch_nat, bi_one]
theorem ch2 (n : Int) : ch (n + 1) 2 = ch n 2 + (if 0 ≤ n then n else 0) := by
  have e : ch (n + 1) 2 = ch n 1 + ch n 2 := ch_succ n 1 (by omega)
  rw [e]
  split
  · rename_i h; rw [ch_one n h]; omega
  · rename_i h; rw [ch_low (n := n) (k := 1) (by omega)]; omega
theorem ch3 (n : Int) : ch (n + 1) 3 = ch n 3 + ch n 2 := by
  have e : ch (n + 1) 3 = ch n 2 + ch n 3 := ch_succ n 2 (by omega)
  omega
theorem ch4 (n : Int) : ch (n + 1) 4 = ch n 4 + ch n 3 := by
  have e : ch (n + 1) 4 = ch n 3 + ch n 4 := ch_succ n 3 (by omega)
  omega
theorem ch_mono {m n : Int} (k : Nat) (hk : 2 ≤ k) (h : m ≤ n) : ch m k ≤ ch n k := by
  obtain ⟨d, rfl⟩ : ∃ d : Nat, n = m + (d : Int) := ⟨(n - m).toNat, by omega⟩
  induction d with
  | zero => simp
  | succ d ih =>
    have ih := ih (by omega)
    obtain ⟨j, rfl⟩ : ∃ j, k = j + 1 := ⟨k - 1, by omega⟩
    have e : m + ((d + 1 : Nat) : Int) = (m + (d : Int)) + 1 := by omega
    rw [e, ch_succ _ j (by omega)]
    have := ch_nn (m + (d : Int)) j
    omega
/-- one turn of the program's loop -/
theorem ch_turn (n k : Nat) (h : k ≤ n) : ((bi n k : Int) * ((n : Int) - (k : Int))) / ((k : Int) + 1) = (bi n (k + 1) : Int) := by
  have e := bi_step h
  have e1 : ((n : Int) - (k : Int)) = ((n - k : Nat) : Int) := by omega
  have e2 : ((bi n k : Int) * ((n - k : Nat) : Int)) = ((bi n k * (n - k) : Nat) : Int) := by rw [Int.natCast_mul]
  rw [e1, e2, ← e, Int.natCast_mul]
  have e3 : ((k + 1 : Nat) : Int) = (k : Int) + 1 := by omega
  rw [e3]
  exact Int.mul_ediv_cancel _ (by omega)
/-- bounds -/
theorem ch_lt {n : Int} {k b : Nat} (h : n < 2 ^ b) : ch n k ≤ (2 ^ (b * k) : Nat) := by
  unfold ch; split
  · exact Int.natCast_nonneg _
  · rename_i h0
    have h1 := bi_le n.toNat k
    have h2 : n.toNat + 1 ≤ 2 ^ b := by
      have : n.toNat < 2 ^ b := by
        have h3 : ((2 ^ b : Nat) : Int) = 2 ^ b := by simp
        omega
      omega
    have h3 : (n.toNat + 1) ^ k ≤ (2 ^ b) ^ k := Nat.pow_le_pow_left h2 k
    rw [← Nat.pow_mul] at h3
    exact Int.ofNat_le.mpr (Nat.le_trans h1 h3)
end HM
/-! part M2 -/
namespace HM
set_option autoImplicit false
/-! trees of digits: rank, the next one, the one with a rank -/
inductive Tr where
  | leaf (b : Bool)
  | node (m : Int) (kids : Int → Tr)
def b2 (b : Bool) : Int := if b = true then 1 else 0
theorem b2_nn (b : Bool) : 0 ≤ b2 b := by cases b <;> decide
theorem b2_le (b : Bool) : b2 b ≤ 1 := by cases b <;> decide
def sumN : Nat → (Int → Int) → Int
  | 0, _ => 0
  | n + 1, f => sumN n f + f (n : Int)
def tot : Tr → Int
  | .leaf b => b2 b
  | .node m k => sumN (m + 1).toNat fun i => tot (k i)
def pre (k : Int → Tr) (d : Int) : Int := sumN d.toNat fun i => tot (k i)
def Ok : Tr → List Int → Prop
  | .leaf _, [] => True
  | .node m k, d :: ds => 0 ≤ d ∧ d ≤ m ∧ Ok (k d) ds
  | .leaf _, _ :: _ => False
  | .node _ _, [] => False
def hit : Tr → List Int → Bool
  | .leaf b, _ => b
  | .node _ k, d :: ds => hit (k d) ds
  | .node _ _, [] => false
def rank : Tr → List Int → Int
  | .leaf _, _ => 0
  | .node _ k, d :: ds => pre k d + rank (k d) ds
  | .node _ _, [] => 0
theorem sumN_nn : ∀ (n : Nat) (f : Int → Int), (∀ i, 0 ≤ f i) → 0 ≤ sumN n f
  | 0, _, _ => Int.le_refl _
  | n + 1, f, h => by
    have h1 := sumN_nn n f h
    have h2 := h (n : Int)
    show 0 ≤ sumN n f + f (n : Int)
    omega
theorem tot_nn : ∀ t : Tr, 0 ≤ tot t
  | .leaf b => b2_nn b
  | .node m k => by
    unfold tot
    exact sumN_nn _ _ fun i => tot_nn (k i)
theorem pre_zero (k : Int → Tr) : pre k 0 = 0 := rfl
theorem pre_succ (k : Int → Tr) {d : Int} (h : 0 ≤ d) : pre k (d + 1) = pre k d + tot (k d) := by
  unfold pre
  obtain ⟨n, rfl⟩ := Int.eq_ofNat_of_zero_le h
  have e : ((n : Int) + 1).toNat = n + 1 := by omega
  rw [e, Int.toNat_natCast]
  rfl
theorem tot_node (m : Int) (k : Int → Tr) : tot (.node m k) = pre k (m + 1) := by
  unfold pre
  rw [tot]
theorem pre_mono (k : Int → Tr) {a : Int} (h : 0 ≤ a) (n : Nat) : pre k a ≤ pre k (a + n) := by
  induction n with
  | zero => simp
  | succ n ih =>
    have e : a + ((n + 1 : Nat) : Int) = (a + n) + 1 := by omega
    rw [e, pre_succ k (by omega)]
    have := tot_nn (k (a + n))
    omega
theorem pre_le (k : Int → Tr) {a b : Int} (h : 0 ≤ a) (hb : a ≤ b) : pre k a ≤ pre k b := by
  have := pre_mono k h (b - a).toNat
  rw [show a + ((b - a).toNat : Int) = b by omega] at this
  exact this
theorem pre_nn (k : Int → Tr) {a : Int} (h : 0 ≤ a) : 0 ≤ pre k a := by
  have := pre_le k (Int.le_refl 0) h
  rw [pre_zero] at this
  exact this
/-- a formula that steps as the tree does is the tree's -/
theorem pre_is (k : Int → Tr) (F : Int → Int) (m : Int) (step : ∀ i, 0 ≤ i → i ≤ m → F (i + 1) = F i + tot (k i)) : ∀ i, 0 ≤ i → i ≤ m + 1 → pre k i = F i - F 0 := by
  intro i h0 h1
  obtain ⟨n, rfl⟩ := Int.eq_ofNat_of_zero_le h0
  induction n with
  | zero => rw [show ((0 : Nat) : Int) = 0 from rfl, pre_zero]; omega
  | succ n ih =>
    have e : ((n + 1 : Nat) : Int) = (n : Int) + 1 := by omega
    rw [e] at h1 ⊢
    rw [pre_succ k (by omega), step n (by omega) (by omega), ih (by omega) (by omega)]
    omega
theorem rank_in : ∀ (t : Tr) (ds : List Int), Ok t ds → 0 ≤ rank t ds ∧ rank t ds + b2 (hit t ds) ≤ tot t
  | .leaf b, [], _ => ⟨Int.le_refl _, by show 0 + b2 b ≤ b2 b; omega⟩
  | .leaf _, _ :: _, h => h.elim
  | .node _ _, [], h => h.elim
  | .node m k, d :: ds, ⟨h0, h1, h2⟩ => by
    obtain ⟨a, b⟩ := rank_in (k d) ds h2
    have c := pre_nn k h0
    have e := pre_succ k h0
    have f := pre_le k (a := d + 1) (b := m + 1) (by omega) (by omega)
    rw [tot_node]
    show 0 ≤ pre k d + rank (k d) ds ∧ pre k d + rank (k d) ds + b2 (hit (k d) ds) ≤ _
    omega
def lexB : List Int → List Int → Bool
  | x :: xs, y :: ys => if x = y then lexB xs ys else decide (x < y)
  | [], _ :: _ => true
  | _, [] => false
theorem rank_lex : ∀ (t : Tr) (xs ys : List Int), Ok t xs → Ok t ys → lexB xs ys = true → rank t xs + b2 (hit t xs) ≤ rank t ys
  | .leaf _, [], [], _, _, h => by cases h
  | .leaf _, _ :: _, _, h, _, _ => h.elim
  | .leaf _, [], _ :: _, _, h, _ => h.elim
  | .node _ _, [], _, h, _, _ => h.elim
  | .node _ _, _ :: _, [], _, h, _ => h.elim
  | .node m k, x :: xs, y :: ys, ⟨h0, h1, h2⟩, ⟨g0, g1, g2⟩, h => by
    unfold lexB at h
    show pre k x + rank (k x) xs + b2 (hit (k x) xs) ≤ pre k y + rank (k y) ys
    by_cases e : x = y
    · subst e
      rw [if_pos rfl] at h
      have := rank_lex (k x) xs ys h2 g2 h
      omega
    · rw [if_neg e] at h
      have hlt : x < y := of_decide_eq_true h
      obtain ⟨a, b⟩ := rank_in (k x) xs h2
      obtain ⟨a', _⟩ := rank_in (k y) ys g2
      have c := pre_succ k h0
      have f := pre_le k (a := x + 1) (b := y) (by omega) (by omega)
      omega
theorem lex_tri : ∀ (t : Tr) (xs ys : List Int), Ok t xs → Ok t ys → xs = ys ∨ lexB xs ys = true ∨ lexB ys xs = true
  | .leaf _, [], [], _, _ => .inl rfl
  | .leaf _, _ :: _, _, h, _ => h.elim
  | .leaf _, [], _ :: _, _, h => h.elim
  | .node _ _, [], _, h, _ => h.elim
  | .node _ _, _ :: _, [], _, h => h.elim
  | .node m k, x :: xs, y :: ys, ⟨h0, h1, h2⟩, ⟨g0, g1, g2⟩ => by
    by_cases e : x = y
    · subst e
      rcases lex_tri (k x) xs ys h2 g2 with r | r | r
      · exact .inl (by rw [r])
      · exact .inr (.inl (by unfold lexB; rw [if_pos rfl]; exact r))
      · exact .inr (.inr (by unfold lexB; rw [if_pos rfl]; exact r))
    · by_cases f : x < y
      · exact .inr (.inl (by unfold lexB; rw [if_neg e]; exact decide_eq_true f))
      · exact .inr (.inr (by unfold lexB; rw [if_neg (fun q => e q.symm)]; exact decide_eq_true (by omega)))
theorem lex_irr : ∀ xs : List Int, lexB xs xs = false
  | [] => rfl
  | x :: xs => by unfold lexB; rw [if_pos rfl]; exact lex_irr xs
/-- two hits of one rank are one -/
theorem rank_inj {t : Tr} {xs ys : List Int} (hx : Ok t xs) (hy : Ok t ys) (a : hit t xs = true) (b : hit t ys = true) (e : rank t xs = rank t ys) : xs = ys := by
  rcases lex_tri t xs ys hx hy with r | r | r
  · exact r
  · have := rank_lex t xs ys hx hy r
    rw [a] at this
    have : (b2 true : Int) = 1 := rfl
    omega
  · have := rank_lex t ys xs hy hx r
    rw [b] at this
    have : (b2 true : Int) = 1 := rfl
    omega
/-- the order of hits is the order of ranks -/
theorem rank_ord {t : Tr} {xs ys : List Int} (hx : Ok t xs) (hy : Ok t ys) (a : hit t xs = true) (b : hit t ys = true) : lexB xs ys = true ↔ rank t xs < rank t ys := by
  have one : (b2 true : Int) = 1 := rfl
  constructor
  · intro r
    have := rank_lex t xs ys hx hy r
    rw [a] at this
    omega
  · intro r
    rcases lex_tri t xs ys hx hy with q | q | q
    · subst q; omega
    · exact q
    · have := rank_lex t ys xs hy hx q
      rw [b] at this
      omega
/-- the digits found one by one -/
def Un : Tr → Int → List Int → Prop
  | .leaf _, _, ds => ds = []
  | .node m k, n, d :: ds => 0 ≤ d ∧ d ≤ m ∧ pre k d ≤ n ∧ n < pre k (d + 1) ∧ Un (k d) (n - pre k d) ds
  | .node _ _, _, [] => False
theorem un_ok : ∀ (t : Tr) (n : Int) (ds : List Int), Un t n ds → 0 ≤ n → n < tot t → Ok t ds ∧ hit t ds = true ∧ rank t ds = n
  | .leaf b, n, ds, h, h0, h1 => by
    have e : ds = [] := h
    subst e
    have h1 : n < b2 b := h1
    cases b with
    | false => exact absurd (show n < 0 from h1) (by omega)
    | true =>
      have h1 : n < 1 := h1
      refine ⟨trivial, rfl, ?_⟩
      show (0 : Int) = n
      omega
  | .node _ _, _, [], h, _, _ => h.elim
  | .node m k, n, d :: ds, ⟨a, b, c, e, f⟩, h0, h1 => by
    have g := pre_succ k a
    obtain ⟨o1, o2, o3⟩ := un_ok (k d) (n - pre k d) ds f (by omega) (by omega)
    refine ⟨⟨a, b, o1⟩, o2, ?_⟩
    show pre k d + rank (k d) ds = n
    omega
/-- all digits 0, to the tree's depth -/
def zeros : Tr → List Int
  | .leaf _ => []
  | .node _ k => 0 :: zeros (k 0)
/-- no bottom is empty -/
def Full : Tr → Prop
  | .leaf _ => True
  | .node m k => 0 ≤ m ∧ ∀ i, 0 ≤ i → i ≤ m → Full (k i)
theorem zeros_ok : ∀ t : Tr, Full t → Ok t (zeros t) ∧ rank t (zeros t) = 0
  | .leaf _, _ => ⟨trivial, rfl⟩
  | .node m k, ⟨h0, h1⟩ => by
    obtain ⟨a, b⟩ := zeros_ok (k 0) (h1 0 (Int.le_refl _) h0)
    refine ⟨⟨Int.le_refl _, h0, a⟩, ?_⟩
    show pre k 0 + rank (k 0) (zeros (k 0)) = 0
    rw [pre_zero, b]; rfl
def nxt : Tr → List Int → Option (List Int)
  | .leaf _, _ => none
  | .node m k, d :: ds => match nxt (k d) ds with
    | some es => some (d :: es)
    | none => if d < m then some ((d + 1) :: zeros (k (d + 1))) else none
  | .node _ _, [] => none
theorem nxt_some : ∀ (t : Tr) (ds es : List Int), Full t → Ok t ds → nxt t ds = some es → Ok t es ∧ rank t es = rank t ds + b2 (hit t ds) ∧ lexB ds es = true
  | .leaf _, _, _, _, _, h => by cases h
  | .node _ _, [], _, _, h, _ => h.elim
  | .node m k, d :: ds, es, ⟨f0, f1⟩, ⟨h0, h1, h2⟩, h => by
    unfold nxt at h
    cases e : nxt (k d) ds with
    | some xs =>
      rw [e] at h
      have h : some (d :: xs) = some es := h
      cases h
      obtain ⟨a, b, c⟩ := nxt_some (k d) ds xs (f1 d h0 h1) h2 e
      refine ⟨⟨h0, h1, a⟩, ?_, ?_⟩
      · show pre k d + rank (k d) xs = pre k d + rank (k d) ds + b2 (hit (k d) ds)
        omega
      · unfold lexB; rw [if_pos rfl]; exact c
    | none =>
      rw [e] at h
      have h : (if d < m then some ((d + 1) :: zeros (k (d + 1))) else none) = some es := h
      by_cases q : d < m
      · rw [if_pos q] at h
        cases h
        obtain ⟨a, b⟩ := zeros_ok (k (d + 1)) (f1 _ (by omega) (by omega))
        have c := nxt_none (k d) ds (f1 d h0 h1) h2 e
        refine ⟨⟨by omega, by omega, a⟩, ?_, ?_⟩
        · show pre k (d + 1) + rank (k (d + 1)) (zeros (k (d + 1))) = pre k d + rank (k d) ds + b2 (hit (k d) ds)
          rw [b, pre_succ k h0]
          omega
        · unfold lexB; rw [if_neg (by omega)]; exact decide_eq_true (by omega)
      · rw [if_neg q] at h
        cases h
where
  nxt_none : ∀ (t : Tr) (ds : List Int), Full t → Ok t ds → nxt t ds = none → rank t ds + b2 (hit t ds) = tot t
  | .leaf b, [], _, _, _ => by show 0 + b2 b = b2 b; omega
  | .leaf _, _ :: _, _, h, _ => h.elim
  | .node _ _, [], _, h, _ => h.elim
  | .node m k, d :: ds, ⟨f0, f1⟩, ⟨h0, h1, h2⟩, h => by
    unfold nxt at h
    cases e : nxt (k d) ds with
    | some xs =>
      rw [e] at h
      cases h
    | none =>
      rw [e] at h
      have h : (if d < m then some ((d + 1) :: zeros (k (d + 1))) else none) = none := h
      by_cases q : d < m
      · rw [if_pos q] at h
        cases h
      · have c := nxt_none (k d) ds (f1 d h0 h1) h2 e
        have dm : d = m := by omega
        rw [tot_node, ← dm, pre_succ k h0]
        show pre k d + rank (k d) ds + b2 (hit (k d) ds) = _
        omega
end HM
/-! part M3 -/
namespace HM
set_option autoImplicit false
/-! what the program's functions compute -/
structure Lk where
  c : Int
  d : Int
  p : Int
  q : Int
structure Lk.Ok (L : Lk) : Prop where
  c1 : 1 ≤ L.c
  d1 : 1 ≤ L.d
  cp : L.c ≤ L.p
  dq : L.d ≤ L.q
  pb : L.p < 2 ^ 100
  qb : L.q < 2 ^ 100
inductive Code where
  | all | none | suff | lack
  deriving DecidableEq
inductive Lot where
  | no | new (m : Int) | old (m : Int)
  deriving DecidableEq
def coded (c : Code) (s w : Int) : Int := match c with
  | .all => w
  | .none => 0
  | .suff => s
  | .lack => w - s
def codes (h : Int) (even done : Bool) : Code × Code :=
  if even = true then
    if done = true then (if h = 0 then (.none, .all) else if h = 2 then (.all, .none) else (.none, .none))
    else (if h = 1 then (.lack, .all) else if h = 3 then (.suff, .none) else (.none, .none))
  else
    if done = true then (if h = 1 then (.all, .all) else (.none, .none))
    else (if h = 0 then (.none, .lack) else if h = 2 then (.all, .suff) else (.none, .none))
def amt (cs : Code × Code) (o m s w : Int) : Int := o * coded cs.1 s w + (m - o) * coded cs.2 s w
def thereSize (L : Lk) : Int := ch (L.c + 3) 3
def backSize (L : Lk) : Int := ch (L.d + 2) 2
def lotsIn (L : Lk) (even : Bool) : Int := if even = true then L.p else 2 * L.p - 1
def lotOf (L : Lk) (even : Bool) (n : Int) : Lot :=
  if n = 0 then .no else if even = true then .old n else if L.p ≤ n then .old (n - L.p + 1) else .new n
def lotNum (L : Lk) (even : Bool) : Lot → Int
  | .no => 0
  | .new m => m
  | .old m => if even = true then m else m + L.p - 1
def suffic (L : Lk) (heard : Int) : Int := ch (L.d - L.q + heard + 2) 2
def sufBef (L : Lk) (heard : Int) : Int := ch (L.d - L.q + heard + 2) 3 - ch (L.d - L.q + 2) 3
def plainOf (L : Lk) (even : Bool) (lots : Int) : Int := if (if even = true then 1 else L.p) < lots then (if even = true then 1 else L.p) else lots
def oldBef (L : Lk) (even : Bool) (lots : Int) : Int :=
  plainOf L even lots * ch (L.c - L.p + 3) 3 + (ch (L.c - L.p + (lots - plainOf L even lots) + 4) 4 - ch (L.c - L.p + 4) 4)
def lotsAmt (L : Lk) (h : Int) (even : Bool) (lots s w : Int) : Int :=
  amt (codes h even false) (oldBef L even lots) (lots * thereSize L) s w + amt (codes h even true) (oldBef L even lots) (lots * thereSize L) s w
def hostsAmt (L : Lk) (h s w : Int) : Int := lotsAmt L h true (lotsIn L true) s w + lotsAmt L h false (lotsIn L false) s w
def heardBef (L : Lk) (h heard : Int) : Int := hostsAmt L h (sufBef L heard) (heard * backSize L)
def counted (L : Lk) (h : Int) : Int := 2 * heardBef L h L.q
def wanted (L : Lk) : Lot → Int
  | .old m => L.p - m
  | _ => L.p
def max0 (i : Int) : Int := if 0 > i then 0 else i
def thereBef (c n z o : Int) : Int := ch (c + 3) 3 - ch (c - n + 3) 3 + ch (c - n + 2) 2 - ch (c - n - z + 2) 2 + o
def backBef (d y x : Int) : Int := ch (d + 2) 2 - ch (d - y + 2) 2 + x
def oldThere (c bit w n z o : Int) : Int :=
  let f := ch (c - w + 3) 3 - ch (c - n - w + 3) 3
  if bit = 1 then f + ch (c - n - w + 2) 2 - ch (c - n - z - w + 2) 2 + max0 (o - w)
  else (if w < z then f + ch (c - n - w + 2) 2 - ch (c - n - z + 2) 2 else f) + (if w ≤ z then o else 0)
def ownBack (d bit w y x : Int) : Int :=
  if bit = 1 then ch (d - w + 2) 2 - ch (d - y - w + 2) 2 + max0 (x - w)
  else (if w < y then ch (d - w + 2) 2 - ch (d - y + 2) 2 else 0) + (if w ≤ y then x else 0)
def thereAmt (L : Lk) (heard own w : Int) (cs : Code × Code) (n z o : Int) : Int :=
  amt cs (oldThere L.c (1 - own) w n z o) (thereBef L.c n z o) (suffic L heard) (backSize L)
def backAmt (L : Lk) (bit heard : Int) (cd : Code) (y x : Int) : Int := coded cd (ownBack L.d bit (L.q - heard) y x) (backBef L.d y x)
/-- there[2 - own] -/
def ownCopies (own z o : Int) : Int := if own = 0 then o else z
def codeAt (own w : Int) (cs : Code × Code) (z o : Int) : Code := if w ≤ ownCopies own z o then cs.1 else cs.2
structure Ct where
  bit : Int
  heard : Int
  own : Int
  lots : Int
  done : Bool
  n : Int
  z : Int
  o : Int
  y : Int
  x : Int
  deriving DecidableEq
def Ct.even (x : Ct) : Bool := decide (x.bit = x.own)
def Ct.lot (L : Lk) (x : Ct) : Lot := lotOf L x.even x.lots
def Ct.digits (x : Ct) : List Int := [x.bit, x.heard, x.own, x.lots, b2 x.done, x.n, x.z, x.o, x.y, x.x]
structure Ct.Ok (L : Lk) (x : Ct) : Prop where
  bit : x.bit = 0 ∨ x.bit = 1
  heard0 : 0 ≤ x.heard
  heard1 : x.heard < L.q
  own : x.own = 0 ∨ x.own = 1
  lots0 : 0 ≤ x.lots
  lots1 : x.lots < lotsIn L x.even
  n0 : 0 ≤ x.n
  z0 : 0 ≤ x.z
  o0 : 0 ≤ x.o
  there : x.n + x.z + x.o ≤ L.c
  y0 : 0 ≤ x.y
  x0 : 0 ≤ x.x
  back : x.y + x.x ≤ L.d
def answers (x : Ct) : Int := x.heard + (if x.bit = 0 then x.y else x.x)
def lotOld : Lot → Int
  | .old m => m
  | _ => 0
def oldIn (L : Lk) (x : Ct) : Int := ownCopies x.own x.z x.o + lotOld (x.lot L)
def harmOf (even done ans old : Bool) : Int :=
  if done = true then (if even = true then (if old = true then 2 else 0) else 1)
  else if even = true then (if (ans && old) = true then 3 else 1)
  else (if (ans || old) = true then 2 else 0)
def Ct.harm (L : Lk) (x : Ct) : Int := harmOf x.even x.done (decide (L.q ≤ answers x)) (decide (L.p ≤ oldIn L x))
/-- number_of_harm_in, for a harm h -/
def numIn (L : Lk) (h : Int) (x : Ct) : Int :=
  heardBef L h x.heard + (if x.bit = 1 then heardBef L h L.q else 0)
  + (if x.own = 1 then lotsAmt L h (decide (x.bit = 0)) (lotsIn L (decide (x.bit = 0))) (suffic L x.heard) (backSize L) else 0)
  + lotsAmt L h x.even x.lots (suffic L x.heard) (backSize L)
  + (if x.done = true then amt (codes h x.even false) (oldBef L x.even (x.lots + 1) - oldBef L x.even x.lots) (thereSize L) (suffic L x.heard) (backSize L) else 0)
  + thereAmt L x.heard x.own (wanted L (x.lot L)) (codes h x.even x.done) x.n x.z x.o
  + backAmt L x.bit x.heard (codeAt x.own (wanted L (x.lot L)) (codes h x.even x.done) x.z x.o) x.y x.x
/-! bilinear -/
theorem coded_add (c : Code) (s w s' w' : Int) : coded c (s + s') (w + w') = coded c s w + coded c s' w' := by
  cases c <;> simp only [coded] <;> omega
theorem coded_zero (c : Code) : coded c 0 0 = 0 := by cases c <;> rfl
theorem amt_add (cs : Code × Code) (o m o' m' s w : Int) : amt cs (o + o') (m + m') s w = amt cs o m s w + amt cs o' m' s w := by
  unfold amt
  have e : m + m' - (o + o') = (m - o) + (m' - o') := by omega
  rw [e, Int.add_mul, Int.add_mul]
  omega
theorem amt_zero (cs : Code × Code) (s w : Int) : amt cs 0 0 s w = 0 := by unfold amt; simp
theorem amt_addw (cs : Code × Code) (o m s w s' w' : Int) : amt cs o m (s + s') (w + w') = amt cs o m s w + amt cs o m s' w' := by
  unfold amt
  rw [coded_add, coded_add, Int.mul_add, Int.mul_add]
  omega
theorem amt_zerow (cs : Code × Code) (o m : Int) : amt cs o m 0 0 = 0 := by unfold amt; rw [coded_zero, coded_zero]; simp
theorem amt_one (cs : Code × Code) (b : Bool) (s w : Int) : amt cs (b2 b) 1 s w = coded (if b = true then cs.1 else cs.2) s w := by
  unfold amt
  cases b with
  | true => show 1 * _ + (1 - 1) * _ = coded cs.1 s w; simp
  | false => show 0 * _ + (1 - 0) * _ = coded cs.2 s w; simp
/-! the tree of a link's contents that have a harm -/
def passB (c : Code) (b : Bool) : Bool := match c with
  | .all => true
  | .none => false
  | .suff => b
  | .lack => !b
def tX (L : Lk) (bit heard : Int) (cd : Code) (y : Int) : Tr := .node (L.d - y) fun x => .leaf (passB cd (decide (L.q ≤ heard + (if bit = 0 then y else x))))
def tY (L : Lk) (bit heard : Int) (cd : Code) : Tr := .node L.d fun y => tX L bit heard cd y
def tO (L : Lk) (bit heard own w : Int) (cs : Code × Code) (n z : Int) : Tr := .node (L.c - n - z) fun o => tY L bit heard (codeAt own w cs z o)
def tZ (L : Lk) (bit heard own w : Int) (cs : Code × Code) (n : Int) : Tr := .node (L.c - n) fun z => tO L bit heard own w cs n z
def tN (L : Lk) (bit heard own w : Int) (cs : Code × Code) : Tr := .node L.c fun n => tZ L bit heard own w cs n
def tD (L : Lk) (h bit heard own lots : Int) : Tr := .node 1 fun dn => tN L bit heard own (wanted L (lotOf L (decide (bit = own)) lots)) (codes h (decide (bit = own)) (decide (dn = 1)))
def tL (L : Lk) (h bit heard own : Int) : Tr := .node (lotsIn L (decide (bit = own)) - 1) fun lots => tD L h bit heard own lots
def tR (L : Lk) (h bit heard : Int) : Tr := .node 1 fun own => tL L h bit heard own
def tH (L : Lk) (h bit : Int) : Tr := .node (L.q - 1) fun heard => tR L h bit heard
def tA (L : Lk) (h : Int) : Tr := .node 1 fun bit => tH L h bit
end HM
/-! part M4 -/
namespace HM
set_option autoImplicit false
theorem ch2p {a b : Int} (h : a = b + 1) (h0 : 0 ≤ b) : ch a 2 = ch b 2 + b := by rw [h, ch2 b, if_pos h0]
theorem ch2z {b : Int} (h : b ≤ 1) : ch b 2 = 0 := ch_low (by omega)
theorem ch3z {b : Int} (h : b ≤ 2) : ch b 3 = 0 := ch_low (by omega)
theorem ch3s {a b : Int} (h : a = b + 1) : ch a 3 = ch b 3 + ch b 2 := by rw [h]; exact ch3 b
theorem ch4s {a b : Int} (h : a = b + 1) : ch a 4 = ch b 4 + ch b 3 := by rw [h]; exact ch4 b
theorem ch_eq {a b : Int} (k : Nat) (h : a = b) : ch a k = ch b k := by rw [h]
theorem coded_pass (cd : Code) (b : Bool) : coded cd (b2 b) 1 = b2 (passB cd b) := by cases cd <;> cases b <;> rfl
theorem b2_dec (p : Prop) [Decidable p] : b2 (decide p) = if p then 1 else 0 := by
  by_cases h : p
  · rw [decide_eq_true h, if_pos h]; rfl
  · rw [decide_eq_false h, if_neg h]; rfl
/-! the wire back -/
section
variable {bit y : Int} {cd : Code}
theorem backBef_step (d y x : Int) : backBef d y (x + 1) = backBef d y x + 1 := by unfold backBef; omega
theorem backBef_carry {d y : Int} (h0 : 0 ≤ y) (h1 : y ≤ d) : backBef d y (d - y + 1) = backBef d (y + 1) 0 := by
  unfold backBef
  have e := ch2p (a := d - y + 2) (b := d - (y + 1) + 2) (by omega) (by omega)
  omega
theorem backBef_zero (d : Int) : backBef d 0 0 = 0 := by
  unfold backBef
  have e := ch_eq (a := d - 0 + 2) (b := d + 2) 2 (by omega)
  omega
theorem backBef_all (d : Int) : backBef d (d + 1) 0 = ch (d + 2) 2 := by
  unfold backBef
  have e : ch (d - (d + 1) + 2) 2 = 0 := ch2z (by omega)
  omega
theorem ownBack_0 (d w y x : Int) : ownBack d 0 w y x = (if w < y then ch (d - w + 2) 2 - ch (d - y + 2) 2 else 0) + (if w ≤ y then x else 0) := by
  unfold ownBack
  exact if_neg (by decide)
theorem ownBack_1 (d w y x : Int) : ownBack d 1 w y x = ch (d - w + 2) 2 - ch (d - y - w + 2) 2 + (if 0 > x - w then 0 else x - w) := by
  unfold ownBack
  exact if_pos rfl
theorem ownBack_step (d w y x : Int) (hb : bit = 0 ∨ bit = 1) : ownBack d bit w y (x + 1) = ownBack d bit w y x + b2 (decide (w ≤ (if bit = 0 then y else x))) := by
  rw [b2_dec]
  rcases hb with rfl | rfl
  · rw [ownBack_0, ownBack_0, if_pos (rfl : (0 : Int) = 0)]
    (repeat' split) <;> omega
  · rw [ownBack_1, ownBack_1, if_neg (by decide : ¬ (1 : Int) = 0)]
    (repeat' split) <;> omega
theorem ownBack_carry {d w y : Int} (hb : bit = 0 ∨ bit = 1) (hw : 1 ≤ w) (h0 : 0 ≤ y) (h1 : y ≤ d) : ownBack d bit w y (d - y + 1) = ownBack d bit w (y + 1) 0 := by
  rcases hb with rfl | rfl
  · rw [ownBack_0, ownBack_0]
    have e := ch2p (a := d - y + 2) (b := d - (y + 1) + 2) (by omega) (by omega)
    by_cases c2 : w = y
    · subst c2
      (repeat' split) <;> omega
    · (repeat' split) <;> omega
  · rw [ownBack_1, ownBack_1]
    by_cases c : 0 ≤ d - y - w + 1
    · have e := ch2p (a := d - y - w + 2) (b := d - (y + 1) - w + 2) (by omega) (by omega)
      (repeat' split) <;> omega
    · have e := ch2z (b := d - y - w + 2) (by omega)
      have e' := ch2z (b := d - (y + 1) - w + 2) (by omega)
      (repeat' split) <;> omega
theorem ownBack_zero {d w : Int} (hb : bit = 0 ∨ bit = 1) (hw : 1 ≤ w) : ownBack d bit w 0 0 = 0 := by
  rcases hb with rfl | rfl
  · rw [ownBack_0]
    (repeat' split) <;> omega
  · rw [ownBack_1]
    have e := ch_eq (a := d - 0 - w + 2) (b := d - w + 2) 2 (by omega)
    (repeat' split) <;> omega
theorem ownBack_all {d w : Int} (hb : bit = 0 ∨ bit = 1) (hd : 0 ≤ d) (hw : 1 ≤ w) : ownBack d bit w (d + 1) 0 = ch (d - w + 2) 2 := by
  rcases hb with rfl | rfl
  · rw [ownBack_0]
    have e := ch2z (b := d - (d + 1) + 2) (by omega)
    by_cases c : w < d + 1
    · (repeat' split) <;> omega
    · have e2 := ch2z (b := d - w + 2) (by omega)
      (repeat' split) <;> omega
  · rw [ownBack_1]
    have e := ch2z (b := d - (d + 1) - w + 2) (by omega)
    (repeat' split) <;> omega
end
/-! the wire there -/
section
variable {own : Int}
theorem thereBef_step (c n z o : Int) : thereBef c n z (o + 1) = thereBef c n z o + 1 := by unfold thereBef; omega
theorem thereBef_carryZ {c n z : Int} (h0 : 0 ≤ z) (h1 : z ≤ c - n) : thereBef c n z (c - n - z + 1) = thereBef c n (z + 1) 0 := by
  unfold thereBef
  have e := ch2p (a := c - n - z + 2) (b := c - n - (z + 1) + 2) (by omega) (by omega)
  omega
theorem thereBef_carryN {c n : Int} (h0 : 0 ≤ n) (h1 : n ≤ c) : thereBef c n (c - n + 1) 0 = thereBef c (n + 1) 0 0 := by
  unfold thereBef
  have e := ch3s (a := c - n + 3) (b := c - (n + 1) + 3) (by omega)
  have e1 := ch_eq (a := c - (n + 1) + 3) (b := c - n + 2) 2 (by omega)
  have e2 := ch2z (b := c - n - (c - n + 1) + 2) (by omega)
  have e3 := ch_eq (a := c - (n + 1) - 0 + 2) (b := c - (n + 1) + 2) 2 (by omega)
  omega
theorem thereBef_zero (c : Int) : thereBef c 0 0 0 = 0 := by
  unfold thereBef
  have e := ch_eq (a := c - 0 + 3) (b := c + 3) 3 (by omega)
  have e1 := ch_eq (a := c - 0 - 0 + 2) (b := c - 0 + 2) 2 (by omega)
  omega
theorem thereBef_all (c : Int) : thereBef c (c + 1) 0 0 = ch (c + 3) 3 := by
  unfold thereBef
  have e := ch3z (b := c - (c + 1) + 3) (by omega)
  have e1 := ch_eq (a := c - (c + 1) - 0 + 2) (b := c - (c + 1) + 2) 2 (by omega)
  omega
theorem oldThere_1 (c w n z o : Int) : oldThere c 1 w n z o = ch (c - w + 3) 3 - ch (c - n - w + 3) 3 + ch (c - n - w + 2) 2 - ch (c - n - z - w + 2) 2 + (if 0 > o - w then 0 else o - w) := by
  unfold oldThere
  exact if_pos rfl
theorem oldThere_0 (c w n z o : Int) : oldThere c 0 w n z o = (if w < z then ch (c - w + 3) 3 - ch (c - n - w + 3) 3 + ch (c - n - w + 2) 2 - ch (c - n - z + 2) 2 else ch (c - w + 3) 3 - ch (c - n - w + 3) 3) + (if w ≤ z then o else 0) := by
  unfold oldThere
  exact if_neg (by decide)
theorem own01 {own : Int} (h : own = 0 ∨ own = 1) : (own = 0 ∧ 1 - own = 1) ∨ (own = 1 ∧ 1 - own = 0) := by omega
theorem oldThere_step (c w n z o : Int) (ho : own = 0 ∨ own = 1) : oldThere c (1 - own) w n z (o + 1) = oldThere c (1 - own) w n z o + b2 (decide (w ≤ ownCopies own z o)) := by
  rw [b2_dec]
  unfold ownCopies
  rcases own01 ho with ⟨e1, e2⟩ | ⟨e1, e2⟩
  · rw [e2, oldThere_1, oldThere_1, if_pos e1]
    (repeat' split) <;> omega
  · rw [e2, oldThere_0, oldThere_0, if_neg (show ¬ own = 0 by omega)]
    (repeat' split) <;> omega
theorem oldThere_carryZ {c w n z : Int} (ho : own = 0 ∨ own = 1) (hw : 1 ≤ w) (h0 : 0 ≤ z) (h1 : z ≤ c - n) : oldThere c (1 - own) w n z (c - n - z + 1) = oldThere c (1 - own) w n (z + 1) 0 := by
  rcases own01 ho with ⟨_, e2⟩ | ⟨_, e2⟩
  · rw [e2, oldThere_1, oldThere_1]
    by_cases c0 : 0 ≤ c - n - z - w + 1
    · have e := ch2p (a := c - n - z - w + 2) (b := c - n - (z + 1) - w + 2) (by omega) (by omega)
      (repeat' split) <;> omega
    · have e := ch2z (b := c - n - z - w + 2) (by omega)
      have e' := ch2z (b := c - n - (z + 1) - w + 2) (by omega)
      (repeat' split) <;> omega
  · rw [e2, oldThere_0, oldThere_0]
    have e := ch2p (a := c - n - z + 2) (b := c - n - (z + 1) + 2) (by omega) (by omega)
    by_cases c2 : w = z
    · subst c2
      (repeat' split) <;> omega
    · (repeat' split) <;> omega
theorem oldThere_carryN {c w n : Int} (ho : own = 0 ∨ own = 1) (hw : 1 ≤ w) (h0 : 0 ≤ n) (h1 : n ≤ c) : oldThere c (1 - own) w n (c - n + 1) 0 = oldThere c (1 - own) w (n + 1) 0 0 := by
  have e := ch3s (a := c - n - w + 3) (b := c - (n + 1) - w + 3) (by omega)
  have e1 := ch_eq (a := c - (n + 1) - w + 3) (b := c - n - w + 2) 2 (by omega)
  rcases own01 ho with ⟨_, e2⟩ | ⟨_, e2⟩
  · rw [e2, oldThere_1, oldThere_1]
    have e3 := ch2z (b := c - n - (c - n + 1) - w + 2) (by omega)
    have e4 := ch_eq (a := c - (n + 1) - 0 - w + 2) (b := c - (n + 1) - w + 2) 2 (by omega)
    (repeat' split) <;> omega
  · rw [e2, oldThere_0, oldThere_0]
    have e3 := ch2z (b := c - n - (c - n + 1) + 2) (by omega)
    by_cases c0 : w < c - n + 1
    · (repeat' split) <;> omega
    · have e4 := ch2z (b := c - n - w + 2) (by omega)
      (repeat' split) <;> omega
theorem oldThere_zero {c w : Int} (ho : own = 0 ∨ own = 1) (hw : 1 ≤ w) : oldThere c (1 - own) w 0 0 0 = 0 := by
  have e := ch_eq (a := c - 0 - w + 3) (b := c - w + 3) 3 (by omega)
  rcases own01 ho with ⟨_, e2⟩ | ⟨_, e2⟩
  · rw [e2, oldThere_1]
    have e1 := ch_eq (a := c - 0 - 0 - w + 2) (b := c - 0 - w + 2) 2 (by omega)
    (repeat' split) <;> omega
  · rw [e2, oldThere_0]
    (repeat' split) <;> omega
theorem oldThere_all {c w : Int} (ho : own = 0 ∨ own = 1) (hw : 1 ≤ w) : oldThere c (1 - own) w (c + 1) 0 0 = ch (c - w + 3) 3 := by
  have e := ch3z (b := c - (c + 1) - w + 3) (by omega)
  rcases own01 ho with ⟨_, e2⟩ | ⟨_, e2⟩
  · rw [e2, oldThere_1]
    have e1 := ch_eq (a := c - (c + 1) - 0 - w + 2) (b := c - (c + 1) - w + 2) 2 (by omega)
    (repeat' split) <;> omega
  · rw [e2, oldThere_0]
    (repeat' split) <;> omega
end
end HM
/-! part M5 -/
namespace HM
set_option autoImplicit false
theorem pre_one (k : Int → Tr) : pre k 1 = tot (k 0) := by
  have e := pre_succ k (Int.le_refl 0)
  rw [pre_zero] at e
  have e1 : (0 : Int) + 1 = 1 := rfl
  rw [e1] at e
  omega
section
variable {L : Lk} {h bit heard own w n z : Int} {cd : Code} {cs : Code × Code}
/-! X, Y: the wire back -/
theorem back_step (hb : bit = 0 ∨ bit = 1) (y x : Int) : backAmt L bit heard cd y (x + 1) = backAmt L bit heard cd y x + b2 (passB cd (decide (L.q ≤ heard + (if bit = 0 then y else x)))) := by
  unfold backAmt
  have e : decide (L.q ≤ heard + (if bit = 0 then y else x)) = decide (L.q - heard ≤ (if bit = 0 then y else x)) := decide_eq_decide.mpr (by omega)
  rw [e, ownBack_step _ _ _ _ hb, backBef_step, coded_add, coded_pass]
theorem preX (hb : bit = 0 ∨ bit = 1) {y : Int} (i : Int) (h0 : 0 ≤ i) (h1 : i ≤ L.d - y + 1) :
    pre (fun x => Tr.leaf (passB cd (decide (L.q ≤ heard + (if bit = 0 then y else x))))) i = backAmt L bit heard cd y i - backAmt L bit heard cd y 0 :=
  pre_is _ (fun i => backAmt L bit heard cd y i) (L.d - y) (fun i _ _ => back_step hb y i) i h0 h1
theorem back_carry (hb : bit = 0 ∨ bit = 1) (hh : heard < L.q) {y : Int} (h0 : 0 ≤ y) (h1 : y ≤ L.d) : backAmt L bit heard cd y (L.d - y + 1) = backAmt L bit heard cd (y + 1) 0 := by
  unfold backAmt
  rw [ownBack_carry hb (by omega) h0 h1, backBef_carry h0 h1]
theorem totX (hb : bit = 0 ∨ bit = 1) (hh : heard < L.q) {y : Int} (h0 : 0 ≤ y) (h1 : y ≤ L.d) : tot (tX L bit heard cd y) = backAmt L bit heard cd (y + 1) 0 - backAmt L bit heard cd y 0 := by
  unfold tX
  rw [tot_node, preX hb _ (by omega) (by omega), back_carry hb hh h0 h1]
theorem back_zero (hb : bit = 0 ∨ bit = 1) (hh : heard < L.q) : backAmt L bit heard cd 0 0 = 0 := by
  unfold backAmt
  rw [ownBack_zero hb (by omega), backBef_zero, coded_zero]
theorem preY (hb : bit = 0 ∨ bit = 1) (hh : heard < L.q) (i : Int) (h0 : 0 ≤ i) (h1 : i ≤ L.d + 1) : pre (fun y => tX L bit heard cd y) i = backAmt L bit heard cd i 0 := by
  have e := pre_is (fun y => tX L bit heard cd y) (fun i => backAmt L bit heard cd i 0) L.d (fun i a b => by
    show backAmt L bit heard cd (i + 1) 0 = backAmt L bit heard cd i 0 + tot (tX L bit heard cd i)
    rw [totX hb hh a b]; omega) i h0 h1
  rw [e, back_zero hb hh]; omega
theorem totY (hb : bit = 0 ∨ bit = 1) (hh : heard < L.q) (hd : 0 ≤ L.d) : tot (tY L bit heard cd) = coded cd (suffic L heard) (backSize L) := by
  unfold tY
  rw [tot_node, preY hb hh _ (by omega) (by omega)]
  unfold backAmt suffic backSize
  rw [ownBack_all hb hd (by omega), backBef_all, ch_eq (a := L.d - (L.q - heard) + 2) (b := L.d - L.q + heard + 2) 2 (by omega)]
/-! O, Z, N: the wire there -/
theorem there_step (ho : own = 0 ∨ own = 1) (o : Int) : thereAmt L heard own w cs n z (o + 1) = thereAmt L heard own w cs n z o + coded (codeAt own w cs z o) (suffic L heard) (backSize L) := by
  unfold thereAmt
  rw [oldThere_step _ _ _ _ _ ho, thereBef_step, amt_add, amt_one]
  unfold codeAt
  by_cases c : w ≤ ownCopies own z o
  · rw [decide_eq_true c, if_pos rfl, if_pos c]
  · rw [decide_eq_false c, if_neg Bool.false_ne_true, if_neg c]
theorem preO (hb : bit = 0 ∨ bit = 1) (ho : own = 0 ∨ own = 1) (hh : heard < L.q) (hd : 0 ≤ L.d) (i : Int) (h0 : 0 ≤ i) (h1 : i ≤ L.c - n - z + 1) :
    pre (fun o => tY L bit heard (codeAt own w cs z o)) i = thereAmt L heard own w cs n z i - thereAmt L heard own w cs n z 0 :=
  pre_is _ (fun i => thereAmt L heard own w cs n z i) (L.c - n - z) (fun i _ _ => by rw [totY hb hh hd]; exact there_step ho i) i h0 h1
theorem totO (hb : bit = 0 ∨ bit = 1) (ho : own = 0 ∨ own = 1) (hh : heard < L.q) (hd : 0 ≤ L.d) (hw : 1 ≤ w) (h0 : 0 ≤ z) (h1 : z ≤ L.c - n) : tot (tO L bit heard own w cs n z) = thereAmt L heard own w cs n (z + 1) 0 - thereAmt L heard own w cs n z 0 := by
  unfold tO
  rw [tot_node, preO (n := n) hb ho hh hd _ (by omega) (by omega)]
  unfold thereAmt
  rw [oldThere_carryZ ho hw h0 h1, thereBef_carryZ h0 h1]
theorem preZ (hb : bit = 0 ∨ bit = 1) (ho : own = 0 ∨ own = 1) (hh : heard < L.q) (hd : 0 ≤ L.d) (hw : 1 ≤ w) (i : Int) (h0 : 0 ≤ i) (h1 : i ≤ L.c - n + 1) :
    pre (fun z => tO L bit heard own w cs n z) i = thereAmt L heard own w cs n i 0 - thereAmt L heard own w cs n 0 0 :=
  pre_is _ (fun i => thereAmt L heard own w cs n i 0) (L.c - n) (fun i a b => by rw [totO hb ho hh hd hw a b]; show thereAmt L heard own w cs n (i + 1) 0 = _; omega) i h0 h1
theorem totZ (hb : bit = 0 ∨ bit = 1) (ho : own = 0 ∨ own = 1) (hh : heard < L.q) (hd : 0 ≤ L.d) (hw : 1 ≤ w) (h0 : 0 ≤ n) (h1 : n ≤ L.c) : tot (tZ L bit heard own w cs n) = thereAmt L heard own w cs (n + 1) 0 0 - thereAmt L heard own w cs n 0 0 := by
  unfold tZ
  rw [tot_node, preZ hb ho hh hd hw _ (by omega) (by omega)]
  unfold thereAmt
  rw [oldThere_carryN ho hw h0 h1, thereBef_carryN h0 h1]
theorem there_zero (ho : own = 0 ∨ own = 1) (hw : 1 ≤ w) : thereAmt L heard own w cs 0 0 0 = 0 := by
  unfold thereAmt
  rw [oldThere_zero ho hw, thereBef_zero, amt_zero]
theorem preN (hb : bit = 0 ∨ bit = 1) (ho : own = 0 ∨ own = 1) (hh : heard < L.q) (hd : 0 ≤ L.d) (hw : 1 ≤ w) (i : Int) (h0 : 0 ≤ i) (h1 : i ≤ L.c + 1) :
    pre (fun n => tZ L bit heard own w cs n) i = thereAmt L heard own w cs i 0 0 := by
  have e := pre_is (fun n => tZ L bit heard own w cs n) (fun i => thereAmt L heard own w cs i 0 0) L.c (fun i a b => by rw [totZ hb ho hh hd hw a b]; show thereAmt L heard own w cs (i + 1) 0 0 = _; omega) i h0 h1
  rw [e, there_zero ho hw]; omega
theorem totN (hb : bit = 0 ∨ bit = 1) (ho : own = 0 ∨ own = 1) (hh : heard < L.q) (hd : 0 ≤ L.d) (hc : 0 ≤ L.c) (hw : 1 ≤ w) : tot (tN L bit heard own w cs) = amt cs (ch (L.c - w + 3) 3) (thereSize L) (suffic L heard) (backSize L) := by
  unfold tN
  rw [tot_node, preN hb ho hh hd hw _ (by omega) (by omega)]
  unfold thereAmt thereSize
  rw [oldThere_all ho hw, thereBef_all]
/-! D, L: the receiver -/
theorem wanted_pos (hL : L.Ok) {even : Bool} {lots : Int} (h0 : 0 ≤ lots) (h1 : lots < lotsIn L even) : 1 ≤ wanted L (lotOf L even lots) := by
  have hp : 1 ≤ L.p := Int.le_trans hL.c1 hL.cp
  unfold lotsIn at h1
  unfold lotOf
  by_cases c : lots = 0
  · rw [if_pos c]; exact hp
  · rw [if_neg c]
    cases even with
    | true => rw [if_pos rfl] at h1 ⊢; show 1 ≤ L.p - lots; omega
    | false =>
      rw [if_neg Bool.false_ne_true] at h1 ⊢
      split
      · show 1 ≤ L.p - (lots - L.p + 1); omega
      · exact hp
theorem oldBef_step (hL : L.Ok) {even : Bool} {lots : Int} (h0 : 0 ≤ lots) : oldBef L even (lots + 1) = oldBef L even lots + ch (L.c - wanted L (lotOf L even lots) + 3) 3 := by
  have hp : 1 ≤ L.p := Int.le_trans hL.c1 hL.cp
  unfold oldBef
  have key : ∀ m : Int, m = (if even = true then 1 else L.p) → 1 ≤ m → plainOf L even (lots + 1) = (if lots < m then lots + 1 else m) ∧ plainOf L even lots = (if lots < m then lots else m) ∧ wanted L (lotOf L even lots) = (if lots < m then L.p else L.p - (lots - m + 1)) := by
    intro m hm h1
    refine ⟨?_, ?_, ?_⟩
    · unfold plainOf; rw [← hm]; (repeat' split) <;> omega
    · unfold plainOf; rw [← hm]; (repeat' split) <;> omega
    · unfold lotOf
      cases even with
      | true =>
        have hm : m = 1 := hm
        subst hm
        by_cases c : lots = 0
        · rw [if_pos c, if_pos (by omega)]; rfl
        · rw [if_neg c, if_pos rfl, if_neg (by omega)]; show L.p - lots = _; omega
      | false =>
        have hm : m = L.p := hm
        subst hm
        by_cases c : lots = 0
        · rw [if_pos c, if_pos (by omega)]; rfl
        · rw [if_neg c, if_neg Bool.false_ne_true]
          by_cases c2 : L.p ≤ lots
          · rw [if_pos c2, if_neg (by omega)]; rfl
          · rw [if_neg c2, if_pos (by omega)]; rfl
  obtain ⟨e1, e2, e3⟩ := key _ rfl (by split <;> omega)
  rw [e1, e2, e3]
  generalize (if even = true then (1 : Int) else L.p) = m at *
  by_cases c : lots < m
  · rw [if_pos c, if_pos c, if_pos c]
    have e4 := ch_eq (a := L.c - L.p + (lots + 1 - (lots + 1)) + 4) (b := L.c - L.p + (lots - lots) + 4) 4 (by omega)
    rw [Int.add_mul]
    omega
  · rw [if_neg c, if_neg c, if_neg c]
    have e4 := ch4s (a := L.c - L.p + (lots + 1 - m) + 4) (b := L.c - L.p + (lots - m) + 4) (by omega)
    have e5 := ch_eq (a := L.c - L.p + (lots - m) + 4) (b := L.c - (L.p - (lots - m + 1)) + 3) 3 (by omega)
    omega
theorem preD (hL : L.Ok) (hb : bit = 0 ∨ bit = 1) (ho : own = 0 ∨ own = 1) (hh : heard < L.q) {lots : Int} (h0 : 0 ≤ lots) (h1 : lots < lotsIn L (decide (bit = own))) :
    pre (fun dn => tN L bit heard own (wanted L (lotOf L (decide (bit = own)) lots)) (codes h (decide (bit = own)) (decide (dn = 1)))) 1 = amt (codes h (decide (bit = own)) false) (oldBef L (decide (bit = own)) (lots + 1) - oldBef L (decide (bit = own)) lots) (thereSize L) (suffic L heard) (backSize L) := by
  have hw := wanted_pos hL h0 h1
  rw [pre_one]
  rw [totN hb ho hh (by have := hL.d1; omega) (by have := hL.c1; omega) hw, oldBef_step hL h0]
  have e2 : oldBef L (decide (bit = own)) lots + ch (L.c - wanted L (lotOf L (decide (bit = own)) lots) + 3) 3 - oldBef L (decide (bit = own)) lots = ch (L.c - wanted L (lotOf L (decide (bit = own)) lots) + 3) 3 := by omega
  rw [e2]
  rw [show decide ((0 : Int) = 1) = false from rfl]
theorem totD (hL : L.Ok) (hb : bit = 0 ∨ bit = 1) (ho : own = 0 ∨ own = 1) (hh : heard < L.q) {lots : Int} (h0 : 0 ≤ lots) (h1 : lots < lotsIn L (decide (bit = own))) :
    tot (tD L h bit heard own lots) = lotsAmt L h (decide (bit = own)) (lots + 1) (suffic L heard) (backSize L) - lotsAmt L h (decide (bit = own)) lots (suffic L heard) (backSize L) := by
  have hw := wanted_pos hL h0 h1
  unfold tD
  rw [tot_node, pre_succ _ (by decide), preD hL hb ho hh h0 h1, totN hb ho hh (by have := hL.d1; omega) (by have := hL.c1; omega) hw, oldBef_step hL h0]
  unfold lotsAmt
  have e2 : oldBef L (decide (bit = own)) lots + ch (L.c - wanted L (lotOf L (decide (bit = own)) lots) + 3) 3 - oldBef L (decide (bit = own)) lots = ch (L.c - wanted L (lotOf L (decide (bit = own)) lots) + 3) 3 := by omega
  have e3 : (lots + 1) * thereSize L = lots * thereSize L + thereSize L := by rw [Int.add_mul, Int.one_mul]
  rw [e2, oldBef_step hL h0, e3, amt_add, amt_add, show decide ((1 : Int) = 1) = true from rfl]
  omega
theorem lots_zero (hL : L.Ok) (even : Bool) (s w : Int) : lotsAmt L h even 0 s w = 0 := by
  have hp : 1 ≤ L.p := Int.le_trans hL.c1 hL.cp
  have e : oldBef L even 0 = 0 := by
    unfold oldBef
    have e1 : plainOf L even 0 = 0 := by unfold plainOf; (repeat' split) <;> omega
    rw [e1]
    have e2 := ch_eq (a := L.c - L.p + (0 - 0) + 4) (b := L.c - L.p + 4) 4 (by omega)
    rw [e2]; omega
  unfold lotsAmt
  rw [e, Int.zero_mul, amt_zero, amt_zero]; rfl
theorem preL (hL : L.Ok) (hb : bit = 0 ∨ bit = 1) (ho : own = 0 ∨ own = 1) (hh : heard < L.q) (i : Int) (h0 : 0 ≤ i) (h1 : i ≤ lotsIn L (decide (bit = own))) :
    pre (fun lots => tD L h bit heard own lots) i = lotsAmt L h (decide (bit = own)) i (suffic L heard) (backSize L) := by
  have e := pre_is (fun lots => tD L h bit heard own lots) (fun i => lotsAmt L h (decide (bit = own)) i (suffic L heard) (backSize L)) (lotsIn L (decide (bit = own)) - 1) (fun i a b => by
    rw [totD hL hb ho hh a (by omega)]
    show lotsAmt L h (decide (bit = own)) (i + 1) (suffic L heard) (backSize L) = _
    omega) i h0 (by omega)
  rw [e, lots_zero hL]; omega
theorem totL (hL : L.Ok) (hb : bit = 0 ∨ bit = 1) (ho : own = 0 ∨ own = 1) (hh : heard < L.q) : tot (tL L h bit heard own) = lotsAmt L h (decide (bit = own)) (lotsIn L (decide (bit = own))) (suffic L heard) (backSize L) := by
  have hp : 1 ≤ L.p := Int.le_trans hL.c1 hL.cp
  have hl : 0 ≤ lotsIn L (decide (bit = own)) := by unfold lotsIn; split <;> omega
  unfold tL
  rw [tot_node, preL hL hb ho hh _ (by omega) (by omega), show lotsIn L (decide (bit = own)) - 1 + 1 = lotsIn L (decide (bit = own)) by omega]
/-! R, H, A: own, heard, bit -/
theorem preR (hL : L.Ok) (hb : bit = 0 ∨ bit = 1) (hh : heard < L.q) : pre (fun own => tL L h bit heard own) 1 = lotsAmt L h (decide (bit = 0)) (lotsIn L (decide (bit = 0))) (suffic L heard) (backSize L) := by
  rw [show (1 : Int) = 0 + 1 from rfl, pre_succ _ (Int.le_refl 0), pre_zero, totL hL hb (.inl rfl) hh]
  omega
theorem totR (hL : L.Ok) (hb : bit = 0 ∨ bit = 1) (hh : heard < L.q) : tot (tR L h bit heard) = hostsAmt L h (suffic L heard) (backSize L) := by
  unfold tR
  rw [tot_node, pre_succ _ (by decide), preR hL hb hh, totL hL hb (.inr rfl) hh]
  unfold hostsAmt
  rcases hb with rfl | rfl
  · rw [show decide ((0 : Int) = 0) = true from rfl, show decide ((0 : Int) = 1) = false from rfl]
  · rw [show decide ((1 : Int) = 0) = false from rfl, show decide ((1 : Int) = 1) = true from rfl]; omega
theorem hosts_add (s w s' w' : Int) : hostsAmt L h (s + s') (w + w') = hostsAmt L h s w + hostsAmt L h s' w' := by
  unfold hostsAmt lotsAmt
  rw [amt_addw, amt_addw, amt_addw, amt_addw]; omega
theorem heard_step (i : Int) : heardBef L h (i + 1) = heardBef L h i + hostsAmt L h (suffic L i) (backSize L) := by
  unfold heardBef
  rw [← hosts_add]
  have e1 : sufBef L (i + 1) = sufBef L i + suffic L i := by
    unfold sufBef suffic
    have e := ch3s (a := L.d - L.q + (i + 1) + 2) (b := L.d - L.q + i + 2) (by omega)
    omega
  rw [e1, Int.add_mul, Int.one_mul]
theorem heard_zero : heardBef L h 0 = 0 := by
  unfold heardBef
  have e1 : sufBef L 0 = 0 := by
    unfold sufBef
    have e := ch_eq (a := L.d - L.q + 0 + 2) (b := L.d - L.q + 2) 3 (by omega)
    omega
  rw [e1, Int.zero_mul]
  unfold hostsAmt lotsAmt
  rw [amt_zerow, amt_zerow, amt_zerow, amt_zerow]; rfl
theorem preH (hL : L.Ok) (hb : bit = 0 ∨ bit = 1) (i : Int) (h0 : 0 ≤ i) (h1 : i ≤ L.q) : pre (fun heard => tR L h bit heard) i = heardBef L h i := by
  have e := pre_is (fun heard => tR L h bit heard) (fun i => heardBef L h i) (L.q - 1) (fun i a b => by rw [totR hL hb (by omega)]; exact heard_step i) i h0 (by omega)
  rw [e, heard_zero]; omega
theorem totH (hL : L.Ok) (hb : bit = 0 ∨ bit = 1) : tot (tH L h bit) = heardBef L h L.q := by
  have hq : 1 ≤ L.q := Int.le_trans hL.d1 hL.dq
  unfold tH
  rw [tot_node, preH hL hb _ (by omega) (by omega), show L.q - 1 + 1 = L.q by omega]
theorem preA (hL : L.Ok) : pre (fun bit => tH L h bit) 1 = heardBef L h L.q := by
  rw [show (1 : Int) = 0 + 1 from rfl, pre_succ _ (Int.le_refl 0), pre_zero, totH hL (.inl rfl)]; omega
theorem totA (hL : L.Ok) : tot (tA L h) = counted L h := by
  unfold tA
  rw [tot_node, pre_succ _ (by decide), preA hL, totH hL (.inr rfl)]
  unfold counted; omega
end
end HM
/-! part M6 -/
namespace HM
set_option autoImplicit false
/-! what halving finds -/
structure Least (m : Int) (g : Int → Bool) (r : Int) : Prop where
  lo : 0 ≤ r
  hi : r ≤ m
  no : 0 < r → g (r - 1) = false
  yes : r < m → g r = true
theorem Least.at_ {m n r : Int} {k : Int → Tr} {g : Int → Bool} (l : Least m g r) (hg : ∀ i, 0 ≤ i → i ≤ m → (g i = true ↔ n < pre k (i + 1))) (h0 : 0 ≤ n) (h1 : n < pre k (m + 1)) : 0 ≤ r ∧ r ≤ m ∧ pre k r ≤ n ∧ n < pre k (r + 1) := by
  refine ⟨l.lo, l.hi, ?_, ?_⟩
  · by_cases c : 0 < r
    · have e := l.no c
      have q := hg (r - 1) (by omega) (by have := l.hi; omega)
      rw [e] at q
      have q2 : ¬ n < pre k (r - 1 + 1) := fun z => by have := q.mpr z; cases this
      rw [show r - 1 + 1 = r by omega] at q2
      omega
    · have : r = 0 := by have := l.lo; omega
      subst this
      rw [pre_zero]; exact h0
  · by_cases c : r < m
    · exact (hg r l.lo l.hi).mp (l.yes c)
    · have : r = m := by have := l.hi; omega
      subst this
      exact h1
/-- wires_numbered -/
structure Wires (L : Lk) (bit heard own w : Int) (cs : Code × Code) (k n z o y x : Int) : Prop where
  fn : Least L.c (fun i => decide (k < thereAmt L heard own w cs (i + 1) 0 0)) n
  fz : Least (L.c - n) (fun i => decide (k < thereAmt L heard own w cs n (i + 1) 0)) z
  fo : Least (L.c - n - z) (fun i => decide (k < thereAmt L heard own w cs n z (i + 1))) o
  fy : Least L.d (fun i => decide (k - thereAmt L heard own w cs n z o < backAmt L bit heard (codeAt own w cs z o) (i + 1) 0)) y
  fx : Least (L.d - y) (fun i => decide (k - thereAmt L heard own w cs n z o < backAmt L bit heard (codeAt own w cs z o) y (i + 1))) x
section
variable {L : Lk} {h bit heard own w n z o y x k : Int} {cd : Code} {cs : Code × Code}
theorem dec_iff {p q : Prop} [Decidable p] (h : p ↔ q) : decide p = true ↔ q := by rw [decide_eq_true_eq]; exact h
theorem Wires.un (W : Wires L bit heard own w cs k n z o y x) (hb : bit = 0 ∨ bit = 1) (ho : own = 0 ∨ own = 1) (hh : heard < L.q) (hd : 0 ≤ L.d) (hc : 0 ≤ L.c) (hw : 1 ≤ w) (h0 : 0 ≤ k) (h1 : k < tot (tN L bit heard own w cs)) :
    Un (tN L bit heard own w cs) k [n, z, o, y, x] := by
  have a1 := W.fn.at_ (k := fun n => tZ L bit heard own w cs n) (n := k) (fun i a b => dec_iff (by rw [preN hb ho hh hd hw _ (by omega) (by omega)])) h0 (by unfold tN at h1; rw [tot_node] at h1; exact h1)
  obtain ⟨n0, n1, n2, n3⟩ := a1
  have eN := preN (cs := cs) hb ho hh hd hw n (by omega) (by omega)
  have eN' := pre_succ (fun n => tZ L bit heard own w cs n) n0
  have a2 := W.fz.at_ (k := fun z => tO L bit heard own w cs n z) (n := k - pre (fun n => tZ L bit heard own w cs n) n) (fun i a b => dec_iff (by rw [preZ hb ho hh hd hw _ (by omega) (by omega), eN]; omega)) (by omega) (by
    have : tot (tZ L bit heard own w cs n) = pre (fun z => tO L bit heard own w cs n z) (L.c - n + 1) := by unfold tZ; rw [tot_node]
    omega)
  obtain ⟨z0, z1, z2, z3⟩ := a2
  have eZ := preZ (n := n) (cs := cs) hb ho hh hd hw z (by omega) (by omega)
  have eZ' := pre_succ (fun z => tO L bit heard own w cs n z) z0
  have a3 := W.fo.at_ (k := fun o => tY L bit heard (codeAt own w cs z o)) (n := k - pre (fun n => tZ L bit heard own w cs n) n - pre (fun z => tO L bit heard own w cs n z) z) (fun i a b => dec_iff (by rw [preO (n := n) hb ho hh hd _ (by omega) (by omega), eN, eZ]; omega)) (by omega) (by
    have : tot (tO L bit heard own w cs n z) = pre (fun o => tY L bit heard (codeAt own w cs z o)) (L.c - n - z + 1) := by unfold tO; rw [tot_node]
    omega)
  obtain ⟨o0, o1, o2, o3⟩ := a3
  have eO := preO (n := n) (z := z) (cs := cs) (w := w) hb ho hh hd o (by omega) (by omega)
  have eO' := pre_succ (fun o => tY L bit heard (codeAt own w cs z o)) o0
  have a4 := W.fy.at_ (k := fun y => tX L bit heard (codeAt own w cs z o) y) (n := k - pre (fun n => tZ L bit heard own w cs n) n - pre (fun z => tO L bit heard own w cs n z) z - pre (fun o => tY L bit heard (codeAt own w cs z o)) o)
    (fun i a b => dec_iff (by rw [preY hb hh _ (by omega) (by omega), eN, eZ, eO]; omega)) (by omega) (by
    have : tot (tY L bit heard (codeAt own w cs z o)) = pre (fun y => tX L bit heard (codeAt own w cs z o) y) (L.d + 1) := by unfold tY; rw [tot_node]
    omega)
  obtain ⟨y0, y1, y2, y3⟩ := a4
  have eY := preY (cd := codeAt own w cs z o) hb hh y (by omega) (by omega)
  have eY' := pre_succ (fun y => tX L bit heard (codeAt own w cs z o) y) y0
  have a5 := W.fx.at_ (k := fun x => Tr.leaf (passB (codeAt own w cs z o) (decide (L.q ≤ heard + (if bit = 0 then y else x))))) (n := k - pre (fun n => tZ L bit heard own w cs n) n - pre (fun z => tO L bit heard own w cs n z) z - pre (fun o => tY L bit heard (codeAt own w cs z o)) o - pre (fun y => tX L bit heard (codeAt own w cs z o) y) y)
    (fun i a b => dec_iff (by rw [preX hb _ (by omega) (by omega), eN, eZ, eO, eY]; omega)) (by omega) (by
    have : tot (tX L bit heard (codeAt own w cs z o) y) = pre (fun x => Tr.leaf (passB (codeAt own w cs z o) (decide (L.q ≤ heard + (if bit = 0 then y else x))))) (L.d - y + 1) := by unfold tX; rw [tot_node]
    omega)
  obtain ⟨x0, x1, x2, x3⟩ := a5
  exact ⟨n0, n1, n2, n3, z0, z1, z2, z3, o0, o1, o2, o3, y0, y1, y2, y3, x0, x1, x2, x3, rfl⟩
end
/-- harm_numbered_in: k1 .. k4, what is left of the number behind each part -/
structure Numd (L : Lk) (h k : Int) (x : Ct) (k1 k2 k3 k4 : Int) : Prop where
  bit : (heardBef L h L.q ≤ k ∧ x.bit = 1 ∧ k1 = k - heardBef L h L.q) ∨ (k < heardBef L h L.q ∧ x.bit = 0 ∧ k1 = k)
  heard : Least (L.q - 1) (fun i => decide (k1 < heardBef L h (i + 1))) x.heard
  own : (lotsAmt L h (decide (x.bit = 0)) (lotsIn L (decide (x.bit = 0))) (suffic L x.heard) (backSize L) ≤ k1 - heardBef L h x.heard ∧ x.own = 1 ∧ k2 = k1 - heardBef L h x.heard - lotsAmt L h (decide (x.bit = 0)) (lotsIn L (decide (x.bit = 0))) (suffic L x.heard) (backSize L))
    ∨ (k1 - heardBef L h x.heard < lotsAmt L h (decide (x.bit = 0)) (lotsIn L (decide (x.bit = 0))) (suffic L x.heard) (backSize L) ∧ x.own = 0 ∧ k2 = k1 - heardBef L h x.heard)
  lots : Least (lotsIn L x.even - 1) (fun i => decide (k2 < lotsAmt L h x.even (i + 1) (suffic L x.heard) (backSize L))) x.lots
  rest : k3 = k2 - lotsAmt L h x.even x.lots (suffic L x.heard) (backSize L)
  done : (amt (codes h x.even false) (oldBef L x.even (x.lots + 1) - oldBef L x.even x.lots) (thereSize L) (suffic L x.heard) (backSize L) ≤ k3 ∧ x.done = true ∧ k4 = k3 - amt (codes h x.even false) (oldBef L x.even (x.lots + 1) - oldBef L x.even x.lots) (thereSize L) (suffic L x.heard) (backSize L))
    ∨ (k3 < amt (codes h x.even false) (oldBef L x.even (x.lots + 1) - oldBef L x.even x.lots) (thereSize L) (suffic L x.heard) (backSize L) ∧ x.done = false ∧ k4 = k3)
  wires : Wires L x.bit x.heard x.own (wanted L (x.lot L)) (codes h x.even x.done) k4 x.n x.z x.o x.y x.x
section
variable {L : Lk} {h : Int} {x : Ct}
/-- a content's digits are a tree's -/
theorem Ct.Ok.tree (hL : L.Ok) (X : x.Ok L) (h : Int) : HM.Ok (tA L h) x.digits := by
  have hb := X.bit
  have ho := X.own
  have h1 := X.heard1
  have l1 : x.lots < lotsIn L (decide (x.bit = x.own)) := X.lots1
  have t := X.there
  have b := X.back
  have n0 := X.n0
  have z0 := X.z0
  have o0 := X.o0
  have y0 := X.y0
  have x0 := X.x0
  exact ⟨by omega, by omega, X.heard0, by omega, by omega, by omega, X.lots0, by omega, b2_nn _, b2_le _, n0, by omega, z0, by omega, o0, by omega, y0, by omega, x0, by omega, trivial⟩
/-- its rank is the program's number -/
theorem Ct.Ok.rank_eq (hL : L.Ok) (X : x.Ok L) (h : Int) : rank (tA L h) x.digits = numIn L h x := by
  have hb := X.bit
  have ho := X.own
  have h1 := X.heard1
  have hd : 0 ≤ L.d := by have := hL.d1; omega
  have l1 : x.lots < lotsIn L (decide (x.bit = x.own)) := X.lots1
  have hw : 1 ≤ wanted L (lotOf L (decide (x.bit = x.own)) x.lots) := wanted_pos hL X.lots0 l1
  have t := X.there
  have b := X.back
  have n0 := X.n0
  have z0 := X.z0
  have o0 := X.o0
  have y0 := X.y0
  have x0 := X.x0
  have e : rank (tA L h) x.digits = pre (fun bit => tH L h bit) x.bit + (pre (fun heard => tR L h x.bit heard) x.heard + (pre (fun own => tL L h x.bit x.heard own) x.own + (pre (fun lots => tD L h x.bit x.heard x.own lots) x.lots
      + (pre (fun dn => tN L x.bit x.heard x.own (wanted L (lotOf L (decide (x.bit = x.own)) x.lots)) (codes h (decide (x.bit = x.own)) (decide (dn = 1)))) (b2 x.done)
      + (pre (fun n => tZ L x.bit x.heard x.own (wanted L (lotOf L (decide (x.bit = x.own)) x.lots)) (codes h (decide (x.bit = x.own)) (decide (b2 x.done = 1))) n) x.n
      + (pre (fun z => tO L x.bit x.heard x.own (wanted L (lotOf L (decide (x.bit = x.own)) x.lots)) (codes h (decide (x.bit = x.own)) (decide (b2 x.done = 1))) x.n z) x.z
      + (pre (fun o => tY L x.bit x.heard (codeAt x.own (wanted L (lotOf L (decide (x.bit = x.own)) x.lots)) (codes h (decide (x.bit = x.own)) (decide (b2 x.done = 1))) x.z o)) x.o
      + (pre (fun y => tX L x.bit x.heard (codeAt x.own (wanted L (lotOf L (decide (x.bit = x.own)) x.lots)) (codes h (decide (x.bit = x.own)) (decide (b2 x.done = 1))) x.z x.o) y) x.y
      + (pre (fun u => Tr.leaf (passB (codeAt x.own (wanted L (lotOf L (decide (x.bit = x.own)) x.lots)) (codes h (decide (x.bit = x.own)) (decide (b2 x.done = 1))) x.z x.o) (decide (L.q ≤ x.heard + (if x.bit = 0 then x.y else u))))) x.x + 0))))))))) := rfl
  have eb : decide (b2 x.done = 1) = x.done := by cases x.done <;> rfl
  rw [eb] at e
  rw [e]
  have p1 : pre (fun bit => tH L h bit) x.bit = (if x.bit = 1 then heardBef L h L.q else 0) := by
    rcases hb with q | q
    · rw [q, pre_zero, if_neg (by decide)]
    · rw [q, preA hL, if_pos rfl]
  have p2 := preH (h := h) hL hb x.heard X.heard0 (by omega)
  have p3 : pre (fun own => tL L h x.bit x.heard own) x.own = (if x.own = 1 then lotsAmt L h (decide (x.bit = 0)) (lotsIn L (decide (x.bit = 0))) (suffic L x.heard) (backSize L) else 0) := by
    rcases ho with q | q
    · rw [q, pre_zero, if_neg (by decide)]
    · rw [q, preR hL hb h1, if_pos rfl]
  have p4 := preL (h := h) hL hb ho h1 x.lots X.lots0 (by omega)
  have p5 : pre (fun dn => tN L x.bit x.heard x.own (wanted L (lotOf L (decide (x.bit = x.own)) x.lots)) (codes h (decide (x.bit = x.own)) (decide (dn = 1)))) (b2 x.done)
      = (if x.done = true then amt (codes h (decide (x.bit = x.own)) false) (oldBef L (decide (x.bit = x.own)) (x.lots + 1) - oldBef L (decide (x.bit = x.own)) x.lots) (thereSize L) (suffic L x.heard) (backSize L) else 0) := by
    cases x.done with
    | false => rw [show b2 false = 0 from rfl, pre_zero, if_neg Bool.false_ne_true]
    | true => rw [show b2 true = 1 from rfl, preD hL hb ho h1 X.lots0 l1, if_pos rfl]
  have p6 := preN (cs := codes h (decide (x.bit = x.own)) x.done) hb ho h1 hd hw x.n n0 (by omega)
  have p7 := preZ (n := x.n) (cs := codes h (decide (x.bit = x.own)) x.done) hb ho h1 hd hw x.z z0 (by omega)
  have p8 := preO (n := x.n) (z := x.z) (w := wanted L (lotOf L (decide (x.bit = x.own)) x.lots)) (cs := codes h (decide (x.bit = x.own)) x.done) hb ho h1 hd x.o o0 (by omega)
  have p9 := preY (cd := codeAt x.own (wanted L (lotOf L (decide (x.bit = x.own)) x.lots)) (codes h (decide (x.bit = x.own)) x.done) x.z x.o) hb h1 x.y y0 (by omega)
  have p10 := preX (L := L) (heard := x.heard) (cd := codeAt x.own (wanted L (lotOf L (decide (x.bit = x.own)) x.lots)) (codes h (decide (x.bit = x.own)) x.done) x.z x.o) (y := x.y) hb x.x x0 (by omega)
  rw [p1, p2, p3, p4, p5, p6, p7, p8, p9, p10]
  unfold numIn
  show _ = heardBef L h x.heard + _ + _ + _ + _ + thereAmt L x.heard x.own (wanted L (lotOf L (decide (x.bit = x.own)) x.lots)) (codes h (decide (x.bit = x.own)) x.done) x.n x.z x.o + backAmt L x.bit x.heard (codeAt x.own (wanted L (lotOf L (decide (x.bit = x.own)) x.lots)) (codes h (decide (x.bit = x.own)) x.done) x.z x.o) x.y x.x
  unfold Ct.even
  omega
theorem lot_old (L : Lk) (l : Lot) (a : Int) : (wanted L l ≤ a) ↔ (L.p ≤ a + lotOld l) := by
  cases l <;> simp only [wanted, lotOld] <;> omega
theorem pass_harm (h : Int) (even done ans old : Bool) (hh : h = 0 ∨ h = 1 ∨ h = 2 ∨ h = 3) : passB (if old = true then (codes h even done).1 else (codes h even done).2) ans = decide (harmOf even done ans old = h) := by
  rcases hh with rfl | rfl | rfl | rfl <;> cases even <;> cases done <;> cases ans <;> cases old <;> decide
/-- it hits where it has the harm -/
theorem Ct.hit_eq (x : Ct) (hh : h = 0 ∨ h = 1 ∨ h = 2 ∨ h = 3) : hit (tA L h) x.digits = decide (x.harm L = h) := by
  have e : hit (tA L h) x.digits = passB (codeAt x.own (wanted L (lotOf L (decide (x.bit = x.own)) x.lots)) (codes h (decide (x.bit = x.own)) (decide (b2 x.done = 1))) x.z x.o) (decide (L.q ≤ x.heard + (if x.bit = 0 then x.y else x.x))) := rfl
  have eb : decide (b2 x.done = 1) = x.done := by cases x.done <;> rfl
  rw [e, eb]
  unfold Ct.harm
  rw [← pass_harm h _ _ _ _ hh]
  unfold codeAt oldIn Ct.lot answers Ct.even
  by_cases c : wanted L (lotOf L (decide (x.bit = x.own)) x.lots) ≤ ownCopies x.own x.z x.o
  · rw [if_pos c, decide_eq_true ((lot_old _ _ _).mp c), if_pos (rfl : true = true)]
  · rw [if_neg c, decide_eq_false (fun z => c ((lot_old _ _ _).mpr z)), if_neg Bool.false_ne_true]
theorem full_A (hL : L.Ok) (h : Int) : Full (tA L h) := by
  have hd := hL.d1
  have hc := hL.c1
  have hp : 1 ≤ L.p := Int.le_trans hL.c1 hL.cp
  have hq : 1 ≤ L.q := Int.le_trans hL.d1 hL.dq
  refine ⟨by decide, fun bit _ _ => ⟨by omega, fun heard _ _ => ⟨by decide, fun own _ _ => ⟨?_, fun lots _ _ => ⟨by decide, fun dn _ _ => ⟨by omega, fun n _ n1 => ⟨by omega, fun z _ z1 => ⟨by omega, fun o _ o1 => ⟨by omega, fun y _ y1 => ⟨by omega, fun u _ _ => trivial⟩⟩⟩⟩⟩⟩⟩⟩⟩⟩
  unfold lotsIn; split <;> omega
/-- digits of the tree are a content's -/
theorem ok_ct (ds : List Int) (hO : HM.Ok (tA L h) ds) : ∃ x : Ct, x.digits = ds ∧ x.Ok L := by
  match ds, hO with
  | bit :: heard :: own :: lots :: dn :: n :: z :: o :: y :: u :: [], ⟨a0, a1, b0, b1, c0, c1, d0, d1, e0, e1, f0, f1, g0, g1, h0, h1, i0, i1, j0, j1, _⟩ =>
    refine ⟨⟨bit, heard, own, lots, decide (dn = 1), n, z, o, y, u⟩, ?_, ⟨by show bit = 0 ∨ bit = 1; omega, b0, by show heard < L.q; omega, by show own = 0 ∨ own = 1; omega, d0, ?_, f0, g0, h0, by show n + z + o ≤ L.c; omega, i0, j0, by show y + u ≤ L.d; omega⟩⟩
    · show [bit, heard, own, lots, b2 (decide (dn = 1)), n, z, o, y, u] = _
      have : b2 (decide (dn = 1)) = dn := by rw [b2_dec]; split <;> omega
      rw [this]
    · show lots < lotsIn L (decide (bit = own)); omega
theorem digits_inj {x y : Ct} (e : x.digits = y.digits) : x = y := by
  obtain ⟨a, b, c, d, dn, n, z, o, y1, x1⟩ := x
  obtain ⟨a', b', c', d', dn', n', z', o', y1', x1'⟩ := y
  simp only [Ct.digits, List.cons.injEq, and_true] at e
  obtain ⟨rfl, rfl, rfl, rfl, e5, rfl, rfl, rfl, rfl, rfl⟩ := e
  have : dn = dn' := by cases dn <;> cases dn' <;> first | rfl | exact absurd e5 (by decide)
  rw [this]
/-- THE NUMBERED ONE: its harm, its number -/
theorem Numd.is {k k1 k2 k3 k4 : Int} (N : Numd L h k x k1 k2 k3 k4) (hL : L.Ok) (hh : h = 0 ∨ h = 1 ∨ h = 2 ∨ h = 3) (h0 : 0 ≤ k) (h1 : k < counted L h) : x.Ok L ∧ x.harm L = h ∧ numIn L h x = k := by
  have hp : 1 ≤ L.p := Int.le_trans hL.c1 hL.cp
  have hq : 1 ≤ L.q := Int.le_trans hL.d1 hL.dq
  have hd : 0 ≤ L.d := by have := hL.d1; omega
  have hc : 0 ≤ L.c := by have := hL.c1; omega
  have t0 : k < tot (tA L h) := by rw [totA hL]; exact h1
  have hH := fun b hb => totH (h := h) (bit := b) hL hb
  -- the bit
  have A : (x.bit = 0 ∨ x.bit = 1) ∧ k1 = k - pre (fun bit => tH L h bit) x.bit ∧ 0 ≤ k1 ∧ k1 < heardBef L h L.q ∧ pre (fun bit => tH L h bit) x.bit ≤ k ∧ k < pre (fun bit => tH L h bit) (x.bit + 1) := by
    have c2 : counted L h = 2 * heardBef L h L.q := rfl
    rcases N.bit with ⟨a, b, c⟩ | ⟨a, b, c⟩
    · rw [b, preA hL, pre_succ _ (by decide), preA hL, hH 1 (.inr rfl)]
      refine ⟨.inr rfl, ?_, ?_, ?_, ?_, ?_⟩ <;> omega
    · rw [b, pre_zero, show (0 : Int) + 1 = 1 from rfl, preA hL]
      refine ⟨.inl rfl, ?_, ?_, ?_, ?_, ?_⟩ <;> omega
  obtain ⟨hb, e1, k10, k11, A1, A2⟩ := A
  -- heard
  have B := N.heard.at_ (k := fun heard => tR L h x.bit heard) (n := k1) (fun i a b => dec_iff (by rw [preH hL hb _ (by omega) (by omega)])) k10 (by rw [preH hL hb _ (by omega) (by omega), show L.q - 1 + 1 = L.q by omega]; exact k11)
  obtain ⟨b0, b1, B1, B2⟩ := B
  have hh1 : x.heard < L.q := by omega
  have eB := preH (h := h) hL hb x.heard b0 (by omega)
  have eB' := pre_succ (fun heard => tR L h x.bit heard) b0
  have tR' := totR (h := h) hL hb hh1
  have tR2 : tot (tR L h x.bit x.heard) = pre (fun own => tL L h x.bit x.heard own) (1 + 1) := by unfold tR; rw [tot_node]
  -- own
  have C : (x.own = 0 ∨ x.own = 1) ∧ k2 = k1 - pre (fun heard => tR L h x.bit heard) x.heard - pre (fun own => tL L h x.bit x.heard own) x.own ∧ pre (fun own => tL L h x.bit x.heard own) x.own ≤ k1 - pre (fun heard => tR L h x.bit heard) x.heard ∧ k1 - pre (fun heard => tR L h x.bit heard) x.heard < pre (fun own => tL L h x.bit x.heard own) (x.own + 1) := by
    have q1 := preR (h := h) hL hb hh1
    rcases N.own with ⟨a, b, c⟩ | ⟨a, b, c⟩
    · rw [b, q1]
      refine ⟨.inr rfl, ?_, ?_, ?_⟩ <;> omega
    · rw [b, pre_zero, show (0 : Int) + 1 = 1 from rfl, q1]
      refine ⟨.inl rfl, ?_, ?_, ?_⟩ <;> omega
  obtain ⟨ho, e2, C1, C2⟩ := C
  have c0 : 0 ≤ x.own := by omega
  have eC' := pre_succ (fun own => tL L h x.bit x.heard own) c0
  have tL2 : tot (tL L h x.bit x.heard x.own) = pre (fun lots => tD L h x.bit x.heard x.own lots) (lotsIn L (decide (x.bit = x.own)) - 1 + 1) := by unfold tL; rw [tot_node]
  have li : 1 ≤ lotsIn L (decide (x.bit = x.own)) := by unfold lotsIn; split <;> omega
  -- lots
  have fl : Least (lotsIn L (decide (x.bit = x.own)) - 1) (fun i => decide (k2 < lotsAmt L h (decide (x.bit = x.own)) (i + 1) (suffic L x.heard) (backSize L))) x.lots := N.lots
  have D := fl.at_ (k := fun lots => tD L h x.bit x.heard x.own lots) (n := k2) (fun i a b => dec_iff (by rw [preL hL hb ho hh1 _ (by omega) (by omega)])) (by omega) (by omega)
  obtain ⟨d0, d1, D1, D2⟩ := D
  have l1 : x.lots < lotsIn L (decide (x.bit = x.own)) := by omega
  have eD := preL (h := h) hL hb ho hh1 x.lots d0 (by omega)
  have eD' := pre_succ (fun lots => tD L h x.bit x.heard x.own lots) d0
  have k3e : k3 = k2 - lotsAmt L h (decide (x.bit = x.own)) x.lots (suffic L x.heard) (backSize L) := N.rest
  have hw : 1 ≤ wanted L (lotOf L (decide (x.bit = x.own)) x.lots) := wanted_pos hL d0 l1
  have tD2 : tot (tD L h x.bit x.heard x.own x.lots) = pre (fun dn => tN L x.bit x.heard x.own (wanted L (lotOf L (decide (x.bit = x.own)) x.lots)) (codes h (decide (x.bit = x.own)) (decide (dn = 1)))) (1 + 1) := by unfold tD; rw [tot_node]
  -- done
  have pD := preD (h := h) hL hb ho hh1 d0 l1
  have E : k4 = k3 - pre (fun dn => tN L x.bit x.heard x.own (wanted L (lotOf L (decide (x.bit = x.own)) x.lots)) (codes h (decide (x.bit = x.own)) (decide (dn = 1)))) (b2 x.done)
      ∧ pre (fun dn => tN L x.bit x.heard x.own (wanted L (lotOf L (decide (x.bit = x.own)) x.lots)) (codes h (decide (x.bit = x.own)) (decide (dn = 1)))) (b2 x.done) ≤ k3
      ∧ k3 < pre (fun dn => tN L x.bit x.heard x.own (wanted L (lotOf L (decide (x.bit = x.own)) x.lots)) (codes h (decide (x.bit = x.own)) (decide (dn = 1)))) (b2 x.done + 1) := by
    have dn := N.done
    unfold Ct.even at dn
    rcases dn with ⟨a, b, c⟩ | ⟨a, b, c⟩
    · rw [b, show b2 true = 1 from rfl, pD]
      refine ⟨?_, ?_, ?_⟩ <;> omega
    · rw [b, show b2 false = 0 from rfl, pre_zero, show (0 : Int) + 1 = 1 from rfl, pD]
      refine ⟨?_, ?_, ?_⟩ <;> omega
  obtain ⟨e4, E1, E2⟩ := E
  have eE' := pre_succ (fun dn => tN L x.bit x.heard x.own (wanted L (lotOf L (decide (x.bit = x.own)) x.lots)) (codes h (decide (x.bit = x.own)) (decide (dn = 1)))) (b2_nn x.done)
  have eb : decide (b2 x.done = 1) = x.done := by cases x.done <;> rfl
  have W : Wires L x.bit x.heard x.own (wanted L (lotOf L (decide (x.bit = x.own)) x.lots)) (codes h (decide (x.bit = x.own)) (decide (b2 x.done = 1))) k4 x.n x.z x.o x.y x.x := by
    rw [eb]; exact N.wires
  have U := W.un hb ho hh1 hd hc hw (by omega) (by omega)
  have all : Un (tA L h) k x.digits := by
    refine ⟨by omega, by omega, A1, A2, ?_⟩
    rw [← e1]
    refine ⟨b0, b1, B1, B2, ?_⟩
    refine ⟨c0, by omega, C1, C2, ?_⟩
    rw [← e2]
    refine ⟨d0, d1, D1, D2, ?_⟩
    have e3 : k2 - pre (fun lots => tD L h x.bit x.heard x.own lots) x.lots = k3 := by omega
    rw [e3]
    refine ⟨b2_nn _, b2_le _, E1, E2, ?_⟩
    rw [← e4]
    exact U
  obtain ⟨r1, r2, r3⟩ := un_ok _ _ _ all h0 t0
  obtain ⟨x', ex, ox⟩ := ok_ct _ r1
  have exx := digits_inj ex
  subst exx
  refine ⟨ox, ?_, ?_⟩
  · rw [Ct.hit_eq x' hh] at r2
    exact of_decide_eq_true r2
  · rw [← ox.rank_eq hL]; exact r3
end
end HM
/-! part M7 -/
namespace HM
set_option autoImplicit false
/-! the law's own next one -/
def wiresNext (L : Lk) (x : Ct) : Option Ct :=
  if x.y + x.x < L.d then some { x with x := x.x + 1 }
  else if x.y < L.d then some { x with y := x.y + 1, x := 0 }
  else if x.n + x.z + x.o < L.c then some { x with o := x.o + 1, y := 0, x := 0 }
  else if x.n + x.z < L.c then some { x with z := x.z + 1, o := 0, y := 0, x := 0 }
  else if x.n < L.c then some { x with n := x.n + 1, z := 0, o := 0, y := 0, x := 0 }
  else none
/-- the next lot's number -/
def lotsNext (L : Lk) (x : Ct) : Option Int := if x.lots + 1 < lotsIn L x.even then some (x.lots + 1) else none
def nextC (L : Lk) (x : Ct) : Option Ct :=
  match wiresNext L x with
  | some y => some y
  | none =>
    if x.done = false then some { x with done := true, n := 0, z := 0, o := 0, y := 0, x := 0 }
    else match lotsNext L x with
      | some l => some { x with lots := l, done := false, n := 0, z := 0, o := 0, y := 0, x := 0 }
      | none =>
        if x.own = 0 then some ⟨x.bit, x.heard, 1, 0, false, 0, 0, 0, 0, 0⟩
        else if x.heard + 1 < L.q then some ⟨x.bit, x.heard + 1, 0, 0, false, 0, 0, 0, 0, 0⟩
        else if x.bit = 0 then some ⟨1, 0, 0, 0, false, 0, 0, 0, 0, 0⟩ else none
section
variable {L : Lk} {h : Int} {x y : Ct}
theorem nxt_node (m : Int) (k : Int → Tr) (d : Int) (ds : List Int) : nxt (.node m k) (d :: ds) = match nxt (k d) ds with
    | some es => some (d :: es)
    | none => if d < m then some ((d + 1) :: zeros (k (d + 1))) else none := by
  rw [nxt]
  cases nxt (k d) ds <;> rfl
theorem nxt_up {m : Int} {k : Int → Tr} {d : Int} {ds es : List Int} (e : nxt (k d) ds = some es) : nxt (.node m k) (d :: ds) = some (d :: es) := by rw [nxt_node, e]
theorem nxt_on {m : Int} {k : Int → Tr} {d : Int} {ds : List Int} (e : nxt (k d) ds = none) (c : d < m) : nxt (.node m k) (d :: ds) = some ((d + 1) :: zeros (k (d + 1))) := by
  rw [nxt_node, e]
  exact if_pos c
theorem nxt_end {m : Int} {k : Int → Tr} {d : Int} {ds : List Int} (e : nxt (k d) ds = none) (c : ¬ d < m) : nxt (.node m k) (d :: ds) = none := by
  rw [nxt_node, e]
  exact if_neg c
/-- in the wires -/
theorem nxt_wires (hb : x.Ok L) (w : Int) (cs : Code × Code) : nxt (tN L x.bit x.heard x.own w cs) [x.n, x.z, x.o, x.y, x.x] = (wiresNext L x).map fun y => [y.n, y.z, y.o, y.y, y.x] := by
  have t := hb.there
  have b := hb.back
  have n0 := hb.n0
  have z0 := hb.z0
  have o0 := hb.o0
  have y0 := hb.y0
  have x0 := hb.x0
  unfold wiresNext
  unfold tN tZ tO tY tX
  by_cases c1 : x.y + x.x < L.d
  · rw [if_pos c1]
    exact nxt_up (nxt_up (nxt_up (nxt_up (nxt_on rfl (by omega)))))
  · rw [if_neg c1]
    have e1 : ∀ cd : Code, nxt (.node (L.d - x.y) fun u => .leaf (passB cd (decide (L.q ≤ x.heard + (if x.bit = 0 then x.y else u))))) [x.x] = none := fun cd => nxt_end rfl (by omega)
    by_cases c2 : x.y < L.d
    · rw [if_pos c2]
      exact nxt_up (nxt_up (nxt_up (nxt_on (e1 _) c2)))
    · rw [if_neg c2]
      have e2 : ∀ cd : Code, nxt (.node L.d fun y => .node (L.d - y) fun u => .leaf (passB cd (decide (L.q ≤ x.heard + (if x.bit = 0 then y else u))))) [x.y, x.x] = none := fun cd => nxt_end (e1 cd) c2
      by_cases c3 : x.n + x.z + x.o < L.c
      · rw [if_pos c3]
        exact nxt_up (nxt_up (nxt_on (e2 _) (by omega)))
      · rw [if_neg c3]
        have e3 := nxt_end (m := L.c - x.n - x.z) (d := x.o) (e2 (codeAt x.own w cs x.z x.o)) (k := fun o => .node L.d fun y => .node (L.d - y) fun u => .leaf (passB (codeAt x.own w cs x.z o) (decide (L.q ≤ x.heard + (if x.bit = 0 then y else u))))) (by omega)
        by_cases c4 : x.n + x.z < L.c
        · rw [if_pos c4]
          exact nxt_up (nxt_on e3 (by omega))
        · rw [if_neg c4]
          have e4 := nxt_end (m := L.c - x.n) (d := x.z) (k := fun z => .node (L.c - x.n - z) fun o => .node L.d fun y => .node (L.d - y) fun u => .leaf (passB (codeAt x.own w cs z o) (decide (L.q ≤ x.heard + (if x.bit = 0 then y else u))))) e3 (by omega)
          by_cases c5 : x.n < L.c
          · rw [if_pos c5]
            exact nxt_on e4 c5
          · rw [if_neg c5]
            exact nxt_end e4 c5
theorem wiresNext_same (e : wiresNext L x = some y) : y.bit = x.bit ∧ y.heard = x.heard ∧ y.own = x.own ∧ y.lots = x.lots ∧ y.done = x.done := by
  unfold wiresNext at e
  repeat' split at e
  all_goals first | (cases e; exact ⟨rfl, rfl, rfl, rfl, rfl⟩) | cases e
theorem nxt_all (X : x.Ok L) (h : Int) : nxt (tA L h) x.digits = (nextC L x).map Ct.digits := by
  have eb : decide (b2 x.done = 1) = x.done := by cases x.done <;> rfl
  have W := nxt_wires X (wanted L (lotOf L (decide (x.bit = x.own)) x.lots)) (codes h (decide (x.bit = x.own)) (decide (b2 x.done = 1)))
  have hb := X.bit
  have ho := X.own
  have l0 := X.lots0
  have h0 := X.heard0
  unfold nextC
  unfold tA tH tR tL tD Ct.digits
  cases e : wiresNext L x with
  | some y =>
    rw [e] at W
    obtain ⟨q1, q2, q3, q4, q5⟩ := wiresNext_same e
    have R := nxt_up (m := 1) (d := x.bit) (k := fun bit => tH L h bit) (nxt_up (m := L.q - 1) (d := x.heard) (k := fun heard => tR L h x.bit heard) (nxt_up (m := 1) (d := x.own) (k := fun own => tL L h x.bit x.heard own) (nxt_up (m := lotsIn L (decide (x.bit = x.own)) - 1) (d := x.lots) (k := fun lots => tD L h x.bit x.heard x.own lots)
      (nxt_up (m := 1) (d := b2 x.done) (k := fun dn => tN L x.bit x.heard x.own (wanted L (lotOf L (decide (x.bit = x.own)) x.lots)) (codes h (decide (x.bit = x.own)) (decide (dn = 1)))) W))))
    refine R.trans ?_
    show some _ = some [y.bit, y.heard, y.own, y.lots, b2 y.done, y.n, y.z, y.o, y.y, y.x]
    rw [q1, q2, q3, q4, q5]
  | none =>
    rw [e] at W
    show _ = Option.map _ (if x.done = false then _ else _)
    by_cases c1 : x.done = false
    · rw [if_pos c1]
      have R := nxt_up (m := 1) (d := x.bit) (k := fun bit => tH L h bit) (nxt_up (m := L.q - 1) (d := x.heard) (k := fun heard => tR L h x.bit heard) (nxt_up (m := 1) (d := x.own) (k := fun own => tL L h x.bit x.heard own) (nxt_up (m := lotsIn L (decide (x.bit = x.own)) - 1) (d := x.lots) (k := fun lots => tD L h x.bit x.heard x.own lots)
        (nxt_on (m := 1) (d := b2 x.done) (k := fun dn => tN L x.bit x.heard x.own (wanted L (lotOf L (decide (x.bit = x.own)) x.lots)) (codes h (decide (x.bit = x.own)) (decide (dn = 1)))) W (by rw [c1]; decide)))))
      refine R.trans ?_
      rw [c1]; rfl
    · have c1' : x.done = true := by cases q : x.done with | true => rfl | false => exact absurd q c1
      rw [if_neg c1]
      have R5 := nxt_end (m := 1) (d := b2 x.done) (k := fun dn => tN L x.bit x.heard x.own (wanted L (lotOf L (decide (x.bit = x.own)) x.lots)) (codes h (decide (x.bit = x.own)) (decide (dn = 1)))) W (by rw [c1']; decide)
      unfold lotsNext Ct.even
      by_cases c2 : x.lots + 1 < lotsIn L (decide (x.bit = x.own))
      · rw [if_pos c2]
        exact nxt_up (m := 1) (d := x.bit) (k := fun bit => tH L h bit) (nxt_up (m := L.q - 1) (d := x.heard) (k := fun heard => tR L h x.bit heard) (nxt_up (m := 1) (d := x.own) (k := fun own => tL L h x.bit x.heard own) (nxt_on (m := lotsIn L (decide (x.bit = x.own)) - 1) (d := x.lots) (k := fun lots => tD L h x.bit x.heard x.own lots) R5 (by omega))))
      · rw [if_neg c2]
        have R4 := nxt_end (m := lotsIn L (decide (x.bit = x.own)) - 1) (d := x.lots) (k := fun lots => tD L h x.bit x.heard x.own lots) R5 (by omega)
        show _ = Option.map _ (if x.own = 0 then _ else _)
        by_cases c3 : x.own = 0
        · rw [if_pos c3]
          refine (nxt_up (m := 1) (d := x.bit) (k := fun bit => tH L h bit) (nxt_up (m := L.q - 1) (d := x.heard) (k := fun heard => tR L h x.bit heard) (nxt_on (m := 1) (d := x.own) (k := fun own => tL L h x.bit x.heard own) R4 (by omega)))).trans ?_
          rw [c3]; rfl
        · rw [if_neg c3]
          have R3 := nxt_end (m := 1) (d := x.own) (k := fun own => tL L h x.bit x.heard own) R4 (by omega)
          by_cases c4 : x.heard + 1 < L.q
          · rw [if_pos c4]
            exact nxt_up (m := 1) (d := x.bit) (k := fun bit => tH L h bit) (nxt_on (m := L.q - 1) (d := x.heard) (k := fun heard => tR L h x.bit heard) R3 (by omega))
          · rw [if_neg c4]
            have R2 := nxt_end (m := L.q - 1) (d := x.heard) (k := fun heard => tR L h x.bit heard) R3 (by omega)
            by_cases c5 : x.bit = 0
            · rw [if_pos c5]
              refine (nxt_on (m := 1) (d := x.bit) (k := fun bit => tH L h bit) R2 (by omega)).trans ?_
              rw [c5]; rfl
            · rw [if_neg c5]
              exact nxt_end (m := 1) (d := x.bit) (k := fun bit => tH L h bit) R2 (by omega)
/-- what the next one is -/
theorem next_some (hL : L.Ok) (X : x.Ok L) (hh : h = 0 ∨ h = 1 ∨ h = 2 ∨ h = 3) (e : nextC L x = some y) : y.Ok L ∧ numIn L h y = numIn L h x + b2 (decide (x.harm L = h)) ∧ lexB x.digits y.digits = true := by
  have q := nxt_all X h
  rw [e] at q
  obtain ⟨a, b, c⟩ := nxt_some (tA L h) x.digits y.digits (full_A hL h) (X.tree hL h) q
  obtain ⟨y', ey, oy⟩ := ok_ct _ a
  have := digits_inj ey
  subst this
  rw [oy.rank_eq hL, X.rank_eq hL, Ct.hit_eq x hh] at b
  exact ⟨oy, b, c⟩
theorem next_none (hL : L.Ok) (X : x.Ok L) (hh : h = 0 ∨ h = 1 ∨ h = 2 ∨ h = 3) (e : nextC L x = none) : numIn L h x + b2 (decide (x.harm L = h)) = counted L h := by
  have q := nxt_all X h
  rw [e] at q
  have b := nxt_some.nxt_none (tA L h) x.digits (full_A hL h) (X.tree hL h) q
  rw [X.rank_eq hL, Ct.hit_eq x hh, totA hL] at b
  exact b
theorem num_in (hL : L.Ok) (X : x.Ok L) (hh : h = 0 ∨ h = 1 ∨ h = 2 ∨ h = 3) : 0 ≤ numIn L h x ∧ numIn L h x + b2 (decide (x.harm L = h)) ≤ counted L h := by
  have b := rank_in (tA L h) x.digits (X.tree hL h)
  rw [X.rank_eq hL, Ct.hit_eq x hh, totA hL] at b
  exact b
theorem num_inj (hL : L.Ok) (X : x.Ok L) (Y : y.Ok L) (hh : h = 0 ∨ h = 1 ∨ h = 2 ∨ h = 3) (a : x.harm L = h) (b : y.harm L = h) (e : numIn L h x = numIn L h y) : x = y :=
  digits_inj (rank_inj (X.tree hL h) (Y.tree hL h) (by rw [Ct.hit_eq x hh]; exact decide_eq_true a) (by rw [Ct.hit_eq y hh]; exact decide_eq_true b) (by rw [X.rank_eq hL, Y.rank_eq hL]; exact e))
theorem num_ord (hL : L.Ok) (X : x.Ok L) (Y : y.Ok L) (hh : h = 0 ∨ h = 1 ∨ h = 2 ∨ h = 3) (a : x.harm L = h) (b : y.harm L = h) : lexB x.digits y.digits = true ↔ numIn L h x < numIn L h y := by
  have q := rank_ord (X.tree hL h) (Y.tree hL h) (by rw [Ct.hit_eq x hh]; exact decide_eq_true a) (by rw [Ct.hit_eq y hh]; exact decide_eq_true b)
  rw [X.rank_eq hL, Y.rank_eq hL] at q
  exact q
theorem harm_range (x : Ct) : x.harm L = 0 ∨ x.harm L = 1 ∨ x.harm L = 2 ∨ x.harm L = 3 := by
  unfold Ct.harm harmOf
  (repeat' split) <;> omega
/-- one of the same number that has another harm is behind: what is found later than a step that does not count -/
theorem later_lex (hL : L.Ok) (X : x.Ok L) (Y : y.Ok L) (hh : h = 0 ∨ h = 1 ∨ h = 2 ∨ h = 3) (a : x.harm L ≠ h) (b : y.harm L = h) (e : numIn L h y = numIn L h x) : lexB x.digits y.digits = true := by
  rcases lex_tri (tA L h) x.digits y.digits (X.tree hL h) (Y.tree hL h) with r | r | r
  · exact absurd (by rw [digits_inj r]; exact b) a
  · exact r
  · have q := rank_lex (tA L h) y.digits x.digits (Y.tree hL h) (X.tree hL h) r
    rw [X.rank_eq hL, Y.rank_eq hL, Ct.hit_eq y hh, decide_eq_true b] at q
    have : b2 true = 1 := rfl
    omega
/-- some of each -/
theorem counted_pos (hL : L.Ok) (hh : h = 0 ∨ h = 1 ∨ h = 2 ∨ h = 3) : 1 ≤ counted L h := by
  have hd := hL.d1
  have hc := hL.c1
  have hp : 1 ≤ L.p := Int.le_trans hL.c1 hL.cp
  have hq : 1 ≤ L.q := Int.le_trans hL.d1 hL.dq
  have key : ∀ x : Ct, x.Ok L → x.harm L = h → 1 ≤ counted L h := fun x X e => by
    obtain ⟨a, b⟩ := num_in hL X hh
    rw [decide_eq_true e] at b
    have : b2 true = 1 := rfl
    omega
  have two : ∀ e : Bool, 1 ≤ lotsIn L e := fun e => by unfold lotsIn; split <;> omega
  rcases hh with rfl | rfl | rfl | rfl
  · refine key ⟨0, 0, 1, 0, false, 0, 0, 0, 0, 0⟩ ⟨.inl rfl, by decide, by show 0 < L.q; omega, .inr rfl, by decide, by show 0 < lotsIn L _; have := two (Ct.even ⟨0, 0, 1, 0, false, 0, 0, 0, 0, 0⟩); omega, by decide, by decide, by decide, by show 0 + 0 + 0 ≤ L.c; omega, by decide, by decide, by show 0 + 0 ≤ L.d; omega⟩ ?_
    show harmOf false false (decide (L.q ≤ 0 + 0)) (decide (L.p ≤ 0 + 0)) = 0
    rw [decide_eq_false (by omega), decide_eq_false (by omega)]; rfl
  · refine key ⟨0, 0, 1, 0, true, 0, 0, 0, 0, 0⟩ ⟨.inl rfl, by decide, by show 0 < L.q; omega, .inr rfl, by decide, by show 0 < lotsIn L _; have := two (Ct.even ⟨0, 0, 1, 0, true, 0, 0, 0, 0, 0⟩); omega, by decide, by decide, by decide, by show 0 + 0 + 0 ≤ L.c; omega, by decide, by decide, by show 0 + 0 ≤ L.d; omega⟩ rfl
  · refine key ⟨0, L.q - 1, 1, 0, false, 0, 0, 0, 1, 0⟩ ⟨.inl rfl, by show 0 ≤ L.q - 1; omega, by show L.q - 1 < L.q; omega, .inr rfl, Int.le_refl 0, by show 0 < lotsIn L _; have := two (Ct.even ⟨0, L.q - 1, 1, 0, false, 0, 0, 0, 1, 0⟩); omega, Int.le_refl 0, Int.le_refl 0, Int.le_refl 0, by show 0 + 0 + 0 ≤ L.c; omega, Int.zero_le_ofNat 1, Int.le_refl 0, by show 1 + 0 ≤ L.d; omega⟩ ?_
    show harmOf false false (decide (L.q ≤ L.q - 1 + 1)) (decide (L.p ≤ 0 + 0)) = 2
    rw [decide_eq_true (by omega)]; rfl
  · refine key ⟨0, L.q - 1, 0, L.p - 1, false, 0, 0, 1, 1, 0⟩ ⟨.inl rfl, by show 0 ≤ L.q - 1; omega, by show L.q - 1 < L.q; omega, .inl rfl, by show 0 ≤ L.p - 1; omega, by show L.p - 1 < L.p; omega, Int.le_refl 0, Int.le_refl 0, Int.zero_le_ofNat 1, by show 0 + 0 + 1 ≤ L.c; omega, Int.zero_le_ofNat 1, Int.le_refl 0, by show 1 + 0 ≤ L.d; omega⟩ ?_
    show harmOf true false (decide (L.q ≤ L.q - 1 + 1)) (decide (L.p ≤ 1 + lotOld (lotOf L true (L.p - 1)))) = 3
    have e : lotOld (lotOf L true (L.p - 1)) = L.p - 1 := by
      unfold lotOf
      by_cases c : L.p - 1 = 0
      · rw [if_pos c]; show 0 = _; omega
      · rw [if_neg c, if_pos rfl]; rfl
    rw [e, decide_eq_true (by omega), decide_eq_true (by omega)]; rfl
end
end HM
/-! part M8 -/
namespace HM
set_option autoImplicit false
/-! the law's own list of a small link's contents -/
def rng (n : Int) : List Int := (List.range n.toNat).map fun (i : Nat) => (i : Int)
structure Wi where
  n : Int
  z : Int
  o : Int
  y : Int
  x : Int
  deriving DecidableEq
def wiresC (L : Lk) : List Wi :=
  (rng (L.c + 1)).flatMap fun n => (rng (L.c + 1 - n)).flatMap fun z => (rng (L.c + 1 - n - z)).flatMap fun o => (rng (L.d + 1)).flatMap fun y => (rng (L.d + 1 - y)).map fun x => ⟨n, z, o, y, x⟩
def hostsAt (L : Lk) (k : Int) : Int × Int × Int := (k / (2 * L.q), (k / 2) % L.q, k % 2)
def allC (L : Lk) : List Ct :=
  (rng (4 * L.q)).flatMap fun k => (rng (lotsIn L (decide ((hostsAt L k).1 = (hostsAt L k).2.2)))).flatMap fun l => [false, true].flatMap fun dn => (wiresC L).map fun w => ⟨(hostsAt L k).1, (hostsAt L k).2.1, (hostsAt L k).2.2, l, dn, w.n, w.z, w.o, w.y, w.x⟩
def firstC : Ct := ⟨0, 0, 0, 0, false, 0, 0, 0, 0, 0⟩
def chainB (L : Lk) : Ct → List Ct → Bool
  | x, [] => (nextC L x).isNone
  | x, y :: r => decide (nextC L x = some y) && chainB L y r
def listB (L : Lk) : Bool := match allC L with
  | [] => false
  | x :: r => decide (x = firstC) && chainB L x r
def smallL : List Lk := [⟨1, 1, 1, 1⟩, ⟨1, 1, 1, 2⟩, ⟨1, 1, 2, 1⟩, ⟨1, 2, 1, 2⟩, ⟨1, 1, 1, 3⟩, ⟨1, 1, 2, 2⟩, ⟨1, 1, 3, 1⟩]
theorem small_ok : ∀ L ∈ smallL, L.Ok := by
  intro L h
  simp only [smallL, List.mem_cons, List.not_mem_nil, or_false] at h
  rcases h with rfl | rfl | rfl | rfl | rfl | rfl | rfl <;> exact ⟨by decide, by decide, by decide, by decide, by decide, by decide⟩
theorem small_list : smallL.all listB = true := by decide +kernel
section
variable {L : Lk} {h : Int}
theorem first_ok (hL : L.Ok) : firstC.Ok L ∧ numIn L h firstC = 0 := by
  obtain ⟨a, b⟩ := zeros_ok (tA L h) (full_A hL h)
  have e : zeros (tA L h) = firstC.digits := rfl
  rw [e] at a b
  obtain ⟨y, ey, oy⟩ := ok_ct _ a
  have := digits_inj ey
  subst this
  rw [oy.rank_eq hL] at b
  exact ⟨oy, b⟩
theorem chain_all (hL : L.Ok) (hh : h = 0 ∨ h = 1 ∨ h = 2 ∨ h = 3) : ∀ (r : List Ct) (x : Ct), x.Ok L → chainB L x r = true →
    (∀ (i : Nat) (y : Ct), ((x :: r).filter fun z => decide (z.harm L = h))[i]? = some y → y.Ok L ∧ y.harm L = h ∧ numIn L h y = numIn L h x + (i : Int)) ∧ numIn L h x + (((x :: r).filter fun z => decide (z.harm L = h)).length : Int) = counted L h
  | [], x, X, c => by
    have c1 : (nextC L x).isNone = true := c
    have e : nextC L x = none := by cases q : nextC L x with | none => rfl | some y => rw [q] at c1; cases c1
    have q := next_none hL X hh e
    by_cases d : x.harm L = h
    · have ef : ([x].filter fun z => decide (z.harm L = h)) = [x] := by simp [d]
      rw [ef]
      rw [decide_eq_true d] at q
      refine ⟨fun i y hi => ?_, q⟩
      match i, hi with
      | 0, hi =>
        have : x = y := Option.some.inj hi
        subst this
        exact ⟨X, d, by simp⟩
      | i + 1, hi => simp at hi
    · have ef : ([x].filter fun z => decide (z.harm L = h)) = [] := by simp [d]
      rw [ef]
      rw [decide_eq_false d] at q
      exact ⟨fun i y hi => by simp at hi, q⟩
  | y :: r, x, X, c => by
    have c1 : (decide (nextC L x = some y) && chainB L y r) = true := c
    rw [Bool.and_eq_true, decide_eq_true_eq] at c1
    obtain ⟨Y, e, _⟩ := next_some hL X hh c1.1
    obtain ⟨I1, I2⟩ := chain_all hL hh r y Y c1.2
    by_cases d : x.harm L = h
    · have ef : ((x :: y :: r).filter fun z => decide (z.harm L = h)) = x :: ((y :: r).filter fun z => decide (z.harm L = h)) := by rw [List.filter_cons, if_pos (decide_eq_true d)]
      rw [ef]
      rw [decide_eq_true d] at e
      have one : b2 true = 1 := rfl
      refine ⟨fun i z hi => ?_, by rw [List.length_cons]; omega⟩
      match i, hi with
      | 0, hi =>
        have : x = z := Option.some.inj hi
        subst this
        exact ⟨X, d, by simp⟩
      | i + 1, hi =>
        obtain ⟨a1, a2, a3⟩ := I1 i z (by simpa using hi)
        exact ⟨a1, a2, by omega⟩
    · have ef : ((x :: y :: r).filter fun z => decide (z.harm L = h)) = ((y :: r).filter fun z => decide (z.harm L = h)) := by rw [List.filter_cons, if_neg (by rw [decide_eq_true_eq]; exact d)]
      rw [ef]
      rw [decide_eq_false d] at e
      have zero : b2 false = 0 := rfl
      refine ⟨fun i z hi => ?_, by omega⟩
      obtain ⟨a1, a2, a3⟩ := I1 i z hi
      exact ⟨a1, a2, by omega⟩
def dueC (L : Lk) (h : Int) : List Ct := (allC L).filter fun z => decide (z.harm L = h)
theorem due_at (hL : L.Ok) (hl : listB L = true) (hh : h = 0 ∨ h = 1 ∨ h = 2 ∨ h = 3) : (∀ (i : Nat) (y : Ct), (dueC L h)[i]? = some y → y.Ok L ∧ y.harm L = h ∧ numIn L h y = (i : Int)) ∧ ((dueC L h).length : Int) = counted L h := by
  unfold dueC
  unfold listB at hl
  cases e : allC L with
  | nil => rw [e] at hl; cases hl
  | cons x r =>
    rw [e] at hl
    have hl : (decide (x = firstC) && chainB L x r) = true := hl
    rw [Bool.and_eq_true, decide_eq_true_eq] at hl
    obtain ⟨F, F0⟩ := first_ok (h := h) hL
    rw [← hl.1] at F F0
    obtain ⟨a, b⟩ := chain_all hL hh r x F hl.2
    refine ⟨fun i y hi => ?_, by omega⟩
    obtain ⟨a1, a2, a3⟩ := a i y hi
    exact ⟨a1, a2, by omega⟩
end
end HM
/-! part M9 -/
namespace HM
set_option autoImplicit false
/-! bounds -/
/-- between -2 ^ b and 2 ^ b -/
def Bd (b : Nat) (n : Int) : Prop := n.natAbs < 2 ^ b
def In (n : Int) : Prop := -(2 ^ 105) < n ∧ n < 2 ^ 105
theorem Bd.mono {a b : Nat} {n : Int} (h : Bd a n) (hab : a ≤ b) : Bd b n := Nat.lt_of_lt_of_le h (Nat.pow_le_pow_right (by decide) hab)
theorem Bd.add {a : Nat} {m n : Int} (h : Bd a m) (h' : Bd a n) : Bd (a + 1) (m + n) := by
  unfold Bd at *
  rw [Nat.pow_succ]
  omega
theorem Bd.sub {a : Nat} {m n : Int} (h : Bd a m) (h' : Bd a n) : Bd (a + 1) (m - n) := by
  unfold Bd at *
  rw [Nat.pow_succ]
  omega
theorem Bd.mul {a b : Nat} {m n : Int} (h : Bd a m) (h' : Bd b n) : Bd (a + b) (m * n) := by
  unfold Bd at *
  rw [Int.natAbs_mul, Nat.pow_add]
  exact Nat.mul_lt_mul'' h h'
theorem In.bd {n : Int} (h : In n) : Bd 105 n := by
  unfold Bd
  obtain ⟨h1, h2⟩ := h
  omega
theorem Bd.zero {b : Nat} : Bd b 0 := Nat.pow_pos (by decide)
theorem Bd.of_in {b : Nat} {n : Int} (h : In n) (hb : 105 ≤ b) : Bd b n := h.bd.mono hb
theorem ch_bd {n : Int} (k : Nat) (h : n < 2 ^ 110) (hk : k ≤ 4) : Bd 441 (ch n k) := by
  have h1 := ch_lt (n := n) (k := k) (b := 110) h
  have h0 := ch_nn n k
  have h2 : 2 ^ (110 * k) ≤ 2 ^ 440 := Nat.pow_le_pow_right (by decide) (by omega)
  have h3 : 2 ^ 440 < 2 ^ 441 := Nat.pow_lt_pow_right (by decide) (by decide)
  unfold Bd
  omega
theorem coded_bd {b : Nat} {c : Code} {s w : Int} (hs : Bd b s) (hw : Bd b w) : Bd (b + 1) (coded c s w) := by
  cases c
  · exact hw.mono (Nat.le_succ _)
  · exact Bd.zero
  · exact hs.mono (Nat.le_succ _)
  · exact hw.sub hs
section
variable {L : Lk}
theorem lotsIn_in (hL : L.Ok) (e : Bool) : In (lotsIn L e) := by
  have := hL.pb; have := hL.cp; have := hL.c1
  unfold lotsIn In
  split <;> constructor <;> omega
theorem q_in (hL : L.Ok) : In L.q := by
  have := hL.qb; have := hL.dq; have := hL.d1
  constructor <;> omega
theorem c_in (hL : L.Ok) : In L.c := by
  have := hL.pb; have := hL.cp; have := hL.c1
  constructor <;> omega
theorem d_in (hL : L.Ok) : In L.d := by
  have := hL.qb; have := hL.dq; have := hL.d1
  constructor <;> omega
theorem thereSize_bd (hL : L.Ok) : Bd 441 (thereSize L) := ch_bd 3 (by have := hL.pb; have := hL.cp; omega) (by decide)
theorem backSize_bd (hL : L.Ok) : Bd 441 (backSize L) := ch_bd 2 (by have := hL.qb; have := hL.dq; omega) (by decide)
theorem suffic_bd (hL : L.Ok) {i : Int} (h : In i) : Bd 441 (suffic L i) := ch_bd 2 (by have := hL.qb; have := hL.dq; have := hL.d1; have := h.2; omega) (by decide)
theorem sufBef_bd (hL : L.Ok) {i : Int} (h : In i) : Bd 442 (sufBef L i) := by
  have := hL.qb; have := hL.dq; have := hL.d1; have := h.2
  exact (ch_bd 3 (by omega) (by decide)).sub (ch_bd 3 (by omega) (by decide))
theorem plain_in (hL : L.Ok) {e : Bool} {i : Int} (h : In i) : In (plainOf L e i) := by
  have := hL.pb; have := hL.cp; have := hL.c1
  obtain ⟨h1, h2⟩ := h
  unfold plainOf In
  (repeat' split) <;> constructor <;> omega
theorem oldBef_bd (hL : L.Ok) {e : Bool} {i : Int} (h : In i) : Bd 600 (oldBef L e i) := by
  have p := plain_in (e := e) hL h
  have := hL.pb; have := hL.cp; have := hL.c1
  obtain ⟨h1, h2⟩ := id h
  obtain ⟨p1, p2⟩ := id p
  unfold oldBef
  have a := p.bd.mul (ch_bd (n := L.c - L.p + 3) 3 (by omega) (by decide))
  have b := (ch_bd (n := L.c - L.p + (i - plainOf L e i) + 4) 4 (by omega) (by decide)).sub (ch_bd (n := L.c - L.p + 4) 4 (by omega) (by decide))
  exact (a.add (b.mono (by decide))).mono (by decide)
theorem lotsMany_bd (hL : L.Ok) {i : Int} (h : In i) : Bd 600 (i * thereSize L) := (h.bd.mul (thereSize_bd hL)).mono (by decide)
theorem heardMany_bd (hL : L.Ok) {i : Int} (h : In i) : Bd 600 (i * backSize L) := (h.bd.mul (backSize_bd hL)).mono (by decide)
theorem backBef_bd (hL : L.Ok) {y x : Int} (hy : In y) (hx : In x) : Bd 600 (backBef L.d y x) := by
  have := hL.qb; have := hL.dq; have := hL.d1
  obtain ⟨h1, h2⟩ := id hy
  unfold backBef
  exact (((ch_bd (n := L.d + 2) 2 (by omega) (by decide)).sub (ch_bd (n := L.d - y + 2) 2 (by omega) (by decide))).add (Bd.of_in hx (by decide))).mono (by decide)
theorem max0_in {i : Int} (h : -(2 ^ 106) < i ∧ i < 2 ^ 106) : Bd 106 (max0 i) := by
  unfold max0 Bd
  split <;> omega
theorem ite_in {p : Prop} [Decidable p] {i : Int} (h : In i) : Bd 106 (if p then i else 0) := by
  split
  · exact Bd.of_in h (by decide)
  · exact Bd.zero
theorem ownBack_bd (hL : L.Ok) {bit w y x : Int} (hw : In w) (hy : In y) (hx : In x) : Bd 600 (ownBack L.d bit w y x) := by
  have := hL.qb; have := hL.dq; have := hL.d1
  obtain ⟨h1, h2⟩ := id hy
  obtain ⟨w1, w2⟩ := id hw
  obtain ⟨x1, x2⟩ := id hx
  unfold ownBack
  split
  · exact (((ch_bd (n := L.d - w + 2) 2 (by omega) (by decide)).sub (ch_bd (n := L.d - y - w + 2) 2 (by omega) (by decide))).add ((max0_in (i := x - w) (by constructor <;> omega)).mono (by decide))).mono (by decide)
  · have a : Bd 442 (if w < y then ch (L.d - w + 2) 2 - ch (L.d - y + 2) 2 else 0) := by
      split
      · exact (ch_bd (n := L.d - w + 2) 2 (by omega) (by decide)).sub (ch_bd (n := L.d - y + 2) 2 (by omega) (by decide))
      · exact Bd.zero
    exact (a.add ((ite_in hx).mono (by decide))).mono (by decide)
theorem thereBef_bd (hL : L.Ok) {n z o : Int} (hn : In n) (hz : In z) (ho : In o) : Bd 600 (thereBef L.c n z o) := by
  have := hL.pb; have := hL.cp; have := hL.c1
  obtain ⟨n1, n2⟩ := id hn
  obtain ⟨z1, z2⟩ := id hz
  unfold thereBef
  have a := (ch_bd (n := L.c + 3) 3 (by omega) (by decide)).sub (ch_bd (n := L.c - n + 3) 3 (by omega) (by decide))
  have b := a.add ((ch_bd (n := L.c - n + 2) 2 (by omega) (by decide)).mono (by decide))
  have c := b.sub ((ch_bd (n := L.c - n - z + 2) 2 (by omega) (by decide)).mono (by decide))
  exact (c.add (Bd.of_in ho (by decide))).mono (by decide)
theorem oldThere_bd (hL : L.Ok) {bit w n z o : Int} (hw : In w) (hn : In n) (hz : In z) (ho : In o) : Bd 600 (oldThere L.c bit w n z o) := by
  have := hL.pb; have := hL.cp; have := hL.c1
  obtain ⟨n1, n2⟩ := id hn
  obtain ⟨z1, z2⟩ := id hz
  obtain ⟨w1, w2⟩ := id hw
  obtain ⟨o1, o2⟩ := id ho
  unfold oldThere
  have a := (ch_bd (n := L.c - w + 3) 3 (by omega) (by decide)).sub (ch_bd (n := L.c - n - w + 3) 3 (by omega) (by decide))
  have b := a.add ((ch_bd (n := L.c - n - w + 2) 2 (by omega) (by decide)).mono (by decide))
  show Bd 600 (if bit = 1 then _ else _)
  split
  · have c := b.sub ((ch_bd (n := L.c - n - z - w + 2) 2 (by omega) (by decide)).mono (by decide))
    exact (c.add ((max0_in (i := o - w) (by constructor <;> omega)).mono (by decide))).mono (by decide)
  · have c := b.sub ((ch_bd (n := L.c - n - z + 2) 2 (by omega) (by decide)).mono (by decide))
    have d : Bd 444 (if w < z then ch (L.c - w + 3) 3 - ch (L.c - n - w + 3) 3 + ch (L.c - n - w + 2) 2 - ch (L.c - n - z + 2) 2 else ch (L.c - w + 3) 3 - ch (L.c - n - w + 3) 3) := by
      split
      · exact c
      · exact a.mono (by decide)
    exact (d.add ((ite_in ho).mono (by decide))).mono (by decide)
end
end HM
/-! part R1 -/
namespace HW
open PySem PySem.Spec PyProof.Rows L2
section
variable {X : Cx}
/-! ### sum of a tuple of ints -/
theorem sum_tupleG {prog : Program} {w : World} {A : Around} {E : Value → Shared → Prop} {s : Shared} {l : Addr} {xs : Array (Int × Tok)} {Q : Value → Shared → Prop} (hh : A.handled = none) (hl : s.heap.IsTuple l (intItems xs))
    (h : ∀ h' tk t', (∀ b o, s.heap.get? b = some o → h'.get? b = some o) → Q (.int (preSum (numAt xs) xs.size) t') { s with heap := h', toks := tk }) :
    wpAny (model prog w) A (call (.builtin "sum") [.ref l]) Q E s := by
  have hlt : l < s.heap.objs.size := by
    obtain ⟨_, e, _⟩ := hl
    exact Heap.lt_size e
  refine call_sum_walkG (wpAny_pyIter_tuple hl ?_)
  refine ⟨s.heap.objs.size, [s.heap.objs.size, l], [s.heap.objs.size], (intItems xs).size, _, _, numAt xs, rfl, Walks.tuple (A := A.in1) hh _ l (Nat.ne_of_lt hlt) (intItems xs), ⟨⟨_, Heap.get?_push_size _ rfl, rfl, rfl⟩, hl.push _⟩, fun b hb => ?_, (fun _ _ => intItems_at), fun h' tk t' hk => ?_⟩
  · show b < (s.heap.push _).objs.size
    rw [Heap.size_push]
    rcases List.mem_cons.mp hb with e | hb
    · rw [e]
      exact Nat.lt_succ_self _
    · have e : b = l := by simpa using hb
      rw [e]
      exact Nat.lt_succ_of_lt hlt
  · have q := h h' tk t' fun b o e => hk b o (fun z => by
      have z : b = s.heap.objs.size := by simpa using z
      rw [z] at e
      exact absurd (Heap.lt_size e) (Nat.lt_irrefl _)) (Heap.get?_push_of_some _ e)
    simpa [intItems] using q
def rSumT (K : PySem.W.Frag) : List V → Hp → VK → Prop := fun vs H Q => ∃ (a : Addr) (ns : List Int), vs = [V.ref a] ∧ SqT K H a (ns.map V.int) ∧ Q (.int ns.sum) H
theorem cr_sumT (hc : X.calm = true) : CallR X (.builtin "sum") (rSumT X.K) := by
  intro pins s σ H vs us Q I r h
  obtain ⟨a, ns, rfl, hs, q⟩ := h
  obtain ⟨its, rv, ht, _⟩ := I.tuple hs
  rw [Vals.ref1 r]
  obtain ⟨xs, e⟩ := rv.ints.allInts.items
  have hn : numsOf (intItems xs).toList = ns := by rw [← e]; exact rv.ints.numsOf
  rw [nums_intItems] at hn
  rw [e] at ht
  refine sum_tupleG (xs := xs) (I.ok.hd hc) ?_ fun h' tk t' hk => ?_
  · obtain ⟨o, ho, hcl, n, hd⟩ := ht
    exact ⟨o, ho, hcl, n, hd⟩
  · rw [preSum_eq, List.take_of_length_le (by simp), hn]
    exact ⟨.int _, H, I.kept hk, ⟨_, rfl⟩, q⟩
/-! ### repr of data -/
theorem Reads.refs {h : Heap} {v : Value} {d : PyData} {as : List Addr} (r : Reads h v d as) (hn : d.hasDict = false) : (∃ a, v = .ref a) ∨ (v = .none ∧ d = .none) ∨ (∃ b, v = .bool b ∧ d = .bool b) ∨ (∃ i t, v = .int i t ∧ d = .int i) ∨ (∃ x t, v = .str x t ∧ d = .str x) := by
  cases r with
  | none => exact .inr (.inl ⟨rfl, rfl⟩)
  | bool b => exact .inr (.inr (.inl ⟨b, rfl, rfl⟩))
  | int i t => exact .inr (.inr (.inr (.inl ⟨i, t, rfl, rfl⟩)))
  | str x t => exact .inr (.inr (.inr (.inr ⟨x, t, rfl, rfl⟩)))
  | list => exact .inl ⟨_, rfl⟩
  | tuple => exact .inl ⟨_, rfl⟩
  | dict => exact .inl ⟨_, rfl⟩
def rRepr (K : PySem.W.Frag) : List V → Hp → VK → Prop := fun xs H Q => ∃ v d, xs = [v] ∧ Dp K H v d ∧ (d.showable = true ∧ d.hasDict = false ∧ d.depth ≤ 60 ∧ d.shown.length ≤ sizeLine) ∧ Q (.str d.shown) H
theorem call_reprD (hg : X.A.guards = some []) (hu : X.A.units + 64 < cLine) : CallR X (.builtin "repr") (rRepr X.K) := by
  intro pins s σ H vs us Q I r h
  obtain ⟨v, d, rfl, hd, ⟨h1, h2, h3, h4⟩, q⟩ := h
  obtain ⟨u, rfl, ru⟩ := vals1 r
  obtain ⟨as, rd⟩ := Dp.reads I d v u hd ru
  rcases Reads.refs rd h2 with ⟨a, rfl⟩ | ⟨rfl, rfl⟩ | ⟨b, rfl, rfl⟩ | ⟨i, t, rfl, rfl⟩ | ⟨x, t, rfl, rfl⟩
  · exact repr_of_reads' rd h1 (fun z => by rw [h2] at z; cases z) hg (by omega) (fun _ _ e => e) (fun h' u tk hk => ⟨.str _, H, I.kept hk, ⟨_, rfl⟩, q⟩) h4
  · refine PySem.P.repr_of_none ⟨.str _, H, I.tok _, ⟨_, rfl⟩, ?_⟩
    simp only [PyData.shown] at q
    exact q
  · refine PySem.P.repr_of_bool ⟨.str _, H, I.tok _, ⟨_, rfl⟩, ?_⟩
    simp only [PyData.shown] at q
    cases b <;> exact q
  · have hz : i.natAbs.log2 < 1920 := by simpa [PyData.showable] using h1
    refine PySem.P.repr_of_int hz ⟨.str _, H, I.tok _, ⟨_, rfl⟩, ?_⟩
    simp only [PyData.shown] at q
    exact q
  · have hz : (reprText x).length ≤ sizeLine := by simpa only [PyData.shown] using h4
    refine PySem.P.repr_of_str (hsz := hz) ⟨.str _, H, I.tok _, ⟨_, rfl⟩, ?_⟩
    simp only [PyData.shown] at q
    exact q
/-! ### > of alike data -/
def rGtD (K : PySem.W.Frag) : R2 := fun x y H Q => ∃ d e, Dp K H x d ∧ Dp K H y e ∧ (PySem.W.alike d e = true ∧ d ≠ .none ∧ d.depth ≤ 60) ∧ Q (.bl (PySem.W.dataLt e d)) H
theorem op_gtD (hu : X.A.units + 64 < cLine) : OpR X (compareOp .Gt) (rGtD X.K) := by
  intro pins s σ H x y v u Q I rx ry h
  obtain ⟨d, e, hd, he, ⟨h1, h2, h3⟩, q⟩ := h
  obtain ⟨as, r1⟩ := Dp.reads I d x v hd rx
  obtain ⟨bs, r2⟩ := Dp.reads I e y u he ry
  exact PySem.W.gt_data r1 r2 h1 h2 (by have := Nat.min_le_left d.depth e.depth; omega) ⟨.bl _, H, I, rfl, q⟩
/-! ### ** of greater bases -/
def CPowW (i j : Int) : Prop := 0 ≤ j ∧ (Builtin.Int.intBits i : Int) * j ≤ 2 ^ 27
theorem op_powW : OpR X (binaryOp .Pow) (rI CPowW fun i j => .int (i ^ j.toNat)) := opI fun _ _ _ _ _ _ _ hc q => pow_int hc.1 hc.2 q
end
end HW
/-! part R2 -/
namespace HW
open PySem PySem.Spec PyProof.Rows L2
/-! ### a promise that is kept where no repr is under way -/
structure FnG (P : Program) (w : World) (K : PySem.W.Frag) (mg : Str → Option Value) (base : Heap) (k : Nat) (f : Addr) (fd : FuncData) (ps : List Str) (sp : Sp) : Prop where
  len : ∀ vs H Q E, sp vs H Q E → vs.length = ps.length
  go : ∀ (A : Around) (fr : List Env) (s : Shared) (H : Hp) (ar : Args) (us : List Value) (vs : List V) (Q : VK) (E : XK), Room k A → A.guards = some [] → Env0 P w K mg base A fr s H →
    BindsTo s fd ar (ps.zip us) → Vals vs us → sp vs H Q E → codeAny (model P w) A (.call (.ref f) ar) (CR L2.CX0 fr P w H s Q E) s
section
variable {P : Program} {w : World} {K : PySem.W.Frag} {mg : Str → Option Value} {base : Heap} {f : Addr} {fd : FuncData} {k : Nat} {sp : Sp}
theorem fng_of {x qual : Str} {ar : Arguments} {body : List Stmt} {sc : Scope} {N ps : List Str} (F : FunD K x qual ar body sc [] [] f fd) (S : FnScope N ps sc) (len : ∀ vs H Q E, sp vs H Q E → vs.length = ps.length)
    (hb : ∀ (cdv : Value) (A : Around) (fr : List Env) (s : Shared) (H : Hp) (vs : List V) (Q : VK) (E : XK), Room k (A.deeper (envOfC qual sc s.heap.objs.size f cdv)) → (A.deeper (envOfC qual sc s.heap.objs.size f cdv)).guards = some [] → sp vs H Q E →
      ∃ t, PSs (cxOf L2.CX0 P w K mg base N qual sc f cdv A fr s H E) body t ∧ t { nx := fun _ H' => Q .non H', rt := Q } (L2.start N vs) H) : FnG P w K mg base (k + 1) f fd ps sp := by
  obtain ⟨oc, od, dV, kV, doc, pm, an, cdv, ct, osl, rfl, lk, hcd, _, _⟩ := F.ex
  refine ⟨len, fun A fr s H ag us vs Q E hr hg e0 bt r hs => ?_⟩
  exact LamX.run_ofS lk hcd S hr e0 bt r (len _ _ _ _ hs) fun hr2 => hb cdv A fr s H vs Q E hr2 hg hs
end
section
variable {X : Cx} {k : Nat} {f : Addr} {fd : FuncData} {ps : List Str} {sp : Sp} {x : Str} {p pos : Pos} {e : Expr} {es : List Expr} {t : TA}
theorem callG_end {pins : List (Addr × Obj)} {σ : L2.St} {H : Hp} {s : Shared} {Q : VK} {us : List Value} {vs : List V} (F : FnG X.prog X.w X.K X.mg X.base k f fd ps sp) (hr : Room k X.A) (hg : X.A.guards = some []) (hb : Binds X.K fd ps [])
    (I : Inv X pins σ H s) (r : Vals vs us) (h : sp vs H Q E0) : wpAny (model X.prog X.w) X.A (call (.ref f) us) (EP X pins σ Q) X.xe s := by
  have hl : (us ++ []).length = ps.length := by rw [List.append_nil, ← r.length]; exact F.len _ _ _ _ h
  have hB := hb s us I.kIn hl
  rw [List.append_nil] at hB
  refine wpAny_call (codeAny_mono (F.go X.A X.stack s H ⟨us, []⟩ us vs Q E0 hr hg I.env0 hB r h) fun rs s' hq => ?_)
  match rs, hq with
  | .ok (.ret u), hq => exact I.after hq
theorem pe_callG (F : FnG X.prog X.w X.K X.mg X.base k f fd ps sp) (hr : Room k X.A) (hg : X.A.guards = some []) (hgl : Gl X x) (hm : X.mg x = some (.ref f)) (hk : PySem.W.keepIn X.K (.ref f) = true) (hb : Binds X.K fd ps [])
    (ha : PA X (e :: es) t) (hdb : (x == ("__debug__" : Str)) = false := by decide) (he : starEach (e :: es) X.env = (false, eval e X.env) :: starEach es X.env := by rfl) (hpl : (backTo pos (starEach es X.env)).any (·.1) = false := by rfl) :
    PE X (.Call (.Name x p) (e :: es) [] pos) (fun σ H Q => t σ H fun vs H1 => sp vs H1 Q E0) := by
  refine ⟨fun pins s σ H Q I h => ?_⟩
  refine wpAny_Call_Name_kw (ld_glob I hgl hm ?_ hdb)
  refine PySem.W.callWith_K (h₀ := X.base) I.ok.mod.kin hk (thn (ha.run pos pins s σ H _ I h) fun us s1 hx => ?_) he hpl
  obtain ⟨vs, H1, I1, r, q⟩ := hx
  exact ⟨I1.kIn, callG_end F hr hg hb I1 r q⟩
end
/-! ### a call whose arguments all are keywords -/
section
variable {X : Cx} {k : Nat} {f : Addr} {fd : FuncData} {ps ks : List Str} {sp : Sp} {x : Str} {p pos : Pos} {kws : List Keyword} {tk : TA}
/-- perm: how the keywords' values stand among the parameters -/
structure KwAll (K : PySem.W.Frag) (fd : FuncData) (ps ks : List Str) (perm : {α : Type} → List α → List α) : Prop where
  to : ∀ (s : Shared) (ws : List Value), K.In s.heap → ws.length = ks.length → BindsTo s fd ⟨[], ks.zip ws⟩ (ps.zip (perm ws))
  rel : ∀ {zs : List V} {ws : List Value}, Vals zs ws → Vals (perm zs) (perm ws)
theorem pe_callKw {perm : {α : Type} → List α → List α} (F : FnOk X.prog X.w X.K X.mg X.base L2.CX0 k f fd ps sp) (hr : Room k X.A) (hg : Gl X x) (hm : X.mg x = some (.ref f)) (hk : PySem.W.keepIn X.K (.ref f) = true) (hb : KwAll X.K fd ps ks perm)
    (hkw : PK X kws tk) (hall : (backToKw pos (keywordEach kws X.env)).all (·.1.isSome) = true := by rfl) (hks : (backToKw pos (keywordEach kws X.env)).filterMap (·.1) = ks := by rfl) (hdb : (x == ("__debug__" : Str)) = false := by decide)
    (hpl : ((backTo pos (starEach [] X.env)).any (·.1) || (backToKw pos (keywordEach kws X.env)).any (·.1.isNone)) = false := by rfl) :
    PE X (.Call (.Name x p) [] kws pos) (fun σ H Q => tk σ H fun zs H1 => zs.length = ks.length ∧ sp (perm zs) H1 Q E0) := by
  refine ⟨fun pins s σ H Q I h => ?_⟩
  refine wpAny_Call_Name_kw (ld_glob I hg hm ?_ hdb)
  refine PySem.W.callWith_KW0 (h₀ := X.base) I.ok.mod.kin hk hall ?_ hpl
  refine thn (hkw.run pos pins s σ H _ I h) fun ws s2 hx => ?_
  obtain ⟨zs, H2, I2, rz, l2, q2⟩ := hx
  refine ⟨I2.kIn, ?_⟩
  rw [hks]
  refine wpAny_call (codeAny_mono (F.run X.A X.stack s2 H2 ⟨[], ks.zip ws⟩ (perm ws) (perm zs) Q E0 hr I2.env0 (hb.to s2 ws I2.kIn (rz.length.symm.trans l2)) (hb.rel rz) q2) fun rs s' hq => ?_)
  match rs, hq with
  | .ok (.ret u), hq => exact I2.after hq
end
/-! ### the end -/
section
variable {P : Program} {w : World} {K : PySem.W.Frag}
/-- what is tracked at the law's entry: the code tables, the script (where it is none of the module's objects) -/
def H0 (K : PySem.W.Frag) (T : List Addr) (a : Addr) (o : Obj) (xs : List V) : Hp := fun b => if b ∈ T then some (.tbl #[]) else if b = a ∧ K.lookup a = none then some (.frz o (.lst xs)) else none
theorem H0_cases {T : List Addr} {a b : Addr} {o : Obj} {xs : List V} : (b ∈ T ∧ H0 K T a o xs b = some (.tbl #[])) ∨ (b ∉ T ∧ b = a ∧ K.lookup a = none ∧ H0 K T a o xs b = some (.frz o (.lst xs))) ∨ (b ∉ T ∧ ¬ (b = a ∧ K.lookup a = none) ∧ H0 K T a o xs b = none) := by
  unfold H0
  by_cases h : b ∈ T
  · exact .inl ⟨h, if_pos h⟩
  · by_cases h2 : b = a ∧ K.lookup a = none
    · exact .inr (.inl ⟨h, h2.1, h2.2, by rw [if_neg h, if_pos h2]⟩)
    · exact .inr (.inr ⟨h, h2, by rw [if_neg h, if_neg h2]⟩)
/-- the law's def called from the caller, tables and script tracked -/
theorem call_end {mg mb : Str → Option Value} {k : Nat} {fa a : Addr} {cs : List (Addr × Addr)} {fd : FuncData} {x : Str} {sp : Sp} {s1 : Shared} {vs : List Value} {ns : List Int}
    (KX : K.In s1.heap) (hns : s1.heap.Ns mainGlobals mg) (hb : s1.heap.Ns builtinsNs mb) (hbb : ∀ y : Str, y ≠ "__name__" → mb y = bootBuiltins y) (hlim : s1.heap.NoLimit) (hg : s1.gens = #[])
    (hT : ∀ q ∈ cs, s1.heap.get? q.2 = some { cls := .none, data := .fields #[] }) (nT : ∀ q ∈ cs, K.lookup q.2 = none) (C : ∀ q ∈ cs, PySem.W.CodeHd s1.heap q.1 q.2)
    (hbm : ∃ (bm : Addr) (ob : Obj), mg "__builtins__" = some (.ref bm) ∧ bm ≠ builtinsNs ∧ s1.heap.get? bm = some ob ∧ ob.cls = .type "module" ∧ ob.dict = some builtinsNs ∧ ob.data = .plain)
    (ha : s1.heap.get? a = some { cls := .type "list", data := .seq vs.toArray }) (hi : IntsAre vs ns) (hl : ns.length ≤ sizeLine) (hr : Room k callerA)
    (F : ∀ base : Heap, K.In base → base.Ns mainGlobals mg → (∀ q ∈ cs, LamX.TabB base mg q.1 q.2) → FnG P w K mg base k fa fd [x] sp) (hbind : ∀ (s : Shared) (u : Value), BindsTo s fd ⟨[u], []⟩ [(x, u)])
    (hsp : ∀ H : Hp, (∀ q ∈ cs, H q.2 = some (.tbl #[])) → SqL K H a (ns.map V.int) → sp [.ref a] H (fun v _ => v = .bl true) E0) :
    codeAny (model P w) callerA (.call (.ref fa) ⟨[.ref a], []⟩) (fun r s' => r = .ok (.ret (.bool true)) ∧ OldK s1.heap s'.heap ∧ s'.os = s1.os ∧ AllBare s'.gens) s1 := by
  have rv := vals_ints hi
  have lenV := hi.length
  have tabT : ∀ b, b ∈ cs.map (·.2) → s1.heap.get? b = some { cls := .none, data := .fields #[] } ∧ K.lookup b = none := fun b hb => by
    obtain ⟨q, hq, e⟩ := List.mem_map.mp hb
    exact e ▸ ⟨hT q hq, nT q hq⟩
  have aT : a ∉ cs.map (·.2) := fun z => by
    have q := (tabT a z).1
    rw [ha] at q
    exact nomatch congrArg Obj.data (Option.some.inj q)
  generalize eH : H0 K (cs.map (·.2)) a { cls := .type "list", data := .seq vs.toArray } (ns.map V.int) = H
  have cas : ∀ b, _ := fun b => H0_cases (K := K) (T := cs.map (·.2)) (a := a) (b := b) (o := { cls := .type "list", data := .seq vs.toArray }) (xs := ns.map V.int)
  rw [eH] at cas
  -- what is not tracked stands in the base
  have inB : ∀ {b : Addr} {o : Obj}, s1.heap.get? b = some o → H b = none → (hidT s1.heap H).get? b = some o := fun e n => hidT_get e n
  have free : ∀ {b : Addr} {o : Obj}, s1.heap.get? b = some o → (∀ us n, o.data ≠ .seq us n) → o.data ≠ .fields #[] → H b = none := fun {b o} e h1 h2 => by
    rcases cas b with ⟨z, _⟩ | ⟨_, z, _, _⟩ | ⟨_, _, z⟩
    · rw [(tabT b z).1] at e
      cases e
      exact absurd rfl h2
    · rw [z, ha] at e
      cases e
      exact absurd rfl (h1 _ _)
    · exact z
  have nsB : ∀ {b : Addr} {m : Str → Option Value}, s1.heap.Ns b m → (hidT s1.heap H).Ns b m := fun {b m} ⟨o, es, ep, e, d, r⟩ => ⟨o, es, ep, inB e (free e (fun us n z => by rw [d] at z; cases z) fun z => by rw [d] at z; cases z), d, r⟩
  have kinB : K.In (hidT s1.heap H) := fun b o e => inB (KX b o e) (by
    rcases cas b with ⟨z, _⟩ | ⟨_, z, z2, _⟩ | ⟨_, _, z⟩
    · rw [(tabT b z).2] at e; cases e
    · rw [z, z2] at e; cases e
    · exact z)
  have modB : L2.Mod K mg (hidT s1.heap H) := ⟨kinB, nsB hns, ⟨mb, nsB hb, hbb⟩, let ⟨mc, h1, h2⟩ := hlim; ⟨mc, nsB h1, h2⟩⟩
  have tabB : ∀ q ∈ cs, LamX.TabB (hidT s1.heap H) mg q.1 q.2 := fun q hq => by
    have hTq := hT q hq
    refine ⟨?_, ?_, fun z => ?_⟩
    · obtain ⟨o, us, file, tf, flags, tg, inF, text, tt, e1, r1, r2, r3, r4, r5, r6, r7, r8, hne⟩ := C q hq
      refine ⟨o, us, file, tf, flags, tg, inF, text, tt, inB e1 (free e1 (fun vs n z => by rw [r2] at z; cases z) fun z => ?_), r1, r2, r3, r4, r5, r6, r7, r8, hne⟩
      rw [r2] at z
      cases z
      simp at r3
    · obtain ⟨bm, ob, b1, b2, b3, b4, b5, b6⟩ := hbm
      refine ⟨bm, ob, b1, b2, fun z => ?_, fun z => ?_, inB b3 (free b3 (fun vs n z => by rw [b6] at z; cases z) fun z => by rw [b6] at z; cases z), b4, b5, b6⟩
      · obtain ⟨o, es, ep, e, hd, _⟩ := hns
        rw [z, e] at b3
        cases b3
        rw [hd] at b6
        cases b6
      · rw [z, hTq] at b3
        cases b3
        cases b6
    · obtain ⟨o, es, ep, e, hd, _⟩ := hns
      rw [z, hTq] at e
      cases e
      cases hd
  have hok : HOk P w H s1.heap := fun b u e => by
    rcases cas b with ⟨z, z2⟩ | ⟨_, z, _, z2⟩ | ⟨_, _, z⟩
    · rw [z2] at e
      cases e
      exact (tabT b z).1
    · rw [z2] at e
      cases e
      subst z
      exact ⟨ha, by rw [List.length_map]; exact hl, vs, _, rv, ha⟩
    · rw [z] at e; cases e
  have e0 : Env0 P w K mg (hidT s1.heap H) callerA [] s1 H := ⟨rfl, modB, fun b o e => of_hidT e, Nat.le_of_eq (hidT_size _ _), trivial, fun b hb => absurd (show b ∈ ([] : List Addr) from hb) (by simp), hok, .of_eq hg⟩
  have hH : ∀ q ∈ cs, H q.2 = some (.tbl #[]) := fun q hq => by
    rcases cas q.2 with ⟨_, z⟩ | ⟨z, _⟩ | ⟨z, _⟩
    · exact z
    · exact absurd (List.mem_map.mpr ⟨q, hq, rfl⟩) z
    · exact absurd (List.mem_map.mpr ⟨q, hq, rfl⟩) z
  have hS : SqL K H a (ns.map V.int) := by
    cases hk : K.lookup a with
    | some o =>
      have e := KX a o hk
      rw [ha] at e
      cases e
      exact .inr ⟨_, vs.toArray, _, hk, rfl, rfl, rfl, by rw [List.size_toArray, lenV]; exact hl, by simpa using rv⟩
    | none =>
      rcases cas a with ⟨z, _⟩ | ⟨_, _, _, z⟩ | ⟨_, z, _⟩
      · exact absurd z aT
      · exact .inl (.inr ⟨_, z⟩)
      · exact absurd ⟨rfl, hk⟩ z
  refine codeAny_mono ((F _ kinB (nsB hns) tabB).go callerA [] s1 H ⟨[.ref a], []⟩ [.ref a] [.ref a] _ _ hr rfl e0 (hbind s1 (.ref a)) (.cons rfl .nil) (hsp H hH hS)) fun r s' h => ?_
  match r, h with
  | .ok (.ret u), h =>
    obtain ⟨v, H', os, bare, un, hok', r', q⟩ := h
    have q' : v = .bl true := q
    subst q'
    obtain rfl : u = Value.bool true := r'
    have same : ∀ b o, b ∉ cs.map (·.2) → s1.heap.get? b = some o → s'.heap.get? b = some o := fun b o nb e => by
      rcases cas b with ⟨z, _⟩ | ⟨_, _, _, z⟩ | ⟨_, _, z⟩
      · exact absurd z nb
      · obtain ⟨e1, _⟩ := hok b _ z
        obtain ⟨e2, _⟩ := hok' b _ (un.frzs b _ _ z)
        rw [e] at e1
        cases e1
        exact e2
      · exact un.keep b o e z (fun y => absurd (show b ∈ ([] : List Addr) from y) (by simp)) (by simp)
    have grew : ∀ q ∈ cs, ∃ more : Array Value, s'.heap.get? q.2 = some { cls := .none, data := .fields more } := fun q hq => by
      obtain ⟨more, z⟩ := un.tbls q.2 #[] (hH q hq)
      exact ⟨_, hok' q.2 _ z⟩
    refine ⟨rfl, ⟨fun b o e => ?_, fun b o e => ?_⟩, os, bare⟩
    · by_cases hb : b ∈ cs.map (·.2)
      · obtain ⟨q, hq, ep⟩ := List.mem_map.mp hb
        obtain ⟨more, hm⟩ := grew q hq
        subst ep
        rw [hT q hq] at e
        cases e
        exact .inr (.inl ⟨((C q hq).tab (hT q hq)).isCodeTable, rfl, #[], more, rfl, by rw [Array.empty_append]; exact hm⟩)
      · exact .inl (same b o hb e)
    · by_cases hb : b ∈ cs.map (·.2)
      · obtain ⟨q, hq, ep⟩ := List.mem_map.mp hb
        obtain ⟨more, hm⟩ := grew q hq
        subst ep
        exact ⟨_, hm⟩
      · exact ⟨o, same b o hb e⟩
  | .error e, h => exact (show False from h).elim
/-- what is told at the head's heap h -/
def LawG (l : PySem.W.OpenLaw) (w : World) (K : PySem.W.Frag) (k n : Nat) (x : Str) (mg : Str → Option Value) (fa : Addr) (h : Heap) : Prop :=
  ∃ (fd : FuncData) (cs : List (Addr × Addr)) (sp : Sp), ((∀ q ∈ cs, h.get? q.2 = some { cls := .none, data := .fields #[] }) ∧ (∀ q ∈ cs, K.lookup q.2 = none) ∧ ∀ q ∈ cs, PySem.W.CodeHd h q.1 q.2) ∧ (∀ (s : Shared) (u : Value), BindsTo s fd ⟨[u], []⟩ [(x, u)]) ∧
    (∀ (H : Hp) (a : Addr) (ns : List Int), ns.length ≤ n → (∀ q ∈ cs, H q.2 = some (.tbl #[])) → SqL K H a (ns.map V.int) → sp [.ref a] H (fun v _ => v = .bl true) E0) ∧
    ∀ base : Heap, K.In base → base.Ns mainGlobals mg → (∀ q ∈ cs, LamX.TabB base mg q.1 q.2) → FnG l.prog w K mg base k fa fd [x] sp
theorem walkG {l : PySem.W.OpenLaw} {n k : Nat} {q : Program} {loose : List Str} {XP : (Str → Option Value) → Heap → Prop} {YP : World → Heap → Prop} {d : DefRec} {x : Str}
    (hn : l.most = some n) (hn2 : n ≤ sizeLine) (hdf : d.params.defaults = []) (hr : Room k callerA)
    (F : ∀ (w : World) (mg : Str → Option Value) (fa : Addr) (h : Heap), YP w h → h.Ns mainGlobals mg → mg d.name = some (.ref fa) → ∃ K : PySem.W.Frag, K.In h ∧ LawG l w K k n x mg fa h) :
    PySem.W.WalkO q loose XP YP l.row.toRowW d [] (fun f vs => PySem.call f vs) := by
  refine Att.attach_callB hn hdf fun w s₀ s₁ mg mb fa o pm cd doc a vs ns G Y ho hd hcd hmg hobj hints hlen _ hg => ?_
  obtain ⟨K, KX, fd, cs, sp, ⟨hT, nT, C⟩, hb, hsp, hF⟩ := F w mg fa _ Y G.T.g hmg
  exact call_end KX G.T.g G.T.b G.T.builtins G.T.nolimit hg hT nT C G.T.bmain hobj hints (Nat.le_trans hlen hn2) hr hF hb fun H hH hS => hsp H a ns hlen hH hS
end
end HW
/-! part R3 -/
namespace HW
open PySem PySem.Spec PyProof.Rows L2 NdefX LamX
def top (i : Nat) : Stmt := PySem.Challenge.pw_healwires_k37_whole_contents_of_a_harm.main.body.getD i (.Pass ⟨0, 0, 0, 0⟩)
/-! ### a lambda's object -/
/-- the object at f is the lambda of the words F and the body e -/
def LamO (f : Addr) (F : NF) (e : Expr) : HO := .ext fun h => ∃ (od : Option Addr) (sl : Array (Option Value)) (pm ctv : Value), h.get? f = some (⟨.type "function", od, .func (PySem.W.kla_fn F.name F.qual F.params e F.scope F.cl pm (.ref F.c) ctv), sl⟩ : Obj)
theorem lamO_ne {f : Addr} {F : NF} {e : Expr} (ps : Array Value) : LamO f F e ≠ .tbl ps := fun z => by
  unfold LamO at z
  cases z
theorem lamO_at {P : Program} {w : World} {H : Hp} {h : Heap} {f : Addr} {F : NF} {e : Expr} (hok : HOk P w H h) (x : H f = some (LamO f F e)) : ∃ (od : Option Addr) (sl : Array (Option Value)) (pm ctv : Value), h.get? f = some (⟨.type "function", od, .func (PySem.W.kla_fn F.name F.qual F.params e F.scope F.cl pm (.ref F.c) ctv), sl⟩ : Obj) :=
  (hok f _ x).1
section
variable {X : Cx} {pins : List (Addr × Obj)} {σ : L2.St} {H : Hp} {s : Shared}
theorem inv_lam {F : NF} {e : Expr} {o : Obj} {t' : Nat} {pm ctv : Value} (I : Inv X pins σ H s) (ho : o = { cls := .type "function", data := .func (PySem.W.kla_fn F.name F.qual F.params e F.scope F.cl pm (.ref F.c) ctv) }) :
    Inv X pins σ (upd H s.heap.objs.size (LamO s.heap.objs.size F e)) { s with heap := s.heap.push o, toks := t' } := by
  subst ho
  have at_ : ∀ o : Obj, o.isFreed = false → (s.heap.push o).get? s.heap.objs.size = some o := fun o h => Heap.get?_push_size _ h
  refine I.laid (a := s.heap.objs.size) (fun b u q => Heap.get?_push_of_some _ q) (Nat.le_refl _) ⟨⟨_, _, pm, ctv, at_ _ rfl⟩, ⟨_, at_ _ rfl⟩, fun h1 h2 hx st => ?_⟩
  obtain ⟨od, sl, p, t, z⟩ := hx
  exact ⟨od, sl, p, t, st _ z⟩
/-- a lambda is made and tracked -/
theorem lam_made {T : List (Addr × Str)} {c P : Addr} {params : Arguments} {body : Expr} {scope : Scope} {pos : Pos} {E : Value → Shared → Prop} {Q : Value → Shared → Prop} (I : Inv X pins σ H s) (TB : TabB X.base X.mg c P) (hcode : X.env.code = .ref c)
    (hm : (P, X.env.qual ++ "<lambda>") ∈ T) (hu : ∀ p ∈ T, p.1 = P → p.2 = X.env.qual ++ "<lambda>") (hT : Tabs T H) (hdef : defaultsOf params X.env = ([], [])) (hfree : ∀ y ∈ scope.names, y.2 = .free → ∃ c, X.env.cells.lookup y.1 = some c)
    (h : ∀ (f c' : Addr) (H1 : Hp) (s' : Shared), Inv X pins σ H1 s' → ExtN H H1 → Tabs T H1 → H1 f = some (LamO f ⟨"<lambda>", X.env.qual ++ "<lambda>", params, [], scope, cloFrom X.env.cells scope.names [], c'⟩ body) → H1 c' = some (CodeO c' (X.env.qual ++ "<lambda>")) → Q (.ref f) s') :
    wpAny (model X.prog X.w) X.A (eval (.Lambda params body scope pos) X.env) Q E s := by
  obtain ⟨ps, hP, ht, ha⟩ := hT _ hm
  have hP' : s.heap.get? P = some { cls := .none, data := .fields ps } := I.hok P _ hP
  have bP : s.heap.BuiltinsAt X.mg P := TB.bm.keeps I.bk
  refine PySem.W.kla_eval hdef ?_
  cases hc : codeAmong pos ps.toList with
  | some cv =>
    obtain ⟨c', e, hco⟩ := ha pos cv hc
    subst e
    refine PySem.W.kla_makeFunctionHit (mg := X.mg) (c := c) (P := P) (ps := ps) (closure_ok hfree) I.ok.glob (I.mod.glob.keeps I.bk) hcode (TB.code.keeps I.bk) hP' ht hc bP fun ctv h' tk hx _ => ?_
    have I1 : Inv X pins σ H { s with heap := h', toks := tk } := I.kept hx
    have nF : H h'.objs.size = none := I1.hok.fresh (Nat.le_refl _)
    have up : ∀ b o, H b = some o → upd H h'.objs.size (LamO h'.objs.size ⟨"<lambda>", X.env.qual ++ "<lambda>", params, [], scope, cloFrom X.env.cells scope.names [], c'⟩ body) b = some o := fun b o e => (upd_ne (ne_of_none e nF)).trans e
    have I2 := inv_lam (F := ⟨"<lambda>", X.env.qual ++ "<lambda>", params, [], scope, cloFrom X.env.cells scope.names [], c'⟩) (e := body) (t' := tk) (pm := (X.mg "__name__").getD .none) (ctv := ctv) I1 rfl
    exact h h'.objs.size c' _ _ I2 (fun b o e _ => up b o e) (hT.ext up) upd_same (up _ _ hco)
  | none =>
    refine PySem.W.kla_makeFunction (mg := X.mg) (c := c) (P := P) (ps := ps) (closure_ok hfree) I.ok.glob (I.mod.glob.keeps I.bk) hcode (TB.code.keeps I.bk) hP' ht hc TB.gP bP fun c' ctv h' tk hx hge hlt hrec htb => ?_
    obtain ⟨c2, oc, vs, t, e2, hoc, hd, hv⟩ := hrec
    cases e2
    have nC : H c' = none := I.hok.fresh hge
    have I1 := inv_table (t' := tk) (more := #[rawInt pos.line, rawInt pos.col, .ref c']) (h' := h') I hP (fun b o hb e => hx b o hb e) htb hge ⟨oc, vs, t, hoc, hd, hv⟩
    generalize eH1 : upd (upd H P (.tbl (ps ++ #[rawInt pos.line, rawInt pos.col, .ref c']))) c' (CodeO c' (X.env.qual ++ "<lambda>")) = H1 at I1
    have hE : ExtN H H1 := fun b o e n => by
      rw [← eH1, upd_ne (ne_of_none e nC), upd_ne (fun z => n ps (Option.some.inj (e.symm.trans (by rw [z]; exact hP))))]
      exact e
    have atC : H1 c' = some (CodeO c' (X.env.qual ++ "<lambda>")) := by rw [← eH1]; exact upd_same
    have eL : (ps ++ #[rawInt pos.line, rawInt pos.col, .ref c']).toList = ps.toList ++ [rawInt pos.line, rawInt pos.col, .ref c'] := by simp
    have T1 : Tabs T H1 := fun q hq => by
      by_cases hb : q.1 = P
      · rw [hu q hq hb, hb]
        refine ⟨_, by rw [← eH1, upd_ne (ne_of_none hP nC), upd_same], by rw [eL]; exact PySem.TriplesOk_snoc _ _ _ _ ht, fun p' cv hcv => ?_⟩
        rw [eL] at hcv
        rcases among_app _ ht hcv with z | z
        · obtain ⟨c0, e1, e2⟩ := ha p' cv z
          exact ⟨c0, e1, hE _ _ e2 codeO_ne⟩
        · exact ⟨c', z, atC⟩
      · obtain ⟨ps', a1, a2, a3⟩ := hT q hq
        refine ⟨ps', by rw [← eH1, upd_ne (ne_of_none a1 nC), upd_ne hb]; exact a1, a2, fun p' cv hcv => ?_⟩
        obtain ⟨c0, e1, e2⟩ := a3 p' cv hcv
        exact ⟨c0, e1, hE _ _ e2 codeO_ne⟩
    have nF := I1.hok.fresh (Nat.le_refl _)
    have I2 := inv_lam (F := ⟨"<lambda>", X.env.qual ++ "<lambda>", params, [], scope, cloFrom X.env.cells scope.names [], c'⟩) (e := body) (t' := tk) (pm := (X.mg "__name__").getD .none) (ctv := ctv) I1 rfl
    have up : ∀ b o, H1 b = some o → upd H1 h'.objs.size (LamO h'.objs.size ⟨"<lambda>", X.env.qual ++ "<lambda>", params, [], scope, cloFrom X.env.cells scope.names [], c'⟩ body) b = some o := fun b o e => (upd_ne (ne_of_none e nF)).trans e
    exact h h'.objs.size c' _ _ I2 (fun b o e n => up b o (hE b o e n)) (T1.ext up) upd_same (up _ _ atC)
end
/-! ### it is called -/
section
variable {P : Program} {w : World} {K : PySem.W.Frag} {mg : Str → Option Value} {base : Heap} {N fr : List Str} {F : NF} {f : Addr} {k : Nat} {x : Str} {e : Expr} {tb : TE} {A : Around} {outer : List Env} {s : Shared} {H : Hp} {u : Value} {v : V} {ws : List (Option V)} {Q : VK}
theorem lam_run (hr : Room (k + 1) A) (e0 : Env0 P w K mg base A outer s H) (hf : H f = some (LamO f F e)) (hc : H F.c = some (CodeO F.c F.qual)) (C : CellsAt F.cl fr ws s.heap H) (S : NScope N [x] fr F.scope)
    (hbind : ∀ (pm ctv : Value), bindArgs (PySem.W.kla_fn F.name F.qual F.params e F.scope F.cl pm (.ref F.c) ctv) ⟨[u], []⟩ = pure [(x, u)]) (ru : L2.RelV v u)
    (hbody : ∀ (A : Around) (outer : List Env) (s : Shared) (H : Hp), Room k (A.deeper (envF F f s.heap.objs.size)) → PE (ncx L2.CX0 P w K mg base N F f A outer s H L2.E0) e tb) (ht : tb (startF N [v] ws) H Q) :
    codeAny (model P w) A (.call (.ref f) ⟨[u], []⟩) (CR L2.CX0 outer P w H s Q L2.E0) s := by
  obtain ⟨od, sl, pm, ctv, ho⟩ := lamO_at e0.hok hf
  have lim : s.heap.NoLimit := e0.mod.nolimit.keeps fun b o q => (e0.bs b o q).1
  refine PySem.W.kla_callFunE hr.depth ho rfl S.co S.gen rfl (codeO_at e0.hok hc) ?_
  rw [hbind]
  refine wpAny_pure (wpAny_newFunctionEnv S.nocell (fun y hy => S.par _ (by rw [List.mem_singleton] at hy; rw [hy]; simp)) (fun h₁ hns hsb => ⟨lim.fresh _ hsb, ?_⟩) S.kind)
  show codeAny _ _ (.expr e (envF F f s.heap.objs.size)) _ _
  have kp : ∀ b o, s.heap.get? b = some o → h₁.get? b = some o := fun b o q => hsb.extBut b o (Nat.ne_of_lt (Heap.lt_size q)) (Heap.get?_push_of_some _ q)
  have I : Inv (ncx L2.CX0 P w K mg base N F f A outer s H L2.E0) [] (startF N [v] ws) H { s with heap := h₁, toks := s.toks + ([(x, u)] : List (Str × Value)).length } := inv_startN (us := [u]) S hr.hd e0 rfl (.cons ru .nil) C hns kp
  refine PySem.W.kla_codeExpr (wpAny_mono ((hbody A outer s H (hr.deeper _)).run [] _ _ H Q I ht) (fun y s' hq => ?_) fun y s' hq => hq)
  obtain ⟨v', H', J, rv, q⟩ := hq
  exact ⟨v', H', J.os, J.bare, J.base, J.hok, rv, q⟩
end
section
variable {Z : Cx} {N fr : List Str} {F : NF} {f : Addr} {k i : Nat} {x a : Str} {e : Expr} {tb : TE} {ws : List (Option V)} {p1 p2 : Pos} {ta : TE} {ea : Expr}
/-- a(e), in the def that got the lambda -/
theorem pe_acts (C : CellsAt F.cl fr ws Z.s_0.heap Z.H_0) (nf : ∀ y c, F.cl.lookup y = some c → c ∉ Z.fs) (hx : ∀ y c, F.cl.lookup y = some c → c ∉ Z.ex) (S : NScope N [x] fr F.scope)
    (hbind : ∀ (pm ctv u : Value), bindArgs (PySem.W.kla_fn F.name F.qual F.params e F.scope F.cl pm (.ref F.c) ctv) ⟨[u], []⟩ = pure [(x, u)]) (hr : Room (k + 1) Z.A)
    (hbody : ∀ (A : Around) (outer : List Env) (s : Shared) (H : Hp), Room k (A.deeper (envF F f s.heap.objs.size)) → PE (ncx L2.CX0 Z.prog Z.w Z.K Z.mg Z.base N F f A outer s H L2.E0) e tb)
    (hN : Z.N[i]? = some a) (hv : Vis Z.env.scope a) (ha : PE Z ea ta) (hd : (a == ("__debug__" : Str)) = false := by decide) (hcd : (a == ("__classdict__" : Str)) = false := by decide)
    (he : starEach [ea] Z.env = (false, eval ea Z.env) :: starEach [] Z.env := by rfl) (hpl : (backTo p2 (starEach [] Z.env)).any (·.1) = false := by rfl) :
    PE Z (.Call (.Name a p1) [ea] [] p2) (fun σ H Q => σ[i]? = some (some (.ref f)) ∧ H f = some (LamO f F e) ∧ ta σ H fun v H1 => H1 f = some (LamO f F e) ∧ H1 F.c = some (CodeO F.c F.qual) ∧ tb (startF N [v] ws) H1 Q) := by
  refine ⟨fun pins s σ H Q I h => ?_⟩
  obtain ⟨hs, hHf, ht⟩ := h
  refine wpAny_Call_Name_kw (thn ((pe_var (pos := p1) (i := i) hN hv hd hcd).run pins s σ H (fun v H1 => v = .ref f ∧ H1 = H) I ⟨.ref f, hs, rfl, rfl⟩) fun u s1 hq => ?_)
  obtain ⟨v, H1, I1, r1, rfl, rfl⟩ := hq
  obtain rfl : u = Value.ref f := r1
  have fnat : ∀ {H' : Hp} {s' : Shared}, Inv Z pins σ H' s' → H' f = some (LamO f F e) → PySem.W.FnAt f s'.heap := fun I' z => by
    obtain ⟨od, sl, pm, ctv, ho⟩ := lamO_at I'.hok z
    exact ⟨_, od, _, sl, ho⟩
  refine PySem.W.callWith_F (first := []) (fnat I1 hHf) (thn (((pa_cons ha pa_nil he).run p2) pins s1 σ H1 (fun vs H2 => ∃ v, vs = [v] ∧ H2 f = some (LamO f F e) ∧ H2 F.c = some (CodeO F.c F.qual) ∧ tb (startF N [v] ws) H2 Q) I1 ?_) fun us s2 hq => ?_) he hpl
  · have key : ∀ (tt : TE) (Q1 Q2 : VK), Q1 = Q2 → tt σ H1 Q1 → tt σ H1 Q2 := fun tt Q1 Q2 e h => e ▸ h
    refine key ta _ _ (funext fun v => funext fun H2 => propext ⟨fun z => ⟨v, rfl, z⟩, fun ⟨v', e, z⟩ => ?_⟩) ht
    cases e
    exact z
  · obtain ⟨vs, H2, I2, r, v, rfl, h1, h2, q⟩ := hq
    refine ⟨fnat I2 h1, ?_⟩
    obtain ⟨u2, rfl, ru⟩ := vals1 r
    show wpAny _ _ (call (.ref f) [u2]) _ _ _
    refine wpAny_call (codeAny_mono (lam_run hr I2.env0 h1 h2 (CellsAt.later C nf hx I2) S (fun pm ctv => hbind pm ctv u2) ru hbody q) fun rs s' hq => ?_)
    match rs, hq with
    | .ok (.ret y), hq => exact I2.after hq
end
/-! ### least_with(e0, lambda count: body) -/
abbrev sLeast : Stmt := top 25
theorem scLeast : FnScope ["most", "passes", "low", "high", "middle"] ["most", "passes"] (defScope sLeast) := ⟨rfl, rfl, rfl, by decide +kernel, rfl, by decide +kernel, by decide +kernel⟩
/-- the reading: g is what the lambda answers -/
def tLeast (T : List (Addr × Str)) (N : List Str) (js : List Nat) (t0 tb : TE) : TE := fun σ H Q => t0 σ H fun v H1 => ∃ (most : Int) (g : Int → Bool), v = .int most ∧ 0 ≤ most ∧ Tabs T H1 ∧
  (∀ i, 0 ≤ i → i < most → ∀ HZ, ExtN H1 HZ → ∀ Qb : VK, (∀ H', Same HZ H' → Qb (.bl (g i)) H') → tb (startF N [.int i] (js.map (slotAt σ))) HZ Qb) ∧
  ∀ r H2, ExtN H1 H2 → Tabs T H2 → HM.Least most g r → Q (.int r) H2
theorem Same.extN {H H' : Hp} (e : Same H H') : ExtN H H' := ExtN.of e
theorem half_in {a b : Int} (h : a < b) : a ≤ (a + b) / 2 ∧ (a + b) / 2 < b := by omega
section
variable {X : Cx} {N fr : List Str} {f g c' : Addr} {gd : FuncData} {k : Nat} {x : Str} {body : Expr} {tb : TE} {ws : List (Option V)}
/-- least_with's body, from the very state at its call -/
theorem least_body {T : List (Addr × Str)} {F : NF} {P : Program} {w : World} {K : PySem.W.Frag} {mg : Str → Option Value} {base : Heap} {A : Around} {outer : List Env} {s : Shared} {H : Hp} {cdg : Value} {most : Int} {gg : Int → Bool} {Q : VK}
    (C : CellsAt F.cl fr ws s.heap H) (nf : ∀ y c, F.cl.lookup y = some c → c ∉ frs outer) (S : NScope N [x] fr F.scope)
    (hbind : ∀ (pm ctv u : Value), bindArgs (PySem.W.kla_fn F.name F.qual F.params body F.scope F.cl pm (.ref F.c) ctv) ⟨[u], []⟩ = pure [(x, u)]) (hr : Room (k + 1) (A.deeper (envOfC "least_with" (defScope sLeast) s.heap.objs.size g cdg)))
    (hbody : ∀ (A : Around) (outer : List Env) (s : Shared) (H : Hp), Room k (A.deeper (envF F f s.heap.objs.size)) → PE (ncx L2.CX0 P w K mg base N F f A outer s H L2.E0) body tb)
    (h0 : 0 ≤ most) (hT : Tabs T H) (hf : H f = some (LamO f F body)) (hc : H F.c = some (CodeO F.c F.qual))
    (hb : ∀ i, 0 ≤ i → i < most → ∀ HZ, ExtN H HZ → ∀ Qb : VK, (∀ H', Same HZ H' → Qb (.bl (gg i)) H') → tb (startF N [.int i] ws) HZ Qb) (hq : ∀ r H2, ExtN H H2 → Tabs T H2 → HM.Least most gg r → Q (.int r) H2) :
    ∃ t, PSs (cxOf L2.CX0 P w K mg base ["most", "passes", "low", "high", "middle"] "least_with" (defScope sLeast) g cdg A outer s H L2.E0) (defBody sLeast) t ∧ t { nx := fun _ H' => Q .non H', rt := Q } (L2.start ["most", "passes", "low", "high", "middle"] [.int most, .ref f]) H := by
  have act := fun (p1 p2 p3 : Pos) => pe_acts (ea := .Name "middle" p3) (Z := (cxOf L2.CX0 P w K mg base ["most", "passes", "low", "high", "middle"] "least_with" (defScope sLeast) g cdg A outer s H L2.E0).nox) (p1 := p1) (p2 := p2) (f := f) (i := 1) (a := "passes") (ws := ws)
    C nf (fun y c _ z => absurd (show c ∈ ([] : List Addr) from z) (by simp)) S hbind hr hbody rfl (Or.inl rfl) (pv 4)
  refine ⟨_, PSs.nox (pss_cons (ps_par (i := 2) (j := 3) rfl scLeast.nd rfl rfl (by decide) rfl rfl (pa_cons pe_int (pa_cons (pv 0) pa_nil)) (by rfl))
    (pss_cons (ps_while PassesOwn.never (pt_cmpR op_lt (pv 2) (pv 3) (nomark _))
      (pss_cons (ps_set (i := 4) scLeast.nd rfl (.inl rfl) (pe_op op_fdiv (pe_op op_add (pv 2) (pv 3)) pe_int))
      (pss_one (ps_if (pt_val (act _ _ _)) (pss_one (ps_set (i := 3) scLeast.nd rfl (.inl rfl) (pv 4))) (pss_one (ps_set (i := 2) scLeast.nd rfl (.inl rfl) (pe_op op_add (pv 4) pe_int)))))))
    (pss_one (ps_ret (pv 2))))), ?_⟩
  refine ⟨_, rfl, _, _, rfl, ?_⟩
  refine while_by (fun σ H' => ∃ (lo hi : Int) (m : Option V), σ = [some (.int most), some (.ref f), some (.int lo), some (.int hi), m] ∧ (0 ≤ lo ∧ lo ≤ hi ∧ hi ≤ most) ∧ (0 < lo → gg (lo - 1) = false) ∧ (hi < most → gg hi = true) ∧ ExtN H H' ∧ Tabs T H')
    (fun σ _ => match σ with | [_, _, some (.int lo), some (.int hi), _] => (hi - lo).toNat | _ => 0) ⟨0, most, none, rfl, ⟨by omega, h0, Int.le_refl _⟩, fun z => absurd z (by omega), fun z => absurd z (by omega), ExtN.refl H, hT⟩ (fun σ H' hP => ?_) (fun σ H' Q1 Q2 hQ hz => ?_)
  · obtain ⟨lo, hi, m, rfl, ⟨b0, b1, b2⟩, g0, g1, eN, T'⟩ := hP
    refine ⟨_, rfl, _, rfl, _, _, rfl, rfl, _, rfl, ?_⟩
    refine ite2 (fun cc => ?_) (fun cc => ?_)
    · have lt : lo < hi := of_decide_eq_true cc
      obtain ⟨m1, m2⟩ := half_in lt
      refine ⟨_, rfl, _, rfl, _, _, rfl, rfl, _, _, rfl, rfl, ⟨by decide, by decide⟩, ?_⟩
      have keep : ∀ {H2 : Hp}, Same H' H2 → ExtN H H2 ∧ Tabs T H2 := fun e => ⟨eN.trans (Same.extN e), T'.ext e⟩
      refine ⟨rfl, eN _ _ hf lamO_ne, _, rfl, eN _ _ hf lamO_ne, eN _ _ hc codeO_ne, ?_⟩
      refine hb ((lo + hi) / 2) (by omega) (by omega) H' eN _ fun H2 e2 => ?_
      obtain ⟨k1, k2⟩ := keep e2
      refine ⟨_, rfl, ?_⟩
      cases hg : gg ((lo + hi) / 2) with
      | true =>
        refine iteT ⟨_, rfl, ?_⟩
        refine ⟨⟨lo, (lo + hi) / 2, _, rfl, ⟨b0, m1, by omega⟩, g0, fun _ => hg, k1, k2⟩, ?_⟩
        show ((lo + hi) / 2 - lo).toNat < (hi - lo).toNat
        omega
      | false =>
        refine iteF ⟨_, rfl, _, _, rfl, rfl, ?_⟩
        refine ⟨⟨(lo + hi) / 2 + 1, hi, _, rfl, ⟨by omega, by omega, b2⟩, fun _ => by rw [show (lo + hi) / 2 + 1 - 1 = (lo + hi) / 2 by omega]; exact hg, g1, k1, k2⟩, ?_⟩
        show (hi - ((lo + hi) / 2 + 1)).toNat < (hi - lo).toNat
        omega
    · have ge : ¬ lo < hi := of_decide_eq_false (Bool.eq_false_iff.mpr cc)
      refine ⟨_, rfl, ?_⟩
      have e : lo = hi := by omega
      subst e
      exact hq lo H' eN T' ⟨b0, b2, g0, g1⟩
  · obtain ⟨a, e1, b, e2, i, j, e3, e4, z, e5, q⟩ := hz
    exact ⟨a, e1, b, e2, i, j, e3, e4, z, e5, hQ _ _ q⟩
/-- THE RULE -/
theorem pe_least {T : List (Addr × Str)} {c Pt : Addr} {params : Arguments} {scope : Scope} {e0 : Expr} {t0 : TE} {js : List Nat} {p lpos pos : Pos}
    (FL : FunD X.K "least_with" "least_with" (defArgs sLeast) (defBody sLeast) (defScope sLeast) [] [] g gd) (hgl : Gl X "least_with") (hmg : X.mg "least_with" = some (.ref g)) (TB : TabB X.base X.mg c Pt) (hcode : X.env.code = .ref c)
    (hm : (Pt, X.env.qual ++ "<lambda>") ∈ T) (hu : ∀ p ∈ T, p.1 = Pt → p.2 = X.env.qual ++ "<lambda>") (hdef : defaultsOf params X.env = ([], []))
    (hfree : ∀ y ∈ scope.names, y.2 = .free → X.env.scope.names.lookup y.1 = some .cell ∨ X.env.scope.names.lookup y.1 = some .free) (hfr : ∀ y ∈ fr, (y, NameKind.free) ∈ scope.names) (hjs : js.map (fun j => X.N[j]?) = fr.map some) (S : NScope N [x] fr scope)
    (hbind : ∀ (q : Str) (cl : List (Str × Addr)) (pm cv ctv u : Value), bindArgs (PySem.W.kla_fn "<lambda>" q params body scope cl pm cv ctv) ⟨[u], []⟩ = pure [(x, u)]) (hr : Room (k + 2) X.A) (hfn : ∀ y, X.fn y = true) (h0 : PE X e0 t0)
    (hbody : ∀ (c' f : Addr) (A : Around) (outer : List Env) (s : Shared) (H : Hp), Room k (A.deeper (envF ⟨"<lambda>", X.env.qual ++ "<lambda>", params, [], scope, cloFrom X.env.cells scope.names [], c'⟩ f s.heap.objs.size)) →
      PE (ncx L2.CX0 X.prog X.w X.K X.mg X.base N ⟨"<lambda>", X.env.qual ++ "<lambda>", params, [], scope, cloFrom X.env.cells scope.names [], c'⟩ f A outer s H L2.E0) body tb)
    (he : starEach [e0, .Lambda params body scope lpos] X.env = (false, eval e0 X.env) :: starEach [.Lambda params body scope lpos] X.env := by rfl) (he2 : starEach [.Lambda params body scope lpos] X.env = (false, eval (.Lambda params body scope lpos) X.env) :: starEach [] X.env := by rfl)
    (hpl : (backTo pos (starEach [.Lambda params body scope lpos] X.env)).any (·.1) = false := by rfl) :
    PE X (.Call (.Name "least_with" p) [e0, .Lambda params body scope lpos] [] pos) (tLeast T N js t0 tb) := by
  refine ⟨fun pins s σ H Q I h => ?_⟩
  refine wpAny_Call_Name_kw (ld_glob I hgl hmg ?_ (by decide))
  refine PySem.W.callWith_K (h₀ := X.base) I.ok.mod.kin FL.kp ?_ he hpl
  rw [he]
  show wpAny _ _ (spliced ((false, eval e0 X.env) :: backTo pos (starEach [.Lambda params body scope lpos] X.env))) _ _ s
  refine Calls.spliced_cons (thn (h0.run pins s σ H _ I h) fun u1 s1 hq => ?_)
  obtain ⟨v1, H1, I1, r1, most, gg, rfl, m0, T1, hb, hq⟩ := hq
  rw [he2]
  show wpAny _ _ (spliced ((false, eval (.Lambda params body scope lpos) X.env) :: backTo pos (starEach [] X.env))) _ _ s1
  have hfr2 : ∀ y ∈ scope.names, y.2 = .free → ∃ c, X.env.cells.lookup y.1 = some c := fun y hy e => (hfree y hy e).elim (fun z => I1.ok.has _ (.inl z)) fun z => I1.ok.has _ (.inr z)
  refine Calls.spliced_cons (lam_made I1 TB hcode hm hu T1 hdef hfr2 fun f c' H2 s2 I2 eN T2 hf hc => ?_)
  refine Calls.spliced_nil ⟨I2.kIn, ?_⟩
  have cp : Caps X (cloFrom X.env.cells scope.names []) fr js := Caps.made I2.ok hfree hfr hjs
  have C := cells_of I2 cp
  have nf : ∀ y c, (cloFrom X.env.cells scope.names []).lookup y = some c → c ∉ frs X.stack := fun y c e z => by
    have e2 := cp.sub y c e
    rcases List.mem_cons.mp (I2.stkSub c z) with q | q
    · exact I2.cne y c e2 q
    · obtain ⟨_, o, ho, _⟩ := I2.ok.funs.mem q
      exact absurd (Nat.lt_of_lt_of_le (Heap.lt_size ho) (I2.ok.cab y c (hfn y) e2)) (Nat.lt_irrefl _)
  obtain ⟨oc, od, dV, kV, doc, pm, an, cdg, ct, osl, eg, lk, hcd, hD, _⟩ := FL.ex
  have hbs : BindsTo s2 gd ⟨[u1, .ref f], []⟩ ((["most", "passes"] : List Str).zip [u1, .ref f]) := (FL.bindsN (ps := ["most", "passes"]) fun _ _ _ _ _ _ us hl => match us, hl with | [_, _], _ => rfl) s2 [u1, .ref f] I2.kIn rfl
  rw [eg] at hbs lk
  have rc := run_ofS (CX := L2.CX0) (A := X.A) (outer := X.stack) (H := H2) (vs := [.int most, .ref f]) (Q := Q) (E := L2.E0) lk hcd scLeast hr I2.env0 hbs (.cons r1 (.cons rfl .nil)) rfl fun hr2 =>
    least_body (F := ⟨"<lambda>", X.env.qual ++ "<lambda>", params, [], scope, cloFrom X.env.cells scope.names [], c'⟩) (f := f) (T := T) C nf S (fun pm ctv u => hbind _ _ pm _ ctv u) hr2 (hbody c' f) m0 T2 hf hc
      (fun i a b HZ e Qb z => hb i a b HZ (eN.trans e) Qb z) fun r H3 e T3 l => hq r H3 (eN.trans e) T3 l
  show wpAny _ _ (call (.ref g) [u1, .ref f]) _ _ _
  refine wpAny_call (codeAny_mono rc fun rs s' hq => ?_)
  match rs, hq with
  | .ok (.ret y), hq => exact I2.after hq
end
end HW
/-! part HD0 -/
namespace HW
open PySem PySem.Spec PyProof.Rows L2
abbrev s_is_whole : Stmt := top 7
abbrev s_is_between : Stmt := top 8
abbrev s_check_number : Stmt := top 9
abbrev s_link_fits : Stmt := top 10
abbrev s_check_link : Stmt := top 11
abbrev s_sound_fits : Stmt := top 12
abbrev s_check_sound : Stmt := top 13
abbrev s_bit_fits : Stmt := top 14
abbrev s_counts_fit : Stmt := top 15
abbrev s_lot_fits : Stmt := top 16
abbrev s_hosts_fit : Stmt := top 17
abbrev s_contents_fit : Stmt := top 18
abbrev s_check_contents : Stmt := top 19
abbrev s_even_fits : Stmt := top 20
abbrev s_old_of : Stmt := top 21
abbrev s_answers_of : Stmt := top 22
abbrev s_choose : Stmt := top 24
abbrev s_least_with : Stmt := top 25
abbrev s_there_size : Stmt := top 26
abbrev s_back_size : Stmt := top 27
abbrev s_lots_in : Stmt := top 28
abbrev s_lot_number : Stmt := top 29
abbrev s_lot_numbered : Stmt := top 30
abbrev s_there_before : Stmt := top 31
abbrev s_back_before : Stmt := top 32
abbrev s_answers_in : Stmt := top 34
abbrev s_old_in : Stmt := top 35
abbrev s_signs_in : Stmt := top 36
abbrev s_harm_of_signs : Stmt := top 37
abbrev s_harm_in : Stmt := top 38
abbrev s_codes_of : Stmt := top 40
abbrev s_coded : Stmt := top 41
abbrev s_amount : Stmt := top 42
abbrev s_sufficing : Stmt := top 43
abbrev s_sufficing_before : Stmt := top 44
abbrev s_old_before : Stmt := top 45
abbrev s_lots_amount : Stmt := top 46
abbrev s_hosts_amount : Stmt := top 47
abbrev s_heard_before : Stmt := top 48
abbrev s_counted : Stmt := top 49
abbrev s_wanted_old : Stmt := top 50
abbrev s_old_there_before : Stmt := top 51
abbrev s_own_back_before : Stmt := top 52
abbrev s_there_amount : Stmt := top 53
abbrev s_back_amount : Stmt := top 54
abbrev s_code_at : Stmt := top 55
abbrev s_number_of_harm_in : Stmt := top 56
abbrev s_wires_numbered : Stmt := top 57
abbrev s_harm_numbered_in : Stmt := top 58
abbrev s_check_harm : Stmt := top 59
abbrev s_of_harms : Stmt := top 60
abbrev s_of_harm_numbered : Stmt := top 61
abbrev s_number_of_its_harm : Stmt := top 62
abbrev s_next_of_harm : Stmt := top 63
abbrev s__law_hash : Stmt := top 65
abbrev s__law_random : Stmt := top 66
abbrev s__law_cell : Stmt := top 67
abbrev s__law_generator : Stmt := top 68
abbrev s__law_lots : Stmt := top 76
abbrev s__law_all : Stmt := top 77
abbrev s__law_sum : Stmt := top 78
abbrev s__law_here : Stmt := top 79
abbrev s__law_great : Stmt := top 80
abbrev s__law_key : Stmt := top 81
abbrev s__law_next_wires : Stmt := top 82
abbrev s__law_next_lot : Stmt := top 83
abbrev s__law_next : Stmt := top 84
abbrev s__law_signs : Stmt := top 88
abbrev s__law_harm : Stmt := top 89
abbrev s__law_small_right : Stmt := top 90
abbrev s__law_near_right : Stmt := top 91
abbrev s__law_great_right : Stmt := top 92
abbrev s_law : Stmt := top 93
def d_is_whole : He.DefD := ⟨("is_whole", none), "is_whole", "is_whole", defArgs s_is_whole, defBody s_is_whole, defScope s_is_whole, [], []⟩
def d_is_between : He.DefD := ⟨("is_between", none), "is_between", "is_between", defArgs s_is_between, defBody s_is_between, defScope s_is_between, [], []⟩
def d_check_number : He.DefD := ⟨("check_number", none), "check_number", "check_number", defArgs s_check_number, defBody s_check_number, defScope s_check_number, [], []⟩
def d_link_fits : He.DefD := ⟨("link_fits", none), "link_fits", "link_fits", defArgs s_link_fits, defBody s_link_fits, defScope s_link_fits, [], []⟩
def d_check_link : He.DefD := ⟨("check_link", none), "check_link", "check_link", defArgs s_check_link, defBody s_check_link, defScope s_check_link, [], []⟩
def d_sound_fits : He.DefD := ⟨("sound_fits", none), "sound_fits", "sound_fits", defArgs s_sound_fits, defBody s_sound_fits, defScope s_sound_fits, [], []⟩
def d_check_sound : He.DefD := ⟨("check_sound", none), "check_sound", "check_sound", defArgs s_check_sound, defBody s_check_sound, defScope s_check_sound, [], []⟩
def d_bit_fits : He.DefD := ⟨("bit_fits", none), "bit_fits", "bit_fits", defArgs s_bit_fits, defBody s_bit_fits, defScope s_bit_fits, [], []⟩
def d_counts_fit : He.DefD := ⟨("counts_fit", none), "counts_fit", "counts_fit", defArgs s_counts_fit, defBody s_counts_fit, defScope s_counts_fit, [], []⟩
def d_lot_fits : He.DefD := ⟨("lot_fits", none), "lot_fits", "lot_fits", defArgs s_lot_fits, defBody s_lot_fits, defScope s_lot_fits, [], []⟩
def d_hosts_fit : He.DefD := ⟨("hosts_fit", none), "hosts_fit", "hosts_fit", defArgs s_hosts_fit, defBody s_hosts_fit, defScope s_hosts_fit, [], []⟩
def d_contents_fit : He.DefD := ⟨("contents_fit", none), "contents_fit", "contents_fit", defArgs s_contents_fit, defBody s_contents_fit, defScope s_contents_fit, [], []⟩
def d_check_contents : He.DefD := ⟨("check_contents", none), "check_contents", "check_contents", defArgs s_check_contents, defBody s_check_contents, defScope s_check_contents, [], []⟩
def d_even_fits : He.DefD := ⟨("even_fits", none), "even_fits", "even_fits", defArgs s_even_fits, defBody s_even_fits, defScope s_even_fits, [], []⟩
def d_old_of : He.DefD := ⟨("old_of", none), "old_of", "old_of", defArgs s_old_of, defBody s_old_of, defScope s_old_of, [], []⟩
def d_answers_of : He.DefD := ⟨("answers_of", none), "answers_of", "answers_of", defArgs s_answers_of, defBody s_answers_of, defScope s_answers_of, [], []⟩
def d_choose : He.DefD := ⟨("choose", none), "choose", "choose", defArgs s_choose, defBody s_choose, defScope s_choose, [], []⟩
def d_least_with : He.DefD := ⟨("least_with", none), "least_with", "least_with", defArgs s_least_with, defBody s_least_with, defScope s_least_with, [], []⟩
def d_there_size : He.DefD := ⟨("there_size", none), "there_size", "there_size", defArgs s_there_size, defBody s_there_size, defScope s_there_size, [], []⟩
def d_back_size : He.DefD := ⟨("back_size", none), "back_size", "back_size", defArgs s_back_size, defBody s_back_size, defScope s_back_size, [], []⟩
def d_lots_in : He.DefD := ⟨("lots_in", none), "lots_in", "lots_in", defArgs s_lots_in, defBody s_lots_in, defScope s_lots_in, [], []⟩
def d_lot_number : He.DefD := ⟨("lot_number", none), "lot_number", "lot_number", defArgs s_lot_number, defBody s_lot_number, defScope s_lot_number, [], []⟩
def d_lot_numbered : He.DefD := ⟨("lot_numbered", none), "lot_numbered", "lot_numbered", defArgs s_lot_numbered, defBody s_lot_numbered, defScope s_lot_numbered, [], []⟩
def d_there_before : He.DefD := ⟨("there_before", none), "there_before", "there_before", defArgs s_there_before, defBody s_there_before, defScope s_there_before, [], []⟩
def d_back_before : He.DefD := ⟨("back_before", none), "back_before", "back_before", defArgs s_back_before, defBody s_back_before, defScope s_back_before, [], []⟩
def d_answers_in : He.DefD := ⟨("answers_in", none), "answers_in", "answers_in", defArgs s_answers_in, defBody s_answers_in, defScope s_answers_in, [], []⟩
def d_old_in : He.DefD := ⟨("old_in", none), "old_in", "old_in", defArgs s_old_in, defBody s_old_in, defScope s_old_in, [], []⟩
def d_signs_in : He.DefD := ⟨("signs_in", none), "signs_in", "signs_in", defArgs s_signs_in, defBody s_signs_in, defScope s_signs_in, [], []⟩
def d_harm_of_signs : He.DefD := ⟨("harm_of_signs", none), "harm_of_signs", "harm_of_signs", defArgs s_harm_of_signs, defBody s_harm_of_signs, defScope s_harm_of_signs, [], []⟩
def d_harm_in : He.DefD := ⟨("harm_in", none), "harm_in", "harm_in", defArgs s_harm_in, defBody s_harm_in, defScope s_harm_in, [], []⟩
def d_codes_of : He.DefD := ⟨("codes_of", none), "codes_of", "codes_of", defArgs s_codes_of, defBody s_codes_of, defScope s_codes_of, [], []⟩
def d_coded : He.DefD := ⟨("coded", none), "coded", "coded", defArgs s_coded, defBody s_coded, defScope s_coded, [], []⟩
def d_amount : He.DefD := ⟨("amount", none), "amount", "amount", defArgs s_amount, defBody s_amount, defScope s_amount, [], []⟩
def d_sufficing : He.DefD := ⟨("sufficing", none), "sufficing", "sufficing", defArgs s_sufficing, defBody s_sufficing, defScope s_sufficing, [], []⟩
def d_sufficing_before : He.DefD := ⟨("sufficing_before", none), "sufficing_before", "sufficing_before", defArgs s_sufficing_before, defBody s_sufficing_before, defScope s_sufficing_before, [], []⟩
def d_old_before : He.DefD := ⟨("old_before", none), "old_before", "old_before", defArgs s_old_before, defBody s_old_before, defScope s_old_before, [], []⟩
def d_lots_amount : He.DefD := ⟨("lots_amount", none), "lots_amount", "lots_amount", defArgs s_lots_amount, defBody s_lots_amount, defScope s_lots_amount, [], []⟩
def d_hosts_amount : He.DefD := ⟨("hosts_amount", none), "hosts_amount", "hosts_amount", defArgs s_hosts_amount, defBody s_hosts_amount, defScope s_hosts_amount, [], []⟩
def d_heard_before : He.DefD := ⟨("heard_before", none), "heard_before", "heard_before", defArgs s_heard_before, defBody s_heard_before, defScope s_heard_before, [], []⟩
def d_counted : He.DefD := ⟨("counted", none), "counted", "counted", defArgs s_counted, defBody s_counted, defScope s_counted, [], []⟩
def d_wanted_old : He.DefD := ⟨("wanted_old", none), "wanted_old", "wanted_old", defArgs s_wanted_old, defBody s_wanted_old, defScope s_wanted_old, [], []⟩
def d_old_there_before : He.DefD := ⟨("old_there_before", none), "old_there_before", "old_there_before", defArgs s_old_there_before, defBody s_old_there_before, defScope s_old_there_before, [], []⟩
def d_own_back_before : He.DefD := ⟨("own_back_before", none), "own_back_before", "own_back_before", defArgs s_own_back_before, defBody s_own_back_before, defScope s_own_back_before, [], []⟩
def d_there_amount : He.DefD := ⟨("there_amount", none), "there_amount", "there_amount", defArgs s_there_amount, defBody s_there_amount, defScope s_there_amount, [], []⟩
def d_back_amount : He.DefD := ⟨("back_amount", none), "back_amount", "back_amount", defArgs s_back_amount, defBody s_back_amount, defScope s_back_amount, [], []⟩
def d_code_at : He.DefD := ⟨("code_at", none), "code_at", "code_at", defArgs s_code_at, defBody s_code_at, defScope s_code_at, [], []⟩
def d_number_of_harm_in : He.DefD := ⟨("number_of_harm_in", none), "number_of_harm_in", "number_of_harm_in", defArgs s_number_of_harm_in, defBody s_number_of_harm_in, defScope s_number_of_harm_in, [], []⟩
def d_wires_numbered : He.DefD := ⟨("wires_numbered", none), "wires_numbered", "wires_numbered", defArgs s_wires_numbered, defBody s_wires_numbered, defScope s_wires_numbered, [], []⟩
def d_harm_numbered_in : He.DefD := ⟨("harm_numbered_in", none), "harm_numbered_in", "harm_numbered_in", defArgs s_harm_numbered_in, defBody s_harm_numbered_in, defScope s_harm_numbered_in, [], []⟩
def d_check_harm : He.DefD := ⟨("check_harm", none), "check_harm", "check_harm", defArgs s_check_harm, defBody s_check_harm, defScope s_check_harm, [], []⟩
def d_of_harms : He.DefD := ⟨("of_harms", none), "of_harms", "of_harms", defArgs s_of_harms, defBody s_of_harms, defScope s_of_harms, [], []⟩
def d_of_harm_numbered : He.DefD := ⟨("of_harm_numbered", none), "of_harm_numbered", "of_harm_numbered", defArgs s_of_harm_numbered, defBody s_of_harm_numbered, defScope s_of_harm_numbered, [], []⟩
def d_number_of_its_harm : He.DefD := ⟨("number_of_its_harm", none), "number_of_its_harm", "number_of_its_harm", defArgs s_number_of_its_harm, defBody s_number_of_its_harm, defScope s_number_of_its_harm, [], []⟩
def d_next_of_harm : He.DefD := ⟨("next_of_harm", none), "next_of_harm", "next_of_harm", defArgs s_next_of_harm, defBody s_next_of_harm, defScope s_next_of_harm, [], []⟩
def d__law_hash : He.DefD := ⟨("_law_hash", none), "_law_hash", "_law_hash", defArgs s__law_hash, defBody s__law_hash, defScope s__law_hash, [], []⟩
def d__law_random : He.DefD := ⟨("_law_random", none), "_law_random", "_law_random", defArgs s__law_random, defBody s__law_random, defScope s__law_random, [], []⟩
def d__law_cell : He.DefD := ⟨("_law_cell", none), "_law_cell", "_law_cell", defArgs s__law_cell, defBody s__law_cell, defScope s__law_cell, [], []⟩
def d__law_generator : He.DefD := ⟨("_law_generator", none), "_law_generator", "_law_generator", defArgs s__law_generator, defBody s__law_generator, defScope s__law_generator, [], []⟩
def d__law_lots : He.DefD := ⟨("_law_lots", none), "_law_lots", "_law_lots", defArgs s__law_lots, defBody s__law_lots, defScope s__law_lots, [], []⟩
def d__law_all : He.DefD := ⟨("_law_all", none), "_law_all", "_law_all", defArgs s__law_all, defBody s__law_all, defScope s__law_all, [], []⟩
def d__law_sum : He.DefD := ⟨("_law_sum", none), "_law_sum", "_law_sum", defArgs s__law_sum, defBody s__law_sum, defScope s__law_sum, [], []⟩
def d__law_here : He.DefD := ⟨("_law_here", none), "_law_here", "_law_here", defArgs s__law_here, defBody s__law_here, defScope s__law_here, [], []⟩
def d__law_great : He.DefD := ⟨("_law_great", none), "_law_great", "_law_great", defArgs s__law_great, defBody s__law_great, defScope s__law_great, [], []⟩
def d__law_key : He.DefD := ⟨("_law_key", none), "_law_key", "_law_key", defArgs s__law_key, defBody s__law_key, defScope s__law_key, [], []⟩
def d__law_next_wires : He.DefD := ⟨("_law_next_wires", none), "_law_next_wires", "_law_next_wires", defArgs s__law_next_wires, defBody s__law_next_wires, defScope s__law_next_wires, [], []⟩
def d__law_next_lot : He.DefD := ⟨("_law_next_lot", none), "_law_next_lot", "_law_next_lot", defArgs s__law_next_lot, defBody s__law_next_lot, defScope s__law_next_lot, [], []⟩
def d__law_next : He.DefD := ⟨("_law_next", none), "_law_next", "_law_next", defArgs s__law_next, defBody s__law_next, defScope s__law_next, [], []⟩
def d__law_signs : He.DefD := ⟨("_law_signs", none), "_law_signs", "_law_signs", defArgs s__law_signs, defBody s__law_signs, defScope s__law_signs, [], []⟩
def d__law_harm : He.DefD := ⟨("_law_harm", none), "_law_harm", "_law_harm", defArgs s__law_harm, defBody s__law_harm, defScope s__law_harm, [], []⟩
def d__law_small_right : He.DefD := ⟨("_law_small_right", none), "_law_small_right", "_law_small_right", defArgs s__law_small_right, defBody s__law_small_right, defScope s__law_small_right, [], []⟩
def d__law_near_right : He.DefD := ⟨("_law_near_right", none), "_law_near_right", "_law_near_right", defArgs s__law_near_right, defBody s__law_near_right, defScope s__law_near_right, [], []⟩
def d__law_great_right : He.DefD := ⟨("_law_great_right", none), "_law_great_right", "_law_great_right", defArgs s__law_great_right, defBody s__law_great_right, defScope s__law_great_right, [], []⟩
def d_law : He.DefD := ⟨("law", none), "law", "law", defArgs s_law, defBody s_law, defScope s_law, [], []⟩
def fn0 : List He.DefD := [d_is_whole, d_is_between, d_check_number, d_link_fits, d_check_link, d_sound_fits, d_check_sound, d_bit_fits, d_counts_fit, d_lot_fits, d_hosts_fit, d_contents_fit, d_check_contents, d_even_fits, d_old_of, d_answers_of, d_choose, d_least_with, d_there_size, d_back_size]
def fn1 : List He.DefD := [d_lots_in, d_lot_number, d_lot_numbered, d_there_before, d_back_before, d_answers_in, d_old_in, d_signs_in, d_harm_of_signs, d_harm_in, d_codes_of, d_coded, d_amount, d_sufficing, d_sufficing_before, d_old_before, d_lots_amount, d_hosts_amount, d_heard_before, d_counted]
def fn2 : List He.DefD := [d_wanted_old, d_old_there_before, d_own_back_before, d_there_amount, d_back_amount, d_code_at, d_number_of_harm_in, d_wires_numbered, d_harm_numbered_in, d_check_harm, d_of_harms, d_of_harm_numbered, d_number_of_its_harm, d_next_of_harm, d__law_hash, d__law_random, d__law_cell, d__law_generator, d__law_lots, d__law_all]
def fn3 : List He.DefD := [d__law_sum, d__law_here, d__law_great, d__law_key, d__law_next_wires, d__law_next_lot, d__law_next, d__law_signs, d__law_harm, d__law_small_right, d__law_near_right, d__law_great_right, d_law]
def fnAll : List He.DefD := fn0 ++ fn1 ++ fn2 ++ fn3
def fa0 : List He.Fa := [.glo "is_whole", .glo "is_between", .glo "check_number", .glo "link_fits", .glo "check_link", .glo "sound_fits", .glo "check_sound", .glo "bit_fits", .glo "counts_fit", .glo "lot_fits", .glo "hosts_fit", .glo "contents_fit", .glo "check_contents", .glo "even_fits", .glo "old_of", .glo "answers_of", .glo "choose", .glo "least_with", .glo "there_size", .glo "back_size"]
def fa1 : List He.Fa := [.glo "lots_in", .glo "lot_number", .glo "lot_numbered", .glo "there_before", .glo "back_before", .glo "answers_in", .glo "old_in", .glo "signs_in", .glo "harm_of_signs", .glo "harm_in", .glo "codes_of", .glo "coded", .glo "amount", .glo "sufficing", .glo "sufficing_before", .glo "old_before", .glo "lots_amount", .glo "hosts_amount", .glo "heard_before", .glo "counted"]
def fa2 : List He.Fa := [.glo "wanted_old", .glo "old_there_before", .glo "own_back_before", .glo "there_amount", .glo "back_amount", .glo "code_at", .glo "number_of_harm_in", .glo "wires_numbered", .glo "harm_numbered_in", .glo "check_harm", .glo "of_harms", .glo "of_harm_numbered", .glo "number_of_its_harm", .glo "next_of_harm", .glo "_law_hash", .glo "_law_random", .glo "_law_cell", .glo "_law_generator", .glo "_law_lots", .glo "_law_all"]
def fa3 : List He.Fa := [.glo "_law_sum", .glo "_law_here", .glo "_law_great", .glo "_law_key", .glo "_law_next_wires", .glo "_law_next_lot", .glo "_law_next", .glo "_law_signs", .glo "_law_harm", .glo "_law_small_right", .glo "_law_near_right", .glo "_law_great_right", .glo "law"]
def faB : List He.Fa := [.free "isinstance", .free "int", .free "bool", .free "tuple", .free "str", .free "len", .free "sum", .free "range", .free "min", .free "max", .free "repr", .free "list"]
def faAll : List He.Fa := fa0 ++ fa1 ++ fa2 ++ fa3 ++ faB
def tabs : List He.Defn := [("wires_numbered", none), ("harm_numbered_in", none)]
def looseNames : List PySem.Str := (["WireError", "InvalidNumber", "InvalidLink", "InvalidContents", "Unlike", "is_whole", "is_between", "check_number", "link_fits", "check_link", "sound_fits", "check_sound", "bit_fits", "counts_fit", "lot_fits", "hosts_fit", "contents_fit", "check_contents", "even_fits", "old_of", "answers_of", "choose", "least_with", "there_size", "back_size", "lots_in", "lot_number", "lot_numbered", "there_before", "back_before"] : List PySem.Str) ++ (["answers_in", "old_in", "signs_in", "harm_of_signs", "harm_in", "codes_of", "coded", "amount", "sufficing", "sufficing_before", "old_before", "lots_amount", "hosts_amount", "heard_before", "counted", "wanted_old", "old_there_before", "own_back_before", "there_amount", "back_amount", "code_at", "number_of_harm_in", "wires_numbered", "harm_numbered_in", "check_harm", "of_harms", "of_harm_numbered", "number_of_its_harm", "next_of_harm", "_law_hash"] : List PySem.Str) ++ (["_law_random", "_law_cell", "_law_generator", "_law_events", "_law_changed", "_law_place", "_law_can", "_law_brought", "_law_heard", "_law_behind", "_law_lots", "_law_all", "_law_sum", "_law_here", "_law_great", "_law_key", "_law_next_wires", "_law_next_lot", "_law_next", "_law_small", "_law_times", "_law_whole", "_law_signs", "_law_harm", "_law_small_right", "_law_near_right", "_law_great_right"] : List PySem.Str)
end HW
/-! part W0 -/
namespace HW
open PySem PySem.Spec PyProof.Rows L2 NdefX LamX
/-! ### what is known behind the top -/
structure Facts (K : PySem.W.Frag) (mg : Str → Option Value) : Prop where
  fn : ∀ (i : Nat) (d : He.DefD), fnAll[i]? = some d → ∃ fd, FunD K d.name d.qual d.params d.body d.scope (d.dvs K) (d.kws K) (He.fAd K d.at_) fd
  gl : ∀ (i : Nat) (d : He.DefD), fnAll[i]? = some d → mg d.name = some (.ref (He.ga K d.name))
  bt : ∀ (i : Nat) (x : Str), (["isinstance", "int", "bool", "tuple", "str", "len", "sum", "range", "min", "max", "repr", "list"] : List Str)[i]? = some x → mg x = none
/-- a def by its name, and its promise -/
structure Fn (P : Program) (w : World) (K : PySem.W.Frag) (mg : Str → Option Value) (base : Heap) (k : Nat) (x : Str) (ps : List Str) (sp : Sp) : Prop where
  ex : ∃ fd, FnOk P w K mg base L2.CX0 k (He.ga K x) fd ps sp ∧ Binds K fd ps []
  gl : mg x = some (.ref (He.ga K x))
  kp : PySem.W.keepIn K (.ref (He.ga K x)) = true
section
variable {P : Program} {w : World} {K : PySem.W.Frag} {mg : Str → Option Value} {base : Heap} {k : Nat} {sp : Sp}
theorem Facts.def_ (Fx : Facts K mg) (i : Nat) {x : Str} {st : Stmt} (hi : fnAll[i]? = some ⟨(x, none), x, x, defArgs st, defBody st, defScope st, [], []⟩) : ∃ fd, FunD K x x (defArgs st) (defBody st) (defScope st) [] [] (He.ga K x) fd := Fx.fn i _ hi
theorem fn_mk (Fx : Facts K mg) (i : Nat) {x : Str} {st : Stmt} {N ps : List Str} (hi : fnAll[i]? = some ⟨(x, none), x, x, defArgs st, defBody st, defScope st, [], []⟩) (S : FnScope N ps (defScope st))
    (hb : ∀ (kV doc pm : Value) (an : Option Addr) (cdv ct : Value) (us : List Value), us.length = ps.length → bindArgs (PySem.W.fnOf x x (defArgs st) (defBody st) (defScope st) .none kV doc pm an cdv ct) ⟨us, []⟩ = pure (ps.zip us))
    (len : ∀ vs H Q E, sp vs H Q E → vs.length = ps.length)
    (body : ∀ (f : Addr) (cdv : Value) (A : Around) (outer : List Env) (s : Shared) (H : Hp) (vs : List V) (Q : VK) (E : XK), Room k (A.deeper (envOfC x (defScope st) s.heap.objs.size f cdv)) → sp vs H Q E →
      ∃ t, PSs (cxOf L2.CX0 P w K mg base N x (defScope st) f cdv A outer s H E).nox (defBody st) t ∧ t { nx := fun _ H' => Q .non H', rt := Q } (L2.start N vs) H) : Fn P w K mg base (k + 1) x ps sp := by
  obtain ⟨fd, F⟩ := Fx.def_ i hi
  refine ⟨⟨fd, F.ok S len fun cdv A outer s H vs Q E hr h => ?_, F.bindsN hb⟩, Fx.gl i _ hi, F.kp⟩
  obtain ⟨t, h1, h2⟩ := body _ cdv A outer s H vs Q E hr h
  exact ⟨t, h1.nox, h2⟩
end
section
variable {X : Cx} {k j : Nat} {sp : Sp} {x : Str} {ps : List Str} {p pos : Pos} {e : Expr} {es : List Expr} {t : TA}
/-- a call of such a def -/
theorem pe_fn (F : Fn X.prog X.w X.K X.mg X.base k x ps sp) (hr : Room j X.A) (ha : PA X (e :: es) t) (hk : k ≤ j := by decide) (hg : Gl X x := by rfl) (hdb : (x == ("__debug__" : Str)) = false := by decide)
    (he : starEach (e :: es) X.env = (false, eval e X.env) :: starEach es X.env := by rfl) (hpl : (backTo pos (starEach es X.env)).any (·.1) = false := by rfl) : PE X (.Call (.Name x p) (e :: es) [] pos) (fun σ H Q => t σ H fun vs H1 => sp vs H1 Q L2.E0) := by
  obtain ⟨fd, G, hb⟩ := F.ex
  have q := pe_call (p := p) (pos := pos) G (hr.mono hk) hg F.gl F.kp hb .nil pass0 ha hdb he hpl
  have e : tCall sp [] L2.E0 t = fun σ H Q => t σ H fun vs H1 => sp vs H1 Q L2.E0 := by
    funext σ H Q
    show t σ H (fun vs H1 => sp (vs ++ []) H1 Q L2.E0) = _
    congr 1
    funext vs H1
    rw [List.append_nil]
  rw [e] at q
  exact q
end
/-! ### heaps -/
section
variable {K : PySem.W.Frag} {H H' H1 : Hp} {a p : Addr} {xs : List V} {o : HO}
theorem sqT_up (np : H p = none) (h : SqT K H a xs) : SqT K (upd H p o) a xs := by
  rcases h with (h | ⟨ob, h⟩) | h
  · exact .inl (.inl ((upd_ne (ne_of_none h np)).trans h))
  · exact .inl (.inr ⟨ob, (upd_ne (ne_of_none h np)).trans h⟩)
  · exact .inr h
theorem sqL_up (np : H p = none) (h : SqL K H a xs) : SqL K (upd H p o) a xs := by
  rcases h with (h | ⟨ob, h⟩) | h
  · exact .inl (.inl ((upd_ne (ne_of_none h np)).trans h))
  · exact .inl (.inr ⟨ob, (upd_ne (ne_of_none h np)).trans h⟩)
  · exact .inr h
theorem sqT_N (e : ExtN H H') (h : SqT K H a xs) : SqT K H' a xs := by
  rcases h with (h | ⟨ob, h⟩) | h
  · exact .inl (.inl (e _ _ h fun ps z => by cases z))
  · exact .inl (.inr ⟨ob, e _ _ h fun ps z => by cases z⟩)
  · exact .inr h
theorem sqL_N (e : ExtN H H') (h : SqL K H a xs) : SqL K H' a xs := by
  rcases h with (h | ⟨ob, h⟩) | h
  · exact .inl (.inl (e _ _ h fun ps z => by cases z))
  · exact .inl (.inr ⟨ob, e _ _ h fun ps z => by cases z⟩)
  · exact .inr h
theorem sqT_S (e : Same H H') (h : SqT K H a xs) : SqT K H' a xs := sqT_N (Same.extN e) h
theorem sqL_S (e : Same H H') (h : SqL K H a xs) : SqL K H' a xs := sqL_N (Same.extN e) h
theorem same_new {H : Hp} {p : Addr} (h : H p = none) (o : HO) : Same H (upd H p o) := fun b u q => by rw [upd_ne (ne_of_none q h)]; exact q
theorem same_up (e : Same H H') (np : H' p = none) : Same H (upd H' p o) := e.trans (same_new np o)
theorem extN_up (e : ExtN H H') (np : H' p = none) : ExtN H (upd H' p o) := e.trans (Same.extN (same_new np o))
theorem Tabs.up {T : List (Addr × Str)} (t : Tabs T H) (np : H p = none) : Tabs T (upd H p o) := t.ext (same_new np o)
theorem Tabs.S {T : List (Addr × Str)} (t : Tabs T H) (e : Same H H') : Tabs T H' := t.ext e
end
/-! ### the program's data at their addresses -/
open HM (Lk Ct Lot)
def codeS : HM.Code → Str
  | .all => "all"
  | .none => "none"
  | .suff => "suffice"
  | .lack => "lack"
section
variable (K : PySem.W.Frag) (H : Hp)
abbrev LkA (a : Addr) (L : Lk) : Prop := SqT K H a [.int L.c, .int L.d, .int L.p, .int L.q]
abbrev CdA (a : Addr) (cs : HM.Code × HM.Code) : Prop := SqT K H a [.str (codeS cs.1), .str (codeS cs.2)]
abbrev ThA (a : Addr) (n z o : Int) : Prop := SqT K H a [.int n, .int z, .int o]
abbrev BkA (a : Addr) (y x : Int) : Prop := SqT K H a [.int y, .int x]
/-- a lot as a value -/
inductive LotV : V → Lot → Prop where
  | no : LotV .non .no
  | new {a : Addr} {m : Int} (h : SqT K H a [.str "new", .int m]) : LotV (.ref a) (.new m)
  | old {a : Addr} {m : Int} (h : SqT K H a [.str "old", .int m]) : LotV (.ref a) (.old m)
end
section
variable {K : PySem.W.Frag} {H H' : Hp} {v : V} {l : Lot} {p : Addr} {o : HO}
theorem LotV.N (e : ExtN H H') (h : LotV K H v l) : LotV K H' v l := by
  cases h with
  | no => exact .no
  | new h => exact .new (sqT_N e h)
  | old h => exact .old (sqT_N e h)
theorem LotV.S (e : Same H H') (h : LotV K H v l) : LotV K H' v l := h.N (Same.extN e)
theorem LotV.up (np : H p = none) (h : LotV K H v l) : LotV K (upd H p o) v l := h.S (same_new np o)
end
/-- n is below 2 ^ b in size -/
abbrev Bd (b : Nat) (n : Int) : Prop := n.natAbs < 2 ^ b
theorem bd_mono {a b : Nat} {n : Int} (h : Bd a n) (hab : a ≤ b) : Bd b n := Nat.lt_of_lt_of_le h (Nat.pow_le_pow_right (by decide) hab)
/-! ### tests -/
theorem dT {p : Prop} [Decidable p] (h : decide p = true) : p := of_decide_eq_true h
theorem dF {p : Prop} [Decidable p] (h : ¬ decide p = true) : ¬ p := fun q => h (decide_eq_true q)
theorem nT {p : Prop} [Decidable p] (h : (!decide p) = true) : ¬ p := fun q => by rw [decide_eq_true q] at h; cases h
theorem nF {p : Prop} [Decidable p] (h : ¬ (!decide p) = true) : p := by
  by_cases q : p
  · exact q
  · rw [decide_eq_false q] at h; exact absurd rfl h
theorem eqT {a b : Int} (h : decide (V.int a = V.int b) = true) : a = b := V.int.inj (dT h)
theorem eqF {a b : Int} (h : ¬ decide (V.int a = V.int b) = true) : a ≠ b := fun q => dF h (by rw [q])
theorem neT {a b : Int} (h : (!decide (V.int a = V.int b)) = true) : a ≠ b := fun q => nT h (by rw [q])
theorem neF {a b : Int} (h : ¬ (!decide (V.int a = V.int b)) = true) : a = b := V.int.inj (nF h)
theorem mulW {a b : Nat} {i j : Int} (hi : HM.Bd a i) (hj : HM.Bd b j) (h0 : 0 < a) (h1 : 0 < b) (h : a + b ≤ 1000000) : CMulW i j := wide_mul hi hj h0 h1 h
theorem ite_q {p : Prop} [Decidable p] {Q : VK} {H : Hp} {a b : Int} (h : Q (.int (if p then a else b)) H) : (p → Q (.int a) H) ∧ (¬ p → Q (.int b) H) :=
  ⟨fun c => by rw [if_pos c] at h; exact h, fun c => by rw [if_neg c] at h; exact h⟩
end HW
/-! part W1 -/
namespace HW
open PySem PySem.Spec PyProof.Rows L2 NdefX LamX
open HM (Lk Ct Lot)
local macro_rules | `(tactic| walk_at "sq") => `(tactic| first | assumption | exact SqT.of upd_same | exact sqT_up (by assumption) (by walk_at "sq") | exact sqT_S (by assumption) (by walk_at "sq") | exact sqT_N (by assumption) (by walk_at "sq"))
local macro_rules | `(tactic| walk_at "sl") => `(tactic| first | assumption | exact SqL.of upd_same | exact SqL.of (by assumption) | exact sqL_up (by assumption) (by walk_at "sl") | exact sqL_S (by assumption) (by walk_at "sl") | exact sqL_N (by assumption) (by walk_at "sl"))
local macro_rules | `(tactic| walk_at "lt") => `(tactic| first | assumption | exact LotV.up (by assumption) (by walk_at "lt") | exact LotV.S (by assumption) (by walk_at "lt") | exact LotV.N (by assumption) (by walk_at "lt"))
local macro_rules | `(tactic| walk_at "sm") => `(tactic| first | assumption | exact Same.refl _ | exact same_up (by walk_at "sm") (by assumption) | exact Same.trans (by walk_at "sm") (by assumption) | exact same_new (by assumption) _)
local macro_rules | `(tactic| walk_at "pre") => `(tactic| first | assumption | omega | decide)
section
variable {P : Program} {w : World} {K : PySem.W.Frag} {mg : Str → Option Value} {base : Heap}
def sp_choose : Sp := fun vs H Q _ => ∃ n k : Int, vs = [.int n, .int k] ∧ ((k = 2 ∨ k = 3 ∨ k = 4) ∧ n < 2 ^ 110) ∧ Q (.int (HM.ch n k.toNat)) H
/-- f(link) -/
def sp_l (K : PySem.W.Frag) (f : Lk → Int) : Sp := fun vs H Q _ => ∃ (a : Addr) (L : Lk), vs = [.ref a] ∧ (LkA K H a L ∧ L.Ok) ∧ Q (.int (f L)) H
def sp_li (K : PySem.W.Frag) (f : Lk → Int → Int) : Sp := fun vs H Q _ => ∃ (a : Addr) (L : Lk) (i : Int), vs = [.ref a, .int i] ∧ (LkA K H a L ∧ L.Ok ∧ HM.In i) ∧ Q (.int (f L i)) H
def sp_lb (K : PySem.W.Frag) (f : Lk → Bool → Int) : Sp := fun vs H Q _ => ∃ (a : Addr) (L : Lk) (e : Bool), vs = [.ref a, .bl e] ∧ (LkA K H a L ∧ L.Ok) ∧ Q (.int (f L e)) H
theorem sc_choose : FnScope ["number", "size", "found", "step"] ["number", "size"] (defScope s_choose) := ⟨rfl, rfl, rfl, by decide +kernel, rfl, by decide +kernel, by decide +kernel⟩
theorem ok_choose (Fx : Facts K mg) : Fn P w K mg base 1 "choose" ["number", "size"] sp_choose := by
  refine fn_mk Fx 16 (st := s_choose) rfl sc_choose (fun _ _ _ _ _ _ us hl => match us, hl with | [_, _], _ => rfl) (fun vs H Q E h => ?_) (fun f cdv A outer s H vs Q E hr h => ?_)
  · obtain ⟨n, k, rfl, _⟩ := h
    rfl
  obtain ⟨n, k, rfl, ⟨hk, hn⟩, q⟩ := h
  refine ⟨_, (pss_cons (ps_if (pt_cmpR op_lt (pv 0) (pv 1) (nomark _)) (pss_one (ps_ret pe_int)) pss_nil) (pss_cons (ps_set (i := 2) sc_choose.nd rfl (.inl rfl) pe_int) (pss_cons (ps_for PassesOwn.never rfl (pi_range1 (by rfl) (Fx.bt 7 _ rfl) (pa_cons (pv 1) pa_nil)) (pg_name (i := 3) sc_choose.nd rfl (.inl rfl)) (pss_one (ps_set (i := 2) sc_choose.nd rfl (.inl rfl) (pe_op op_fdiv (pe_op op_mulW (pv 2) (pe_op op_sub (pv 0) (pv 3))) (pe_op op_add (pv 3) pe_int))))) (pss_one (ps_ret (pv 2)))))), ?_⟩
  refine ⟨_, rfl, _, rfl, _, _, rfl, rfl, _, rfl, ?_⟩
  refine ite2 (fun c => ?_) (fun c => ?_)
  · have c := dT c
    rw [HM.ch_low (by omega)] at q
    exact q
  · have c := dF c
    refine ⟨_, rfl, _, rfl, by omega, by omega, ?_⟩
    obtain ⟨m, rfl⟩ : ∃ m : Nat, n = (m : Int) := ⟨n.toNat, by omega⟩
    refine for_range (lo := 0) (n := k.toNat) (fun i σ H' => H' = H ∧ i ≤ k.toNat ∧ ∃ z, σ = [some (.int (m : Int)), some (.int k), some (.int (HM.bi m i : Int)), z]) ⟨rfl, Nat.zero_le _, _, by rw [HM.bi_zero]; rfl⟩ (fun i σ H' hi hp => ?_) (fun σ H' hp => ?_)
    · obtain ⟨rfl, _, z, rfl⟩ := hp
      have b := HM.ch_bd (n := (m : Int)) i hn (by omega)
      rw [HM.ch_nat] at b
      refine ⟨_, rfl, _, rfl, _, rfl, _, _, rfl, rfl, _, _, rfl, rfl, mulW b (b := 111) (by unfold HM.Bd; omega) (by decide) (by decide) (by decide), _, rfl, _, _, rfl, rfl, _, _, rfl, rfl, ⟨by omega, by omega⟩, ?_⟩
      refine ⟨rfl, by omega, some (.int (0 + (i : Int))), ?_⟩
      have e := HM.ch_turn m i (by omega)
      rw [show (0 : Int) + (i : Int) = (i : Int) by omega]
      exact congrArg (fun t => [some (V.int (m : Int)), some (V.int k), some (V.int t), some (V.int (i : Int))]) e
    · obtain ⟨rfl, _, z, rfl⟩ := hp
      refine ⟨_, rfl, ?_⟩
      rw [HM.ch_nat] at q
      exact q
theorem sc_there_size : FnScope ["link"] ["link"] (defScope s_there_size) := ⟨rfl, rfl, rfl, by decide +kernel, rfl, by decide +kernel, by decide +kernel⟩
theorem ok_there_size (Fx : Facts K mg) : Fn P w K mg base 2 "there_size" ["link"] (sp_l K HM.thereSize) := by
  have F_choose := ok_choose (P := P) (w := w) (base := base) Fx
  refine fn_mk Fx 18 (st := s_there_size) rfl sc_there_size (fun _ _ _ _ _ _ us hl => match us, hl with | [_], _ => rfl) (fun vs H Q E h => ?_) (fun f cdv A outer s H vs Q E hr h => ?_)
  · obtain ⟨a, L, rfl, _⟩ := h
    rfl
  obtain ⟨a, L, rfl, ⟨hl, hL⟩, q⟩ := h
  have ⟨c1, d1, cp, dq, pb, qb⟩ := hL
  refine ⟨_, (pss_one (ps_ret (pe_fn F_choose hr (pa_cons (pe_op op_add (pe_ix ix_tup (pv 0) pe_int (fun _ _ => rfl)) pe_int) (pa_cons pe_int pa_nil))))), ?_⟩
  refine ⟨_, rfl, _, _, _, _, rfl, rfl, (by walk_at "sq"), rfl, _, _, rfl, rfl, _, _, rfl, (by omega), ?_⟩
  exact q
theorem sc_back_size : FnScope ["link"] ["link"] (defScope s_back_size) := ⟨rfl, rfl, rfl, by decide +kernel, rfl, by decide +kernel, by decide +kernel⟩
theorem ok_back_size (Fx : Facts K mg) : Fn P w K mg base 2 "back_size" ["link"] (sp_l K HM.backSize) := by
  have F_choose := ok_choose (P := P) (w := w) (base := base) Fx
  refine fn_mk Fx 19 (st := s_back_size) rfl sc_back_size (fun _ _ _ _ _ _ us hl => match us, hl with | [_], _ => rfl) (fun vs H Q E h => ?_) (fun f cdv A outer s H vs Q E hr h => ?_)
  · obtain ⟨a, L, rfl, _⟩ := h
    rfl
  obtain ⟨a, L, rfl, ⟨hl, hL⟩, q⟩ := h
  have ⟨c1, d1, cp, dq, pb, qb⟩ := hL
  refine ⟨_, (pss_one (ps_ret (pe_fn F_choose hr (pa_cons (pe_op op_add (pe_ix ix_tup (pv 0) pe_int (fun _ _ => rfl)) pe_int) (pa_cons pe_int pa_nil))))), ?_⟩
  refine ⟨_, rfl, _, _, _, _, rfl, rfl, (by walk_at "sq"), rfl, _, _, rfl, rfl, _, _, rfl, (by omega), ?_⟩
  exact q
theorem sc_lots_in : FnScope ["link", "even"] ["link", "even"] (defScope s_lots_in) := ⟨rfl, rfl, rfl, by decide +kernel, rfl, by decide +kernel, by decide +kernel⟩
theorem ok_lots_in (Fx : Facts K mg) : Fn P w K mg base 1 "lots_in" ["link", "even"] (sp_lb K HM.lotsIn) := by
  refine fn_mk Fx 20 (st := s_lots_in) rfl sc_lots_in (fun _ _ _ _ _ _ us hl => match us, hl with | [_, _], _ => rfl) (fun vs H Q E h => ?_) (fun f cdv A outer s H vs Q E hr h => ?_)
  · obtain ⟨a, L, e, rfl, _⟩ := h
    rfl
  obtain ⟨a, L, e, rfl, ⟨hl, hL⟩, q⟩ := h
  have ⟨c1, d1, cp, dq, pb, qb⟩ := hL
  refine ⟨_, (pss_one (ps_ret (pe_ifExp (pt_val (pv 1)) (pe_ix ix_tup (pv 0) pe_int (fun _ _ => rfl)) (pe_op op_sub (pe_op op_mul pe_int (pe_ix ix_tup (pv 0) pe_int (fun _ _ => rfl))) pe_int)))), ?_⟩
  refine ⟨_, rfl, _, rfl, ?_⟩
  cases e
  · refine iteF ?_
    refine ⟨_, rfl, _, _, _, _, rfl, rfl, (by walk_at "sq"), rfl, _, _, rfl, rfl, (.inl ⟨by decide, by decide⟩), _, _, rfl, rfl, ?_⟩
    exact q
  · refine iteT ?_
    refine ⟨_, rfl, _, _, _, _, rfl, rfl, (by walk_at "sq"), rfl, ?_⟩
    exact q
def sp_therebef (K : PySem.W.Frag) : Sp := fun vs H Q _ => ∃ (a : Addr) (c n z o : Int), vs = [.int c, .ref a] ∧ (ThA K H a n z o ∧ HM.In c ∧ HM.In n ∧ HM.In z) ∧ Q (.int (HM.thereBef c n z o)) H
def sp_backbef (K : PySem.W.Frag) : Sp := fun vs H Q _ => ∃ (a : Addr) (d y x : Int), vs = [.int d, .ref a] ∧ (BkA K H a y x ∧ HM.In d ∧ HM.In y) ∧ Q (.int (HM.backBef d y x)) H
theorem sc_there_before : FnScope ["places", "there", "left", "new", "zeros", "ones"] ["places", "there"] (defScope s_there_before) := ⟨rfl, rfl, rfl, by decide +kernel, rfl, by decide +kernel, by decide +kernel⟩
theorem ok_there_before (Fx : Facts K mg) : Fn P w K mg base 2 "there_before" ["places", "there"] (sp_therebef K) := by
  have F_choose := ok_choose (P := P) (w := w) (base := base) Fx
  refine fn_mk Fx 23 (st := s_there_before) rfl sc_there_before (fun _ _ _ _ _ _ us hl => match us, hl with | [_, _], _ => rfl) (fun vs H Q E h => ?_) (fun f cdv A outer s H vs Q E hr h => ?_)
  · obtain ⟨a, c, n, z, o, rfl, _⟩ := h
    rfl
  obtain ⟨a, c, n, z, o, rfl, ⟨ht, ⟨c1, c2⟩, ⟨n1, n2⟩, ⟨z1, z2⟩⟩, q⟩ := h
  refine ⟨_, (pss_cons (ps_asg (pv 1) (pg_tup rfl (pgs_cons (pg_name (i := 3) sc_there_before.nd rfl (.inl rfl)) (pgs_cons (pg_name (i := 4) sc_there_before.nd rfl (.inl rfl)) (pgs_cons (pg_name (i := 5) sc_there_before.nd rfl (.inl rfl)) pgs_nil))))) (pss_cons (ps_set (i := 2) sc_there_before.nd rfl (.inl rfl) (pe_op op_sub (pv 0) (pv 3))) (pss_one (ps_ret (pe_op op_add (pe_op op_sub (pe_op op_add (pe_op op_sub (pe_fn F_choose hr (pa_cons (pe_op op_add (pv 0) pe_int) (pa_cons pe_int pa_nil))) (pe_fn F_choose hr (pa_cons (pe_op op_add (pv 2) pe_int) (pa_cons pe_int pa_nil)))) (pe_fn F_choose hr (pa_cons (pe_op op_add (pv 2) pe_int) (pa_cons pe_int pa_nil)))) (pe_fn F_choose hr (pa_cons (pe_op op_add (pe_op op_sub (pv 2) (pv 4)) pe_int) (pa_cons pe_int pa_nil)))) (pv 5)))))), ?_⟩
  refine ⟨_, rfl, _, _, rfl, (by walk_at "sq"), rfl, _, _, rfl, _, _, rfl, _, _, rfl, rfl, _, rfl, _, rfl, _, _, rfl, rfl, _, rfl, _, _, rfl, rfl, _, _, rfl, (by omega), _, rfl, _, _, rfl, rfl, _, _, rfl, (by omega), _, _, rfl, rfl, _, rfl, _, _, rfl, rfl, _, _, rfl, (by omega), _, _, rfl, rfl, _, rfl, _, rfl, _, _, rfl, rfl, _, _, rfl, rfl, _, _, rfl, (by omega), _, _, rfl, rfl, _, rfl, _, _, rfl, rfl, ?_⟩
  exact q
theorem sc_back_before : FnScope ["places", "back"] ["places", "back"] (defScope s_back_before) := ⟨rfl, rfl, rfl, by decide +kernel, rfl, by decide +kernel, by decide +kernel⟩
theorem ok_back_before (Fx : Facts K mg) : Fn P w K mg base 2 "back_before" ["places", "back"] (sp_backbef K) := by
  have F_choose := ok_choose (P := P) (w := w) (base := base) Fx
  refine fn_mk Fx 24 (st := s_back_before) rfl sc_back_before (fun _ _ _ _ _ _ us hl => match us, hl with | [_, _], _ => rfl) (fun vs H Q E h => ?_) (fun f cdv A outer s H vs Q E hr h => ?_)
  · obtain ⟨a, d, y, x, rfl, _⟩ := h
    rfl
  obtain ⟨a, d, y, x, rfl, ⟨ht, ⟨c1, c2⟩, ⟨n1, n2⟩⟩, q⟩ := h
  refine ⟨_, (pss_one (ps_ret (pe_op op_add (pe_op op_sub (pe_fn F_choose hr (pa_cons (pe_op op_add (pv 0) pe_int) (pa_cons pe_int pa_nil))) (pe_fn F_choose hr (pa_cons (pe_op op_add (pe_op op_sub (pv 0) (pe_ix ix_tup (pv 1) pe_int (fun _ _ => rfl))) pe_int) (pa_cons pe_int pa_nil)))) (pe_ix ix_tup (pv 1) pe_int (fun _ _ => rfl))))), ?_⟩
  refine ⟨_, rfl, _, _, rfl, rfl, _, _, rfl, (by omega), _, rfl, _, rfl, _, _, _, _, rfl, rfl, (by walk_at "sq"), rfl, _, _, rfl, rfl, _, _, rfl, rfl, _, _, rfl, (by omega), _, _, rfl, rfl, _, rfl, _, _, _, _, rfl, rfl, (by walk_at "sq"), rfl, _, _, rfl, rfl, ?_⟩
  exact q
theorem sc_sufficing : FnScope ["link", "heard"] ["link", "heard"] (defScope s_sufficing) := ⟨rfl, rfl, rfl, by decide +kernel, rfl, by decide +kernel, by decide +kernel⟩
theorem ok_sufficing (Fx : Facts K mg) : Fn P w K mg base 2 "sufficing" ["link", "heard"] (sp_li K HM.suffic) := by
  have F_choose := ok_choose (P := P) (w := w) (base := base) Fx
  refine fn_mk Fx 33 (st := s_sufficing) rfl sc_sufficing (fun _ _ _ _ _ _ us hl => match us, hl with | [_, _], _ => rfl) (fun vs H Q E h => ?_) (fun f cdv A outer s H vs Q E hr h => ?_)
  · obtain ⟨a, L, i, rfl, _⟩ := h
    rfl
  obtain ⟨a, L, i, rfl, ⟨hl, hL, ⟨i1, i2⟩⟩, q⟩ := h
  have ⟨c1, d1, cp, dq, pb, qb⟩ := hL
  refine ⟨_, (pss_one (ps_ret (pe_fn F_choose hr (pa_cons (pe_op op_add (pe_op op_add (pe_op op_sub (pe_ix ix_tup (pv 0) pe_int (fun _ _ => rfl)) (pe_ix ix_tup (pv 0) pe_int (fun _ _ => rfl))) (pv 1)) pe_int) (pa_cons pe_int pa_nil))))), ?_⟩
  refine ⟨_, rfl, _, _, _, _, rfl, rfl, (by walk_at "sq"), rfl, _, rfl, _, _, _, _, rfl, rfl, (by walk_at "sq"), rfl, _, _, rfl, rfl, _, rfl, _, _, rfl, rfl, _, _, rfl, rfl, _, _, rfl, (by omega), ?_⟩
  exact q
theorem sc_sufficing_before : FnScope ["link", "heard"] ["link", "heard"] (defScope s_sufficing_before) := ⟨rfl, rfl, rfl, by decide +kernel, rfl, by decide +kernel, by decide +kernel⟩
theorem ok_sufficing_before (Fx : Facts K mg) : Fn P w K mg base 2 "sufficing_before" ["link", "heard"] (sp_li K HM.sufBef) := by
  have F_choose := ok_choose (P := P) (w := w) (base := base) Fx
  refine fn_mk Fx 34 (st := s_sufficing_before) rfl sc_sufficing_before (fun _ _ _ _ _ _ us hl => match us, hl with | [_, _], _ => rfl) (fun vs H Q E h => ?_) (fun f cdv A outer s H vs Q E hr h => ?_)
  · obtain ⟨a, L, i, rfl, _⟩ := h
    rfl
  obtain ⟨a, L, i, rfl, ⟨hl, hL, ⟨i1, i2⟩⟩, q⟩ := h
  have ⟨c1, d1, cp, dq, pb, qb⟩ := hL
  refine ⟨_, (pss_one (ps_ret (pe_op op_sub (pe_fn F_choose hr (pa_cons (pe_op op_add (pe_op op_add (pe_op op_sub (pe_ix ix_tup (pv 0) pe_int (fun _ _ => rfl)) (pe_ix ix_tup (pv 0) pe_int (fun _ _ => rfl))) (pv 1)) pe_int) (pa_cons pe_int pa_nil))) (pe_fn F_choose hr (pa_cons (pe_op op_add (pe_op op_sub (pe_ix ix_tup (pv 0) pe_int (fun _ _ => rfl)) (pe_ix ix_tup (pv 0) pe_int (fun _ _ => rfl))) pe_int) (pa_cons pe_int pa_nil)))))), ?_⟩
  refine ⟨_, rfl, _, _, _, _, rfl, rfl, (by walk_at "sq"), rfl, _, rfl, _, _, _, _, rfl, rfl, (by walk_at "sq"), rfl, _, _, rfl, rfl, _, rfl, _, _, rfl, rfl, _, _, rfl, rfl, _, _, rfl, (by omega), _, rfl, _, _, _, _, rfl, rfl, (by walk_at "sq"), rfl, _, rfl, _, _, _, _, rfl, rfl, (by walk_at "sq"), rfl, _, _, rfl, rfl, _, _, rfl, rfl, _, _, rfl, (by omega), _, _, rfl, rfl, ?_⟩
  exact q
end
end HW
/-! part W2 -/
namespace HW
open PySem PySem.Spec PyProof.Rows L2 NdefX LamX
open HM (Lk Ct Lot)
local macro_rules | `(tactic| walk_at "sq") => `(tactic| first | assumption | exact SqT.of upd_same | exact sqT_up (by assumption) (by walk_at "sq") | exact sqT_S (by assumption) (by walk_at "sq") | exact sqT_N (by assumption) (by walk_at "sq"))
local macro_rules | `(tactic| walk_at "sl") => `(tactic| first | assumption | exact SqL.of upd_same | exact SqL.of (by assumption) | exact sqL_up (by assumption) (by walk_at "sl") | exact sqL_S (by assumption) (by walk_at "sl") | exact sqL_N (by assumption) (by walk_at "sl"))
local macro_rules | `(tactic| walk_at "lt") => `(tactic| first | assumption | exact LotV.up (by assumption) (by walk_at "lt") | exact LotV.S (by assumption) (by walk_at "lt") | exact LotV.N (by assumption) (by walk_at "lt"))
local macro_rules | `(tactic| walk_at "sm") => `(tactic| first | assumption | exact Same.refl _ | exact same_up (by walk_at "sm") (by assumption) | (refine Same.trans ?_ (by assumption); walk_at "sm") | exact same_new (by assumption) _)
local macro_rules | `(tactic| walk_at "pre") => `(tactic| first | assumption | omega | decide)
section
variable {P : Program} {w : World} {K : PySem.W.Frag} {mg : Str → Option Value} {base : Heap}
def sp_coded : Sp := fun vs H Q _ => ∃ (cd : HM.Code) (s w : Int), vs = [.str (codeS cd), .int s, .int w] ∧ Q (.int (HM.coded cd s w)) H
theorem sc_coded : FnScope ["code", "suffice", "whole"] ["code", "suffice", "whole"] (defScope s_coded) := ⟨rfl, rfl, rfl, by decide +kernel, rfl, by decide +kernel, by decide +kernel⟩
theorem ok_coded (Fx : Facts K mg) : Fn P w K mg base 1 "coded" ["code", "suffice", "whole"] sp_coded := by
  refine fn_mk Fx 31 (st := s_coded) rfl sc_coded (fun _ _ _ _ _ _ us hl => match us, hl with | [_, _, _], _ => rfl) (fun vs H Q E h => ?_) (fun f cdv A outer s H vs Q E hr h => ?_)
  · obtain ⟨cd, s, w, rfl, _⟩ := h
    rfl
  obtain ⟨cd, s, w, rfl, q⟩ := h
  refine ⟨_, (pss_cons (ps_if (pt_cmpR op_eq (pv 0) pe_str (nomark _)) (pss_one (ps_ret (pv 2))) pss_nil) (pss_cons (ps_if (pt_cmpR op_eq (pv 0) pe_str (nomark _)) (pss_one (ps_ret pe_int)) pss_nil) (pss_one (ps_ret (pe_ifExp (pt_cmpR op_eq (pv 0) pe_str (nomark _)) (pv 1) (pe_op op_sub (pv 2) (pv 1))))))), ?_⟩
  cases cd with
  | all =>
    refine ⟨_, rfl, rfl, _, rfl, ?_⟩
    refine ite2 (fun c => ?_) (fun c => absurd (by decide) c)
    refine ⟨_, rfl, ?_⟩
    exact q
  | none =>
    refine ⟨_, rfl, rfl, _, rfl, ?_⟩
    refine ite2 (fun c => absurd c (by decide)) (fun c => ?_)
    refine ⟨_, rfl, rfl, _, rfl, ?_⟩
    refine ite2 (fun c => ?_) (fun c => absurd (by decide) c)
    exact q
  | suff =>
    refine ⟨_, rfl, rfl, _, rfl, ?_⟩
    refine ite2 (fun c => absurd c (by decide)) (fun c => ?_)
    refine ⟨_, rfl, rfl, _, rfl, ?_⟩
    refine ite2 (fun c => absurd c (by decide)) (fun c => ?_)
    refine ⟨_, rfl, rfl, _, rfl, ?_⟩
    refine ite2 (fun c => ?_) (fun c => absurd (by decide) c)
    refine ⟨_, rfl, ?_⟩
    exact q
  | lack =>
    refine ⟨_, rfl, rfl, _, rfl, ?_⟩
    refine ite2 (fun c => absurd c (by decide)) (fun c => ?_)
    refine ⟨_, rfl, rfl, _, rfl, ?_⟩
    refine ite2 (fun c => absurd c (by decide)) (fun c => ?_)
    refine ⟨_, rfl, rfl, _, rfl, ?_⟩
    refine ite2 (fun c => absurd c (by decide)) (fun c => ?_)
    refine ⟨_, rfl, _, rfl, _, _, rfl, rfl, ?_⟩
    exact q
def sp_codes (K : PySem.W.Frag) : Sp := fun vs H Q _ => ∃ (h : Int) (e d : Bool), vs = [.int h, .bl e, .bl d] ∧ ∀ a H', Same H H' → CdA K H' a (HM.codes h e d) → Q (.ref a) H'
/-- what {i: x, j: y} holds at k -/
theorem two_get {i j k : Int} {x y : V} (h : i ≠ j) : valV (mergeK [] [(Sum.inl i, x), (Sum.inl j, y)]) (Sum.inl k : Key) = if k = i then some x else if k = j then some y else none := by
  have h2 : ¬ ((Sum.inl i : Key) = Sum.inl j) := fun z => h (Sum.inl.inj z)
  have e : mergeK [] [((Sum.inl i : Key), x), (Sum.inl j, y)] = [(Sum.inl i, x), (Sum.inl j, y)] := by
    unfold mergeK
    simp only [List.foldl_cons, List.foldl_nil]
    unfold putK
    simp [h2]
  rw [e]
  by_cases h1 : k = i
  · rw [if_pos h1, h1]
    exact valV_pos rfl
  · rw [if_neg h1, valV_neg (fun z => h1 (Sum.inl.inj z).symm)]
    by_cases h3 : k = j
    · rw [if_pos h3, h3]
      exact valV_pos rfl
    · rw [if_neg h3, valV_neg (fun z => h3 (Sum.inl.inj z).symm)]
      rfl
theorem disp_get {σ : L2.St} {H : Hp} {i j : Int} {u v x y : Str} {dx dy : Str} {h : Int} {Q : VK} {n : Nat} (hij : i ≠ j) (hs : σ[n]? = some (some (.int h)))
    (q : ∀ a H' cs, Same H H' → H' a = some (.tup [.str cs.1, .str cs.2]) → cs = (if h = i then (u, v) else if h = j then (x, y) else (dx, dy)) → Q (.ref a) H') :
    tDGet2 (tDisp [(tC (.int i), tTup (tCons (tC (.str u)) (tCons (tC (.str v)) tNil))), (tC (.int j), tTup (tCons (tC (.str x)) (tCons (tC (.str y)) tNil)))]) (tVar n) (tTup (tCons (tC (.str dx)) (tCons (tC (.str dy)) tNil))) σ H Q := by
  refine fun p np => ⟨(by show 2 ≤ sizeLine; decide), fun p1 np1 => ⟨(by show 2 ≤ sizeLine; decide), fun p2 np2 => ?_⟩⟩
  have n1 : p ≠ p1 := ne_of_none upd_same np1
  have n2 : p ≠ p2 := ne_of_none ((upd_ne n1).trans upd_same) np2
  have n12 : p1 ≠ p2 := ne_of_none upd_same np2
  refine ⟨by rw [upd_ne n2, upd_ne n1, upd_same], [(Sum.inl i, .ref p1), (Sum.inl j, .ref p2)], rfl, (by show 2 ≤ 15; decide), ?_⟩
  refine ⟨p, rfl, .inl ⟨_, .inl upd_same⟩, _, hs, (by show 2 ≤ sizeLine; decide), fun p3 np3 => ?_⟩
  have n3 : p ≠ p3 := ne_of_none upd_same np3
  have n13 : p1 ≠ p3 := ne_of_none (show upd _ p _ p1 = some (.tup [.str u, .str v]) by rw [upd_ne (Ne.symm n1), upd_ne n12, upd_same]) np3
  have n23 : p2 ≠ p3 := ne_of_none (show upd _ p _ p2 = some (.tup [.str x, .str y]) by rw [upd_ne (Ne.symm n2), upd_same]) np3
  refine ⟨_, DGet.k (k := Sum.inl h) (by rw [upd_ne n3]; exact upd_same), ?_⟩
  rw [two_get hij]
  have sm : ∀ H3, H3 = upd (upd (upd (upd (upd H p (.dK [])) p1 (.tup [.str u, .str v])) p2 (.tup [.str x, .str y])) p (.dK (mergeK [] [(Sum.inl i, .ref p1), (Sum.inl j, .ref p2)]))) p3 (.tup [.str dx, .str dy]) → Same H H3 := fun H3 e b o z => by
    have a0 := ne_of_none z np
    have a1 : b ≠ p1 := fun w => by rw [w] at z; have := (upd_ne (o := HO.dK []) (Ne.symm n1)).trans z; rw [np1] at this; cases this
    have z1 : upd H p (.dK []) b = some o := (upd_ne a0).trans z
    have z2 : upd (upd H p (.dK [])) p1 (.tup [.str u, .str v]) b = some o := (upd_ne a1).trans z1
    have a2 := ne_of_none z2 np2
    have z3 := (upd_ne (o := HO.tup [.str x, .str y]) a2).trans z2
    have z4 := (upd_ne (o := HO.dK (mergeK [] [(Sum.inl i, .ref p1), (Sum.inl j, .ref p2)])) a0).trans z3
    have a3 := ne_of_none z4 np3
    rw [e]
    exact (upd_ne a3).trans z4
  by_cases h1 : h = i
  · rw [if_pos h1]
    exact q p1 _ (u, v) (sm _ rfl) (by rw [upd_ne n13, upd_ne (Ne.symm n1), upd_ne n12, upd_same]) (by rw [if_pos h1])
  · rw [if_neg h1]
    by_cases h2 : h = j
    · rw [if_pos h2]
      exact q p2 _ (x, y) (sm _ rfl) (by rw [upd_ne n23, upd_ne (Ne.symm n2), upd_same]) (by rw [if_neg h1, if_pos h2])
    · rw [if_neg h2]
      exact q p3 _ (dx, dy) (sm _ rfl) upd_same (by rw [if_neg h1, if_neg h2])
theorem cd_is {H' : Hp} {a : Addr} {cs : Str × Str} {c : HM.Code × HM.Code} (e : H' a = some (.tup [.str cs.1, .str cs.2])) (h : cs = (codeS c.1, codeS c.2)) : CdA K H' a c := by
  subst h
  exact SqT.of e
theorem cs_if {p q : Prop} [Decidable p] [Decidable q] {x y z : HM.Code × HM.Code} {c : HM.Code × HM.Code} (h : c = if p then x else if q then y else z) :
    (if p then (codeS x.1, codeS x.2) else if q then (codeS y.1, codeS y.2) else (codeS z.1, codeS z.2)) = (codeS c.1, codeS c.2) := by
  rw [h]
  (repeat' split) <;> rfl
theorem sc_codes_of : FnScope ["harm", "even", "done"] ["harm", "even", "done"] (defScope s_codes_of) := ⟨rfl, rfl, rfl, by decide +kernel, rfl, by decide +kernel, by decide +kernel⟩
theorem ok_codes_of (Fx : Facts K mg) : Fn P w K mg base 1 "codes_of" ["harm", "even", "done"] (sp_codes K) := by
  refine fn_mk Fx 30 (st := s_codes_of) rfl sc_codes_of (fun _ _ _ _ _ _ us hl => match us, hl with | [_, _, _], _ => rfl) (fun vs H Q E h => ?_) (fun f cdv A outer s H vs Q E hr h => ?_)
  · obtain ⟨h, e, d, rfl, _⟩ := h
    rfl
  obtain ⟨h, e, d, rfl, q⟩ := h
  refine ⟨_, (pss_cons (ps_if (PW.pt (pw_and (pt_val (pv 1)) (pw_and1 (pt_val (pv 2))))) (pss_one (ps_ret (pe_dget2 (hu_of hr) (pe_disp (pps_cons pe_int (pe_tup (pa_cons pe_str (pa_cons pe_str pa_nil))) (pps_cons pe_int (pe_tup (pa_cons pe_str (pa_cons pe_str pa_nil))) pps_nil)) (by rfl) (by rfl) (fun z => by cases z) (by decide)) (pv 0) (pe_tup (pa_cons pe_str (pa_cons pe_str pa_nil))) ⟨rfl, rfl, rfl, rfl⟩))) pss_nil) (pss_cons (ps_if (pt_val (pv 1)) (pss_one (ps_ret (pe_dget2 (hu_of hr) (pe_disp (pps_cons pe_int (pe_tup (pa_cons pe_str (pa_cons pe_str pa_nil))) (pps_cons pe_int (pe_tup (pa_cons pe_str (pa_cons pe_str pa_nil))) pps_nil)) (by rfl) (by rfl) (fun z => by cases z) (by decide)) (pv 0) (pe_tup (pa_cons pe_str (pa_cons pe_str pa_nil))) ⟨rfl, rfl, rfl, rfl⟩))) pss_nil) (pss_cons (ps_if (pt_val (pv 2)) (pss_one (ps_ret (pe_ifExp (pt_cmpR op_eq (pv 0) pe_int (nomark _)) (pe_tup (pa_cons pe_str (pa_cons pe_str pa_nil))) (pe_tup (pa_cons pe_str (pa_cons pe_str pa_nil)))))) pss_nil) (pss_one (ps_ret (pe_dget2 (hu_of hr) (pe_disp (pps_cons pe_int (pe_tup (pa_cons pe_str (pa_cons pe_str pa_nil))) (pps_cons pe_int (pe_tup (pa_cons pe_str (pa_cons pe_str pa_nil))) pps_nil)) (by rfl) (by rfl) (fun z => by cases z) (by decide)) (pv 0) (pe_tup (pa_cons pe_str (pa_cons pe_str pa_nil))) ⟨rfl, rfl, rfl, rfl⟩)))))), ?_⟩
  cases e with
  | true =>
    cases d with
    | true =>
      refine ⟨_, rfl, _, rfl, iteT ⟨_, rfl, _, rfl, iteT ?_⟩⟩
      exact disp_get (i := 0) (j := 2) (by decide) rfl fun a H' cs e1 e2 e3 => q a H' e1 (cd_is e2 (e3.trans (cs_if (x := (.none, .all)) (y := (.all, .none)) (z := (.none, .none)) rfl)))
    | false =>
      refine ⟨_, rfl, _, rfl, iteT ⟨_, rfl, _, rfl, iteF ?_⟩⟩
      refine ⟨_, rfl, _, rfl, iteT ?_⟩
      exact disp_get (i := 1) (j := 3) (by decide) rfl fun a H' cs e1 e2 e3 => q a H' e1 (cd_is e2 (e3.trans (cs_if (x := (.lack, .all)) (y := (.suff, .none)) (z := (.none, .none)) rfl)))
  | false =>
    refine ⟨_, rfl, _, rfl, iteF ?_⟩
    refine iteF ⟨_, rfl, _, rfl, iteF ?_⟩
    cases d with
    | true =>
      refine ⟨_, rfl, _, rfl, iteT ⟨_, rfl, rfl, _, rfl, ?_⟩⟩
      refine ite2 (fun c => ?_) (fun c => ?_)
      · have c := eqT c
        refine ⟨(by show 2 ≤ sizeLine; decide), fun p np => q p _ (same_new np _) (SqT.of (upd_same.trans ?_))⟩
        rw [show HM.codes h false true = (.all, .all) from if_pos c]; rfl
      · have c := eqF c
        refine ⟨(by show 2 ≤ sizeLine; decide), fun p np => q p _ (same_new np _) (SqT.of (upd_same.trans ?_))⟩
        rw [show HM.codes h false true = (.none, .none) from if_neg c]; rfl
    | false =>
      refine ⟨_, rfl, _, rfl, iteF ?_⟩
      exact disp_get (i := 0) (j := 2) (by decide) rfl fun a H' cs e1 e2 e3 => q a H' e1 (cd_is e2 (e3.trans (cs_if (x := (.none, .lack)) (y := (.all, .suff)) (z := (.none, .none)) rfl)))
def sp_amount (K : PySem.W.Frag) : Sp := fun vs H Q _ => ∃ (a : Addr) (cs : HM.Code × HM.Code) (o m s w : Int), vs = [.ref a, .int o, .int m, .int s, .int w] ∧ (CdA K H a cs ∧ HM.Bd 700 o ∧ HM.Bd 700 m ∧ HM.Bd 700 s ∧ HM.Bd 700 w) ∧ Q (.int (HM.amt cs o m s w)) H
def sp_oldbef (K : PySem.W.Frag) : Sp := fun vs H Q _ => ∃ (a : Addr) (L : Lk) (e : Bool) (i : Int), vs = [.ref a, .bl e, .int i] ∧ (LkA K H a L ∧ L.Ok ∧ HM.In i) ∧ Q (.int (HM.oldBef L e i)) H
def sp_lots (K : PySem.W.Frag) : Sp := fun vs H Q _ => ∃ (a : Addr) (L : Lk) (h : Int) (e : Bool) (i s w : Int), vs = [.ref a, .int h, .bl e, .int i, .int s, .int w] ∧ (LkA K H a L ∧ L.Ok ∧ HM.In i ∧ HM.Bd 700 s ∧ HM.Bd 700 w) ∧ ∀ H', Same H H' → Q (.int (HM.lotsAmt L h e i s w)) H'
def sp_hosts (K : PySem.W.Frag) : Sp := fun vs H Q _ => ∃ (a : Addr) (L : Lk) (h s w : Int), vs = [.ref a, .int h, .int s, .int w] ∧ (LkA K H a L ∧ L.Ok ∧ HM.Bd 700 s ∧ HM.Bd 700 w) ∧ ∀ H', Same H H' → Q (.int (HM.hostsAmt L h s w)) H'
def sp_heard (K : PySem.W.Frag) : Sp := fun vs H Q _ => ∃ (a : Addr) (L : Lk) (h i : Int), vs = [.ref a, .int h, .int i] ∧ (LkA K H a L ∧ L.Ok ∧ HM.In i) ∧ ∀ H', Same H H' → Q (.int (HM.heardBef L h i)) H'
def sp_counted (K : PySem.W.Frag) : Sp := fun vs H Q _ => ∃ (a : Addr) (L : Lk) (h : Int), vs = [.ref a, .int h] ∧ (LkA K H a L ∧ L.Ok) ∧ ∀ H', Same H H' → Q (.int (HM.counted L h)) H'
theorem sc_amount : FnScope ["codes", "old", "many", "suffice", "whole"] ["codes", "old", "many", "suffice", "whole"] (defScope s_amount) := ⟨rfl, rfl, rfl, by decide +kernel, rfl, by decide +kernel, by decide +kernel⟩
theorem ok_amount (Fx : Facts K mg) : Fn P w K mg base 2 "amount" ["codes", "old", "many", "suffice", "whole"] (sp_amount K) := by
  have F_coded := ok_coded (P := P) (w := w) (base := base) Fx
  refine fn_mk Fx 32 (st := s_amount) rfl sc_amount (fun _ _ _ _ _ _ us hl => match us, hl with | [_, _, _, _, _], _ => rfl) (fun vs H Q E h => ?_) (fun f cdv A outer s H vs Q E hr h => ?_)
  · obtain ⟨a, cs, o, m, s, w, rfl, _⟩ := h
    rfl
  obtain ⟨a, cs, o, m, s, w, rfl, ⟨hc, ho, hm, hs, hw⟩, q⟩ := h
  refine ⟨_, (pss_one (ps_ret (pe_op op_add (pe_op op_mulW (pv 1) (pe_fn F_coded hr (pa_cons (pe_ix ix_tup (pv 0) pe_int (fun _ _ => rfl)) (pa_cons (pv 3) (pa_cons (pv 4) pa_nil))))) (pe_op op_mulW (pe_op op_sub (pv 2) (pv 1)) (pe_fn F_coded hr (pa_cons (pe_ix ix_tup (pv 0) pe_int (fun _ _ => rfl)) (pa_cons (pv 3) (pa_cons (pv 4) pa_nil)))))))), ?_⟩
  refine ⟨_, rfl, _, rfl, _, _, _, _, rfl, rfl, (by walk_at "sq"), rfl, _, rfl, _, rfl, _, _, _, rfl, _, _, rfl, rfl, (mulW ho (HM.coded_bd hs hw) (by decide) (by decide) (by decide)), _, rfl, _, rfl, _, _, rfl, rfl, _, rfl, _, _, _, _, rfl, rfl, (by walk_at "sq"), rfl, _, rfl, _, rfl, _, _, _, rfl, _, _, rfl, rfl, (mulW (hm.sub ho) (HM.coded_bd hs hw) (by decide) (by decide) (by decide)), _, _, rfl, rfl, ?_⟩
  exact q
theorem sc_old_before : FnScope ["link", "even", "lots", "plain", "more", "rest", "places", "copies"] ["link", "even", "lots"] (defScope s_old_before) := ⟨rfl, rfl, rfl, by decide +kernel, rfl, by decide +kernel, by decide +kernel⟩
theorem ok_old_before (Fx : Facts K mg) : Fn P w K mg base 2 "old_before" ["link", "even", "lots"] (sp_oldbef K) := by
  have F_choose := ok_choose (P := P) (w := w) (base := base) Fx
  refine fn_mk Fx 35 (st := s_old_before) rfl sc_old_before (fun _ _ _ _ _ _ us hl => match us, hl with | [_, _, _], _ => rfl) (fun vs H Q E h => ?_) (fun f cdv A outer s H vs Q E hr h => ?_)
  · obtain ⟨a, L, e, i, rfl, _⟩ := h
    rfl
  obtain ⟨a, L, e, i, rfl, ⟨hl, hL, hi⟩, q⟩ := h
  have ⟨c1, d1, cp, dq, pb, qb⟩ := hL
  have ⟨i1, i2⟩ := hi
  refine ⟨_, (pss_cons (ps_par (i := 6) (j := 7) rfl sc_old_before.nd rfl rfl (by decide) rfl rfl (pa_cons (pe_ix ix_tup (pv 0) pe_int (fun _ _ => rfl)) (pa_cons (pe_ix ix_tup (pv 0) pe_int (fun _ _ => rfl)) pa_nil)) (by rfl)) (pss_cons (ps_set (i := 3) sc_old_before.nd rfl (.inl rfl) (pe_callB (call_min2 rfl) (by rfl) (Fx.bt 8 _ rfl) boot_min (pa_cons (pv 2) (pa_cons (pe_ifExp (pt_val (pv 1)) pe_int (pv 7)) pa_nil)))) (pss_cons (ps_set (i := 4) sc_old_before.nd rfl (.inl rfl) (pe_op op_sub (pv 2) (pv 3))) (pss_cons (ps_set (i := 5) sc_old_before.nd rfl (.inl rfl) (pe_op op_sub (pe_fn F_choose hr (pa_cons (pe_op op_add (pe_op op_add (pe_op op_sub (pv 6) (pv 7)) (pv 4)) pe_int) (pa_cons pe_int pa_nil))) (pe_fn F_choose hr (pa_cons (pe_op op_add (pe_op op_sub (pv 6) (pv 7)) pe_int) (pa_cons pe_int pa_nil))))) (pss_one (ps_ret (pe_op op_add (pe_op op_mulW (pv 3) (pe_fn F_choose hr (pa_cons (pe_op op_add (pe_op op_sub (pv 6) (pv 7)) pe_int) (pa_cons pe_int pa_nil)))) (pv 5)))))))), ?_⟩
  cases e with
  | true =>
    refine ⟨_, rfl, _, _, _, _, rfl, rfl, (by walk_at "sq"), rfl, _, rfl, _, _, _, _, rfl, rfl, (by walk_at "sq"), rfl, _, _, rfl, _, rfl, _, rfl, _, rfl, ?_⟩
    refine iteT ?_
    refine ⟨_, _, rfl, _, rfl, _, rfl, _, _, rfl, rfl, _, rfl, _, rfl, _, _, rfl, rfl, _, rfl, _, _, rfl, rfl, _, _, rfl, rfl, _, _, rfl, ⟨by omega, by split <;> omega⟩, _, rfl, _, rfl, _, _, rfl, rfl, _, _, rfl, rfl, _, _, rfl, (by omega), _, _, rfl, rfl, _, rfl, _, rfl, _, rfl, _, _, rfl, rfl, _, _, rfl, rfl, _, _, rfl, (by omega), _, _, rfl, rfl, (mulW (HM.plain_in (e := true) hL hi).bd (HM.ch_bd 3 (by omega) (by decide)) (by decide) (by decide) (by decide)), _, rfl, _, _, rfl, rfl, ?_⟩
    exact q
  | false =>
    refine ⟨_, rfl, _, _, _, _, rfl, rfl, (by walk_at "sq"), rfl, _, rfl, _, _, _, _, rfl, rfl, (by walk_at "sq"), rfl, _, _, rfl, _, rfl, _, rfl, _, rfl, ?_⟩
    refine iteF ?_
    refine ⟨_, rfl, _, _, rfl, _, rfl, _, rfl, _, _, rfl, rfl, _, rfl, _, rfl, _, _, rfl, rfl, _, rfl, _, _, rfl, rfl, _, _, rfl, rfl, _, _, rfl, ⟨by omega, by split <;> omega⟩, _, rfl, _, rfl, _, _, rfl, rfl, _, _, rfl, rfl, _, _, rfl, (by omega), _, _, rfl, rfl, _, rfl, _, rfl, _, rfl, _, _, rfl, rfl, _, _, rfl, rfl, _, _, rfl, (by omega), _, _, rfl, rfl, (mulW (HM.plain_in (e := false) hL hi).bd (HM.ch_bd 3 (by omega) (by decide)) (by decide) (by decide) (by decide)), _, rfl, _, _, rfl, rfl, ?_⟩
    exact q
theorem sc_lots_amount : FnScope ["link", "harm", "even", "lots", "suffice", "whole", "found", "old", "many"] ["link", "harm", "even", "lots", "suffice", "whole"] (defScope s_lots_amount) := ⟨rfl, rfl, rfl, by decide +kernel, rfl, by decide +kernel, by decide +kernel⟩
theorem ok_lots_amount (Fx : Facts K mg) : Fn P w K mg base 3 "lots_amount" ["link", "harm", "even", "lots", "suffice", "whole"] (sp_lots K) := by
  have F_old_before := ok_old_before (P := P) (w := w) (base := base) Fx
  have F_there_size := ok_there_size (P := P) (w := w) (base := base) Fx
  have F_amount := ok_amount (P := P) (w := w) (base := base) Fx
  have F_codes_of := ok_codes_of (P := P) (w := w) (base := base) Fx
  refine fn_mk Fx 36 (st := s_lots_amount) rfl sc_lots_amount (fun _ _ _ _ _ _ us hl => match us, hl with | [_, _, _, _, _, _], _ => rfl) (fun vs H Q E h => ?_) (fun f cdv A outer s H vs Q E hr h => ?_)
  · obtain ⟨a, L, h, e, i, s, w, rfl, _⟩ := h
    rfl
  obtain ⟨a, L, h, e, i, s, w, rfl, ⟨hl, hL, hi, hs, hw⟩, q⟩ := h
  have ⟨c1, d1, cp, dq, pb, qb⟩ := hL
  refine ⟨_, (pss_cons (ps_par (i := 7) (j := 8) rfl sc_lots_amount.nd rfl rfl (by decide) rfl rfl (pa_cons (pe_fn F_old_before hr (pa_cons (pv 0) (pa_cons (pv 2) (pa_cons (pv 3) pa_nil)))) (pa_cons (pe_op op_mulW (pv 3) (pe_fn F_there_size hr (pa_cons (pv 0) pa_nil))) pa_nil)) (by rfl)) (pss_cons (ps_set (i := 6) sc_lots_amount.nd rfl (.inl rfl) (pe_fn F_amount hr (pa_cons (pe_fn F_codes_of hr (pa_cons (pv 1) (pa_cons (pv 2) (pa_cons pe_bl pa_nil)))) (pa_cons (pv 7) (pa_cons (pv 8) (pa_cons (pv 4) (pa_cons (pv 5) pa_nil))))))) (pss_one (ps_ret (pe_op op_add (pv 6) (pe_fn F_amount hr (pa_cons (pe_fn F_codes_of hr (pa_cons (pv 1) (pa_cons (pv 2) (pa_cons pe_bl pa_nil)))) (pa_cons (pv 7) (pa_cons (pv 8) (pa_cons (pv 4) (pa_cons (pv 5) pa_nil))))))))))), ?_⟩
  refine ⟨_, rfl, _, rfl, _, rfl, _, _, _, _, rfl, ⟨(by walk_at "sq"), hL, hi⟩, _, rfl, _, rfl, _, _, rfl, ⟨(by walk_at "sq"), hL⟩, _, _, rfl, rfl, (mulW hi.bd (HM.thereSize_bd hL) (by decide) (by decide) (by decide)), _, _, rfl, _, rfl, _, rfl, _, _, _, rfl, fun a1 H1 e1 r1 => ?_⟩
  refine ⟨_, rfl, _, rfl, _, rfl, _, rfl, _, _, _, _, _, _, rfl, ⟨(by walk_at "sq"), (HM.oldBef_bd hL hi).mono (by decide), (HM.lotsMany_bd hL hi).mono (by decide), hs, hw⟩, _, rfl, _, rfl, _, rfl, _, _, _, rfl, fun a2 H2 e2 r2 => ?_⟩
  refine ⟨_, rfl, _, rfl, _, rfl, _, rfl, _, _, _, _, _, _, rfl, ⟨(by walk_at "sq"), (HM.oldBef_bd hL hi).mono (by decide), (HM.lotsMany_bd hL hi).mono (by decide), hs, hw⟩, _, _, rfl, rfl, ?_⟩
  exact q _ (by walk_at "sm")
theorem sc_hosts_amount : FnScope ["link", "harm", "suffice", "whole", "found"] ["link", "harm", "suffice", "whole"] (defScope s_hosts_amount) := ⟨rfl, rfl, rfl, by decide +kernel, rfl, by decide +kernel, by decide +kernel⟩
theorem ok_hosts_amount (Fx : Facts K mg) : Fn P w K mg base 4 "hosts_amount" ["link", "harm", "suffice", "whole"] (sp_hosts K) := by
  have F_lots_amount := ok_lots_amount (P := P) (w := w) (base := base) Fx
  have F_lots_in := ok_lots_in (P := P) (w := w) (base := base) Fx
  refine fn_mk Fx 37 (st := s_hosts_amount) rfl sc_hosts_amount (fun _ _ _ _ _ _ us hl => match us, hl with | [_, _, _, _], _ => rfl) (fun vs H Q E h => ?_) (fun f cdv A outer s H vs Q E hr h => ?_)
  · obtain ⟨a, L, h, s, w, rfl, _⟩ := h
    rfl
  obtain ⟨a, L, h, s, w, rfl, ⟨hl, hL, hs, hw⟩, q⟩ := h
  have ⟨c1, d1, cp, dq, pb, qb⟩ := hL
  refine ⟨_, (pss_cons (ps_set (i := 4) sc_hosts_amount.nd rfl (.inl rfl) (pe_fn F_lots_amount hr (pa_cons (pv 0) (pa_cons (pv 1) (pa_cons pe_bl (pa_cons (pe_fn F_lots_in hr (pa_cons (pv 0) (pa_cons pe_bl pa_nil))) (pa_cons (pv 2) (pa_cons (pv 3) pa_nil)))))))) (pss_one (ps_ret (pe_op op_add (pv 4) (pe_fn F_lots_amount hr (pa_cons (pv 0) (pa_cons (pv 1) (pa_cons pe_bl (pa_cons (pe_fn F_lots_in hr (pa_cons (pv 0) (pa_cons pe_bl pa_nil))) (pa_cons (pv 2) (pa_cons (pv 3) pa_nil))))))))))), ?_⟩
  refine ⟨_, rfl, _, rfl, _, rfl, _, _, _, rfl, ⟨(by walk_at "sq"), hL⟩, _, rfl, _, rfl, _, _, _, _, _, _, _, rfl, ⟨(by walk_at "sq"), hL, HM.lotsIn_in hL _, hs, hw⟩, fun H1 e1 => ?_⟩
  refine ⟨_, rfl, _, rfl, _, rfl, _, rfl, _, _, _, rfl, ⟨(by walk_at "sq"), hL⟩, _, rfl, _, rfl, _, _, _, _, _, _, _, rfl, ⟨(by walk_at "sq"), hL, HM.lotsIn_in hL _, hs, hw⟩, fun H2 e2 => ?_⟩
  refine ⟨_, _, rfl, rfl, ?_⟩
  exact q _ (by walk_at "sm")
theorem sc_heard_before : FnScope ["link", "harm", "heard"] ["link", "harm", "heard"] (defScope s_heard_before) := ⟨rfl, rfl, rfl, by decide +kernel, rfl, by decide +kernel, by decide +kernel⟩
theorem ok_heard_before (Fx : Facts K mg) : Fn P w K mg base 5 "heard_before" ["link", "harm", "heard"] (sp_heard K) := by
  have F_hosts_amount := ok_hosts_amount (P := P) (w := w) (base := base) Fx
  have F_sufficing_before := ok_sufficing_before (P := P) (w := w) (base := base) Fx
  have F_back_size := ok_back_size (P := P) (w := w) (base := base) Fx
  refine fn_mk Fx 38 (st := s_heard_before) rfl sc_heard_before (fun _ _ _ _ _ _ us hl => match us, hl with | [_, _, _], _ => rfl) (fun vs H Q E h => ?_) (fun f cdv A outer s H vs Q E hr h => ?_)
  · obtain ⟨a, L, h, i, rfl, _⟩ := h
    rfl
  obtain ⟨a, L, h, i, rfl, ⟨hl, hL, hi⟩, q⟩ := h
  have ⟨c1, d1, cp, dq, pb, qb⟩ := hL
  refine ⟨_, (pss_one (ps_ret (pe_fn F_hosts_amount hr (pa_cons (pv 0) (pa_cons (pv 1) (pa_cons (pe_fn F_sufficing_before hr (pa_cons (pv 0) (pa_cons (pv 2) pa_nil))) (pa_cons (pe_op op_mulW (pv 2) (pe_fn F_back_size hr (pa_cons (pv 0) pa_nil))) pa_nil))))))), ?_⟩
  refine ⟨_, rfl, _, rfl, _, rfl, _, rfl, _, _, _, rfl, ⟨(by walk_at "sq"), hL, hi⟩, _, rfl, _, rfl, _, _, rfl, ⟨(by walk_at "sq"), hL⟩, _, _, rfl, rfl, (mulW hi.bd (HM.backSize_bd hL) (by decide) (by decide) (by decide)), _, _, _, _, _, rfl, ⟨(by walk_at "sq"), hL, (HM.sufBef_bd hL hi).mono (by decide), (HM.heardMany_bd hL hi).mono (by decide)⟩, fun H1 e1 => ?_⟩
  exact q _ (by walk_at "sm")
theorem sc_counted : FnScope ["link", "harm"] ["link", "harm"] (defScope s_counted) := ⟨rfl, rfl, rfl, by decide +kernel, rfl, by decide +kernel, by decide +kernel⟩
theorem ok_counted (Fx : Facts K mg) : Fn P w K mg base 6 "counted" ["link", "harm"] (sp_counted K) := by
  have F_heard_before := ok_heard_before (P := P) (w := w) (base := base) Fx
  refine fn_mk Fx 39 (st := s_counted) rfl sc_counted (fun _ _ _ _ _ _ us hl => match us, hl with | [_, _], _ => rfl) (fun vs H Q E h => ?_) (fun f cdv A outer s H vs Q E hr h => ?_)
  · obtain ⟨a, L, h, rfl, _⟩ := h
    rfl
  obtain ⟨a, L, h, rfl, ⟨hl, hL⟩, q⟩ := h
  have ⟨c1, d1, cp, dq, pb, qb⟩ := hL
  refine ⟨_, (pss_one (ps_ret (pe_op op_mul pe_int (pe_fn F_heard_before hr (pa_cons (pv 0) (pa_cons (pv 1) (pa_cons (pe_ix ix_tup (pv 0) pe_int (fun _ _ => rfl)) pa_nil))))))), ?_⟩
  refine ⟨_, rfl, _, rfl, _, rfl, _, _, _, _, rfl, rfl, (by walk_at "sq"), rfl, _, _, _, _, rfl, ⟨(by walk_at "sq"), hL, HM.q_in hL⟩, fun H1 e1 => ?_⟩
  refine ⟨_, _, rfl, rfl, (.inl ⟨by decide, by decide⟩), ?_⟩
  exact q _ (by walk_at "sm")
end
end HW
/-! part W3 -/
namespace HW
open PySem PySem.Spec PyProof.Rows L2 NdefX LamX
open HM (Lk Ct Lot)
local macro_rules | `(tactic| walk_at "nm") => `(tactic| dsimp only [L2.cxOf, L2.Cx.nox, L2.start, List.set, List.length, List.replicate, List.map, HAppend.hAppend, Append.append, List.append, Nat.reduceAdd, Nat.reduceSub, Nat.zero_add])
local macro_rules | `(tactic| walk_at "sq0") => `(tactic| first | assumption | exact SqT.of upd_same | (apply sqT_up; assumption; walk_at "sq0") | (apply sqT_S; assumption; walk_at "sq0") | (apply sqT_N; assumption; walk_at "sq0"))
local macro_rules | `(tactic| walk_at "sq1") => `(tactic| first | assumption | exact SqT.of upd_same | (apply sqT_up; assumption; walk_at "sq1") | (apply sqT_S; assumption; walk_at "sq1") | (apply sqT_N; assumption; walk_at "sq1"))
local macro_rules | `(tactic| walk_at "sq") => `(tactic| first | with_reducible walk_at "sq0" | walk_at "sq1")
local macro_rules | `(tactic| walk_at "sl0") => `(tactic| first | assumption | exact SqL.of upd_same | exact SqL.of (by assumption) | (apply sqL_up; assumption; walk_at "sl0") | (apply sqL_S; assumption; walk_at "sl0") | (apply sqL_N; assumption; walk_at "sl0"))
local macro_rules | `(tactic| walk_at "sl1") => `(tactic| first | assumption | exact SqL.of upd_same | exact SqL.of (by assumption) | (apply sqL_up; assumption; walk_at "sl1") | (apply sqL_S; assumption; walk_at "sl1") | (apply sqL_N; assumption; walk_at "sl1"))
local macro_rules | `(tactic| walk_at "sl") => `(tactic| first | with_reducible walk_at "sl0" | walk_at "sl1")
local macro_rules | `(tactic| walk_at "lt0") => `(tactic| first | assumption | (apply LotV.up; assumption; walk_at "lt0") | (apply LotV.S; assumption; walk_at "lt0") | (apply LotV.N; assumption; walk_at "lt0"))
local macro_rules | `(tactic| walk_at "lt1") => `(tactic| first | assumption | (apply LotV.up; assumption; walk_at "lt1") | (apply LotV.S; assumption; walk_at "lt1") | (apply LotV.N; assumption; walk_at "lt1"))
local macro_rules | `(tactic| walk_at "lt") => `(tactic| first | with_reducible walk_at "lt0" | walk_at "lt1")
local macro_rules | `(tactic| walk_at "ct0") => `(tactic| first | assumption | (apply CtA.up; assumption; walk_at "ct0") | (apply CtA.S; assumption; walk_at "ct0") | (apply CtA.N; assumption; walk_at "ct0"))
local macro_rules | `(tactic| walk_at "ct1") => `(tactic| first | assumption | (apply CtA.up; assumption; walk_at "ct1") | (apply CtA.S; assumption; walk_at "ct1") | (apply CtA.N; assumption; walk_at "ct1"))
local macro_rules | `(tactic| walk_at "ct") => `(tactic| first | with_reducible walk_at "ct0" | walk_at "ct1")
local macro_rules | `(tactic| walk_at "ho0") => `(tactic| first | assumption | (apply HoA.up; assumption; walk_at "ho0") | (apply HoA.S; assumption; walk_at "ho0") | (apply HoA.N; assumption; walk_at "ho0"))
local macro_rules | `(tactic| walk_at "ho1") => `(tactic| first | assumption | (apply HoA.up; assumption; walk_at "ho1") | (apply HoA.S; assumption; walk_at "ho1") | (apply HoA.N; assumption; walk_at "ho1"))
local macro_rules | `(tactic| walk_at "ho") => `(tactic| first | with_reducible walk_at "ho0" | walk_at "ho1")
local macro_rules | `(tactic| walk_at "sm0") => `(tactic| first | assumption | exact Same.refl _ | (refine same_up ?_ (by assumption); walk_at "sm0") | (refine Same.trans ?_ (by assumption); walk_at "sm0") | exact same_new (by assumption) _)
local macro_rules | `(tactic| walk_at "sm1") => `(tactic| first | assumption | exact Same.refl _ | (refine same_up ?_ (by assumption); walk_at "sm1") | (refine Same.trans ?_ (by assumption); walk_at "sm1") | exact same_new (by assumption) _)
local macro_rules | `(tactic| walk_at "sm") => `(tactic| first | with_reducible walk_at "sm0" | walk_at "sm1")
local macro_rules | `(tactic| walk_at "pre") => `(tactic| first | assumption | omega | decide)
section
variable {P : Program} {w : World} {K : PySem.W.Frag} {mg : Str → Option Value} {base : Heap}
def sp_lotnum (K : PySem.W.Frag) : Sp := fun vs H Q _ => ∃ (a : Addr) (L : Lk) (e : Bool) (v : V) (l : Lot), vs = [.ref a, .bl e, v] ∧ (LkA K H a L ∧ LotV K H v l ∧ ∀ m, l = .new m → e = false) ∧ Q (.int (HM.lotNum L e l)) H
def sp_lotat (K : PySem.W.Frag) : Sp := fun vs H Q _ => ∃ (a : Addr) (L : Lk) (e : Bool) (n : Int), vs = [.ref a, .bl e, .int n] ∧ LkA K H a L ∧ ∀ v H', Same H H' → LotV K H' v (HM.lotOf L e n) → Q v H'
def sp_wanted (K : PySem.W.Frag) : Sp := fun vs H Q _ => ∃ (a : Addr) (L : Lk) (v : V) (l : Lot), vs = [.ref a, v] ∧ (LkA K H a L ∧ LotV K H v l) ∧ Q (.int (HM.wanted L l)) H
def sp_oldthere (K : PySem.W.Frag) : Sp := fun vs H Q _ => ∃ (a : Addr) (c bit w n z o : Int), vs = [.int c, .int bit, .int w, .ref a] ∧ (ThA K H a n z o ∧ HM.In c ∧ HM.In w ∧ HM.In n ∧ HM.In z) ∧ Q (.int (HM.oldThere c bit w n z o)) H
def sp_ownback (K : PySem.W.Frag) : Sp := fun vs H Q _ => ∃ (a : Addr) (d bit w y x : Int), vs = [.int d, .int bit, .int w, .ref a] ∧ (BkA K H a y x ∧ HM.In d ∧ HM.In w ∧ HM.In y) ∧ Q (.int (HM.ownBack d bit w y x)) H
/-- what a sender and a receiver keep -/
structure HoA (K : PySem.W.Frag) (H : Hp) (a : Addr) (bit heard own : Int) (l : Lot) (done : Bool) : Prop where
  ex : ∃ (s r : Addr) (v : V), SqT K H a [.ref s, .ref r] ∧ SqT K H s [.int bit, .int heard] ∧ SqT K H r [.int own, v, .bl done] ∧ LotV K H v l
theorem HoA.N {H H' : Hp} {a : Addr} {bit heard own : Int} {l : Lot} {done : Bool} (e : ExtN H H') (h : HoA K H a bit heard own l done) : HoA K H' a bit heard own l done := by
  obtain ⟨s, r, v, h1, h2, h3, h4⟩ := h.ex
  exact ⟨s, r, v, sqT_N e h1, sqT_N e h2, sqT_N e h3, h4.N e⟩
theorem HoA.S {K : PySem.W.Frag} {H H' : Hp} {a : Addr} {bit heard own : Int} {l : Lot} {done : Bool} (e : Same H H') (h : HoA K H a bit heard own l done) : HoA K H' a bit heard own l done := h.N (Same.extN e)
theorem HoA.up {K : PySem.W.Frag} {H : Hp} {a p : Addr} {o : HO} {bit heard own : Int} {l : Lot} {done : Bool} (np : H p = none) (h : HoA K H a bit heard own l done) : HoA K (upd H p o) a bit heard own l done := h.S (same_new np o)
def sp_thereamt (K : PySem.W.Frag) : Sp := fun vs H Q _ => ∃ (al ah ac ta : Addr) (L : Lk) (bit heard own : Int) (l : Lot) (done : Bool) (cs : HM.Code × HM.Code) (n z o : Int), vs = [.ref al, .ref ah, .ref ac, .ref ta] ∧
  ((LkA K H al L ∧ HoA K H ah bit heard own l done ∧ CdA K H ac cs ∧ ThA K H ta n z o) ∧ L.Ok ∧ HM.In heard ∧ HM.In (HM.wanted L l) ∧ HM.In n ∧ HM.In z ∧ HM.In o) ∧ Q (.int (HM.thereAmt L heard own (HM.wanted L l) cs n z o)) H
def sp_backamt (K : PySem.W.Frag) : Sp := fun vs H Q _ => ∃ (al ah ta : Addr) (L : Lk) (bit heard own : Int) (l : Lot) (done : Bool) (cd : HM.Code) (y x : Int), vs = [.ref al, .ref ah, .str (codeS cd), .ref ta] ∧
  ((LkA K H al L ∧ HoA K H ah bit heard own l done ∧ BkA K H ta y x) ∧ L.Ok ∧ (0 ≤ heard ∧ heard ≤ L.q) ∧ HM.In y ∧ HM.In x) ∧ Q (.int (HM.backAmt L bit heard cd y x)) H
def sp_codeat (K : PySem.W.Frag) : Sp := fun vs H Q _ => ∃ (al ah ac ta : Addr) (L : Lk) (bit heard own : Int) (l : Lot) (done : Bool) (cs : HM.Code × HM.Code) (n z o : Int), vs = [.ref al, .ref ah, .ref ac, .ref ta] ∧
  ((LkA K H al L ∧ HoA K H ah bit heard own l done ∧ CdA K H ac cs ∧ ThA K H ta n z o) ∧ (own = 0 ∨ own = 1)) ∧ Q (.str (codeS (HM.codeAt own (HM.wanted L l) cs z o))) H
theorem sc_lot_number : FnScope ["link", "even", "lot"] ["link", "even", "lot"] (defScope s_lot_number) := ⟨rfl, rfl, rfl, by decide +kernel, rfl, by decide +kernel, by decide +kernel⟩
theorem ok_lot_number (Fx : Facts K mg) : Fn P w K mg base 1 "lot_number" ["link", "even", "lot"] (sp_lotnum K) := by
  refine fn_mk Fx 21 (st := s_lot_number) rfl sc_lot_number (fun _ _ _ _ _ _ us hl => match us, hl with | [_, _, _], _ => rfl) (fun vs H Q E h => ?_) (fun f cdv A outer s H vs Q E hr h => ?_)
  · obtain ⟨a, L, e, v, l, rfl, _⟩ := h
    rfl
  obtain ⟨a, L, e, v, l, rfl, ⟨hl, hv, hn⟩, q⟩ := h
  refine ⟨_, (pss_cons (ps_if (pt_cmpR op_isN (pv 2) pe_non (nomark _)) (pss_one (ps_ret pe_int)) pss_nil) (pss_one (ps_ret (pe_ifExp (PW.pt (pw_or (pt_val (pv 1)) (pw_or1 (pt_cmpR op_eq (pe_ix ix_tup (pv 2) pe_int (fun _ _ => rfl)) pe_str (nomark _))))) (pe_ix ix_tup (pv 2) pe_int (fun _ _ => rfl)) (pe_op op_sub (pe_op op_add (pe_ix ix_tup (pv 2) pe_int (fun _ _ => rfl)) (pe_ix ix_tup (pv 0) pe_int (fun _ _ => rfl))) pe_int))))), ?_⟩
  cases hv with
  | no =>
    refine ⟨_, rfl, rfl, _, rfl, ?_⟩
    refine iteT ?_
    exact q
  | new hm =>
    obtain rfl := hn _ rfl
    refine ⟨_, rfl, rfl, _, rfl, ?_⟩
    refine iteF ?_
    refine ⟨_, rfl, _, rfl, ?_⟩
    refine iteF ?_
    refine ⟨_, rfl, _, _, _, _, rfl, rfl, (by walk_at "sq"), rfl, rfl, _, rfl, ?_⟩
    refine ite2 (fun c => ?_) (fun c => absurd (by decide) c)
    refine ⟨_, rfl, _, _, _, _, rfl, rfl, (by walk_at "sq"), rfl, ?_⟩
    exact q
  | old hm =>
    cases e with
    | true =>
      refine ⟨_, rfl, rfl, _, rfl, ?_⟩
      refine iteF ?_
      refine ⟨_, rfl, _, rfl, ?_⟩
      refine iteT ?_
      refine iteT ?_
      refine ⟨_, rfl, _, _, _, _, rfl, rfl, (by walk_at "sq"), rfl, ?_⟩
      exact q
    | false =>
      refine ⟨_, rfl, rfl, _, rfl, ?_⟩
      refine iteF ?_
      refine ⟨_, rfl, _, rfl, ?_⟩
      refine iteF ?_
      refine ⟨_, rfl, _, _, _, _, rfl, rfl, (by walk_at "sq"), rfl, rfl, _, rfl, ?_⟩
      refine ite2 (fun c => absurd c (by decide)) (fun c => ?_)
      refine ⟨_, rfl, _, _, _, _, rfl, rfl, (by walk_at "sq"), rfl, _, rfl, _, _, _, _, rfl, rfl, (by walk_at "sq"), rfl, _, _, rfl, rfl, _, _, rfl, rfl, ?_⟩
      exact q
theorem sc_wanted_old : FnScope ["link", "lot"] ["link", "lot"] (defScope s_wanted_old) := ⟨rfl, rfl, rfl, by decide +kernel, rfl, by decide +kernel, by decide +kernel⟩
theorem ok_wanted_old (Fx : Facts K mg) : Fn P w K mg base 1 "wanted_old" ["link", "lot"] (sp_wanted K) := by
  refine fn_mk Fx 40 (st := s_wanted_old) rfl sc_wanted_old (fun _ _ _ _ _ _ us hl => match us, hl with | [_, _], _ => rfl) (fun vs H Q E h => ?_) (fun f cdv A outer s H vs Q E hr h => ?_)
  · obtain ⟨a, L, v, l, rfl, _⟩ := h
    rfl
  obtain ⟨a, L, v, l, rfl, ⟨hl, hv⟩, q⟩ := h
  refine ⟨_, (pss_one (ps_ret (pe_ifExp (PW.pt (pw_and (pt_cmpR op_notN (pv 1) pe_non (nomark _)) (pw_and1 (pt_cmpR op_eq (pe_ix ix_tup (pv 1) pe_int (fun _ _ => rfl)) pe_str (nomark _))))) (pe_op op_sub (pe_ix ix_tup (pv 0) pe_int (fun _ _ => rfl)) (pe_ix ix_tup (pv 1) pe_int (fun _ _ => rfl))) (pe_ix ix_tup (pv 0) pe_int (fun _ _ => rfl))))), ?_⟩
  cases hv with
  | no =>
    refine ⟨_, rfl, rfl, _, rfl, ?_⟩
    refine iteF ?_
    refine iteF ?_
    refine ⟨_, rfl, _, _, _, _, rfl, rfl, (by walk_at "sq"), rfl, ?_⟩
    exact q
  | new hm =>
    refine ⟨_, rfl, rfl, _, rfl, ?_⟩
    refine iteT ?_
    refine ⟨_, rfl, _, _, _, _, rfl, rfl, (by walk_at "sq"), rfl, rfl, _, rfl, ?_⟩
    refine ite2 (fun c => absurd c (by decide)) (fun c => ?_)
    refine ⟨_, rfl, _, _, _, _, rfl, rfl, (by walk_at "sq"), rfl, ?_⟩
    exact q
  | old hm =>
    refine ⟨_, rfl, rfl, _, rfl, ?_⟩
    refine iteT ?_
    refine ⟨_, rfl, _, _, _, _, rfl, rfl, (by walk_at "sq"), rfl, rfl, _, rfl, ?_⟩
    refine ite2 (fun c => ?_) (fun c => absurd (by decide) c)
    refine ⟨_, rfl, _, _, _, _, rfl, rfl, (by walk_at "sq"), rfl, _, rfl, _, _, _, _, rfl, rfl, (by walk_at "sq"), rfl, _, _, rfl, rfl, ?_⟩
    exact q
theorem sc_lot_numbered : FnScope ["link", "even", "number"] ["link", "even", "number"] (defScope s_lot_numbered) := ⟨rfl, rfl, rfl, by decide +kernel, rfl, by decide +kernel, by decide +kernel⟩
theorem ok_lot_numbered (Fx : Facts K mg) : Fn P w K mg base 1 "lot_numbered" ["link", "even", "number"] (sp_lotat K) := by
  refine fn_mk Fx 22 (st := s_lot_numbered) rfl sc_lot_numbered (fun _ _ _ _ _ _ us hl => match us, hl with | [_, _, _], _ => rfl) (fun vs H Q E h => ?_) (fun f cdv A outer s H vs Q E hr h => ?_)
  · obtain ⟨a, L, e, n, rfl, _⟩ := h
    rfl
  obtain ⟨a, L, e, n, rfl, hl, q⟩ := h
  refine ⟨_, (pss_cons (ps_if (pt_cmpR op_eq (pv 2) pe_int (nomark _)) (pss_one (ps_ret pe_non)) pss_nil) (pss_cons (ps_if (PW.pt (pw_or (pt_val (pv 1)) (pw_or1 (pt_cmpR op_ge (pv 2) (pe_ix ix_tup (pv 0) pe_int (fun _ _ => rfl)) (nomark _))))) (pss_one (ps_ret (pe_tup (pa_cons pe_str (pa_cons (pe_ifExp (pt_val (pv 1)) (pv 2) (pe_op op_add (pe_op op_sub (pv 2) (pe_ix ix_tup (pv 0) pe_int (fun _ _ => rfl))) pe_int)) pa_nil))))) pss_nil) (pss_one (ps_ret (pe_tup (pa_cons pe_str (pa_cons (pv 2) pa_nil))))))), ?_⟩
  refine ⟨_, rfl, rfl, _, rfl, ?_⟩
  refine ite2 (fun c1 => ?_) (fun c1 => ?_)
  · replace c1 := eqT c1
    refine q .non H (Same.refl _) ?_
    rw [show HM.lotOf L e n = .no from if_pos c1]
    exact .no
  · replace c1 := eqF c1
    cases e with
    | true =>
      refine ⟨_, rfl, _, rfl, iteT (iteT ?_)⟩
      refine ⟨_, rfl, _, rfl, iteT ⟨_, rfl, (by show 2 ≤ sizeLine; decide), fun p np => ?_⟩⟩
      refine q _ _ (same_new np _) ?_
      rw [show HM.lotOf L true n = .old n from (if_neg c1).trans (if_pos rfl)]
      exact .old (SqT.of upd_same)
    | false =>
      refine ⟨_, rfl, _, rfl, iteF ⟨_, rfl, _, rfl, _, _, _, _, rfl, rfl, (by walk_at "sq"), rfl, _, _, rfl, rfl, _, rfl, ?_⟩⟩
      refine ite2 (fun c2 => ?_) (fun c2 => ?_)
      · replace c2 := dT c2
        refine ⟨_, rfl, _, rfl, ?_⟩
        refine iteF ?_
        refine ⟨_, rfl, _, rfl, _, _, _, _, rfl, rfl, (by walk_at "sq"), rfl, _, _, rfl, rfl, _, _, rfl, rfl, (by show 2 ≤ sizeLine; decide), fun p np => ?_⟩
        refine q _ _ (same_new np _) ?_
        rw [show HM.lotOf L false n = .old (n - L.p + 1) from (if_neg c1).trans ((if_neg (by decide)).trans (if_pos c2))]
        exact .old (SqT.of upd_same)
      · replace c2 := dF c2
        refine ⟨_, rfl, (by show 2 ≤ sizeLine; decide), fun p np => ?_⟩
        refine q _ _ (same_new np _) ?_
        rw [show HM.lotOf L false n = .new n from (if_neg c1).trans ((if_neg (by decide)).trans (if_neg c2))]
        exact .new (SqT.of upd_same)
theorem sc_old_there_before : FnScope ["places", "bit", "wanted", "there", "new", "zeros", "ones", "found", "left"] ["places", "bit", "wanted", "there"] (defScope s_old_there_before) := ⟨rfl, rfl, rfl, by decide +kernel, rfl, by decide +kernel, by decide +kernel⟩
theorem ok_old_there_before (Fx : Facts K mg) : Fn P w K mg base 2 "old_there_before" ["places", "bit", "wanted", "there"] (sp_oldthere K) := by
  have F_choose := ok_choose (P := P) (w := w) (base := base) Fx
  refine fn_mk Fx 41 (st := s_old_there_before) rfl sc_old_there_before (fun _ _ _ _ _ _ us hl => match us, hl with | [_, _, _, _], _ => rfl) (fun vs H Q E h => ?_) (fun f cdv A outer s H vs Q E hr h => ?_)
  · obtain ⟨a, c, bit, w, n, z, o, rfl, _⟩ := h
    rfl
  obtain ⟨a, c, bit, w, n, z, o, rfl, ⟨ht, ⟨x1, x2⟩, ⟨w1, w2⟩, ⟨n1, n2⟩, ⟨z1, z2⟩⟩, q⟩ := h
  refine ⟨_, (pss_cons (ps_asg (pv 3) (pg_tup rfl (pgs_cons (pg_name (i := 4) sc_old_there_before.nd rfl (.inl rfl)) (pgs_cons (pg_name (i := 5) sc_old_there_before.nd rfl (.inl rfl)) (pgs_cons (pg_name (i := 6) sc_old_there_before.nd rfl (.inl rfl)) pgs_nil))))) (pss_cons (ps_par (i := 7) (j := 8) rfl sc_old_there_before.nd rfl rfl (by decide) rfl rfl (pa_cons (pe_op op_sub (pe_fn F_choose hr (pa_cons (pe_op op_add (pe_op op_sub (pv 0) (pv 2)) pe_int) (pa_cons pe_int pa_nil))) (pe_fn F_choose hr (pa_cons (pe_op op_add (pe_op op_sub (pe_op op_sub (pv 0) (pv 4)) (pv 2)) pe_int) (pa_cons pe_int pa_nil)))) (pa_cons (pe_op op_sub (pv 0) (pv 4)) pa_nil)) (by rfl)) (pss_cons (ps_if (pt_cmpR op_eq (pv 1) pe_int (nomark _)) (pss_cons (ps_set (i := 7) sc_old_there_before.nd rfl (.inl rfl) (pe_op op_sub (pe_op op_add (pv 7) (pe_fn F_choose hr (pa_cons (pe_op op_add (pe_op op_sub (pv 8) (pv 2)) pe_int) (pa_cons pe_int pa_nil)))) (pe_fn F_choose hr (pa_cons (pe_op op_add (pe_op op_sub (pe_op op_sub (pv 8) (pv 5)) (pv 2)) pe_int) (pa_cons pe_int pa_nil))))) (pss_one (ps_ret (pe_op op_add (pv 7) (pe_callB (call_max2 rfl) (by rfl) (Fx.bt 9 _ rfl) boot_max (pa_cons (pe_op op_sub (pv 6) (pv 2)) (pa_cons pe_int pa_nil))))))) pss_nil) (pss_cons (ps_if (pt_cmpR op_gt (pv 5) (pv 2) (nomark _)) (pss_one (ps_set (i := 7) sc_old_there_before.nd rfl (.inl rfl) (pe_op op_sub (pe_op op_add (pv 7) (pe_fn F_choose hr (pa_cons (pe_op op_add (pe_op op_sub (pv 8) (pv 2)) pe_int) (pa_cons pe_int pa_nil)))) (pe_fn F_choose hr (pa_cons (pe_op op_add (pe_op op_sub (pv 8) (pv 5)) pe_int) (pa_cons pe_int pa_nil)))))) pss_nil) (pss_one (ps_ret (pe_op op_add (pv 7) (pe_ifExp (pt_cmpR op_ge (pv 5) (pv 2) (nomark _)) (pv 6) pe_int)))))))), ?_⟩
  refine ⟨_, rfl, _, _, rfl, (by walk_at "sq"), rfl, _, _, rfl, _, _, rfl, _, _, rfl, rfl, _, rfl, _, rfl, _, _, rfl, rfl, _, _, rfl, rfl, _, _, rfl, (by omega), _, rfl, _, rfl, _, _, rfl, rfl, _, rfl, _, _, rfl, rfl, _, _, rfl, rfl, _, _, rfl, (by omega), _, _, rfl, rfl, _, rfl, _, rfl, _, _, rfl, rfl, _, _, rfl, _, rfl, rfl, _, rfl, ?_⟩
  refine ite2 (fun c1 => ?_) (fun c1 => ?_)
  · replace c1 := eqT c1
    refine ⟨_, rfl, _, rfl, _, rfl, _, _, rfl, rfl, _, _, rfl, rfl, _, _, rfl, (by omega), _, _, rfl, rfl, _, rfl, _, rfl, _, _, rfl, rfl, _, rfl, _, _, rfl, rfl, _, _, rfl, rfl, _, _, rfl, (by omega), _, _, rfl, rfl, _, rfl, _, rfl, _, rfl, _, _, rfl, rfl, _, _, rfl, _, _, rfl, rfl, ?_⟩
    subst c1
    rw [HM.oldThere_1] at q
    exact q
  · replace c1 := eqF c1
    refine ⟨_, rfl, _, rfl, _, _, rfl, rfl, _, rfl, ?_⟩
    refine ite2 (fun c2 => ?_) (fun c2 => ?_)
    · replace c2 := dT c2
      refine ⟨_, rfl, _, rfl, _, rfl, _, _, rfl, rfl, _, _, rfl, rfl, _, _, rfl, (by omega), _, _, rfl, rfl, _, rfl, _, rfl, _, _, rfl, rfl, _, _, rfl, rfl, _, _, rfl, (by omega), _, _, rfl, rfl, _, rfl, _, rfl, _, rfl, _, _, rfl, rfl, _, rfl, ?_⟩
      refine ite2 (fun c3 => ?_) (fun c3 => ?_)
      · replace c3 := dT c3
        refine ⟨_, rfl, _, _, rfl, rfl, ?_⟩
        simp only [HM.oldThere, if_neg c1, if_pos c2, if_pos c3] at q
        exact q
      · replace c3 := dF c3
        refine ⟨_, _, rfl, rfl, ?_⟩
        simp only [HM.oldThere, if_neg c1, if_pos c2, if_neg c3] at q
        exact q
    · replace c2 := dF c2
      refine ⟨_, rfl, _, rfl, _, rfl, _, _, rfl, rfl, _, rfl, ?_⟩
      refine ite2 (fun c3 => ?_) (fun c3 => ?_)
      · replace c3 := dT c3
        refine ⟨_, rfl, _, _, rfl, rfl, ?_⟩
        simp only [HM.oldThere, if_neg c1, if_neg c2, if_pos c3] at q
        exact q
      · replace c3 := dF c3
        refine ⟨_, _, rfl, rfl, ?_⟩
        simp only [HM.oldThere, if_neg c1, if_neg c2, if_neg c3] at q
        exact q
theorem sc_own_back_before : FnScope ["places", "bit", "wanted", "back", "found", "zeros", "ones"] ["places", "bit", "wanted", "back"] (defScope s_own_back_before) := ⟨rfl, rfl, rfl, by decide +kernel, rfl, by decide +kernel, by decide +kernel⟩
theorem ok_own_back_before (Fx : Facts K mg) : Fn P w K mg base 2 "own_back_before" ["places", "bit", "wanted", "back"] (sp_ownback K) := by
  have F_choose := ok_choose (P := P) (w := w) (base := base) Fx
  refine fn_mk Fx 42 (st := s_own_back_before) rfl sc_own_back_before (fun _ _ _ _ _ _ us hl => match us, hl with | [_, _, _, _], _ => rfl) (fun vs H Q E h => ?_) (fun f cdv A outer s H vs Q E hr h => ?_)
  · obtain ⟨a, d, bit, w, y, x, rfl, _⟩ := h
    rfl
  obtain ⟨a, d, bit, w, y, x, rfl, ⟨ht, ⟨x1, x2⟩, ⟨w1, w2⟩, ⟨n1, n2⟩⟩, q⟩ := h
  refine ⟨_, (pss_cons (ps_asg (pv 3) (pg_tup rfl (pgs_cons (pg_name (i := 5) sc_own_back_before.nd rfl (.inl rfl)) (pgs_cons (pg_name (i := 6) sc_own_back_before.nd rfl (.inl rfl)) pgs_nil)))) (pss_cons (ps_if (pt_cmpR op_eq (pv 1) pe_int (nomark _)) (pss_cons (ps_set (i := 4) sc_own_back_before.nd rfl (.inl rfl) (pe_op op_sub (pe_fn F_choose hr (pa_cons (pe_op op_add (pe_op op_sub (pv 0) (pv 2)) pe_int) (pa_cons pe_int pa_nil))) (pe_fn F_choose hr (pa_cons (pe_op op_add (pe_op op_sub (pe_op op_sub (pv 0) (pv 5)) (pv 2)) pe_int) (pa_cons pe_int pa_nil))))) (pss_one (ps_ret (pe_op op_add (pv 4) (pe_callB (call_max2 rfl) (by rfl) (Fx.bt 9 _ rfl) boot_max (pa_cons (pe_op op_sub (pv 6) (pv 2)) (pa_cons pe_int pa_nil))))))) pss_nil) (pss_cons (ps_set (i := 4) sc_own_back_before.nd rfl (.inl rfl) (pe_ifExp (pt_cmpR op_gt (pv 5) (pv 2) (nomark _)) (pe_op op_sub (pe_fn F_choose hr (pa_cons (pe_op op_add (pe_op op_sub (pv 0) (pv 2)) pe_int) (pa_cons pe_int pa_nil))) (pe_fn F_choose hr (pa_cons (pe_op op_add (pe_op op_sub (pv 0) (pv 5)) pe_int) (pa_cons pe_int pa_nil)))) pe_int)) (pss_one (ps_ret (pe_op op_add (pv 4) (pe_ifExp (pt_cmpR op_ge (pv 5) (pv 2) (nomark _)) (pv 6) pe_int))))))), ?_⟩
  refine ⟨_, rfl, _, _, rfl, (by walk_at "sq"), rfl, _, _, rfl, _, _, rfl, rfl, _, rfl, rfl, _, rfl, ?_⟩
  refine ite2 (fun c1 => ?_) (fun c1 => ?_)
  · replace c1 := eqT c1
    refine ⟨_, rfl, _, rfl, _, _, rfl, rfl, _, _, rfl, rfl, _, _, rfl, (by omega), _, rfl, _, rfl, _, _, rfl, rfl, _, rfl, _, _, rfl, rfl, _, _, rfl, rfl, _, _, rfl, (by omega), _, _, rfl, rfl, _, rfl, _, rfl, _, rfl, _, _, rfl, rfl, _, _, rfl, _, _, rfl, rfl, ?_⟩
    subst c1
    rw [HM.ownBack_1] at q
    exact q
  · replace c1 := eqF c1
    refine ⟨_, rfl, _, rfl, _, _, rfl, rfl, _, rfl, ?_⟩
    refine ite2 (fun c2 => ?_) (fun c2 => ?_)
    · replace c2 := dT c2
      refine ⟨_, rfl, _, rfl, _, _, rfl, rfl, _, _, rfl, rfl, _, _, rfl, (by omega), _, rfl, _, rfl, _, _, rfl, rfl, _, _, rfl, rfl, _, _, rfl, (by omega), _, _, rfl, rfl, _, rfl, _, rfl, _, rfl, _, _, rfl, rfl, _, rfl, ?_⟩
      refine ite2 (fun c3 => ?_) (fun c3 => ?_)
      · replace c3 := dT c3
        refine ⟨_, rfl, _, _, rfl, rfl, ?_⟩
        simp only [HM.ownBack, if_neg c1, if_pos c2, if_pos c3] at q
        exact q
      · replace c3 := dF c3
        refine ⟨_, _, rfl, rfl, ?_⟩
        simp only [HM.ownBack, if_neg c1, if_pos c2, if_neg c3] at q
        exact q
    · replace c2 := dF c2
      refine ⟨_, rfl, _, rfl, _, rfl, _, _, rfl, rfl, _, rfl, ?_⟩
      refine ite2 (fun c3 => ?_) (fun c3 => ?_)
      · replace c3 := dT c3
        refine ⟨_, rfl, _, _, rfl, rfl, ?_⟩
        simp only [HM.ownBack, if_neg c1, if_neg c2, if_pos c3] at q
        exact q
      · replace c3 := dF c3
        refine ⟨_, _, rfl, rfl, ?_⟩
        simp only [HM.ownBack, if_neg c1, if_neg c2, if_neg c3] at q
        exact q
theorem sc_there_amount : FnScope ["link", "hosts", "codes", "there", "old", "bit", "heard", "own", "lot", "done"] ["link", "hosts", "codes", "there"] (defScope s_there_amount) := ⟨rfl, rfl, rfl, by decide +kernel, rfl, by decide +kernel, by decide +kernel⟩
theorem ok_there_amount (Fx : Facts K mg) : Fn P w K mg base 3 "there_amount" ["link", "hosts", "codes", "there"] (sp_thereamt K) := by
  have F_old_there_before := ok_old_there_before (P := P) (w := w) (base := base) Fx
  have F_wanted_old := ok_wanted_old (P := P) (w := w) (base := base) Fx
  have F_amount := ok_amount (P := P) (w := w) (base := base) Fx
  have F_there_before := ok_there_before (P := P) (w := w) (base := base) Fx
  have F_sufficing := ok_sufficing (P := P) (w := w) (base := base) Fx
  have F_back_size := ok_back_size (P := P) (w := w) (base := base) Fx
  refine fn_mk Fx 43 (st := s_there_amount) rfl sc_there_amount (fun _ _ _ _ _ _ us hl => match us, hl with | [_, _, _, _], _ => rfl) (fun vs H Q E h => ?_) (fun f cdv A outer s H vs Q E hr h => ?_)
  · obtain ⟨al, ah, ac, ta, L, bit, heard, own, l, done, cs, n, z, o, rfl, _⟩ := h
    rfl
  obtain ⟨al, ah, ac, ta, L, bit, heard, own, l, done, cs, n, z, o, rfl, ⟨⟨hl, hH, hc, ht⟩, hL, hh, hw, hn, hz, ho⟩, q⟩ := h
  have ⟨c1, d1, cp, dq, pb, qb⟩ := hL
  obtain ⟨s1, r1, v1, h1, h2, h3, h4⟩ := hH.ex
  refine ⟨_, (pss_cons (ps_asg (pv 1) (pg_tup rfl (pgs_cons (pg_tup rfl (pgs_cons (pg_name (i := 5) sc_there_amount.nd rfl (.inl rfl)) (pgs_cons (pg_name (i := 6) sc_there_amount.nd rfl (.inl rfl)) pgs_nil))) (pgs_cons (pg_tup rfl (pgs_cons (pg_name (i := 7) sc_there_amount.nd rfl (.inl rfl)) (pgs_cons (pg_name (i := 8) sc_there_amount.nd rfl (.inl rfl)) (pgs_cons (pg_name (i := 9) sc_there_amount.nd rfl (.inl rfl)) pgs_nil)))) pgs_nil)))) (pss_cons (ps_set (i := 4) sc_there_amount.nd rfl (.inl rfl) (pe_fn F_old_there_before hr (pa_cons (pe_ix ix_tup (pv 0) pe_int (fun _ _ => rfl)) (pa_cons (pe_op op_sub pe_int (pv 7)) (pa_cons (pe_fn F_wanted_old hr (pa_cons (pv 0) (pa_cons (pv 8) pa_nil))) (pa_cons (pv 3) pa_nil)))))) (pss_one (ps_ret (pe_fn F_amount hr (pa_cons (pv 2) (pa_cons (pv 4) (pa_cons (pe_fn F_there_before hr (pa_cons (pe_ix ix_tup (pv 0) pe_int (fun _ _ => rfl)) (pa_cons (pv 3) pa_nil))) (pa_cons (pe_fn F_sufficing hr (pa_cons (pv 0) (pa_cons (pv 6) pa_nil))) (pa_cons (pe_fn F_back_size hr (pa_cons (pv 0) pa_nil)) pa_nil)))))))))), ?_⟩
  refine ⟨_, rfl, _, _, rfl, (by walk_at "sq"), rfl, _, _, rfl, _, _, rfl, (by walk_at "sq"), rfl, _, _, rfl, _, _, rfl, rfl, _, _, rfl, _, _, rfl, (by walk_at "sq"), rfl, _, _, rfl, _, _, rfl, _, _, rfl, rfl, rfl, _, rfl, _, _, _, _, rfl, rfl, (by walk_at "sq"), rfl, _, rfl, _, _, rfl, rfl, _, rfl, _, rfl, _, _, _, _, rfl, ⟨(by walk_at "sq"), (by walk_at "lt")⟩, _, rfl, _, _, _, _, _, _, _, rfl, ⟨(by walk_at "sq"), HM.c_in hL, hw, hn, hz⟩, _, rfl, _, rfl, _, rfl, _, _, _, _, rfl, rfl, (by walk_at "sq"), rfl, _, rfl, _, _, _, _, _, rfl, ⟨(by walk_at "sq"), HM.c_in hL, hn, hz⟩, _, rfl, _, rfl, _, _, _, rfl, ⟨(by walk_at "sq"), hL, hh⟩, _, rfl, _, _, rfl, ⟨(by walk_at "sq"), hL⟩, _, _, _, _, _, _, rfl, ⟨(by walk_at "sq"), (HM.oldThere_bd hL hw hn hz ho).mono (by decide), (HM.thereBef_bd hL hn hz ho).mono (by decide), (HM.suffic_bd hL hh).mono (by decide), (HM.backSize_bd hL).mono (by decide)⟩, ?_⟩
  exact q
theorem sc_back_amount : FnScope ["link", "hosts", "code", "back", "bit", "heard"] ["link", "hosts", "code", "back"] (defScope s_back_amount) := ⟨rfl, rfl, rfl, by decide +kernel, rfl, by decide +kernel, by decide +kernel⟩
theorem ok_back_amount (Fx : Facts K mg) : Fn P w K mg base 3 "back_amount" ["link", "hosts", "code", "back"] (sp_backamt K) := by
  have F_coded := ok_coded (P := P) (w := w) (base := base) Fx
  have F_own_back_before := ok_own_back_before (P := P) (w := w) (base := base) Fx
  have F_back_before := ok_back_before (P := P) (w := w) (base := base) Fx
  refine fn_mk Fx 44 (st := s_back_amount) rfl sc_back_amount (fun _ _ _ _ _ _ us hl => match us, hl with | [_, _, _, _], _ => rfl) (fun vs H Q E h => ?_) (fun f cdv A outer s H vs Q E hr h => ?_)
  · obtain ⟨al, ah, ta, L, bit, heard, own, l, done, cd, y, x, rfl, _⟩ := h
    rfl
  obtain ⟨al, ah, ta, L, bit, heard, own, l, done, cd, y, x, rfl, ⟨⟨hl, hH, ht⟩, hL, ⟨hh1, hh2⟩, hy, hx⟩, q⟩ := h
  have ⟨c1, d1, cp, dq, pb, qb⟩ := hL
  obtain ⟨s1, r1, v1, h1, h2, h3, h4⟩ := hH.ex
  refine ⟨_, (pss_cons (ps_asg (pe_ix ix_tup (pv 1) pe_int (fun _ _ => rfl)) (pg_tup rfl (pgs_cons (pg_name (i := 4) sc_back_amount.nd rfl (.inl rfl)) (pgs_cons (pg_name (i := 5) sc_back_amount.nd rfl (.inl rfl)) pgs_nil)))) (pss_one (ps_ret (pe_fn F_coded hr (pa_cons (pv 2) (pa_cons (pe_fn F_own_back_before hr (pa_cons (pe_ix ix_tup (pv 0) pe_int (fun _ _ => rfl)) (pa_cons (pv 4) (pa_cons (pe_op op_sub (pe_ix ix_tup (pv 0) pe_int (fun _ _ => rfl)) (pv 5)) (pa_cons (pv 3) pa_nil))))) (pa_cons (pe_fn F_back_before hr (pa_cons (pe_ix ix_tup (pv 0) pe_int (fun _ _ => rfl)) (pa_cons (pv 3) pa_nil))) pa_nil))))))), ?_⟩
  refine ⟨_, rfl, _, _, _, _, rfl, rfl, (by walk_at "sq"), rfl, _, _, rfl, (by walk_at "sq"), rfl, _, _, rfl, _, _, rfl, rfl, _, rfl, _, rfl, _, _, _, _, rfl, rfl, (by walk_at "sq"), rfl, _, rfl, _, rfl, _, _, _, _, rfl, rfl, (by walk_at "sq"), rfl, _, rfl, _, _, rfl, rfl, _, rfl, _, _, _, _, _, _, rfl, ⟨(by walk_at "sq"), HM.d_in hL, ⟨by omega, by omega⟩, hy⟩, _, rfl, _, _, _, _, rfl, rfl, (by walk_at "sq"), rfl, _, rfl, _, _, _, _, rfl, ⟨(by walk_at "sq"), HM.d_in hL, hy⟩, _, _, _, rfl, ?_⟩
  exact q
theorem sc_code_at : FnScope ["link", "hosts", "codes", "there", "own", "lot", "done"] ["link", "hosts", "codes", "there"] (defScope s_code_at) := ⟨rfl, rfl, rfl, by decide +kernel, rfl, by decide +kernel, by decide +kernel⟩
theorem ok_code_at (Fx : Facts K mg) : Fn P w K mg base 2 "code_at" ["link", "hosts", "codes", "there"] (sp_codeat K) := by
  have F_wanted_old := ok_wanted_old (P := P) (w := w) (base := base) Fx
  refine fn_mk Fx 45 (st := s_code_at) rfl sc_code_at (fun _ _ _ _ _ _ us hl => match us, hl with | [_, _, _, _], _ => rfl) (fun vs H Q E h => ?_) (fun f cdv A outer s H vs Q E hr h => ?_)
  · obtain ⟨al, ah, ac, ta, L, bit, heard, own, l, done, cs, n, z, o, rfl, _⟩ := h
    rfl
  obtain ⟨al, ah, ac, ta, L, bit, heard, own, l, done, cs, n, z, o, rfl, ⟨⟨hl, hH, hc, ht⟩, ho⟩, q⟩ := h
  obtain ⟨s1, r1, v1, h1, h2, h3, h4⟩ := hH.ex
  refine ⟨_, (pss_cons (ps_asg (pe_ix ix_tup (pv 1) pe_int (fun _ _ => rfl)) (pg_tup rfl (pgs_cons (pg_name (i := 4) sc_code_at.nd rfl (.inl rfl)) (pgs_cons (pg_name (i := 5) sc_code_at.nd rfl (.inl rfl)) (pgs_cons (pg_name (i := 6) sc_code_at.nd rfl (.inl rfl)) pgs_nil))))) (pss_one (ps_ret (pe_ifExp (pt_cmpR op_ge (pe_ix ix_tup (pv 3) (pe_op op_sub pe_int (pv 4)) (fun _ _ => rfl)) (pe_fn F_wanted_old hr (pa_cons (pv 0) (pa_cons (pv 5) pa_nil))) (nomark _)) (pe_ix ix_tup (pv 2) pe_int (fun _ _ => rfl)) (pe_ix ix_tup (pv 2) pe_int (fun _ _ => rfl)))))), ?_⟩
  rcases ho with rfl | rfl
  · refine ⟨_, rfl, _, _, _, _, rfl, rfl, (by walk_at "sq"), rfl, _, _, rfl, (by walk_at "sq"), rfl, _, _, rfl, _, _, rfl, _, _, rfl, rfl, _, rfl, _, rfl, _, _, rfl, rfl, _, _, _, _, rfl, rfl, (by walk_at "sq"), rfl, _, rfl, _, rfl, _, _, _, _, rfl, ⟨(by walk_at "sq"), (by walk_at "lt")⟩, _, _, rfl, rfl, _, rfl, ?_⟩
    refine ite2 (fun c1 => ?_) (fun c1 => ?_)
    · replace c1 := dT c1
      refine ⟨_, rfl, _, _, _, _, rfl, rfl, (by walk_at "sq"), rfl, ?_⟩
      rw [show HM.codeAt 0 (HM.wanted L l) cs z o = cs.1 from if_pos c1] at q
      exact q
    · replace c1 := dF c1
      refine ⟨_, rfl, _, _, _, _, rfl, rfl, (by walk_at "sq"), rfl, ?_⟩
      rw [show HM.codeAt 0 (HM.wanted L l) cs z o = cs.2 from if_neg c1] at q
      exact q
  · refine ⟨_, rfl, _, _, _, _, rfl, rfl, (by walk_at "sq"), rfl, _, _, rfl, (by walk_at "sq"), rfl, _, _, rfl, _, _, rfl, _, _, rfl, rfl, _, rfl, _, rfl, _, _, rfl, rfl, _, _, _, _, rfl, rfl, (by walk_at "sq"), rfl, _, rfl, _, rfl, _, _, _, _, rfl, ⟨(by walk_at "sq"), (by walk_at "lt")⟩, _, _, rfl, rfl, _, rfl, ?_⟩
    refine ite2 (fun c1 => ?_) (fun c1 => ?_)
    · replace c1 := dT c1
      refine ⟨_, rfl, _, _, _, _, rfl, rfl, (by walk_at "sq"), rfl, ?_⟩
      rw [show HM.codeAt 1 (HM.wanted L l) cs z o = cs.1 from if_pos c1] at q
      exact q
    · replace c1 := dF c1
      refine ⟨_, rfl, _, _, _, _, rfl, rfl, (by walk_at "sq"), rfl, ?_⟩
      rw [show HM.codeAt 1 (HM.wanted L l) cs z o = cs.2 from if_neg c1] at q
      exact q
end
end HW
/-! part W4 -/
namespace HW
open PySem PySem.Spec PyProof.Rows L2 NdefX LamX
open HM (Lk Ct Lot)
local macro_rules | `(tactic| walk_at "nm") => `(tactic| dsimp only [L2.cxOf, L2.Cx.nox, L2.start, List.set, List.length, List.replicate, List.map, HAppend.hAppend, Append.append, List.append, Nat.reduceAdd, Nat.reduceSub, Nat.zero_add])
local macro_rules | `(tactic| walk_at "sq0") => `(tactic| first | assumption | exact SqT.of upd_same | (apply sqT_up; assumption; walk_at "sq0") | (apply sqT_S; assumption; walk_at "sq0") | (apply sqT_N; assumption; walk_at "sq0"))
local macro_rules | `(tactic| walk_at "sq1") => `(tactic| first | assumption | exact SqT.of upd_same | (apply sqT_up; assumption; walk_at "sq1") | (apply sqT_S; assumption; walk_at "sq1") | (apply sqT_N; assumption; walk_at "sq1"))
local macro_rules | `(tactic| walk_at "sq") => `(tactic| first | with_reducible walk_at "sq0" | walk_at "sq1")
local macro_rules | `(tactic| walk_at "sl0") => `(tactic| first | assumption | exact SqL.of upd_same | exact SqL.of (by assumption) | (apply sqL_up; assumption; walk_at "sl0") | (apply sqL_S; assumption; walk_at "sl0") | (apply sqL_N; assumption; walk_at "sl0"))
local macro_rules | `(tactic| walk_at "sl1") => `(tactic| first | assumption | exact SqL.of upd_same | exact SqL.of (by assumption) | (apply sqL_up; assumption; walk_at "sl1") | (apply sqL_S; assumption; walk_at "sl1") | (apply sqL_N; assumption; walk_at "sl1"))
local macro_rules | `(tactic| walk_at "sl") => `(tactic| first | with_reducible walk_at "sl0" | walk_at "sl1")
local macro_rules | `(tactic| walk_at "lt0") => `(tactic| first | assumption | (apply LotV.up; assumption; walk_at "lt0") | (apply LotV.S; assumption; walk_at "lt0") | (apply LotV.N; assumption; walk_at "lt0"))
local macro_rules | `(tactic| walk_at "lt1") => `(tactic| first | assumption | (apply LotV.up; assumption; walk_at "lt1") | (apply LotV.S; assumption; walk_at "lt1") | (apply LotV.N; assumption; walk_at "lt1"))
local macro_rules | `(tactic| walk_at "lt") => `(tactic| first | with_reducible walk_at "lt0" | walk_at "lt1")
local macro_rules | `(tactic| walk_at "ct0") => `(tactic| first | assumption | (apply CtA.up; assumption; walk_at "ct0") | (apply CtA.S; assumption; walk_at "ct0") | (apply CtA.N; assumption; walk_at "ct0"))
local macro_rules | `(tactic| walk_at "ct1") => `(tactic| first | assumption | (apply CtA.up; assumption; walk_at "ct1") | (apply CtA.S; assumption; walk_at "ct1") | (apply CtA.N; assumption; walk_at "ct1"))
local macro_rules | `(tactic| walk_at "ct") => `(tactic| first | with_reducible walk_at "ct0" | walk_at "ct1")
local macro_rules | `(tactic| walk_at "ho0") => `(tactic| first | assumption | (apply HoA.up; assumption; walk_at "ho0") | (apply HoA.S; assumption; walk_at "ho0") | (apply HoA.N; assumption; walk_at "ho0"))
local macro_rules | `(tactic| walk_at "ho1") => `(tactic| first | assumption | (apply HoA.up; assumption; walk_at "ho1") | (apply HoA.S; assumption; walk_at "ho1") | (apply HoA.N; assumption; walk_at "ho1"))
local macro_rules | `(tactic| walk_at "ho") => `(tactic| first | with_reducible walk_at "ho0" | walk_at "ho1")
local macro_rules | `(tactic| walk_at "sm0") => `(tactic| first | assumption | exact Same.refl _ | (refine same_up ?_ (by assumption); walk_at "sm0") | (refine Same.trans ?_ (by assumption); walk_at "sm0") | exact same_new (by assumption) _)
local macro_rules | `(tactic| walk_at "sm1") => `(tactic| first | assumption | exact Same.refl _ | (refine same_up ?_ (by assumption); walk_at "sm1") | (refine Same.trans ?_ (by assumption); walk_at "sm1") | exact same_new (by assumption) _)
local macro_rules | `(tactic| walk_at "sm") => `(tactic| first | with_reducible walk_at "sm0" | walk_at "sm1")
local macro_rules | `(tactic| walk_at "pre") => `(tactic| first | assumption | omega | decide)
section
variable {P : Program} {w : World} {K : PySem.W.Frag} {mg : Str → Option Value} {base : Heap}
theorem tyT {K : PySem.W.Frag} {H : Hp} {a : Addr} {xs : List V} (h : SqT K H a xs) : TyX K H (.ref a) (.type "tuple") := by
  rcases h with (h | ⟨ob, h⟩) | ⟨o, its, n, hk, hc, _⟩
  · exact .base (.tup h)
  · exact .fTuple h
  · exact .kTuple hk hc
/-- == and != of a list with an empty one -/
def rEmp (K : PySem.W.Frag) (b : Bool) : R2 := fun x y H Q => ∃ p q, x = .ref p ∧ y = .ref q ∧ SqL K H p [] ∧ SqL K H q [] ∧ Q (.bl b) H
theorem op_eqE {X : Cx} (hu : X.A.units + 64 < cLine) : OpR X (compareOp .Eq) (rEmp X.K true) := by
  intro pins s σ H x y v u Q I rx ry h
  obtain ⟨p, r, rfl, rfl, hp, hr, q⟩ := h
  refine op_eqD hu pins s σ H _ _ v u Q I rx ry ⟨.list [], .list [], .lst hp .nil, .lst hr .nil, by decide, by decide, ?_⟩
  rw [show PyData.eqv (.list []) (.list []) = true by decide]
  exact q
theorem op_neE {X : Cx} (hu : X.A.units + 64 < cLine) : OpR X (compareOp .NotEq) (rEmp X.K false) := by
  intro pins s σ H x y v u Q I rx ry h
  obtain ⟨p, r, rfl, rfl, hp, hr, q⟩ := h
  refine op_neD hu pins s σ H _ _ v u Q I rx ry ⟨.list [], .list [], .lst hp .nil, .lst hr .nil, by decide, by decide, ?_⟩
  rw [show PyData.eqv (.list []) (.list []) = true by decide]
  exact q
/-- contents at their address -/
structure CtA (K : PySem.W.Frag) (H : Hp) (L : Lk) (a : Addr) (x : Ct) : Prop where
  ex : ∃ (s r t b : Addr) (v : V), SqT K H a [.ref s, .ref r, .ref t, .ref b] ∧ SqT K H s [.int x.bit, .int x.heard] ∧ SqT K H r [.int x.own, v, .bl x.done] ∧ LotV K H v (x.lot L) ∧ ThA K H t x.n x.z x.o ∧ BkA K H b x.y x.x
theorem CtA.N {K : PySem.W.Frag} {H H' : Hp} {L : Lk} {a : Addr} {x : Ct} (e : ExtN H H') (h : CtA K H L a x) : CtA K H' L a x := by
  obtain ⟨s, r, t, b, v, h0, h1, h2, h3, h4, h5⟩ := h.ex
  exact ⟨s, r, t, b, v, sqT_N e h0, sqT_N e h1, sqT_N e h2, h3.N e, sqT_N e h4, sqT_N e h5⟩
theorem CtA.S {K : PySem.W.Frag} {H H' : Hp} {L : Lk} {a : Addr} {x : Ct} (e : Same H H') (h : CtA K H L a x) : CtA K H' L a x := h.N (Same.extN e)
theorem CtA.up {K : PySem.W.Frag} {H : Hp} {L : Lk} {a p : Addr} {o : HO} {x : Ct} (np : H p = none) (h : CtA K H L a x) : CtA K (upd H p o) L a x := h.S (same_new np o)
def LotFit (L : Lk) (e : Bool) : Lot → Prop
  | .no => True
  | .new m => e = false ∧ 1 ≤ m ∧ m ≤ L.p - 1
  | .old m => 1 ≤ m ∧ m ≤ L.p - 1
theorem lot_fit {L : Lk} {x : Ct} (X : x.Ok L) : LotFit L x.even (x.lot L) := by
  obtain ⟨_, _, _, _, l0, l1, _⟩ := X
  unfold Ct.lot HM.lotOf
  unfold HM.lotsIn at l1
  by_cases c : x.lots = 0
  · rw [if_pos c]; trivial
  · rw [if_neg c]
    cases e : x.even with
    | true =>
      rw [e, if_pos rfl] at l1
      rw [if_pos rfl]
      exact ⟨by omega, by omega⟩
    | false =>
      rw [e, if_neg (by decide)] at l1
      rw [if_neg (by decide)]
      split
      · exact ⟨by omega, by omega⟩
      · exact ⟨rfl, by omega, by omega⟩
theorem tru {Q : VK} {H : Hp} {b : Bool} (h : b = true) (q : Q (.bl true) H) : Q (.bl b) H := by rw [h]; exact q
theorem link_ge {L : Lk} (hL : L.Ok) {i : Nat} {x : V} (h : ([.int L.c, .int L.d, .int L.p, .int L.q] : List V)[i]? = some x) : ∃ j : Int, x = .int j ∧ 1 ≤ j := by
  obtain ⟨h1, h2, h3, h4, _, _⟩ := hL
  match i, h with
  | 0, h => exact ⟨_, (Option.some.inj h).symm, by omega⟩
  | 1, h => exact ⟨_, (Option.some.inj h).symm, by omega⟩
  | 2, h => exact ⟨_, (Option.some.inj h).symm, by omega⟩
  | 3, h => exact ⟨_, (Option.some.inj h).symm, by omega⟩
inductive HiV : V → Int → Prop where
  | no (i : Int) : HiV .non i
  | le {i h : Int} (l : i ≤ h) : HiV (.int h) i
def sp_whole : Sp := fun vs H Q _ => ∃ (i : Int), vs = [.int i] ∧ Q (.bl true) H
def sp_between : Sp := fun vs H Q _ => ∃ (i lo : Int) (hi : V), vs = [.int i, .int lo, hi] ∧ (lo ≤ i ∧ HiV hi i) ∧ Q (.bl true) H
def sp_checknum : Sp := fun vs H Q _ => ∃ (i lo : Int) (hi : V), vs = [.int i, .int lo, hi] ∧ (lo ≤ i ∧ HiV hi i) ∧ Q .non H
def sp_linkfits (K : PySem.W.Frag) : Sp := fun vs H Q _ => ∃ (a : Addr) (L : Lk), vs = [.ref a] ∧ (LkA K H a L ∧ L.Ok) ∧ ∀ H', Same H H' → Q (.bl true) H'
def sp_linkok (K : PySem.W.Frag) : Sp := fun vs H Q _ => ∃ (a : Addr) (L : Lk), vs = [.ref a] ∧ (LkA K H a L ∧ L.Ok) ∧ ∀ H', Same H H' → Q .non H'
def sp_bit : Sp := fun vs H Q _ => ∃ (i : Int), vs = [.int i] ∧ (i = 0 ∨ i = 1) ∧ Q (.bl true) H
def sp_counts (K : PySem.W.Frag) : Sp := fun vs H Q _ => ∃ (a : Addr) (ns : List Int) (m : Int), vs = [.ref a, .int (ns.length : Nat), .int m] ∧ (SqT K H a (ns.map V.int) ∧ (∀ n ∈ ns, 0 ≤ n) ∧ ns.sum ≤ m) ∧ ∀ H', Same H H' → Q (.bl true) H'
def sp_lotfits (K : PySem.W.Frag) : Sp := fun vs H Q _ => ∃ (a : Addr) (L : Lk) (v : V) (l : Lot) (e : Bool), vs = [.ref a, v, .bl e] ∧ (LkA K H a L ∧ LotV K H v l ∧ LotFit L e l) ∧ ∀ H', Same H H' → Q (.bl true) H'
def sp_hostsfit (K : PySem.W.Frag) : Sp := fun vs H Q _ => ∃ (a s r : Addr) (L : Lk) (x : Ct) (v : V), vs = [.ref a, .ref s, .ref r] ∧ (LkA K H a L ∧ SqT K H s [.int x.bit, .int x.heard] ∧ SqT K H r [.int x.own, v, .bl x.done] ∧ LotV K H v (x.lot L) ∧ x.Ok L) ∧ ∀ H', Same H H' → Q (.bl true) H'
def sp_ctfits (K : PySem.W.Frag) (u : V) : Sp := fun vs H Q _ => ∃ (a c : Addr) (L : Lk) (x : Ct), vs = [.ref a, .ref c] ∧ (LkA K H a L ∧ CtA K H L c x ∧ L.Ok ∧ x.Ok L) ∧ ∀ H', Same H H' → Q u H'
def sp_even (K : PySem.W.Frag) : Sp := fun vs H Q _ => ∃ (c : Addr) (L : Lk) (x : Ct), vs = [.ref c] ∧ CtA K H L c x ∧ Q (.bl x.even) H
def sp_oldof (K : PySem.W.Frag) : Sp := fun vs H Q _ => ∃ (c : Addr) (b : Int) (L : Lk) (x : Ct), vs = [.ref c, .int b] ∧ (CtA K H L c x ∧ (b = 0 ∨ b = 1)) ∧ Q (.int (if b = 0 then x.z else x.o)) H
def sp_ansof (K : PySem.W.Frag) : Sp := fun vs H Q _ => ∃ (c : Addr) (b : Int) (L : Lk) (x : Ct), vs = [.ref c, .int b] ∧ (CtA K H L c x ∧ (b = 0 ∨ b = 1)) ∧ Q (.int (if b = 0 then x.y else x.x)) H
def sp_ansin (K : PySem.W.Frag) : Sp := fun vs H Q _ => ∃ (c : Addr) (L : Lk) (x : Ct), vs = [.ref c] ∧ (CtA K H L c x ∧ (x.bit = 0 ∨ x.bit = 1)) ∧ Q (.int (HM.answers x)) H
def sp_oldin (K : PySem.W.Frag) : Sp := fun vs H Q _ => ∃ (c : Addr) (L : Lk) (x : Ct), vs = [.ref c] ∧ (CtA K H L c x ∧ (x.own = 0 ∨ x.own = 1)) ∧ Q (.int (HM.oldIn L x)) H
def sp_signs (K : PySem.W.Frag) : Sp := fun vs H Q _ => ∃ (a c : Addr) (L : Lk) (x : Ct), vs = [.ref a, .ref c] ∧ (LkA K H a L ∧ CtA K H L c x ∧ x.Ok L) ∧ ∀ p H', Same H H' → SqT K H' p [.bl x.even, .bl x.done, .bl (decide (L.q ≤ HM.answers x)), .bl (decide (L.p ≤ HM.oldIn L x))] → Q (.ref p) H'
def sp_hsigns (K : PySem.W.Frag) : Sp := fun vs H Q _ => ∃ (a : Addr) (e d an ol : Bool), vs = [.ref a] ∧ SqT K H a [.bl e, .bl d, .bl an, .bl ol] ∧ Q (.int (HM.harmOf e d an ol)) H
def sp_harm (K : PySem.W.Frag) : Sp := fun vs H Q _ => ∃ (a c : Addr) (L : Lk) (x : Ct), vs = [.ref a, .ref c] ∧ (LkA K H a L ∧ CtA K H L c x ∧ x.Ok L) ∧ ∀ H', Same H H' → Q (.int (x.harm L)) H'
theorem sc_is_whole : FnScope ["value"] ["value"] (defScope s_is_whole) := ⟨rfl, rfl, rfl, by decide +kernel, rfl, by decide +kernel, by decide +kernel⟩
theorem ok_is_whole (Fx : Facts K mg) : Fn P w K mg base 1 "is_whole" ["value"] sp_whole := by
  refine fn_mk Fx 0 (st := s_is_whole) rfl sc_is_whole (fun _ _ _ _ _ _ us hl => match us, hl with | [_], _ => rfl) (fun vs H Q E h => ?_) (fun f cdv A outer s H vs Q E hr h => ?_)
  · obtain ⟨i, rfl, _⟩ := h
    rfl
  obtain ⟨i, rfl, q⟩ := h
  refine ⟨_, (pss_one (ps_ret (pe_and (pe_callB call_isi (by rfl) (Fx.bt 0 _ rfl) boot_isinstance (pa_cons (pv 0) (pa_cons (pe_bltn (v := .ty "int") (by rfl) (Fx.bt 1 _ rfl) boot_int rfl) pa_nil))) (pe_one (pe_not (pe_callB call_isi (by rfl) (Fx.bt 0 _ rfl) boot_isinstance (pa_cons (pv 0) (pa_cons (pe_bltn (v := .ty "bool") (by rfl) (Fx.bt 2 _ rfl) boot_bool rfl) pa_nil)))))))), ?_⟩
  refine ⟨_, rfl, _, _, _, _, _, rfl, .ty _, (.base (.int _)), (kit_ty (a := "int") (b := "int") (r := true) (by decide +kernel)), _, rfl, ?_⟩
  refine iteT ?_
  refine ⟨_, rfl, _, _, _, _, _, rfl, .ty _, (.base (.int _)), (kit_ty (a := "int") (b := "bool") (r := false) (by decide +kernel)), _, rfl, ?_⟩
  exact q
theorem sc_is_between : FnScope ["value", "low", "high"] ["value", "low", "high"] (defScope s_is_between) := ⟨rfl, rfl, rfl, by decide +kernel, rfl, by decide +kernel, by decide +kernel⟩
theorem ok_is_between (Fx : Facts K mg) : Fn P w K mg base 2 "is_between" ["value", "low", "high"] sp_between := by
  have F_is_whole := ok_is_whole (P := P) (w := w) (base := base) Fx
  refine fn_mk Fx 1 (st := s_is_between) rfl sc_is_between (fun _ _ _ _ _ _ us hl => match us, hl with | [_, _, _], _ => rfl) (fun vs H Q E h => ?_) (fun f cdv A outer s H vs Q E hr h => ?_)
  · obtain ⟨i, lo, hi, rfl, _⟩ := h
    rfl
  obtain ⟨i, lo, hi, rfl, ⟨h0, hh⟩, q⟩ := h
  refine ⟨_, (pss_cons (ps_if (pt_not (pt_val (pe_fn F_is_whole hr (pa_cons (pv 0) pa_nil)))) (pss_one (ps_ret pe_bl)) pss_nil) (pss_one (ps_ret (pe_and (pe_or (pe_cmpR op_isN (pv 1) pe_non (nomark _)) (pe_one (pe_cmpR op_ge (pv 0) (pv 1) (nomark _)))) (pe_one (pe_or (pe_cmpR op_isN (pv 2) pe_non (nomark _)) (pe_one (pe_cmpR op_le (pv 0) (pv 2) (nomark _))))))))), ?_⟩
  cases hh with
  | no =>
    refine ⟨_, rfl, _, rfl, _, rfl, ?_⟩
    refine iteF ?_
    refine ⟨_, rfl, rfl, _, rfl, ?_⟩
    refine iteF ?_
    refine ⟨_, rfl, _, rfl, _, _, rfl, rfl, _, rfl, ?_⟩
    refine ite2 (fun c => ?_) (fun c => absurd (decide_eq_true h0) c)
    refine ⟨_, rfl, rfl, _, rfl, ?_⟩
    refine iteT ?_
    exact q
  | le l =>
    refine ⟨_, rfl, _, rfl, _, rfl, ?_⟩
    refine iteF ?_
    refine ⟨_, rfl, rfl, _, rfl, ?_⟩
    refine iteF ?_
    refine ⟨_, rfl, _, rfl, _, _, rfl, rfl, _, rfl, ?_⟩
    refine ite2 (fun c => ?_) (fun c => absurd (decide_eq_true h0) c)
    refine ⟨_, rfl, rfl, _, rfl, ?_⟩
    refine iteF ?_
    refine ⟨_, rfl, _, rfl, _, _, rfl, rfl, ?_⟩
    exact tru (Q := Q) (decide_eq_true l) q
theorem sc_check_number : FnScope ["number", "low", "high"] ["number", "low", "high"] (defScope s_check_number) := ⟨rfl, rfl, rfl, by decide +kernel, rfl, by decide +kernel, by decide +kernel⟩
theorem ok_check_number (Fx : Facts K mg) : Fn P w K mg base 3 "check_number" ["number", "low", "high"] sp_checknum := by
  have F_is_between := ok_is_between (P := P) (w := w) (base := base) Fx
  refine fn_mk Fx 2 (st := s_check_number) rfl sc_check_number (fun _ _ _ _ _ _ us hl => match us, hl with | [_, _, _], _ => rfl) (fun vs H Q E h => ?_) (fun f cdv A outer s H vs Q E hr h => ?_)
  · obtain ⟨i, lo, hi, rfl, _⟩ := h
    rfl
  obtain ⟨i, lo, hi, rfl, ⟨h0, hh⟩, q⟩ := h
  refine ⟨_, (pss_one (ps_if (pt_not (pt_val (pe_fn F_is_between hr (pa_cons (pv 0) (pa_cons (pv 1) (pa_cons (pv 2) pa_nil)))))) (pss_one ps_never) pss_nil)), ?_⟩
  refine ⟨_, rfl, _, rfl, _, rfl, _, _, _, rfl, ⟨h0, hh⟩, _, rfl, ?_⟩
  refine iteF ?_
  exact q
theorem sc_link_fits : FnScope ["value", "item"] ["value"] (defScope s_link_fits) := ⟨rfl, rfl, rfl, by decide +kernel, rfl, by decide +kernel, by decide +kernel⟩
theorem ok_link_fits (Fx : Facts K mg) : Fn P w K mg base 3 "link_fits" ["value"] (sp_linkfits K) := by
  have F_is_between := ok_is_between (P := P) (w := w) (base := base) Fx
  refine fn_mk Fx 3 (st := s_link_fits) rfl sc_link_fits (fun _ _ _ _ _ _ us hl => match us, hl with | [_], _ => rfl) (fun vs H Q E h => ?_) (fun f cdv A outer s H vs Q E hr h => ?_)
  · obtain ⟨a, L, rfl, _⟩ := h
    rfl
  obtain ⟨a, L, rfl, ⟨hl, hL⟩, q⟩ := h
  refine ⟨_, (pss_cons (ps_if (PW.pt (pw_or (pt_not (pt_val (pe_callB call_isi (by rfl) (Fx.bt 0 _ rfl) boot_isinstance (pa_cons (pv 0) (pa_cons (pe_bltn (v := .ty "tuple") (by rfl) (Fx.bt 3 _ rfl) boot_tuple rfl) pa_nil))))) (pw_or1 (pt_cmpR op_ne (pe_callB call_len_seq (by rfl) (Fx.bt 5 _ rfl) boot_len (pa_cons (pv 0) pa_nil)) pe_int (nomark _))))) (pss_one (ps_ret pe_bl)) pss_nil) (pss_one (ps_ret (pe_cmpR (op_eqE hr.units) (pe_lc (own := [("item", 1)]) rfl sc_link_fits.nd (pi_tup (pv 0)) (blkOk_by (N := ["value", "item"]) (sc := defScope s_link_fits) (by decide +kernel)) (fun _ _ _ _ _ => (pg_name (i := 1) sc_link_fits.nd rfl (.inl rfl))) (fun _ _ _ _ _ => (pts_one (pt_not (pt_val (pe_fn F_is_between hr (pa_cons (pv 1) (pa_cons pe_int (pa_cons pe_non pa_nil)))))))) (fun _ _ _ _ _ => (pv 1))) (pe_lst pa_nil) (nomark _))))), ?_⟩
  refine ⟨_, rfl, _, _, _, _, _, rfl, .ty _, (tyT (by walk_at "sq")), (kit_ty (a := "tuple") (b := "tuple") (r := true) (by decide +kernel)), _, rfl, ?_⟩
  refine iteF ?_
  refine ⟨_, rfl, _, _, rfl, (.inr (by walk_at "sq")), rfl, _, rfl, ?_⟩
  refine iteF ?_
  refine ⟨_, rfl, _, rfl, ⟨_, (by walk_at "sq")⟩, fun D1 nD1 => ?_⟩
  refine lc_tup (fun _ H' => H' D1 = some (.lst []) ∧ Same H H') ⟨upd_same, (by walk_at "sm")⟩ (fun i H' hi hP => sqT_S hP.2 hl) (fun i x H' hx hP => ?_) (fun H1 hP => ?_)
  · obtain ⟨j, rfl, hj⟩ := link_ge hL hx
    refine ⟨rfl, ?_⟩
    refine ⟨_, rfl, _, _, _, rfl, ⟨hj, .no _⟩, _, rfl, ?_⟩
    refine iteF ?_
    exact hP
  · obtain ⟨l1, e1⟩ := hP
    refine ⟨(by show 0 ≤ sizeLine; decide), fun p2 np2 => ?_⟩
    refine ⟨_, _, rfl, rfl, (by walk_at "sl"), (by walk_at "sl"), ?_⟩
    exact q _ (by walk_at "sm")
theorem sc_check_link : FnScope ["link"] ["link"] (defScope s_check_link) := ⟨rfl, rfl, rfl, by decide +kernel, rfl, by decide +kernel, by decide +kernel⟩
theorem ok_check_link (Fx : Facts K mg) : Fn P w K mg base 4 "check_link" ["link"] (sp_linkok K) := by
  have F_link_fits := ok_link_fits (P := P) (w := w) (base := base) Fx
  refine fn_mk Fx 4 (st := s_check_link) rfl sc_check_link (fun _ _ _ _ _ _ us hl => match us, hl with | [_], _ => rfl) (fun vs H Q E h => ?_) (fun f cdv A outer s H vs Q E hr h => ?_)
  · obtain ⟨a, L, rfl, _⟩ := h
    rfl
  obtain ⟨a, L, rfl, ⟨hl, hL⟩, q⟩ := h
  refine ⟨_, (pss_one (ps_if (pt_not (pt_val (pe_fn F_link_fits hr (pa_cons (pv 0) pa_nil)))) (pss_one ps_never) pss_nil)), ?_⟩
  refine ⟨_, rfl, _, _, rfl, ⟨(by walk_at "sq"), hL⟩, fun H1 e1 => ?_⟩
  refine ⟨_, rfl, ?_⟩
  refine iteF ?_
  exact q _ (by walk_at "sm")
theorem sc_sound_fits : FnScope ["link", "places", "back", "copies", "answers"] ["link"] (defScope s_sound_fits) := ⟨rfl, rfl, rfl, by decide +kernel, rfl, by decide +kernel, by decide +kernel⟩
theorem ok_sound_fits (Fx : Facts K mg) : Fn P w K mg base 1 "sound_fits" ["link"] (sp_linkfits K) := by
  refine fn_mk Fx 5 (st := s_sound_fits) rfl sc_sound_fits (fun _ _ _ _ _ _ us hl => match us, hl with | [_], _ => rfl) (fun vs H Q E h => ?_) (fun f cdv A outer s H vs Q E hr h => ?_)
  · obtain ⟨a, L, rfl, _⟩ := h
    rfl
  obtain ⟨a, L, rfl, ⟨hl, hL⟩, q⟩ := h
  refine ⟨_, (pss_cons (ps_asg (pv 0) (pg_tup rfl (pgs_cons (pg_name (i := 1) sc_sound_fits.nd rfl (.inl rfl)) (pgs_cons (pg_name (i := 2) sc_sound_fits.nd rfl (.inl rfl)) (pgs_cons (pg_name (i := 3) sc_sound_fits.nd rfl (.inl rfl)) (pgs_cons (pg_name (i := 4) sc_sound_fits.nd rfl (.inl rfl)) pgs_nil)))))) (pss_one (ps_ret (pe_and (pe_cmpR op_ge (pv 3) (pv 1) (nomark _)) (pe_one (pe_cmpR op_ge (pv 4) (pv 2) (nomark _))))))), ?_⟩
  refine ⟨_, rfl, _, _, rfl, (by walk_at "sq"), rfl, _, _, rfl, _, _, rfl, _, _, rfl, _, _, rfl, rfl, _, rfl, _, rfl, _, _, rfl, rfl, _, rfl, ?_⟩
  refine ite2 (fun c => ?_) (fun c => absurd (decide_eq_true hL.cp) c)
  refine ⟨_, rfl, _, rfl, _, _, rfl, rfl, ?_⟩
  exact tru (Q := Q) (decide_eq_true hL.dq) (q _ (Same.refl _))
theorem sc_check_sound : FnScope ["link"] ["link"] (defScope s_check_sound) := ⟨rfl, rfl, rfl, by decide +kernel, rfl, by decide +kernel, by decide +kernel⟩
theorem ok_check_sound (Fx : Facts K mg) : Fn P w K mg base 2 "check_sound" ["link"] (sp_linkok K) := by
  have F_sound_fits := ok_sound_fits (P := P) (w := w) (base := base) Fx
  refine fn_mk Fx 6 (st := s_check_sound) rfl sc_check_sound (fun _ _ _ _ _ _ us hl => match us, hl with | [_], _ => rfl) (fun vs H Q E h => ?_) (fun f cdv A outer s H vs Q E hr h => ?_)
  · obtain ⟨a, L, rfl, _⟩ := h
    rfl
  obtain ⟨a, L, rfl, ⟨hl, hL⟩, q⟩ := h
  refine ⟨_, (pss_one (ps_if (pt_not (pt_val (pe_fn F_sound_fits hr (pa_cons (pv 0) pa_nil)))) (pss_one ps_never) pss_nil)), ?_⟩
  refine ⟨_, rfl, _, _, rfl, ⟨(by walk_at "sq"), hL⟩, fun H1 e1 => ?_⟩
  refine ⟨_, rfl, ?_⟩
  refine iteF ?_
  exact q _ (by walk_at "sm")
theorem sc_bit_fits : FnScope ["value"] ["value"] (defScope s_bit_fits) := ⟨rfl, rfl, rfl, by decide +kernel, rfl, by decide +kernel, by decide +kernel⟩
theorem ok_bit_fits (Fx : Facts K mg) : Fn P w K mg base 3 "bit_fits" ["value"] sp_bit := by
  have F_is_between := ok_is_between (P := P) (w := w) (base := base) Fx
  refine fn_mk Fx 7 (st := s_bit_fits) rfl sc_bit_fits (fun _ _ _ _ _ _ us hl => match us, hl with | [_], _ => rfl) (fun vs H Q E h => ?_) (fun f cdv A outer s H vs Q E hr h => ?_)
  · obtain ⟨i, rfl, _⟩ := h
    rfl
  obtain ⟨i, rfl, hb, q⟩ := h
  refine ⟨_, (pss_one (ps_ret (pe_fn F_is_between hr (pa_cons (pv 0) (pa_cons pe_int (pa_cons pe_int pa_nil)))))), ?_⟩
  refine ⟨_, rfl, _, _, _, rfl, ⟨by omega, .le (by omega)⟩, ?_⟩
  exact q
end
end HW
/-! part W5 -/
namespace HW
open PySem PySem.Spec PyProof.Rows L2 NdefX LamX
open HM (Lk Ct Lot)
local macro_rules | `(tactic| walk_at "nm") => `(tactic| dsimp only [L2.cxOf, L2.Cx.nox, L2.start, List.set, List.length, List.replicate, List.map, HAppend.hAppend, Append.append, List.append, Nat.reduceAdd, Nat.reduceSub, Nat.zero_add])
local macro_rules | `(tactic| walk_at "sq0") => `(tactic| first | assumption | exact SqT.of upd_same | (apply sqT_up; assumption; walk_at "sq0") | (apply sqT_S; assumption; walk_at "sq0") | (apply sqT_N; assumption; walk_at "sq0"))
local macro_rules | `(tactic| walk_at "sq1") => `(tactic| first | assumption | exact SqT.of upd_same | (apply sqT_up; assumption; walk_at "sq1") | (apply sqT_S; assumption; walk_at "sq1") | (apply sqT_N; assumption; walk_at "sq1"))
local macro_rules | `(tactic| walk_at "sq") => `(tactic| first | with_reducible walk_at "sq0" | walk_at "sq1")
local macro_rules | `(tactic| walk_at "sl0") => `(tactic| first | assumption | exact SqL.of upd_same | exact SqL.of (by assumption) | (apply sqL_up; assumption; walk_at "sl0") | (apply sqL_S; assumption; walk_at "sl0") | (apply sqL_N; assumption; walk_at "sl0"))
local macro_rules | `(tactic| walk_at "sl1") => `(tactic| first | assumption | exact SqL.of upd_same | exact SqL.of (by assumption) | (apply sqL_up; assumption; walk_at "sl1") | (apply sqL_S; assumption; walk_at "sl1") | (apply sqL_N; assumption; walk_at "sl1"))
local macro_rules | `(tactic| walk_at "sl") => `(tactic| first | with_reducible walk_at "sl0" | walk_at "sl1")
local macro_rules | `(tactic| walk_at "lt0") => `(tactic| first | assumption | (apply LotV.up; assumption; walk_at "lt0") | (apply LotV.S; assumption; walk_at "lt0") | (apply LotV.N; assumption; walk_at "lt0"))
local macro_rules | `(tactic| walk_at "lt1") => `(tactic| first | assumption | (apply LotV.up; assumption; walk_at "lt1") | (apply LotV.S; assumption; walk_at "lt1") | (apply LotV.N; assumption; walk_at "lt1"))
local macro_rules | `(tactic| walk_at "lt") => `(tactic| first | with_reducible walk_at "lt0" | walk_at "lt1")
local macro_rules | `(tactic| walk_at "ct0") => `(tactic| first | assumption | (apply CtA.up; assumption; walk_at "ct0") | (apply CtA.S; assumption; walk_at "ct0") | (apply CtA.N; assumption; walk_at "ct0"))
local macro_rules | `(tactic| walk_at "ct1") => `(tactic| first | assumption | (apply CtA.up; assumption; walk_at "ct1") | (apply CtA.S; assumption; walk_at "ct1") | (apply CtA.N; assumption; walk_at "ct1"))
local macro_rules | `(tactic| walk_at "ct") => `(tactic| first | with_reducible walk_at "ct0" | walk_at "ct1")
local macro_rules | `(tactic| walk_at "ho0") => `(tactic| first | assumption | (apply HoA.up; assumption; walk_at "ho0") | (apply HoA.S; assumption; walk_at "ho0") | (apply HoA.N; assumption; walk_at "ho0"))
local macro_rules | `(tactic| walk_at "ho1") => `(tactic| first | assumption | (apply HoA.up; assumption; walk_at "ho1") | (apply HoA.S; assumption; walk_at "ho1") | (apply HoA.N; assumption; walk_at "ho1"))
local macro_rules | `(tactic| walk_at "ho") => `(tactic| first | with_reducible walk_at "ho0" | walk_at "ho1")
local macro_rules | `(tactic| walk_at "sm0") => `(tactic| first | assumption | exact Same.refl _ | (refine same_up ?_ (by assumption); walk_at "sm0") | (refine Same.trans ?_ (by assumption); walk_at "sm0") | exact same_new (by assumption) _)
local macro_rules | `(tactic| walk_at "sm1") => `(tactic| first | assumption | exact Same.refl _ | (refine same_up ?_ (by assumption); walk_at "sm1") | (refine Same.trans ?_ (by assumption); walk_at "sm1") | exact same_new (by assumption) _)
local macro_rules | `(tactic| walk_at "sm") => `(tactic| first | with_reducible walk_at "sm0" | walk_at "sm1")
local macro_rules | `(tactic| walk_at "pre") => `(tactic| first | assumption | omega | decide)
section
variable {P : Program} {w : World} {K : PySem.W.Frag} {mg : Str → Option Value} {base : Heap}
theorem ints_at {ns : List Int} {i : Nat} {x : V} (h0 : ∀ n ∈ ns, 0 ≤ n) (h : (ns.map V.int)[i]? = some x) : ∃ j : Int, x = .int j ∧ 0 ≤ j := by
  rw [List.getElem?_map] at h
  cases e : ns[i]? with
  | none => rw [e] at h; cases h
  | some n => rw [e] at h; exact ⟨n, (Option.some.inj h).symm, h0 n (List.mem_of_getElem? e)⟩
theorem lenEq {ns : List Int} : (!decide (V.int (((ns.map V.int).length : Nat) : Int) = V.int ((ns.length : Nat) : Int))) = false := by
  rw [List.length_map, decide_eq_true rfl]; rfl
theorem sum3 (a b c : Int) : ([a, b, c] : List Int).sum = a + b + c := by simp only [List.sum_cons, List.sum_nil]; omega
theorem sum2 (a b : Int) : ([a, b] : List Int).sum = a + b := by simp only [List.sum_cons, List.sum_nil]; omega
theorem all3 {a b c : Int} (h0 : 0 ≤ a) (h1 : 0 ≤ b) (h2 : 0 ≤ c) : ∀ n ∈ ([a, b, c] : List Int), 0 ≤ n := by
  intro n h; simp only [List.mem_cons, List.not_mem_nil, or_false] at h; omega
theorem all2 {a b : Int} (h0 : 0 ≤ a) (h1 : 0 ≤ b) : ∀ n ∈ ([a, b] : List Int), 0 ≤ n := by
  intro n h; simp only [List.mem_cons, List.not_mem_nil, or_false] at h; omega
theorem int_eqv {a b : Int} : decide (V.int a = V.int b) = decide (a = b) := by
  by_cases h : a = b
  · rw [decide_eq_true h, decide_eq_true (by rw [h])]
  · rw [decide_eq_false h, decide_eq_false (fun z => h (V.int.inj z))]
theorem int_eqv2 {Q : VK} {H : Hp} {a b : Int} (q : Q (.bl (decide (a = b))) H) : Q (.bl (decide (V.int a = V.int b))) H := by rw [int_eqv]; exact q
theorem lot_fit2 {L : Lk} {x : Ct} (hX : x.Ok L) : LotFit L (decide (V.int x.bit = V.int x.own)) (x.lot L) := by rw [int_eqv]; exact lot_fit hX
theorem sc_counts_fit : FnScope ["value", "size", "most", "item"] ["value", "size", "most"] (defScope s_counts_fit) := ⟨rfl, rfl, rfl, by decide +kernel, rfl, by decide +kernel, by decide +kernel⟩
theorem ok_counts_fit (Fx : Facts K mg) : Fn P w K mg base 3 "counts_fit" ["value", "size", "most"] (sp_counts K) := by
  have F_is_between := ok_is_between (P := P) (w := w) (base := base) Fx
  refine fn_mk Fx 8 (st := s_counts_fit) rfl sc_counts_fit (fun _ _ _ _ _ _ us hl => match us, hl with | [_, _, _], _ => rfl) (fun vs H Q E h => ?_) (fun f cdv A outer s H vs Q E hr h => ?_)
  · obtain ⟨a, ns, m, rfl, _⟩ := h
    rfl
  obtain ⟨a, ns, m, rfl, ⟨hl, h0, hs⟩, q⟩ := h
  refine ⟨_, (pss_cons (ps_if (PW.pt (pw_or (pt_not (pt_val (pe_callB call_isi (by rfl) (Fx.bt 0 _ rfl) boot_isinstance (pa_cons (pv 0) (pa_cons (pe_bltn (v := .ty "tuple") (by rfl) (Fx.bt 3 _ rfl) boot_tuple rfl) pa_nil))))) (pw_or1 (pt_cmpR op_ne (pe_callB call_len_seq (by rfl) (Fx.bt 5 _ rfl) boot_len (pa_cons (pv 0) pa_nil)) (pv 1) (nomark _))))) (pss_one (ps_ret pe_bl)) pss_nil) (pss_cons (ps_if (pt_cmpR (op_neE hr.units) (pe_lc (own := [("item", 3)]) rfl sc_counts_fit.nd (pi_tup (pv 0)) (blkOk_by (N := ["value", "size", "most", "item"]) (sc := defScope s_counts_fit) (by decide +kernel)) (fun _ _ _ _ _ => (pg_name (i := 3) sc_counts_fit.nd rfl (.inl rfl))) (fun _ _ _ _ _ => (pts_one (pt_not (pt_val (pe_fn F_is_between hr (pa_cons (pv 3) (pa_cons pe_int (pa_cons pe_non pa_nil)))))))) (fun _ _ _ _ _ => (pv 3))) (pe_lst pa_nil) (nomark _)) (pss_one (ps_ret pe_bl)) pss_nil) (pss_one (ps_ret (pe_cmpR op_le (pe_callB (cr_sumT rfl) (by rfl) (Fx.bt 6 _ rfl) boot_sum (pa_cons (pv 0) pa_nil)) (pv 2) (nomark _)))))), ?_⟩
  refine ⟨_, rfl, _, _, _, _, _, rfl, .ty _, (tyT (by walk_at "sq")), (kit_ty (a := "tuple") (b := "tuple") (r := true) (by decide +kernel)), _, rfl, ?_⟩
  refine iteF ?_
  refine ⟨_, rfl, _, _, rfl, (.inr (by walk_at "sq")), _, rfl, rfl, _, rfl, ?_⟩
  refine ite2 (fun c => absurd c (by rw [lenEq]; decide)) (fun c => ?_)
  refine ⟨_, rfl, _, rfl, ⟨_, (by walk_at "sq")⟩, fun D1 nD1 => ?_⟩
  refine lc_tup (fun _ H' => H' D1 = some (.lst []) ∧ Same H H') ⟨upd_same, (by walk_at "sm")⟩ (fun i H' hi hP => sqT_S hP.2 hl) (fun i x H' hx hP => ?_) (fun H1 hP => ?_)
  · obtain ⟨j, rfl, hj⟩ := ints_at h0 hx
    refine ⟨rfl, ?_⟩
    refine ⟨_, rfl, _, _, _, rfl, ⟨hj, .no _⟩, _, rfl, ?_⟩
    refine iteF ?_
    exact hP
  · obtain ⟨l1, e1⟩ := hP
    refine ⟨(by show 0 ≤ sizeLine; decide), fun p2 np2 => ?_⟩
    refine ⟨_, _, rfl, rfl, (by walk_at "sl"), (by walk_at "sl"), _, rfl, ?_⟩
    refine iteF ?_
    refine ⟨_, rfl, _, ns, rfl, (sqT_up np2 (sqT_S e1 hl)), _, rfl, _, _, rfl, rfl, ?_⟩
    exact tru (Q := Q) (decide_eq_true hs) (q _ (by walk_at "sm"))
theorem sc_lot_fits : FnScope ["link", "value", "alike"] ["link", "value", "alike"] (defScope s_lot_fits) := ⟨rfl, rfl, rfl, by decide +kernel, rfl, by decide +kernel, by decide +kernel⟩
theorem ok_lot_fits (Fx : Facts K mg) : Fn P w K mg base 3 "lot_fits" ["link", "value", "alike"] (sp_lotfits K) := by
  have F_is_between := ok_is_between (P := P) (w := w) (base := base) Fx
  refine fn_mk Fx 9 (st := s_lot_fits) rfl sc_lot_fits (fun _ _ _ _ _ _ us hl => match us, hl with | [_, _, _], _ => rfl) (fun vs H Q E h => ?_) (fun f cdv A outer s H vs Q E hr h => ?_)
  · obtain ⟨a, L, v, l, e, rfl, _⟩ := h
    rfl
  obtain ⟨a, L, v, l, e, rfl, ⟨hl, hv, hf⟩, q⟩ := h
  refine ⟨_, (pss_cons (ps_if (pt_cmpR op_isN (pv 1) pe_non (nomark _)) (pss_one (ps_ret pe_bl)) pss_nil) (pss_cons (ps_if (PW.pt (pw_or (pt_not (pt_val (pe_callB call_isi (by rfl) (Fx.bt 0 _ rfl) boot_isinstance (pa_cons (pv 1) (pa_cons (pe_bltn (v := .ty "tuple") (by rfl) (Fx.bt 3 _ rfl) boot_tuple rfl) pa_nil))))) (pw_or (pt_cmpR op_ne (pe_callB call_len_seq (by rfl) (Fx.bt 5 _ rfl) boot_len (pa_cons (pv 1) pa_nil)) pe_int (nomark _)) (pw_or1 (pt_not (pt_val (pe_callB call_isi (by rfl) (Fx.bt 0 _ rfl) boot_isinstance (pa_cons (pe_ix ix_tup (pv 1) pe_int (fun _ _ => rfl)) (pa_cons (pe_bltn (v := .ty "str") (by rfl) (Fx.bt 4 _ rfl) boot_str rfl) pa_nil))))))))) (pss_one (ps_ret pe_bl)) pss_nil) (pss_cons (ps_if (PW.pt (pw_or (pt_cmpR op_notIn_seq (pe_ix ix_tup (pv 1) pe_int (fun _ _ => rfl)) (pe_lst (pa_cons pe_str (pa_cons pe_str pa_nil))) rfl) (pw_or1 (PW.pt (pw_and (pt_cmpR op_eq (pe_ix ix_tup (pv 1) pe_int (fun _ _ => rfl)) pe_str (nomark _)) (pw_and1 (pt_val (pv 2)))))))) (pss_one (ps_ret pe_bl)) pss_nil) (pss_one (ps_ret (pe_fn F_is_between hr (pa_cons (pe_ix ix_tup (pv 1) pe_int (fun _ _ => rfl)) (pa_cons pe_int (pa_cons (pe_op op_sub (pe_ix ix_tup (pv 0) pe_int (fun _ _ => rfl)) pe_int) pa_nil))))))))), ?_⟩
  cases hv with
  | no =>
    refine ⟨_, rfl, rfl, _, rfl, ?_⟩
    refine iteT ?_
    exact q _ (by walk_at "sm")
  | new hm =>
    obtain ⟨rfl, f1, f2⟩ := hf
    refine ⟨_, rfl, rfl, _, rfl, ?_⟩
    refine iteF ?_
    refine ⟨_, rfl, _, _, _, _, _, rfl, .ty _, (tyT (by walk_at "sq")), (kit_ty (a := "tuple") (b := "tuple") (r := true) (by decide +kernel)), _, rfl, ?_⟩
    refine iteF ?_
    refine ⟨_, rfl, _, _, rfl, (.inr (by walk_at "sq")), rfl, _, rfl, ?_⟩
    refine iteF ?_
    refine ⟨_, rfl, _, _, _, _, rfl, rfl, (by walk_at "sq"), rfl, _, _, _, _, _, rfl, .ty _, (.base (.str _)), (kit_ty (a := "str") (b := "str") (r := true) (by decide +kernel)), _, rfl, ?_⟩
    refine iteF ?_
    refine ⟨_, rfl, _, _, _, _, rfl, rfl, (by walk_at "sq"), rfl, (by show 2 ≤ sizeLine; decide), fun p1 np1 => ?_⟩
    refine ⟨_, _, rfl, (.inl (by walk_at "sl")), rfl, rfl, _, rfl, ?_⟩
    refine ite2 (fun c => absurd c (by decide)) (fun c => ?_)
    refine ⟨_, rfl, _, _, _, _, rfl, rfl, (by walk_at "sq"), rfl, rfl, _, rfl, ?_⟩
    refine ite2 (fun c => ?_) (fun c => absurd (by decide) c)
    refine ⟨_, rfl, _, rfl, ?_⟩
    refine iteF ?_
    refine ⟨_, rfl, _, _, _, _, rfl, rfl, (by walk_at "sq"), rfl, _, rfl, _, _, _, _, rfl, rfl, (by walk_at "sq"), rfl, _, _, rfl, rfl, _, _, _, rfl, ⟨f1, .le f2⟩, ?_⟩
    exact q _ (by walk_at "sm")
  | old hm =>
    obtain ⟨f1, f2⟩ := hf
    refine ⟨_, rfl, rfl, _, rfl, ?_⟩
    refine iteF ?_
    refine ⟨_, rfl, _, _, _, _, _, rfl, .ty _, (tyT (by walk_at "sq")), (kit_ty (a := "tuple") (b := "tuple") (r := true) (by decide +kernel)), _, rfl, ?_⟩
    refine iteF ?_
    refine ⟨_, rfl, _, _, rfl, (.inr (by walk_at "sq")), rfl, _, rfl, ?_⟩
    refine iteF ?_
    refine ⟨_, rfl, _, _, _, _, rfl, rfl, (by walk_at "sq"), rfl, _, _, _, _, _, rfl, .ty _, (.base (.str _)), (kit_ty (a := "str") (b := "str") (r := true) (by decide +kernel)), _, rfl, ?_⟩
    refine iteF ?_
    refine ⟨_, rfl, _, _, _, _, rfl, rfl, (by walk_at "sq"), rfl, (by show 2 ≤ sizeLine; decide), fun p1 np1 => ?_⟩
    refine ⟨_, _, rfl, (.inl (by walk_at "sl")), rfl, rfl, _, rfl, ?_⟩
    refine ite2 (fun c => absurd c (by decide)) (fun c => ?_)
    refine ⟨_, rfl, _, _, _, _, rfl, rfl, (by walk_at "sq"), rfl, rfl, _, rfl, ?_⟩
    refine ite2 (fun c => absurd c (by decide)) (fun c => ?_)
    refine iteF ?_
    refine ⟨_, rfl, _, _, _, _, rfl, rfl, (by walk_at "sq"), rfl, _, rfl, _, _, _, _, rfl, rfl, (by walk_at "sq"), rfl, _, _, rfl, rfl, _, _, _, rfl, ⟨f1, .le f2⟩, ?_⟩
    exact q _ (by walk_at "sm")
theorem sc_hosts_fit : FnScope ["link", "sender", "receiver"] ["link", "sender", "receiver"] (defScope s_hosts_fit) := ⟨rfl, rfl, rfl, by decide +kernel, rfl, by decide +kernel, by decide +kernel⟩
theorem ok_hosts_fit (Fx : Facts K mg) : Fn P w K mg base 4 "hosts_fit" ["link", "sender", "receiver"] (sp_hostsfit K) := by
  have F_is_between := ok_is_between (P := P) (w := w) (base := base) Fx
  have F_bit_fits := ok_bit_fits (P := P) (w := w) (base := base) Fx
  have F_lot_fits := ok_lot_fits (P := P) (w := w) (base := base) Fx
  refine fn_mk Fx 10 (st := s_hosts_fit) rfl sc_hosts_fit (fun _ _ _ _ _ _ us hl => match us, hl with | [_, _, _], _ => rfl) (fun vs H Q E h => ?_) (fun f cdv A outer s H vs Q E hr h => ?_)
  · obtain ⟨a, s, r, L, x, v, rfl, _⟩ := h
    rfl
  obtain ⟨a, s, r, L, x, v, rfl, ⟨hl, hs, hr0, hv, hX⟩, q⟩ := h
  refine ⟨_, (pss_cons (ps_if (PW.pt (pw_or (pt_not (pt_val (pe_callB call_isi (by rfl) (Fx.bt 0 _ rfl) boot_isinstance (pa_cons (pv 1) (pa_cons (pe_bltn (v := .ty "tuple") (by rfl) (Fx.bt 3 _ rfl) boot_tuple rfl) pa_nil))))) (pw_or (pt_cmpR op_ne (pe_callB call_len_seq (by rfl) (Fx.bt 5 _ rfl) boot_len (pa_cons (pv 1) pa_nil)) pe_int (nomark _)) (pw_or (pt_not (pt_val (pe_callB call_isi (by rfl) (Fx.bt 0 _ rfl) boot_isinstance (pa_cons (pv 2) (pa_cons (pe_bltn (v := .ty "tuple") (by rfl) (Fx.bt 3 _ rfl) boot_tuple rfl) pa_nil))))) (pw_or1 (pt_cmpR op_ne (pe_callB call_len_seq (by rfl) (Fx.bt 5 _ rfl) boot_len (pa_cons (pv 2) pa_nil)) pe_int (nomark _))))))) (pss_one (ps_ret pe_bl)) pss_nil) (pss_cons (ps_if (PW.pt (pw_or (pt_not (pt_val (pe_fn F_bit_fits hr (pa_cons (pe_ix ix_tup (pv 1) pe_int (fun _ _ => rfl)) pa_nil)))) (pw_or1 (pt_not (pt_val (pe_fn F_is_between hr (pa_cons (pe_ix ix_tup (pv 1) pe_int (fun _ _ => rfl)) (pa_cons pe_int (pa_cons (pe_op op_sub (pe_ix ix_tup (pv 0) pe_int (fun _ _ => rfl)) pe_int) pa_nil))))))))) (pss_one (ps_ret pe_bl)) pss_nil) (pss_cons (ps_if (PW.pt (pw_or (pt_not (pt_val (pe_fn F_bit_fits hr (pa_cons (pe_ix ix_tup (pv 2) pe_int (fun _ _ => rfl)) pa_nil)))) (pw_or1 (pt_not (pt_val (pe_callB call_isi (by rfl) (Fx.bt 0 _ rfl) boot_isinstance (pa_cons (pe_ix ix_tup (pv 2) pe_int (fun _ _ => rfl)) (pa_cons (pe_bltn (v := .ty "bool") (by rfl) (Fx.bt 2 _ rfl) boot_bool rfl) pa_nil)))))))) (pss_one (ps_ret pe_bl)) pss_nil) (pss_one (ps_ret (pe_fn F_lot_fits hr (pa_cons (pv 0) (pa_cons (pe_ix ix_tup (pv 2) pe_int (fun _ _ => rfl)) (pa_cons (pe_cmpR op_eq (pe_ix ix_tup (pv 1) pe_int (fun _ _ => rfl)) (pe_ix ix_tup (pv 2) pe_int (fun _ _ => rfl)) (nomark _)) pa_nil))))))))), ?_⟩
  refine ⟨_, rfl, _, _, _, _, _, rfl, .ty _, (tyT (by walk_at "sq")), (kit_ty (a := "tuple") (b := "tuple") (r := true) (by decide +kernel)), _, rfl, ?_⟩
  refine iteF ?_
  refine ⟨_, rfl, _, _, rfl, (.inr (by walk_at "sq")), rfl, _, rfl, ?_⟩
  refine iteF ?_
  refine ⟨_, rfl, _, _, _, _, _, rfl, .ty _, (tyT (by walk_at "sq")), (kit_ty (a := "tuple") (b := "tuple") (r := true) (by decide +kernel)), _, rfl, ?_⟩
  refine iteF ?_
  refine ⟨_, rfl, _, _, rfl, (.inr (by walk_at "sq")), rfl, _, rfl, ?_⟩
  refine iteF ?_
  refine ⟨_, rfl, _, _, _, _, rfl, rfl, (by walk_at "sq"), rfl, _, rfl, hX.bit, _, rfl, ?_⟩
  refine iteF ?_
  refine ⟨_, rfl, _, _, _, _, rfl, rfl, (by walk_at "sq"), rfl, _, rfl, _, _, _, _, rfl, rfl, (by walk_at "sq"), rfl, _, _, rfl, rfl, _, _, _, rfl, ⟨hX.heard0, .le (by have := hX.heard1; omega)⟩, _, rfl, ?_⟩
  refine iteF ?_
  refine ⟨_, rfl, _, _, _, _, rfl, rfl, (by walk_at "sq"), rfl, _, rfl, hX.own, _, rfl, ?_⟩
  refine iteF ?_
  refine ⟨_, rfl, _, _, _, _, rfl, rfl, (by walk_at "sq"), rfl, _, _, _, _, _, rfl, .ty _, (.base (.bl _)), (kit_ty (a := "bool") (b := "bool") (r := true) (by decide +kernel)), _, rfl, ?_⟩
  refine iteF ?_
  refine ⟨_, rfl, _, rfl, _, _, _, _, rfl, rfl, (by walk_at "sq"), rfl, _, rfl, _, _, _, _, rfl, rfl, (by walk_at "sq"), rfl, _, rfl, _, _, _, _, rfl, rfl, (by walk_at "sq"), rfl, rfl, _, _, _, _, _, rfl, ⟨(by walk_at "sq"), (by walk_at "lt"), lot_fit2 hX⟩, fun H1 e1 => ?_⟩
  exact q _ (by walk_at "sm")
theorem sc_contents_fit : FnScope ["link", "value"] ["link", "value"] (defScope s_contents_fit) := ⟨rfl, rfl, rfl, by decide +kernel, rfl, by decide +kernel, by decide +kernel⟩
theorem ok_contents_fit (Fx : Facts K mg) : Fn P w K mg base 5 "contents_fit" ["link", "value"] (sp_ctfits K (.bl true)) := by
  have F_hosts_fit := ok_hosts_fit (P := P) (w := w) (base := base) Fx
  have F_counts_fit := ok_counts_fit (P := P) (w := w) (base := base) Fx
  refine fn_mk Fx 11 (st := s_contents_fit) rfl sc_contents_fit (fun _ _ _ _ _ _ us hl => match us, hl with | [_, _], _ => rfl) (fun vs H Q E h => ?_) (fun f cdv A outer s H vs Q E hr h => ?_)
  · obtain ⟨a, c, L, x, rfl, _⟩ := h
    rfl
  obtain ⟨a, c, L, x, rfl, ⟨hl, hc, hL, hX⟩, q⟩ := h
  obtain ⟨s, r, t, b, v, h0, h1, h2, h3, h4, h5⟩ := hc.ex
  refine ⟨_, (pss_cons (ps_if (PW.pt (pw_or (pt_not (pt_val (pe_callB call_isi (by rfl) (Fx.bt 0 _ rfl) boot_isinstance (pa_cons (pv 1) (pa_cons (pe_bltn (v := .ty "tuple") (by rfl) (Fx.bt 3 _ rfl) boot_tuple rfl) pa_nil))))) (pw_or (pt_cmpR op_ne (pe_callB call_len_seq (by rfl) (Fx.bt 5 _ rfl) boot_len (pa_cons (pv 1) pa_nil)) pe_int (nomark _)) (pw_or1 (pt_not (pt_val (pe_fn F_hosts_fit hr (pa_cons (pv 0) (pa_cons (pe_ix ix_tup (pv 1) pe_int (fun _ _ => rfl)) (pa_cons (pe_ix ix_tup (pv 1) pe_int (fun _ _ => rfl)) pa_nil)))))))))) (pss_one (ps_ret pe_bl)) pss_nil) (pss_one (ps_ret (pe_and (pe_fn F_counts_fit hr (pa_cons (pe_ix ix_tup (pv 1) pe_int (fun _ _ => rfl)) (pa_cons pe_int (pa_cons (pe_ix ix_tup (pv 0) pe_int (fun _ _ => rfl)) pa_nil)))) (pe_one (pe_fn F_counts_fit hr (pa_cons (pe_ix ix_tup (pv 1) pe_int (fun _ _ => rfl)) (pa_cons pe_int (pa_cons (pe_ix ix_tup (pv 0) pe_int (fun _ _ => rfl)) pa_nil))))))))), ?_⟩
  refine ⟨_, rfl, _, _, _, _, _, rfl, .ty _, (tyT (by walk_at "sq")), (kit_ty (a := "tuple") (b := "tuple") (r := true) (by decide +kernel)), _, rfl, ?_⟩
  refine iteF ?_
  refine ⟨_, rfl, _, _, rfl, (.inr (by walk_at "sq")), rfl, _, rfl, ?_⟩
  refine iteF ?_
  refine ⟨_, rfl, _, rfl, _, _, _, _, rfl, rfl, (by walk_at "sq"), rfl, _, rfl, _, _, _, _, rfl, rfl, (by walk_at "sq"), rfl, _, _, _, _, _, _, rfl, ⟨(by walk_at "sq"), (by walk_at "sq"), (by walk_at "sq"), (by walk_at "lt"), hX⟩, fun H1 e1 => ?_⟩
  refine ⟨_, rfl, ?_⟩
  refine iteF ?_
  refine ⟨_, rfl, _, _, _, _, rfl, rfl, (by walk_at "sq"), rfl, _, rfl, _, _, _, _, rfl, rfl, (by walk_at "sq"), rfl, _, [_, _, _], _, rfl, ⟨(by walk_at "sq"), all3 hX.n0 hX.z0 hX.o0, (sum3 _ _ _).symm ▸ hX.there⟩, fun H2 e2 => ?_⟩
  refine ⟨_, rfl, ?_⟩
  refine iteT ?_
  refine ⟨_, rfl, _, _, _, _, rfl, rfl, (by walk_at "sq"), rfl, _, rfl, _, _, _, _, rfl, rfl, (by walk_at "sq"), rfl, _, [_, _], _, rfl, ⟨(by walk_at "sq"), all2 hX.y0 hX.x0, (sum2 _ _).symm ▸ hX.back⟩, fun H3 e3 => ?_⟩
  exact q _ (by walk_at "sm")
theorem sc_check_contents : FnScope ["link", "contents"] ["link", "contents"] (defScope s_check_contents) := ⟨rfl, rfl, rfl, by decide +kernel, rfl, by decide +kernel, by decide +kernel⟩
theorem ok_check_contents (Fx : Facts K mg) : Fn P w K mg base 6 "check_contents" ["link", "contents"] (sp_ctfits K .non) := by
  have F_check_link := ok_check_link (P := P) (w := w) (base := base) Fx
  have F_contents_fit := ok_contents_fit (P := P) (w := w) (base := base) Fx
  refine fn_mk Fx 12 (st := s_check_contents) rfl sc_check_contents (fun _ _ _ _ _ _ us hl => match us, hl with | [_, _], _ => rfl) (fun vs H Q E h => ?_) (fun f cdv A outer s H vs Q E hr h => ?_)
  · obtain ⟨a, c, L, x, rfl, _⟩ := h
    rfl
  obtain ⟨a, c, L, x, rfl, ⟨hl, hc, hL, hX⟩, q⟩ := h
  refine ⟨_, (pss_cons (ps_expr (pe_fn F_check_link hr (pa_cons (pv 0) pa_nil))) (pss_one (ps_if (pt_not (pt_val (pe_fn F_contents_fit hr (pa_cons (pv 0) (pa_cons (pv 1) pa_nil))))) (pss_one ps_never) pss_nil))), ?_⟩
  refine ⟨_, rfl, _, _, rfl, ⟨(by walk_at "sq"), hL⟩, fun H1 e1 => ?_⟩
  refine ⟨_, rfl, _, rfl, _, _, _, _, rfl, ⟨(by walk_at "sq"), (by walk_at "ct"), hL, hX⟩, fun H2 e2 => ?_⟩
  refine ⟨_, rfl, ?_⟩
  refine iteF ?_
  exact q _ (by walk_at "sm")
theorem sc_even_fits : FnScope ["contents"] ["contents"] (defScope s_even_fits) := ⟨rfl, rfl, rfl, by decide +kernel, rfl, by decide +kernel, by decide +kernel⟩
theorem ok_even_fits (Fx : Facts K mg) : Fn P w K mg base 1 "even_fits" ["contents"] (sp_even K) := by
  refine fn_mk Fx 13 (st := s_even_fits) rfl sc_even_fits (fun _ _ _ _ _ _ us hl => match us, hl with | [_], _ => rfl) (fun vs H Q E h => ?_) (fun f cdv A outer s H vs Q E hr h => ?_)
  · obtain ⟨c, L, x, rfl, _⟩ := h
    rfl
  obtain ⟨c, L, x, rfl, hc, q⟩ := h
  obtain ⟨s, r, t, b, v, h0, h1, h2, h3, h4, h5⟩ := hc.ex
  refine ⟨_, (pss_one (ps_ret (pe_cmpR op_eq (pe_ix ix_tup (pe_ix ix_tup (pv 0) pe_int (fun _ _ => rfl)) pe_int (fun _ _ => rfl)) (pe_ix ix_tup (pe_ix ix_tup (pv 0) pe_int (fun _ _ => rfl)) pe_int (fun _ _ => rfl)) (nomark _)))), ?_⟩
  refine ⟨_, rfl, _, _, _, _, rfl, rfl, (by walk_at "sq"), rfl, _, _, _, _, rfl, rfl, (by walk_at "sq"), rfl, _, rfl, _, _, _, _, rfl, rfl, (by walk_at "sq"), rfl, _, _, _, _, rfl, rfl, (by walk_at "sq"), rfl, rfl, ?_⟩
  exact int_eqv2 (Q := Q) q
theorem sc_old_of : FnScope ["contents", "bit"] ["contents", "bit"] (defScope s_old_of) := ⟨rfl, rfl, rfl, by decide +kernel, rfl, by decide +kernel, by decide +kernel⟩
theorem ok_old_of (Fx : Facts K mg) : Fn P w K mg base 1 "old_of" ["contents", "bit"] (sp_oldof K) := by
  refine fn_mk Fx 14 (st := s_old_of) rfl sc_old_of (fun _ _ _ _ _ _ us hl => match us, hl with | [_, _], _ => rfl) (fun vs H Q E h => ?_) (fun f cdv A outer s H vs Q E hr h => ?_)
  · obtain ⟨c, i, L, x, rfl, _⟩ := h
    rfl
  obtain ⟨c, i, L, x, rfl, ⟨hc, hi⟩, q⟩ := h
  obtain ⟨s, r, t, b, v, h0, h1, h2, h3, h4, h5⟩ := hc.ex
  refine ⟨_, (pss_one (ps_ret (pe_ix ix_tup (pe_ix ix_tup (pv 0) pe_int (fun _ _ => rfl)) (pe_op op_add pe_int (pv 1)) (fun _ _ => rfl)))), ?_⟩
  rcases hi with rfl | rfl
  · refine ⟨_, rfl, _, _, _, _, rfl, rfl, (by walk_at "sq"), rfl, _, rfl, _, _, rfl, rfl, _, _, _, _, rfl, rfl, (by walk_at "sq"), rfl, ?_⟩
    exact q
  · refine ⟨_, rfl, _, _, _, _, rfl, rfl, (by walk_at "sq"), rfl, _, rfl, _, _, rfl, rfl, _, _, _, _, rfl, rfl, (by walk_at "sq"), rfl, ?_⟩
    exact q
theorem sc_answers_of : FnScope ["contents", "bit"] ["contents", "bit"] (defScope s_answers_of) := ⟨rfl, rfl, rfl, by decide +kernel, rfl, by decide +kernel, by decide +kernel⟩
theorem ok_answers_of (Fx : Facts K mg) : Fn P w K mg base 1 "answers_of" ["contents", "bit"] (sp_ansof K) := by
  refine fn_mk Fx 15 (st := s_answers_of) rfl sc_answers_of (fun _ _ _ _ _ _ us hl => match us, hl with | [_, _], _ => rfl) (fun vs H Q E h => ?_) (fun f cdv A outer s H vs Q E hr h => ?_)
  · obtain ⟨c, i, L, x, rfl, _⟩ := h
    rfl
  obtain ⟨c, i, L, x, rfl, ⟨hc, hi⟩, q⟩ := h
  obtain ⟨s, r, t, b, v, h0, h1, h2, h3, h4, h5⟩ := hc.ex
  refine ⟨_, (pss_one (ps_ret (pe_ix ix_tup (pe_ix ix_tup (pv 0) pe_int (fun _ _ => rfl)) (pv 1) (fun _ _ => rfl)))), ?_⟩
  rcases hi with rfl | rfl
  · refine ⟨_, rfl, _, _, _, _, rfl, rfl, (by walk_at "sq"), rfl, _, rfl, _, _, _, _, rfl, rfl, (by walk_at "sq"), rfl, ?_⟩
    exact q
  · refine ⟨_, rfl, _, _, _, _, rfl, rfl, (by walk_at "sq"), rfl, _, rfl, _, _, _, _, rfl, rfl, (by walk_at "sq"), rfl, ?_⟩
    exact q
theorem sc_answers_in : FnScope ["contents"] ["contents"] (defScope s_answers_in) := ⟨rfl, rfl, rfl, by decide +kernel, rfl, by decide +kernel, by decide +kernel⟩
theorem ok_answers_in (Fx : Facts K mg) : Fn P w K mg base 2 "answers_in" ["contents"] (sp_ansin K) := by
  have F_answers_of := ok_answers_of (P := P) (w := w) (base := base) Fx
  refine fn_mk Fx 25 (st := s_answers_in) rfl sc_answers_in (fun _ _ _ _ _ _ us hl => match us, hl with | [_], _ => rfl) (fun vs H Q E h => ?_) (fun f cdv A outer s H vs Q E hr h => ?_)
  · obtain ⟨c, L, x, rfl, _⟩ := h
    rfl
  obtain ⟨c, L, x, rfl, ⟨hc, hb⟩, q⟩ := h
  obtain ⟨s, r, t, b, v, h0, h1, h2, h3, h4, h5⟩ := hc.ex
  refine ⟨_, (pss_one (ps_ret (pe_op op_add (pe_ix ix_tup (pe_ix ix_tup (pv 0) pe_int (fun _ _ => rfl)) pe_int (fun _ _ => rfl)) (pe_fn F_answers_of hr (pa_cons (pv 0) (pa_cons (pe_ix ix_tup (pe_ix ix_tup (pv 0) pe_int (fun _ _ => rfl)) pe_int (fun _ _ => rfl)) pa_nil)))))), ?_⟩
  refine ⟨_, rfl, _, _, _, _, rfl, rfl, (by walk_at "sq"), rfl, _, _, _, _, rfl, rfl, (by walk_at "sq"), rfl, _, rfl, _, rfl, _, _, _, _, rfl, rfl, (by walk_at "sq"), rfl, _, _, _, _, rfl, rfl, (by walk_at "sq"), rfl, _, _, _, _, rfl, ⟨(by walk_at "ct"), hb⟩, _, _, rfl, rfl, ?_⟩
  exact q
theorem old_sum {Q : VK} {H : Hp} {L : Lk} {x : Ct} {l : Lot} (el : x.lot L = l) (hb : x.own = 0 ∨ x.own = 1) (q : Q (.int (HM.oldIn L x)) H) : Q (.int ((if 1 - x.own = 0 then x.z else x.o) + HM.lotOld l)) H := by
  have e : HM.oldIn L x = (if 1 - x.own = 0 then x.z else x.o) + HM.lotOld l := by
    unfold HM.oldIn HM.ownCopies
    rw [el]
    rcases hb with h | h <;> simp [h]
  rw [← e]; exact q
theorem sc_old_in : FnScope ["contents", "kept", "bit", "lot", "done"] ["contents"] (defScope s_old_in) := ⟨rfl, rfl, rfl, by decide +kernel, rfl, by decide +kernel, by decide +kernel⟩
theorem ok_old_in (Fx : Facts K mg) : Fn P w K mg base 2 "old_in" ["contents"] (sp_oldin K) := by
  have F_old_of := ok_old_of (P := P) (w := w) (base := base) Fx
  refine fn_mk Fx 26 (st := s_old_in) rfl sc_old_in (fun _ _ _ _ _ _ us hl => match us, hl with | [_], _ => rfl) (fun vs H Q E h => ?_) (fun f cdv A outer s H vs Q E hr h => ?_)
  · obtain ⟨c, L, x, rfl, _⟩ := h
    rfl
  obtain ⟨c, L, x, rfl, ⟨hc, hb⟩, q⟩ := h
  obtain ⟨s, r, t, b, v, h0, h1, h2, h3, h4, h5⟩ := hc.ex
  refine ⟨_, (pss_cons (ps_asg (pe_ix ix_tup (pv 0) pe_int (fun _ _ => rfl)) (pg_tup rfl (pgs_cons (pg_name (i := 2) sc_old_in.nd rfl (.inl rfl)) (pgs_cons (pg_name (i := 3) sc_old_in.nd rfl (.inl rfl)) (pgs_cons (pg_name (i := 4) sc_old_in.nd rfl (.inl rfl)) pgs_nil))))) (pss_cons (ps_set (i := 1) sc_old_in.nd rfl (.inl rfl) (pe_ifExp (PW.pt (pw_and (pt_cmpR op_notN (pv 3) pe_non (nomark _)) (pw_and1 (pt_cmpR op_eq (pe_ix ix_tup (pv 3) pe_int (fun _ _ => rfl)) pe_str (nomark _))))) (pe_ix ix_tup (pv 3) pe_int (fun _ _ => rfl)) pe_int)) (pss_one (ps_ret (pe_op op_add (pe_fn F_old_of hr (pa_cons (pv 0) (pa_cons (pe_op op_sub pe_int (pv 2)) pa_nil))) (pv 1)))))), ?_⟩
  generalize el : x.lot L = l at h3
  cases h3 with
  | no =>
    refine ⟨_, rfl, _, _, _, _, rfl, rfl, (by walk_at "sq"), rfl, _, _, rfl, (by walk_at "sq"), rfl, _, _, rfl, _, _, rfl, _, _, rfl, rfl, _, rfl, rfl, _, rfl, ?_⟩
    refine iteF ?_
    refine iteF ?_
    refine ⟨_, rfl, _, rfl, _, _, rfl, rfl, _, _, _, _, rfl, ⟨(by walk_at "ct"), by omega⟩, _, rfl, _, _, rfl, rfl, ?_⟩
    exact old_sum el hb q
  | new hm =>
    refine ⟨_, rfl, _, _, _, _, rfl, rfl, (by walk_at "sq"), rfl, _, _, rfl, (by walk_at "sq"), rfl, _, _, rfl, _, _, rfl, _, _, rfl, rfl, _, rfl, rfl, _, rfl, ?_⟩
    refine iteT ?_
    refine ⟨_, rfl, _, _, _, _, rfl, rfl, (by walk_at "sq"), rfl, rfl, _, rfl, ?_⟩
    refine ite2 (fun c => absurd c (by decide)) (fun c => ?_)
    refine ⟨_, rfl, _, rfl, _, _, rfl, rfl, _, _, _, _, rfl, ⟨(by walk_at "ct"), by omega⟩, _, rfl, _, _, rfl, rfl, ?_⟩
    exact old_sum el hb q
  | old hm =>
    refine ⟨_, rfl, _, _, _, _, rfl, rfl, (by walk_at "sq"), rfl, _, _, rfl, (by walk_at "sq"), rfl, _, _, rfl, _, _, rfl, _, _, rfl, rfl, _, rfl, rfl, _, rfl, ?_⟩
    refine iteT ?_
    refine ⟨_, rfl, _, _, _, _, rfl, rfl, (by walk_at "sq"), rfl, rfl, _, rfl, ?_⟩
    refine ite2 (fun c => ?_) (fun c => absurd (by decide) c)
    refine ⟨_, rfl, _, _, _, _, rfl, rfl, (by walk_at "sq"), rfl, _, rfl, _, rfl, _, _, rfl, rfl, _, _, _, _, rfl, ⟨(by walk_at "ct"), by omega⟩, _, rfl, _, _, rfl, rfl, ?_⟩
    exact old_sum el hb q
theorem sc_signs_in : FnScope ["link", "contents"] ["link", "contents"] (defScope s_signs_in) := ⟨rfl, rfl, rfl, by decide +kernel, rfl, by decide +kernel, by decide +kernel⟩
theorem ok_signs_in (Fx : Facts K mg) : Fn P w K mg base 3 "signs_in" ["link", "contents"] (sp_signs K) := by
  have F_even_fits := ok_even_fits (P := P) (w := w) (base := base) Fx
  have F_answers_in := ok_answers_in (P := P) (w := w) (base := base) Fx
  have F_old_in := ok_old_in (P := P) (w := w) (base := base) Fx
  refine fn_mk Fx 27 (st := s_signs_in) rfl sc_signs_in (fun _ _ _ _ _ _ us hl => match us, hl with | [_, _], _ => rfl) (fun vs H Q E h => ?_) (fun f cdv A outer s H vs Q E hr h => ?_)
  · obtain ⟨a, c, L, x, rfl, _⟩ := h
    rfl
  obtain ⟨a, c, L, x, rfl, ⟨hl, hc, hX⟩, q⟩ := h
  obtain ⟨s, r, t, b, v, h0, h1, h2, h3, h4, h5⟩ := hc.ex
  refine ⟨_, (pss_one (ps_ret (pe_tup (pa_cons (pe_fn F_even_fits hr (pa_cons (pv 1) pa_nil)) (pa_cons (pe_ix ix_tup (pe_ix ix_tup (pv 1) pe_int (fun _ _ => rfl)) pe_int (fun _ _ => rfl)) (pa_cons (pe_cmpR op_ge (pe_fn F_answers_in hr (pa_cons (pv 1) pa_nil)) (pe_ix ix_tup (pv 0) pe_int (fun _ _ => rfl)) (nomark _)) (pa_cons (pe_cmpR op_ge (pe_fn F_old_in hr (pa_cons (pv 1) pa_nil)) (pe_ix ix_tup (pv 0) pe_int (fun _ _ => rfl)) (nomark _)) pa_nil))))))), ?_⟩
  refine ⟨_, rfl, _, _, _, rfl, (by walk_at "ct"), _, rfl, _, _, _, _, rfl, rfl, (by walk_at "sq"), rfl, _, _, _, _, rfl, rfl, (by walk_at "sq"), rfl, _, rfl, _, _, _, rfl, ⟨(by walk_at "ct"), hX.bit⟩, _, rfl, _, _, _, _, rfl, rfl, (by walk_at "sq"), rfl, _, _, rfl, rfl, _, rfl, _, _, _, rfl, ⟨(by walk_at "ct"), hX.own⟩, _, rfl, _, _, _, _, rfl, rfl, (by walk_at "sq"), rfl, _, _, rfl, rfl, (by show 4 ≤ sizeLine; decide), fun p1 np1 => ?_⟩
  exact q _ _ (by walk_at "sm") (SqT.of upd_same)
theorem sc_harm_of_signs : FnScope ["told", "even", "done", "answers", "old"] ["told"] (defScope s_harm_of_signs) := ⟨rfl, rfl, rfl, by decide +kernel, rfl, by decide +kernel, by decide +kernel⟩
theorem ok_harm_of_signs (Fx : Facts K mg) : Fn P w K mg base 1 "harm_of_signs" ["told"] (sp_hsigns K) := by
  refine fn_mk Fx 28 (st := s_harm_of_signs) rfl sc_harm_of_signs (fun _ _ _ _ _ _ us hl => match us, hl with | [_], _ => rfl) (fun vs H Q E h => ?_) (fun f cdv A outer s H vs Q E hr h => ?_)
  · obtain ⟨a, e, d, an, ol, rfl, _⟩ := h
    rfl
  obtain ⟨a, e, d, an, ol, rfl, hs, q⟩ := h
  refine ⟨_, (pss_cons (ps_asg (pv 0) (pg_tup rfl (pgs_cons (pg_name (i := 1) sc_harm_of_signs.nd rfl (.inl rfl)) (pgs_cons (pg_name (i := 2) sc_harm_of_signs.nd rfl (.inl rfl)) (pgs_cons (pg_name (i := 3) sc_harm_of_signs.nd rfl (.inl rfl)) (pgs_cons (pg_name (i := 4) sc_harm_of_signs.nd rfl (.inl rfl)) pgs_nil)))))) (pss_cons (ps_if (pt_val (pv 2)) (pss_one (ps_ret (pe_ifExp (pt_val (pv 1)) (pe_ifExp (pt_val (pv 4)) pe_int pe_int) pe_int))) pss_nil) (pss_cons (ps_if (pt_val (pv 1)) (pss_one (ps_ret (pe_ifExp (PW.pt (pw_and (pt_val (pv 3)) (pw_and1 (pt_val (pv 4))))) pe_int pe_int))) pss_nil) (pss_one (ps_ret (pe_ifExp (PW.pt (pw_or (pt_val (pv 3)) (pw_or1 (pt_val (pv 4))))) pe_int pe_int)))))), ?_⟩
  cases e <;> cases d <;> cases an <;> cases ol
  · refine ⟨_, rfl, _, _, rfl, (by walk_at "sq"), rfl, _, _, rfl, _, _, rfl, _, _, rfl, _, _, rfl, rfl, _, rfl, _, rfl, ?_⟩
    refine iteF ?_
    refine ⟨_, rfl, _, rfl, ?_⟩
    refine iteF ?_
    refine ⟨_, rfl, _, rfl, ?_⟩
    refine iteF ?_
    refine ⟨_, rfl, _, rfl, ?_⟩
    refine iteF ?_
    exact q
  · refine ⟨_, rfl, _, _, rfl, (by walk_at "sq"), rfl, _, _, rfl, _, _, rfl, _, _, rfl, _, _, rfl, rfl, _, rfl, _, rfl, ?_⟩
    refine iteF ?_
    refine ⟨_, rfl, _, rfl, ?_⟩
    refine iteF ?_
    refine ⟨_, rfl, _, rfl, ?_⟩
    refine iteF ?_
    refine ⟨_, rfl, _, rfl, ?_⟩
    refine iteT ?_
    exact q
  · refine ⟨_, rfl, _, _, rfl, (by walk_at "sq"), rfl, _, _, rfl, _, _, rfl, _, _, rfl, _, _, rfl, rfl, _, rfl, _, rfl, ?_⟩
    refine iteF ?_
    refine ⟨_, rfl, _, rfl, ?_⟩
    refine iteF ?_
    refine ⟨_, rfl, _, rfl, ?_⟩
    refine iteT ?_
    refine iteT ?_
    exact q
  · refine ⟨_, rfl, _, _, rfl, (by walk_at "sq"), rfl, _, _, rfl, _, _, rfl, _, _, rfl, _, _, rfl, rfl, _, rfl, _, rfl, ?_⟩
    refine iteF ?_
    refine ⟨_, rfl, _, rfl, ?_⟩
    refine iteF ?_
    refine ⟨_, rfl, _, rfl, ?_⟩
    refine iteT ?_
    refine iteT ?_
    exact q
  · refine ⟨_, rfl, _, _, rfl, (by walk_at "sq"), rfl, _, _, rfl, _, _, rfl, _, _, rfl, _, _, rfl, rfl, _, rfl, _, rfl, ?_⟩
    refine iteT ?_
    refine ⟨_, rfl, _, rfl, ?_⟩
    refine iteF ?_
    exact q
  · refine ⟨_, rfl, _, _, rfl, (by walk_at "sq"), rfl, _, _, rfl, _, _, rfl, _, _, rfl, _, _, rfl, rfl, _, rfl, _, rfl, ?_⟩
    refine iteT ?_
    refine ⟨_, rfl, _, rfl, ?_⟩
    refine iteF ?_
    exact q
  · refine ⟨_, rfl, _, _, rfl, (by walk_at "sq"), rfl, _, _, rfl, _, _, rfl, _, _, rfl, _, _, rfl, rfl, _, rfl, _, rfl, ?_⟩
    refine iteT ?_
    refine ⟨_, rfl, _, rfl, ?_⟩
    refine iteF ?_
    exact q
  · refine ⟨_, rfl, _, _, rfl, (by walk_at "sq"), rfl, _, _, rfl, _, _, rfl, _, _, rfl, _, _, rfl, rfl, _, rfl, _, rfl, ?_⟩
    refine iteT ?_
    refine ⟨_, rfl, _, rfl, ?_⟩
    refine iteF ?_
    exact q
  · refine ⟨_, rfl, _, _, rfl, (by walk_at "sq"), rfl, _, _, rfl, _, _, rfl, _, _, rfl, _, _, rfl, rfl, _, rfl, _, rfl, ?_⟩
    refine iteF ?_
    refine ⟨_, rfl, _, rfl, ?_⟩
    refine iteT ?_
    refine ⟨_, rfl, _, rfl, ?_⟩
    refine iteF ?_
    refine iteF ?_
    exact q
  · refine ⟨_, rfl, _, _, rfl, (by walk_at "sq"), rfl, _, _, rfl, _, _, rfl, _, _, rfl, _, _, rfl, rfl, _, rfl, _, rfl, ?_⟩
    refine iteF ?_
    refine ⟨_, rfl, _, rfl, ?_⟩
    refine iteT ?_
    refine ⟨_, rfl, _, rfl, ?_⟩
    refine iteF ?_
    refine iteF ?_
    exact q
  · refine ⟨_, rfl, _, _, rfl, (by walk_at "sq"), rfl, _, _, rfl, _, _, rfl, _, _, rfl, _, _, rfl, rfl, _, rfl, _, rfl, ?_⟩
    refine iteF ?_
    refine ⟨_, rfl, _, rfl, ?_⟩
    refine iteT ?_
    refine ⟨_, rfl, _, rfl, ?_⟩
    refine iteT ?_
    refine ⟨_, rfl, _, rfl, ?_⟩
    refine iteF ?_
    exact q
  · refine ⟨_, rfl, _, _, rfl, (by walk_at "sq"), rfl, _, _, rfl, _, _, rfl, _, _, rfl, _, _, rfl, rfl, _, rfl, _, rfl, ?_⟩
    refine iteF ?_
    refine ⟨_, rfl, _, rfl, ?_⟩
    refine iteT ?_
    refine ⟨_, rfl, _, rfl, ?_⟩
    refine iteT ?_
    refine ⟨_, rfl, _, rfl, ?_⟩
    refine iteT ?_
    exact q
  · refine ⟨_, rfl, _, _, rfl, (by walk_at "sq"), rfl, _, _, rfl, _, _, rfl, _, _, rfl, _, _, rfl, rfl, _, rfl, _, rfl, ?_⟩
    refine iteT ?_
    refine ⟨_, rfl, _, rfl, ?_⟩
    refine iteT ?_
    refine ⟨_, rfl, _, rfl, ?_⟩
    refine iteF ?_
    exact q
  · refine ⟨_, rfl, _, _, rfl, (by walk_at "sq"), rfl, _, _, rfl, _, _, rfl, _, _, rfl, _, _, rfl, rfl, _, rfl, _, rfl, ?_⟩
    refine iteT ?_
    refine ⟨_, rfl, _, rfl, ?_⟩
    refine iteT ?_
    refine ⟨_, rfl, _, rfl, ?_⟩
    refine iteT ?_
    exact q
  · refine ⟨_, rfl, _, _, rfl, (by walk_at "sq"), rfl, _, _, rfl, _, _, rfl, _, _, rfl, _, _, rfl, rfl, _, rfl, _, rfl, ?_⟩
    refine iteT ?_
    refine ⟨_, rfl, _, rfl, ?_⟩
    refine iteT ?_
    refine ⟨_, rfl, _, rfl, ?_⟩
    refine iteF ?_
    exact q
  · refine ⟨_, rfl, _, _, rfl, (by walk_at "sq"), rfl, _, _, rfl, _, _, rfl, _, _, rfl, _, _, rfl, rfl, _, rfl, _, rfl, ?_⟩
    refine iteT ?_
    refine ⟨_, rfl, _, rfl, ?_⟩
    refine iteT ?_
    refine ⟨_, rfl, _, rfl, ?_⟩
    refine iteT ?_
    exact q
theorem sc_harm_in : FnScope ["link", "contents"] ["link", "contents"] (defScope s_harm_in) := ⟨rfl, rfl, rfl, by decide +kernel, rfl, by decide +kernel, by decide +kernel⟩
theorem ok_harm_in (Fx : Facts K mg) : Fn P w K mg base 4 "harm_in" ["link", "contents"] (sp_harm K) := by
  have F_harm_of_signs := ok_harm_of_signs (P := P) (w := w) (base := base) Fx
  have F_signs_in := ok_signs_in (P := P) (w := w) (base := base) Fx
  refine fn_mk Fx 29 (st := s_harm_in) rfl sc_harm_in (fun _ _ _ _ _ _ us hl => match us, hl with | [_, _], _ => rfl) (fun vs H Q E h => ?_) (fun f cdv A outer s H vs Q E hr h => ?_)
  · obtain ⟨a, c, L, x, rfl, _⟩ := h
    rfl
  obtain ⟨a, c, L, x, rfl, ⟨hl, hc, hX⟩, q⟩ := h
  refine ⟨_, (pss_one (ps_ret (pe_fn F_harm_of_signs hr (pa_cons (pe_fn F_signs_in hr (pa_cons (pv 0) (pa_cons (pv 1) pa_nil))) pa_nil)))), ?_⟩
  refine ⟨_, rfl, _, rfl, _, _, _, _, rfl, ⟨(by walk_at "sq"), (by walk_at "ct"), hX⟩, fun p1 H1 e1 s1 => ?_⟩
  refine ⟨_, _, _, _, _, rfl, (by walk_at "sq"), ?_⟩
  exact q _ (by walk_at "sm")
end
end HW
/-! part W6 -/
namespace HW
open PySem PySem.Spec PyProof.Rows L2 NdefX LamX
open HM (Lk Ct Lot)
local macro_rules | `(tactic| walk_at "nm") => `(tactic| dsimp only [L2.cxOf, L2.Cx.nox, L2.start, List.set, List.length, List.replicate, List.map, HAppend.hAppend, Append.append, List.append, Nat.reduceAdd, Nat.reduceSub, Nat.zero_add])
local macro_rules | `(tactic| walk_at "sq0") => `(tactic| first | assumption | exact SqT.of upd_same | (apply sqT_up; assumption; walk_at "sq0") | (apply sqT_S; assumption; walk_at "sq0") | (apply sqT_N; assumption; walk_at "sq0"))
local macro_rules | `(tactic| walk_at "sq1") => `(tactic| first | assumption | exact SqT.of upd_same | (apply sqT_up; assumption; walk_at "sq1") | (apply sqT_S; assumption; walk_at "sq1") | (apply sqT_N; assumption; walk_at "sq1"))
local macro_rules | `(tactic| walk_at "sq") => `(tactic| first | with_reducible walk_at "sq0" | walk_at "sq1")
local macro_rules | `(tactic| walk_at "sl0") => `(tactic| first | assumption | exact SqL.of upd_same | exact SqL.of (by assumption) | (apply sqL_up; assumption; walk_at "sl0") | (apply sqL_S; assumption; walk_at "sl0") | (apply sqL_N; assumption; walk_at "sl0"))
local macro_rules | `(tactic| walk_at "sl1") => `(tactic| first | assumption | exact SqL.of upd_same | exact SqL.of (by assumption) | (apply sqL_up; assumption; walk_at "sl1") | (apply sqL_S; assumption; walk_at "sl1") | (apply sqL_N; assumption; walk_at "sl1"))
local macro_rules | `(tactic| walk_at "sl") => `(tactic| first | with_reducible walk_at "sl0" | walk_at "sl1")
local macro_rules | `(tactic| walk_at "lt0") => `(tactic| first | assumption | (apply LotV.up; assumption; walk_at "lt0") | (apply LotV.S; assumption; walk_at "lt0") | (apply LotV.N; assumption; walk_at "lt0"))
local macro_rules | `(tactic| walk_at "lt1") => `(tactic| first | assumption | (apply LotV.up; assumption; walk_at "lt1") | (apply LotV.S; assumption; walk_at "lt1") | (apply LotV.N; assumption; walk_at "lt1"))
local macro_rules | `(tactic| walk_at "lt") => `(tactic| first | with_reducible walk_at "lt0" | walk_at "lt1")
local macro_rules | `(tactic| walk_at "ct0") => `(tactic| first | assumption | (apply CtA.up; assumption; walk_at "ct0") | (apply CtA.S; assumption; walk_at "ct0") | (apply CtA.N; assumption; walk_at "ct0"))
local macro_rules | `(tactic| walk_at "ct1") => `(tactic| first | assumption | (apply CtA.up; assumption; walk_at "ct1") | (apply CtA.S; assumption; walk_at "ct1") | (apply CtA.N; assumption; walk_at "ct1"))
local macro_rules | `(tactic| walk_at "ct") => `(tactic| first | with_reducible walk_at "ct0" | walk_at "ct1")
local macro_rules | `(tactic| walk_at "ho0") => `(tactic| first | assumption | (apply HoA.up; assumption; walk_at "ho0") | (apply HoA.S; assumption; walk_at "ho0") | (apply HoA.N; assumption; walk_at "ho0"))
local macro_rules | `(tactic| walk_at "ho1") => `(tactic| first | assumption | (apply HoA.up; assumption; walk_at "ho1") | (apply HoA.S; assumption; walk_at "ho1") | (apply HoA.N; assumption; walk_at "ho1"))
local macro_rules | `(tactic| walk_at "ho") => `(tactic| first | with_reducible walk_at "ho0" | walk_at "ho1")
local macro_rules | `(tactic| walk_at "sm0") => `(tactic| first | assumption | exact Same.refl _ | (refine same_up ?_ (by assumption); walk_at "sm0") | (refine Same.trans ?_ (by assumption); walk_at "sm0") | exact same_new (by assumption) _)
local macro_rules | `(tactic| walk_at "sm1") => `(tactic| first | assumption | exact Same.refl _ | (refine same_up ?_ (by assumption); walk_at "sm1") | (refine Same.trans ?_ (by assumption); walk_at "sm1") | exact same_new (by assumption) _)
local macro_rules | `(tactic| walk_at "sm") => `(tactic| first | with_reducible walk_at "sm0" | walk_at "sm1")
local macro_rules | `(tactic| walk_at "pre") => `(tactic| first | assumption | omega | decide)
section
variable {P : Program} {w : World} {K : PySem.W.Frag} {mg : Str → Option Value} {base : Heap}
theorem cut2 {a b c d : V} : ¬ (HT.sIx [a, b, c, d].length 0 none = 0 ∧ HT.sIx [a, b, c, d].length [a, b, c, d].length (some 2) = [a, b, c, d].length) := by
  show ¬ (HT.sIx 4 0 none = 0 ∧ HT.sIx 4 4 (some 2) = 4)
  decide
theorem cut2e {a b c d : V} : cutV [a, b, c, d] none (some 2) = [a, b] := rfl
theorem tint {Q : VK} {H : Hp} {i j : Int} (h : j = i) (q : Q (.int i) H) : Q (.int j) H := by rw [h]; exact q
theorem lot_num {L : Lk} {x : Ct} (hL : L.Ok) (X : x.Ok L) : HM.lotNum L x.even (x.lot L) = x.lots := by
  obtain ⟨_, _, _, _, l0, l1, _⟩ := X
  unfold Ct.lot HM.lotOf HM.lotNum
  unfold HM.lotsIn at l1
  by_cases c : x.lots = 0
  · rw [if_pos c]; exact c.symm
  · rw [if_neg c]
    cases e : x.even with
    | true => simp
    | false =>
      by_cases c2 : L.p ≤ x.lots
      · simp [c2]; omega
      · simp [c2]
theorem lots_in {L : Lk} {x : Ct} (hL : L.Ok) (X : x.Ok L) : HM.In x.lots := by
  have h1 := X.lots0
  have h2 := X.lots1
  have h3 := (HM.lotsIn_in hL x.even).2
  exact ⟨by omega, by omega⟩
theorem in_of {i j : Int} (h0 : 0 ≤ i) (h1 : i ≤ j) (h : HM.In j) : HM.In i := ⟨by omega, by have := h.2; omega⟩
theorem wanted_in {L : Lk} {x : Ct} (hL : L.Ok) (X : x.Ok L) : HM.In (HM.wanted L (x.lot L)) := by
  have h := lot_fit X
  have hp := hL.pb
  have h1 := hL.c1
  have h2 := hL.cp
  cases e : x.lot L with
  | no => exact ⟨by show -(2 ^ 105) < L.p; omega, by show L.p < 2 ^ 105; omega⟩
  | new m => exact ⟨by show -(2 ^ 105) < L.p; omega, by show L.p < 2 ^ 105; omega⟩
  | old m =>
    rw [e] at h
    obtain ⟨a, b⟩ := h
    exact ⟨by show -(2 ^ 105) < L.p - m; omega, by show L.p - m < 2 ^ 105; omega⟩
theorem new_not {L : Lk} {e : Bool} {l : Lot} (h : LotFit L e l) (m : Int) (z : l = .new m) : e = false := by subst z; exact h.1
def sp_numin (K : PySem.W.Frag) : Sp := fun vs H Q _ => ∃ (a c : Addr) (L : Lk) (x : Ct), vs = [.ref a, .ref c] ∧ (LkA K H a L ∧ CtA K H L c x ∧ L.Ok ∧ x.Ok L) ∧ ∀ H', Same H H' → Q (.int (HM.numIn L (x.harm L) x)) H'
theorem lot_in1 {L : Lk} {x : Ct} (hL : L.Ok) (X : x.Ok L) : HM.In (HM.lotNum L (decide (V.int x.bit = V.int x.own)) (x.lot L) + 1) := by
  rw [int_eqv]
  have e : HM.lotNum L (decide (x.bit = x.own)) (x.lot L) = x.lots := lot_num hL X
  rw [e]
  have h1 := X.lots0
  have h2 := X.lots1
  have h3 : HM.lotsIn L x.even < 2 ^ 102 := by
    have := hL.pb
    unfold HM.lotsIn
    split <;> omega
  exact ⟨by omega, by omega⟩
theorem num_of {L : Lk} {x : Ct} (hL : L.Ok) (hX : x.Ok L) {h a b d : Int} (ha : a = if x.bit = 1 then HM.heardBef L h L.q else 0)
    (hb : b = if x.own = 1 then HM.lotsAmt L h (decide (V.int x.bit = V.int 0)) (HM.lotsIn L (decide (V.int x.bit = V.int 0))) (HM.suffic L x.heard) (HM.backSize L) else 0)
    (hd : d = if x.done = true then HM.amt (HM.codes h (decide (V.int x.bit = V.int x.own)) false) (HM.oldBef L (decide (V.int x.bit = V.int x.own)) (HM.lotNum L (decide (V.int x.bit = V.int x.own)) (x.lot L) + 1) - HM.oldBef L (decide (V.int x.bit = V.int x.own)) (HM.lotNum L (decide (V.int x.bit = V.int x.own)) (x.lot L))) (HM.thereSize L) (HM.suffic L x.heard) (HM.backSize L) else 0) :
    HM.heardBef L h x.heard + a + b + HM.lotsAmt L h (decide (V.int x.bit = V.int x.own)) (HM.lotNum L (decide (V.int x.bit = V.int x.own)) (x.lot L)) (HM.suffic L x.heard) (HM.backSize L) + d
      + HM.thereAmt L x.heard x.own (HM.wanted L (x.lot L)) (HM.codes h (decide (V.int x.bit = V.int x.own)) x.done) x.n x.z x.o
      + HM.backAmt L x.bit x.heard (HM.codeAt x.own (HM.wanted L (x.lot L)) (HM.codes h (decide (V.int x.bit = V.int x.own)) x.done) x.z x.o) x.y x.x = HM.numIn L h x := by
  have e : HM.lotNum L (decide (x.bit = x.own)) (x.lot L) = x.lots := lot_num hL hX
  subst ha hb hd
  simp only [int_eqv, e]
  rfl
theorem sc_number_of_harm_in : FnScope ["link", "contents", "found", "number", "codes", "there", "back", "harm", "even", "hosts", "suffice", "whole", "old", "bit", "heard", "own", "lot", "done"] ["link", "contents"] (defScope s_number_of_harm_in) := ⟨rfl, rfl, rfl, by decide +kernel, rfl, by decide +kernel, by decide +kernel⟩
theorem ok_number_of_harm_in (Fx : Facts K mg) : Fn P w K mg base 6 "number_of_harm_in" ["link", "contents"] (sp_numin K) := by
  have F_harm_in := ok_harm_in (P := P) (w := w) (base := base) Fx
  have F_sufficing := ok_sufficing (P := P) (w := w) (base := base) Fx
  have F_back_size := ok_back_size (P := P) (w := w) (base := base) Fx
  have F_heard_before := ok_heard_before (P := P) (w := w) (base := base) Fx
  have F_lots_amount := ok_lots_amount (P := P) (w := w) (base := base) Fx
  have F_lots_in := ok_lots_in (P := P) (w := w) (base := base) Fx
  have F_lot_number := ok_lot_number (P := P) (w := w) (base := base) Fx
  have F_old_before := ok_old_before (P := P) (w := w) (base := base) Fx
  have F_amount := ok_amount (P := P) (w := w) (base := base) Fx
  have F_codes_of := ok_codes_of (P := P) (w := w) (base := base) Fx
  have F_there_size := ok_there_size (P := P) (w := w) (base := base) Fx
  have F_there_amount := ok_there_amount (P := P) (w := w) (base := base) Fx
  have F_back_amount := ok_back_amount (P := P) (w := w) (base := base) Fx
  have F_code_at := ok_code_at (P := P) (w := w) (base := base) Fx
  refine fn_mk Fx 46 (st := s_number_of_harm_in) rfl sc_number_of_harm_in (fun _ _ _ _ _ _ us hl => match us, hl with | [_, _], _ => rfl) (fun vs H Q E h => ?_) (fun f cdv A outer s H vs Q E hr h => ?_)
  · obtain ⟨a, c, L, x, rfl, _⟩ := h
    rfl
  obtain ⟨a, c, L, x, rfl, ⟨hl, hc, hL, hX⟩, q⟩ := h
  obtain ⟨s, r, t, b, v, h0, h1, h2, h3, h4, h5⟩ := hc.ex
  have hh : HM.In x.heard := in_of hX.heard0 (by have := hX.heard1; omega) (HM.q_in hL)
  have hi : HM.In (HM.lotNum L (decide (V.int x.bit = V.int x.own)) (x.lot L)) := by rw [int_eqv]; exact (show HM.In (HM.lotNum L x.even (x.lot L)) from (lot_num hL hX).symm ▸ lots_in hL hX)
  have hi1 : HM.In (HM.lotNum L (decide (V.int x.bit = V.int x.own)) (x.lot L) + 1) := lot_in1 hL hX
  have nI : HM.In x.n := in_of hX.n0 (by have := hX.there; have := hX.z0; have := hX.o0; omega) (HM.c_in hL)
  have zI : HM.In x.z := in_of hX.z0 (by have := hX.there; have := hX.n0; have := hX.o0; omega) (HM.c_in hL)
  have oI : HM.In x.o := in_of hX.o0 (by have := hX.there; have := hX.z0; have := hX.n0; omega) (HM.c_in hL)
  have yI : HM.In x.y := in_of hX.y0 (by have := hX.back; have := hX.x0; omega) (HM.d_in hL)
  have xI : HM.In x.x := in_of hX.x0 (by have := hX.back; have := hX.y0; omega) (HM.d_in hL)
  refine ⟨_, (pss_cons (ps_asg (pv 1) (pg_tup rfl (pgs_cons (pg_tup rfl (pgs_cons (pg_name (i := 13) sc_number_of_harm_in.nd rfl (.inl rfl)) (pgs_cons (pg_name (i := 14) sc_number_of_harm_in.nd rfl (.inl rfl)) pgs_nil))) (pgs_cons (pg_tup rfl (pgs_cons (pg_name (i := 15) sc_number_of_harm_in.nd rfl (.inl rfl)) (pgs_cons (pg_name (i := 16) sc_number_of_harm_in.nd rfl (.inl rfl)) (pgs_cons (pg_name (i := 17) sc_number_of_harm_in.nd rfl (.inl rfl)) pgs_nil)))) (pgs_cons (pg_name (i := 5) sc_number_of_harm_in.nd rfl (.inl rfl)) (pgs_cons (pg_name (i := 6) sc_number_of_harm_in.nd rfl (.inl rfl)) pgs_nil)))))) (pss_cons (ps_par3 (i := 7) (j := 8) (l := 9) rfl sc_number_of_harm_in.nd rfl rfl rfl (by decide) (by decide) (by decide) rfl rfl rfl (pa_cons (pe_fn F_harm_in hr (pa_cons (pv 0) (pa_cons (pv 1) pa_nil))) (pa_cons (pe_cmpR op_eq (pv 13) (pv 15) (nomark _)) (pa_cons (pe_slice sl_tup (pv 1) po_none (po_some pe_int)) pa_nil))) (by rfl)) (pss_cons (ps_par (i := 10) (j := 11) rfl sc_number_of_harm_in.nd rfl rfl (by decide) rfl rfl (pa_cons (pe_fn F_sufficing hr (pa_cons (pv 0) (pa_cons (pv 14) pa_nil))) (pa_cons (pe_fn F_back_size hr (pa_cons (pv 0) pa_nil)) pa_nil)) (by rfl)) (pss_cons (ps_set (i := 2) sc_number_of_harm_in.nd rfl (.inl rfl) (pe_op op_add (pe_fn F_heard_before hr (pa_cons (pv 0) (pa_cons (pv 7) (pa_cons (pv 14) pa_nil)))) (pe_ifExp (pt_cmpR op_eq (pv 13) pe_int (nomark _)) (pe_fn F_heard_before hr (pa_cons (pv 0) (pa_cons (pv 7) (pa_cons (pe_ix ix_tup (pv 0) pe_int (fun _ _ => rfl)) pa_nil)))) pe_int))) (pss_cons (ps_if (pt_cmpR op_eq (pv 15) pe_int (nomark _)) (pss_one (ps_set (i := 2) sc_number_of_harm_in.nd rfl (.inl rfl) (pe_op op_add (pv 2) (pe_fn F_lots_amount hr (pa_cons (pv 0) (pa_cons (pv 7) (pa_cons (pe_cmpR op_eq (pv 13) pe_int (nomark _)) (pa_cons (pe_fn F_lots_in hr (pa_cons (pv 0) (pa_cons (pe_cmpR op_eq (pv 13) pe_int (nomark _)) pa_nil))) (pa_cons (pv 10) (pa_cons (pv 11) pa_nil)))))))))) pss_nil) (pss_cons (ps_set (i := 3) sc_number_of_harm_in.nd rfl (.inl rfl) (pe_fn F_lot_number hr (pa_cons (pv 0) (pa_cons (pv 8) (pa_cons (pv 16) pa_nil))))) (pss_cons (ps_set (i := 2) sc_number_of_harm_in.nd rfl (.inl rfl) (pe_op op_add (pv 2) (pe_fn F_lots_amount hr (pa_cons (pv 0) (pa_cons (pv 7) (pa_cons (pv 8) (pa_cons (pv 3) (pa_cons (pv 10) (pa_cons (pv 11) pa_nil))))))))) (pss_cons (ps_if (pt_val (pv 17)) (pss_cons (ps_set (i := 12) sc_number_of_harm_in.nd rfl (.inl rfl) (pe_op op_sub (pe_fn F_old_before hr (pa_cons (pv 0) (pa_cons (pv 8) (pa_cons (pe_op op_add (pv 3) pe_int) pa_nil)))) (pe_fn F_old_before hr (pa_cons (pv 0) (pa_cons (pv 8) (pa_cons (pv 3) pa_nil)))))) (pss_one (ps_set (i := 2) sc_number_of_harm_in.nd rfl (.inl rfl) (pe_op op_add (pv 2) (pe_fn F_amount hr (pa_cons (pe_fn F_codes_of hr (pa_cons (pv 7) (pa_cons (pv 8) (pa_cons pe_bl pa_nil)))) (pa_cons (pv 12) (pa_cons (pe_fn F_there_size hr (pa_cons (pv 0) pa_nil)) (pa_cons (pv 10) (pa_cons (pv 11) pa_nil)))))))))) pss_nil) (pss_cons (ps_set (i := 4) sc_number_of_harm_in.nd rfl (.inl rfl) (pe_fn F_codes_of hr (pa_cons (pv 7) (pa_cons (pv 8) (pa_cons (pv 17) pa_nil))))) (pss_cons (ps_set (i := 2) sc_number_of_harm_in.nd rfl (.inl rfl) (pe_op op_add (pv 2) (pe_fn F_there_amount hr (pa_cons (pv 0) (pa_cons (pv 9) (pa_cons (pv 4) (pa_cons (pv 5) pa_nil))))))) (pss_one (ps_ret (pe_op op_add (pv 2) (pe_fn F_back_amount hr (pa_cons (pv 0) (pa_cons (pv 9) (pa_cons (pe_fn F_code_at hr (pa_cons (pv 0) (pa_cons (pv 9) (pa_cons (pv 4) (pa_cons (pv 5) pa_nil))))) (pa_cons (pv 6) pa_nil)))))))))))))))))), ?_⟩
  refine ⟨_, rfl, _, _, rfl, (by walk_at "sq"), rfl, _, _, rfl, _, _, rfl, (by walk_at "sq"), rfl, _, _, rfl, _, _, rfl, rfl, _, _, rfl, _, _, rfl, (by walk_at "sq"), rfl, _, _, rfl, _, _, rfl, _, _, rfl, rfl, _, _, rfl, _, _, rfl, rfl, ?_⟩
  walk_at "nm"
  refine ⟨_, rfl, _, rfl, _, _, _, _, rfl, ⟨(by walk_at "sq"), (by walk_at "ct"), hX⟩, fun H1 e1 => ?_⟩
  refine ⟨_, rfl, _, rfl, rfl, _, rfl, _, rfl, _, _, rfl, (by walk_at "sq"), cut2, fun p2 np2 => ?_⟩
  rw [cut2e]
  have hH : HoA K (upd H1 p2 (.tup [.ref s, .ref r])) p2 x.bit x.heard x.own (x.lot L) x.done := ⟨⟨s, r, v, SqT.of upd_same, sqT_up np2 (sqT_S e1 h1), sqT_up np2 (sqT_S e1 h2), (h3.S e1).up np2⟩⟩
  refine ⟨_, _, _, rfl, ?_⟩
  walk_at "nm"
  refine ⟨_, rfl, _, rfl, _, _, _, rfl, ⟨(by walk_at "sq"), hL, hh⟩, _, rfl, _, _, rfl, ⟨(by walk_at "sq"), hL⟩, _, _, rfl, ?_⟩
  walk_at "nm"
  refine ⟨_, rfl, _, rfl, _, rfl, _, _, _, _, rfl, ⟨(by walk_at "sq"), hL, hh⟩, fun H3 e3 => ?_⟩
  refine ⟨_, rfl, rfl, _, rfl, ?_⟩
  refine ite2 (fun c1 => ?_) (fun c1 => ?_)
  · replace c1 := eqT c1
    refine ⟨_, rfl, _, rfl, _, rfl, _, _, _, _, rfl, rfl, (by walk_at "sq"), rfl, _, _, _, _, rfl, ⟨(by walk_at "sq"), hL, HM.q_in hL⟩, fun H4 e4 => ?_⟩
    refine ⟨_, _, rfl, rfl, _, rfl, rfl, _, rfl, ?_⟩
    refine ite2 (fun c2 => ?_) (fun c2 => ?_)
    · replace c2 := eqT c2
      refine ⟨_, rfl, _, rfl, _, rfl, _, rfl, rfl, _, rfl, _, rfl, rfl, _, _, _, rfl, ⟨(by walk_at "sq"), hL⟩, _, rfl, _, rfl, _, _, _, _, _, _, _, rfl, ⟨(by walk_at "sq"), hL, HM.lotsIn_in hL _, (HM.suffic_bd hL hh).mono (by decide), (HM.backSize_bd hL).mono (by decide)⟩, fun H5 e5 => ?_⟩
      refine ⟨_, _, rfl, rfl, ?_⟩
      walk_at "nm"
      refine ⟨_, rfl, _, rfl, _, rfl, _, _, _, _, _, rfl, ⟨(by walk_at "sq"), (by walk_at "lt"), new_not (lot_fit2 hX)⟩, _, rfl, _, rfl, _, rfl, _, rfl, _, rfl, _, rfl, _, rfl, _, _, _, _, _, _, _, rfl, ⟨(by walk_at "sq"), hL, hi, (HM.suffic_bd hL hh).mono (by decide), (HM.backSize_bd hL).mono (by decide)⟩, fun H6 e6 => ?_⟩
      refine ⟨_, _, rfl, rfl, ?_⟩
      walk_at "nm"
      refine ⟨_, rfl, _, rfl, ?_⟩
      cases hd : x.done
      · refine iteF ?_
        refine ⟨_, rfl, _, rfl, _, rfl, _, _, _, rfl, fun a7 H7 e7 cd7 => ?_⟩
        refine ⟨_, rfl, _, rfl, _, rfl, _, rfl, _, rfl, _, _, _, _, _, _, _, _, _, _, _, _, _, _, rfl, ⟨⟨(by walk_at "sq"), (by walk_at "ho"), (by walk_at "sq"), (by walk_at "sq")⟩, hL, hh, wanted_in hL hX, nI, zI, oI⟩, _, _, rfl, rfl, ?_⟩
        walk_at "nm"
        refine ⟨_, rfl, _, rfl, _, rfl, _, rfl, _, rfl, _, rfl, _, rfl, _, _, _, _, _, _, _, _, _, _, _, _, _, _, rfl, ⟨⟨(by walk_at "sq"), (by walk_at "ho"), (by walk_at "sq"), (by walk_at "sq")⟩, hX.own⟩, _, rfl, _, _, _, _, _, _, _, _, _, _, _, _, rfl, ⟨⟨(by walk_at "sq"), (by walk_at "ho"), (by walk_at "sq")⟩, hL, ⟨hX.heard0, by have := hX.heard1; omega⟩, yI, xI⟩, _, _, rfl, rfl, ?_⟩
        refine tint (Q := Q) (i := HM.numIn L (x.harm L) x) ?_ (q _ (by walk_at "sm"))
        have e := num_of hL hX (h := x.harm L) (if_pos c1).symm (if_pos c2).symm (if_neg (by rw [hd]; decide)).symm
        rw [hd] at e
        try simp only [Int.add_zero] at e ⊢
        exact e
      · refine iteT ?_
        refine ⟨_, rfl, _, rfl, _, rfl, _, _, rfl, rfl, _, _, _, _, rfl, ⟨(by walk_at "sq"), hL, hi1⟩, _, rfl, _, rfl, _, rfl, _, _, _, _, rfl, ⟨(by walk_at "sq"), hL, hi⟩, _, _, rfl, rfl, _, rfl, _, rfl, _, rfl, _, _, _, rfl, fun a8 H8 e8 cd8 => ?_⟩
        refine ⟨_, rfl, _, rfl, _, _, rfl, ⟨(by walk_at "sq"), hL⟩, _, rfl, _, rfl, _, _, _, _, _, _, rfl, ⟨(by walk_at "sq"), ((HM.oldBef_bd hL hi1).sub (HM.oldBef_bd hL hi)).mono (by decide), (HM.thereSize_bd hL).mono (by decide), (HM.suffic_bd hL hh).mono (by decide), (HM.backSize_bd hL).mono (by decide)⟩, _, _, rfl, rfl, ?_⟩
        walk_at "nm"
        refine ⟨_, rfl, _, rfl, _, rfl, _, _, _, rfl, fun a9 H9 e9 cd9 => ?_⟩
        refine ⟨_, rfl, _, rfl, _, rfl, _, rfl, _, rfl, _, _, _, _, _, _, _, _, _, _, _, _, _, _, rfl, ⟨⟨(by walk_at "sq"), (by walk_at "ho"), (by walk_at "sq"), (by walk_at "sq")⟩, hL, hh, wanted_in hL hX, nI, zI, oI⟩, _, _, rfl, rfl, ?_⟩
        walk_at "nm"
        refine ⟨_, rfl, _, rfl, _, rfl, _, rfl, _, rfl, _, rfl, _, rfl, _, _, _, _, _, _, _, _, _, _, _, _, _, _, rfl, ⟨⟨(by walk_at "sq"), (by walk_at "ho"), (by walk_at "sq"), (by walk_at "sq")⟩, hX.own⟩, _, rfl, _, _, _, _, _, _, _, _, _, _, _, _, rfl, ⟨⟨(by walk_at "sq"), (by walk_at "ho"), (by walk_at "sq")⟩, hL, ⟨hX.heard0, by have := hX.heard1; omega⟩, yI, xI⟩, _, _, rfl, rfl, ?_⟩
        refine tint (Q := Q) (i := HM.numIn L (x.harm L) x) ?_ (q _ (by walk_at "sm"))
        have e := num_of hL hX (h := x.harm L) (if_pos c1).symm (if_pos c2).symm (if_pos hd).symm
        rw [hd] at e
        try simp only [Int.add_zero] at e ⊢
        exact e
    · replace c2 := eqF c2
      refine ⟨_, rfl, _, rfl, _, rfl, _, _, _, _, _, rfl, ⟨(by walk_at "sq"), (by walk_at "lt"), new_not (lot_fit2 hX)⟩, _, rfl, _, rfl, _, rfl, _, rfl, _, rfl, _, rfl, _, rfl, _, _, _, _, _, _, _, rfl, ⟨(by walk_at "sq"), hL, hi, (HM.suffic_bd hL hh).mono (by decide), (HM.backSize_bd hL).mono (by decide)⟩, fun H10 e10 => ?_⟩
      refine ⟨_, _, rfl, rfl, ?_⟩
      walk_at "nm"
      refine ⟨_, rfl, _, rfl, ?_⟩
      cases hd : x.done
      · refine iteF ?_
        refine ⟨_, rfl, _, rfl, _, rfl, _, _, _, rfl, fun a11 H11 e11 cd11 => ?_⟩
        refine ⟨_, rfl, _, rfl, _, rfl, _, rfl, _, rfl, _, _, _, _, _, _, _, _, _, _, _, _, _, _, rfl, ⟨⟨(by walk_at "sq"), (by walk_at "ho"), (by walk_at "sq"), (by walk_at "sq")⟩, hL, hh, wanted_in hL hX, nI, zI, oI⟩, _, _, rfl, rfl, ?_⟩
        walk_at "nm"
        refine ⟨_, rfl, _, rfl, _, rfl, _, rfl, _, rfl, _, rfl, _, rfl, _, _, _, _, _, _, _, _, _, _, _, _, _, _, rfl, ⟨⟨(by walk_at "sq"), (by walk_at "ho"), (by walk_at "sq"), (by walk_at "sq")⟩, hX.own⟩, _, rfl, _, _, _, _, _, _, _, _, _, _, _, _, rfl, ⟨⟨(by walk_at "sq"), (by walk_at "ho"), (by walk_at "sq")⟩, hL, ⟨hX.heard0, by have := hX.heard1; omega⟩, yI, xI⟩, _, _, rfl, rfl, ?_⟩
        refine tint (Q := Q) (i := HM.numIn L (x.harm L) x) ?_ (q _ (by walk_at "sm"))
        have e := num_of hL hX (h := x.harm L) (if_pos c1).symm (if_neg c2).symm (if_neg (by rw [hd]; decide)).symm
        rw [hd] at e
        try simp only [Int.add_zero] at e ⊢
        exact e
      · refine iteT ?_
        refine ⟨_, rfl, _, rfl, _, rfl, _, _, rfl, rfl, _, _, _, _, rfl, ⟨(by walk_at "sq"), hL, hi1⟩, _, rfl, _, rfl, _, rfl, _, _, _, _, rfl, ⟨(by walk_at "sq"), hL, hi⟩, _, _, rfl, rfl, _, rfl, _, rfl, _, rfl, _, _, _, rfl, fun a12 H12 e12 cd12 => ?_⟩
        refine ⟨_, rfl, _, rfl, _, _, rfl, ⟨(by walk_at "sq"), hL⟩, _, rfl, _, rfl, _, _, _, _, _, _, rfl, ⟨(by walk_at "sq"), ((HM.oldBef_bd hL hi1).sub (HM.oldBef_bd hL hi)).mono (by decide), (HM.thereSize_bd hL).mono (by decide), (HM.suffic_bd hL hh).mono (by decide), (HM.backSize_bd hL).mono (by decide)⟩, _, _, rfl, rfl, ?_⟩
        walk_at "nm"
        refine ⟨_, rfl, _, rfl, _, rfl, _, _, _, rfl, fun a13 H13 e13 cd13 => ?_⟩
        refine ⟨_, rfl, _, rfl, _, rfl, _, rfl, _, rfl, _, _, _, _, _, _, _, _, _, _, _, _, _, _, rfl, ⟨⟨(by walk_at "sq"), (by walk_at "ho"), (by walk_at "sq"), (by walk_at "sq")⟩, hL, hh, wanted_in hL hX, nI, zI, oI⟩, _, _, rfl, rfl, ?_⟩
        walk_at "nm"
        refine ⟨_, rfl, _, rfl, _, rfl, _, rfl, _, rfl, _, rfl, _, rfl, _, _, _, _, _, _, _, _, _, _, _, _, _, _, rfl, ⟨⟨(by walk_at "sq"), (by walk_at "ho"), (by walk_at "sq"), (by walk_at "sq")⟩, hX.own⟩, _, rfl, _, _, _, _, _, _, _, _, _, _, _, _, rfl, ⟨⟨(by walk_at "sq"), (by walk_at "ho"), (by walk_at "sq")⟩, hL, ⟨hX.heard0, by have := hX.heard1; omega⟩, yI, xI⟩, _, _, rfl, rfl, ?_⟩
        refine tint (Q := Q) (i := HM.numIn L (x.harm L) x) ?_ (q _ (by walk_at "sm"))
        have e := num_of hL hX (h := x.harm L) (if_pos c1).symm (if_neg c2).symm (if_pos hd).symm
        rw [hd] at e
        try simp only [Int.add_zero] at e ⊢
        exact e
  · replace c1 := eqF c1
    refine ⟨_, _, rfl, rfl, _, rfl, rfl, _, rfl, ?_⟩
    refine ite2 (fun c2 => ?_) (fun c2 => ?_)
    · replace c2 := eqT c2
      refine ⟨_, rfl, _, rfl, _, rfl, _, rfl, rfl, _, rfl, _, rfl, rfl, _, _, _, rfl, ⟨(by walk_at "sq"), hL⟩, _, rfl, _, rfl, _, _, _, _, _, _, _, rfl, ⟨(by walk_at "sq"), hL, HM.lotsIn_in hL _, (HM.suffic_bd hL hh).mono (by decide), (HM.backSize_bd hL).mono (by decide)⟩, fun H14 e14 => ?_⟩
      refine ⟨_, _, rfl, rfl, ?_⟩
      walk_at "nm"
      refine ⟨_, rfl, _, rfl, _, rfl, _, _, _, _, _, rfl, ⟨(by walk_at "sq"), (by walk_at "lt"), new_not (lot_fit2 hX)⟩, _, rfl, _, rfl, _, rfl, _, rfl, _, rfl, _, rfl, _, rfl, _, _, _, _, _, _, _, rfl, ⟨(by walk_at "sq"), hL, hi, (HM.suffic_bd hL hh).mono (by decide), (HM.backSize_bd hL).mono (by decide)⟩, fun H15 e15 => ?_⟩
      refine ⟨_, _, rfl, rfl, ?_⟩
      walk_at "nm"
      refine ⟨_, rfl, _, rfl, ?_⟩
      cases hd : x.done
      · refine iteF ?_
        refine ⟨_, rfl, _, rfl, _, rfl, _, _, _, rfl, fun a16 H16 e16 cd16 => ?_⟩
        refine ⟨_, rfl, _, rfl, _, rfl, _, rfl, _, rfl, _, _, _, _, _, _, _, _, _, _, _, _, _, _, rfl, ⟨⟨(by walk_at "sq"), (by walk_at "ho"), (by walk_at "sq"), (by walk_at "sq")⟩, hL, hh, wanted_in hL hX, nI, zI, oI⟩, _, _, rfl, rfl, ?_⟩
        walk_at "nm"
        refine ⟨_, rfl, _, rfl, _, rfl, _, rfl, _, rfl, _, rfl, _, rfl, _, _, _, _, _, _, _, _, _, _, _, _, _, _, rfl, ⟨⟨(by walk_at "sq"), (by walk_at "ho"), (by walk_at "sq"), (by walk_at "sq")⟩, hX.own⟩, _, rfl, _, _, _, _, _, _, _, _, _, _, _, _, rfl, ⟨⟨(by walk_at "sq"), (by walk_at "ho"), (by walk_at "sq")⟩, hL, ⟨hX.heard0, by have := hX.heard1; omega⟩, yI, xI⟩, _, _, rfl, rfl, ?_⟩
        refine tint (Q := Q) (i := HM.numIn L (x.harm L) x) ?_ (q _ (by walk_at "sm"))
        have e := num_of hL hX (h := x.harm L) (if_neg c1).symm (if_pos c2).symm (if_neg (by rw [hd]; decide)).symm
        rw [hd] at e
        try simp only [Int.add_zero] at e ⊢
        exact e
      · refine iteT ?_
        refine ⟨_, rfl, _, rfl, _, rfl, _, _, rfl, rfl, _, _, _, _, rfl, ⟨(by walk_at "sq"), hL, hi1⟩, _, rfl, _, rfl, _, rfl, _, _, _, _, rfl, ⟨(by walk_at "sq"), hL, hi⟩, _, _, rfl, rfl, _, rfl, _, rfl, _, rfl, _, _, _, rfl, fun a17 H17 e17 cd17 => ?_⟩
        refine ⟨_, rfl, _, rfl, _, _, rfl, ⟨(by walk_at "sq"), hL⟩, _, rfl, _, rfl, _, _, _, _, _, _, rfl, ⟨(by walk_at "sq"), ((HM.oldBef_bd hL hi1).sub (HM.oldBef_bd hL hi)).mono (by decide), (HM.thereSize_bd hL).mono (by decide), (HM.suffic_bd hL hh).mono (by decide), (HM.backSize_bd hL).mono (by decide)⟩, _, _, rfl, rfl, ?_⟩
        walk_at "nm"
        refine ⟨_, rfl, _, rfl, _, rfl, _, _, _, rfl, fun a18 H18 e18 cd18 => ?_⟩
        refine ⟨_, rfl, _, rfl, _, rfl, _, rfl, _, rfl, _, _, _, _, _, _, _, _, _, _, _, _, _, _, rfl, ⟨⟨(by walk_at "sq"), (by walk_at "ho"), (by walk_at "sq"), (by walk_at "sq")⟩, hL, hh, wanted_in hL hX, nI, zI, oI⟩, _, _, rfl, rfl, ?_⟩
        walk_at "nm"
        refine ⟨_, rfl, _, rfl, _, rfl, _, rfl, _, rfl, _, rfl, _, rfl, _, _, _, _, _, _, _, _, _, _, _, _, _, _, rfl, ⟨⟨(by walk_at "sq"), (by walk_at "ho"), (by walk_at "sq"), (by walk_at "sq")⟩, hX.own⟩, _, rfl, _, _, _, _, _, _, _, _, _, _, _, _, rfl, ⟨⟨(by walk_at "sq"), (by walk_at "ho"), (by walk_at "sq")⟩, hL, ⟨hX.heard0, by have := hX.heard1; omega⟩, yI, xI⟩, _, _, rfl, rfl, ?_⟩
        refine tint (Q := Q) (i := HM.numIn L (x.harm L) x) ?_ (q _ (by walk_at "sm"))
        have e := num_of hL hX (h := x.harm L) (if_neg c1).symm (if_pos c2).symm (if_pos hd).symm
        rw [hd] at e
        try simp only [Int.add_zero] at e ⊢
        exact e
    · replace c2 := eqF c2
      refine ⟨_, rfl, _, rfl, _, rfl, _, _, _, _, _, rfl, ⟨(by walk_at "sq"), (by walk_at "lt"), new_not (lot_fit2 hX)⟩, _, rfl, _, rfl, _, rfl, _, rfl, _, rfl, _, rfl, _, rfl, _, _, _, _, _, _, _, rfl, ⟨(by walk_at "sq"), hL, hi, (HM.suffic_bd hL hh).mono (by decide), (HM.backSize_bd hL).mono (by decide)⟩, fun H19 e19 => ?_⟩
      refine ⟨_, _, rfl, rfl, ?_⟩
      walk_at "nm"
      refine ⟨_, rfl, _, rfl, ?_⟩
      cases hd : x.done
      · refine iteF ?_
        refine ⟨_, rfl, _, rfl, _, rfl, _, _, _, rfl, fun a20 H20 e20 cd20 => ?_⟩
        refine ⟨_, rfl, _, rfl, _, rfl, _, rfl, _, rfl, _, _, _, _, _, _, _, _, _, _, _, _, _, _, rfl, ⟨⟨(by walk_at "sq"), (by walk_at "ho"), (by walk_at "sq"), (by walk_at "sq")⟩, hL, hh, wanted_in hL hX, nI, zI, oI⟩, _, _, rfl, rfl, ?_⟩
        walk_at "nm"
        refine ⟨_, rfl, _, rfl, _, rfl, _, rfl, _, rfl, _, rfl, _, rfl, _, _, _, _, _, _, _, _, _, _, _, _, _, _, rfl, ⟨⟨(by walk_at "sq"), (by walk_at "ho"), (by walk_at "sq"), (by walk_at "sq")⟩, hX.own⟩, _, rfl, _, _, _, _, _, _, _, _, _, _, _, _, rfl, ⟨⟨(by walk_at "sq"), (by walk_at "ho"), (by walk_at "sq")⟩, hL, ⟨hX.heard0, by have := hX.heard1; omega⟩, yI, xI⟩, _, _, rfl, rfl, ?_⟩
        refine tint (Q := Q) (i := HM.numIn L (x.harm L) x) ?_ (q _ (by walk_at "sm"))
        have e := num_of hL hX (h := x.harm L) (if_neg c1).symm (if_neg c2).symm (if_neg (by rw [hd]; decide)).symm
        rw [hd] at e
        try simp only [Int.add_zero] at e ⊢
        exact e
      · refine iteT ?_
        refine ⟨_, rfl, _, rfl, _, rfl, _, _, rfl, rfl, _, _, _, _, rfl, ⟨(by walk_at "sq"), hL, hi1⟩, _, rfl, _, rfl, _, rfl, _, _, _, _, rfl, ⟨(by walk_at "sq"), hL, hi⟩, _, _, rfl, rfl, _, rfl, _, rfl, _, rfl, _, _, _, rfl, fun a21 H21 e21 cd21 => ?_⟩
        refine ⟨_, rfl, _, rfl, _, _, rfl, ⟨(by walk_at "sq"), hL⟩, _, rfl, _, rfl, _, _, _, _, _, _, rfl, ⟨(by walk_at "sq"), ((HM.oldBef_bd hL hi1).sub (HM.oldBef_bd hL hi)).mono (by decide), (HM.thereSize_bd hL).mono (by decide), (HM.suffic_bd hL hh).mono (by decide), (HM.backSize_bd hL).mono (by decide)⟩, _, _, rfl, rfl, ?_⟩
        walk_at "nm"
        refine ⟨_, rfl, _, rfl, _, rfl, _, _, _, rfl, fun a22 H22 e22 cd22 => ?_⟩
        refine ⟨_, rfl, _, rfl, _, rfl, _, rfl, _, rfl, _, _, _, _, _, _, _, _, _, _, _, _, _, _, rfl, ⟨⟨(by walk_at "sq"), (by walk_at "ho"), (by walk_at "sq"), (by walk_at "sq")⟩, hL, hh, wanted_in hL hX, nI, zI, oI⟩, _, _, rfl, rfl, ?_⟩
        walk_at "nm"
        refine ⟨_, rfl, _, rfl, _, rfl, _, rfl, _, rfl, _, rfl, _, rfl, _, _, _, _, _, _, _, _, _, _, _, _, _, _, rfl, ⟨⟨(by walk_at "sq"), (by walk_at "ho"), (by walk_at "sq"), (by walk_at "sq")⟩, hX.own⟩, _, rfl, _, _, _, _, _, _, _, _, _, _, _, _, rfl, ⟨⟨(by walk_at "sq"), (by walk_at "ho"), (by walk_at "sq")⟩, hL, ⟨hX.heard0, by have := hX.heard1; omega⟩, yI, xI⟩, _, _, rfl, rfl, ?_⟩
        refine tint (Q := Q) (i := HM.numIn L (x.harm L) x) ?_ (q _ (by walk_at "sm"))
        have e := num_of hL hX (h := x.harm L) (if_neg c1).symm (if_neg c2).symm (if_pos hd).symm
        rw [hd] at e
        try simp only [Int.add_zero] at e ⊢
        exact e
end
end HW
/-! part W7 -/
namespace HW
open PySem PySem.Spec PyProof.Rows L2 NdefX LamX
open HM (Lk Ct Lot)
local macro_rules | `(tactic| walk_at "in") => `(tactic| first | assumption | (constructor <;> omega))
local macro_rules | `(tactic| walk_at "en") => `(tactic| first | with_reducible assumption | exact ExtN.refl _ | (with_reducible apply extN_up2; assumption; walk_at "en") | (with_reducible apply extN_S2; assumption; walk_at "en") | (with_reducible apply extN_N2; assumption; walk_at "en"))
local macro_rules | `(tactic| walk_at "tb") => `(tactic| first | with_reducible assumption | (with_reducible apply Tabs.up2; assumption; walk_at "tb") | (with_reducible apply Tabs.S2; assumption; walk_at "tb"))
local macro_rules | `(tactic| walk_at "nf") => `(tactic| dsimp only [L2.cxOf, L2.Cx.nox, NdefX.startF, NdefX.slotAt, L2.start, List.set, List.getElem?_cons_zero, List.getElem?_cons_succ, Option.join, Option.bind, List.length, List.replicate, List.map, HAppend.hAppend, Append.append, List.append, Nat.reduceAdd, Nat.reduceSub, Nat.zero_add])
local macro_rules | `(tactic| walk_at "nm") => `(tactic| dsimp only [L2.cxOf, L2.Cx.nox, L2.start, List.set, List.length, List.replicate, List.map, HAppend.hAppend, Append.append, List.append, Nat.reduceAdd, Nat.reduceSub, Nat.zero_add])
local macro_rules | `(tactic| walk_at "sq0") => `(tactic| first | assumption | exact SqT.of upd_same | (apply sqT_up; assumption; walk_at "sq0") | (apply sqT_S; assumption; walk_at "sq0") | (apply sqT_N; assumption; walk_at "sq0"))
local macro_rules | `(tactic| walk_at "sq1") => `(tactic| first | assumption | exact SqT.of upd_same | (apply sqT_up; assumption; walk_at "sq1") | (apply sqT_S; assumption; walk_at "sq1") | (apply sqT_N; assumption; walk_at "sq1"))
local macro_rules | `(tactic| walk_at "sq") => `(tactic| first | with_reducible walk_at "sq0" | walk_at "sq1")
local macro_rules | `(tactic| walk_at "sl0") => `(tactic| first | assumption | exact SqL.of upd_same | exact SqL.of (by assumption) | (apply sqL_up; assumption; walk_at "sl0") | (apply sqL_S; assumption; walk_at "sl0") | (apply sqL_N; assumption; walk_at "sl0"))
local macro_rules | `(tactic| walk_at "sl1") => `(tactic| first | assumption | exact SqL.of upd_same | exact SqL.of (by assumption) | (apply sqL_up; assumption; walk_at "sl1") | (apply sqL_S; assumption; walk_at "sl1") | (apply sqL_N; assumption; walk_at "sl1"))
local macro_rules | `(tactic| walk_at "sl") => `(tactic| first | with_reducible walk_at "sl0" | walk_at "sl1")
local macro_rules | `(tactic| walk_at "lt0") => `(tactic| first | assumption | (apply LotV.up; assumption; walk_at "lt0") | (apply LotV.S; assumption; walk_at "lt0") | (apply LotV.N; assumption; walk_at "lt0"))
local macro_rules | `(tactic| walk_at "lt1") => `(tactic| first | assumption | (apply LotV.up; assumption; walk_at "lt1") | (apply LotV.S; assumption; walk_at "lt1") | (apply LotV.N; assumption; walk_at "lt1"))
local macro_rules | `(tactic| walk_at "lt") => `(tactic| first | with_reducible walk_at "lt0" | walk_at "lt1")
local macro_rules | `(tactic| walk_at "ct0") => `(tactic| first | assumption | (apply CtA.up; assumption; walk_at "ct0") | (apply CtA.S; assumption; walk_at "ct0") | (apply CtA.N; assumption; walk_at "ct0"))
local macro_rules | `(tactic| walk_at "ct1") => `(tactic| first | assumption | (apply CtA.up; assumption; walk_at "ct1") | (apply CtA.S; assumption; walk_at "ct1") | (apply CtA.N; assumption; walk_at "ct1"))
local macro_rules | `(tactic| walk_at "ct") => `(tactic| first | with_reducible walk_at "ct0" | walk_at "ct1")
local macro_rules | `(tactic| walk_at "ho0") => `(tactic| first | assumption | (apply HoA.up; assumption; walk_at "ho0") | (apply HoA.S; assumption; walk_at "ho0") | (apply HoA.N; assumption; walk_at "ho0"))
local macro_rules | `(tactic| walk_at "ho1") => `(tactic| first | assumption | (apply HoA.up; assumption; walk_at "ho1") | (apply HoA.S; assumption; walk_at "ho1") | (apply HoA.N; assumption; walk_at "ho1"))
local macro_rules | `(tactic| walk_at "ho") => `(tactic| first | with_reducible walk_at "ho0" | walk_at "ho1")
local macro_rules | `(tactic| walk_at "sm0") => `(tactic| first | assumption | exact Same.refl _ | (refine same_up ?_ (by assumption); walk_at "sm0") | (refine Same.trans ?_ (by assumption); walk_at "sm0") | exact same_new (by assumption) _)
local macro_rules | `(tactic| walk_at "sm1") => `(tactic| first | assumption | exact Same.refl _ | (refine same_up ?_ (by assumption); walk_at "sm1") | (refine Same.trans ?_ (by assumption); walk_at "sm1") | exact same_new (by assumption) _)
local macro_rules | `(tactic| walk_at "sm") => `(tactic| first | with_reducible walk_at "sm0" | walk_at "sm1")
local macro_rules | `(tactic| walk_at "pre") => `(tactic| first | assumption | omega | decide)
section
variable {P : Program} {w : World} {K : PySem.W.Frag} {mg : Str → Option Value} {base : Heap}
theorem Tabs.up2 {T : List (Addr × Str)} {H : Hp} {p : Addr} {o : HO} (np : H p = none) (t : Tabs T H) : Tabs T (upd H p o) := t.ext (same_new np o)
theorem Tabs.S2 {T : List (Addr × Str)} {H H' : Hp} (e : Same H H') (t : Tabs T H) : Tabs T H' := t.ext e
theorem extN_up2 {H H' : Hp} {p : Addr} {o : HO} (np : H' p = none) (e : ExtN H H') : ExtN H (upd H' p o) := extN_up e np
theorem extN_S2 {H H1 H' : Hp} (e : Same H1 H') (f : ExtN H H1) : ExtN H H' := f.trans (Same.extN e)
theorem extN_N2 {H H1 H' : Hp} (e : ExtN H1 H') (f : ExtN H H1) : ExtN H H' := f.trans e
local macro_rules | `(tactic| walk_at "en") => `(tactic| first | with_reducible assumption | exact ExtN.refl _ | (with_reducible apply extN_up2; assumption; walk_at "en") | (with_reducible apply extN_S2; assumption; walk_at "en") | (with_reducible apply extN_N2; assumption; walk_at "en"))
local macro_rules | `(tactic| walk_at "tb") => `(tactic| first | with_reducible assumption | (with_reducible apply Tabs.up2; assumption; walk_at "tb") | (with_reducible apply Tabs.S2; assumption; walk_at "tb"))
/-- the tables of the defs that hold lambdas -/
def tabW (K : PySem.W.Frag) : Addr := He.tabOf K (He.codeOf K ("wires_numbered", none))
def tabH (K : PySem.W.Frag) : Addr := He.tabOf K (He.codeOf K ("harm_numbered_in", none))
def lamT (K : PySem.W.Frag) : List (Addr × Str) := [(tabW K, ("wires_numbered" : Str) ++ ".<locals>." ++ "<lambda>"), (tabH K, ("harm_numbered_in" : Str) ++ ".<locals>." ++ "<lambda>")]
structure Tb (K : PySem.W.Frag) (mg : Str → Option Value) (base : Heap) : Prop where
  w : TabB base mg (He.codeOf K ("wires_numbered", none)) (tabW K)
  h : TabB base mg (He.codeOf K ("harm_numbered_in", none)) (tabH K)
  ne : tabW K ≠ tabH K
theorem Tb.uw {K : PySem.W.Frag} {mg : Str → Option Value} {base : Heap} (t : Tb K mg base) : ∀ p ∈ lamT K, p.1 = tabW K → p.2 = ("wires_numbered" : Str) ++ ".<locals>." ++ "<lambda>" := by
  intro p hp e
  rcases List.mem_cons.mp hp with rfl | hp
  · rfl
  · rcases List.mem_cons.mp hp with rfl | hp
    · exact absurd e.symm t.ne
    · exact absurd hp (by simp)
theorem Tb.uh {K : PySem.W.Frag} {mg : Str → Option Value} {base : Heap} (t : Tb K mg base) : ∀ p ∈ lamT K, p.1 = tabH K → p.2 = ("harm_numbered_in" : Str) ++ ".<locals>." ++ "<lambda>" := by
  intro p hp e
  rcases List.mem_cons.mp hp with rfl | hp
  · exact absurd e t.ne
  · rcases List.mem_cons.mp hp with rfl | hp
    · rfl
    · exact absurd hp (by simp)
theorem free_by {names : List (Str × NameKind)} {sc : Scope} (h : (names.all fun y => !decide (y.2 = .free) || decide (sc.names.lookup y.1 = some .cell) || decide (sc.names.lookup y.1 = some .free)) = true) : ∀ y ∈ names, y.2 = .free → sc.names.lookup y.1 = some .cell ∨ sc.names.lookup y.1 = some .free := by
  intro y hy e
  have q := List.all_eq_true.mp h y hy
  simp only [Bool.or_eq_true, Bool.not_eq_true', decide_eq_true_eq, decide_eq_false_iff_not] at q
  rcases q with (q | q) | q
  · exact absurd e q
  · exact .inl q
  · exact .inr q
theorem fn_mkC {k : Nat} {sp : Sp} (Fx : Facts K mg) (i : Nat) {x : Str} {st : Stmt} {N ps : List Str} (hi : fnAll[i]? = some ⟨(x, none), x, x, defArgs st, defBody st, defScope st, [], []⟩) (S : FnScope N ps (defScope st))
    (hb : ∀ (kV doc pm : Value) (an : Option Addr) (cdv ct : Value) (us : List Value), us.length = ps.length → bindArgs (PySem.W.fnOf x x (defArgs st) (defBody st) (defScope st) .none kV doc pm an cdv ct) ⟨us, []⟩ = pure (ps.zip us))
    (len : ∀ vs H Q E, sp vs H Q E → vs.length = ps.length)
    (body : ∀ (f : Addr) (A : Around) (outer : List Env) (s : Shared) (H : Hp) (vs : List V) (Q : VK) (E : XK), Room k (A.deeper (envOfC x (defScope st) s.heap.objs.size f (.ref (He.codeOf K (x, none))))) → sp vs H Q E →
      ∃ t, PSs (cxOf L2.CX0 P w K mg base N x (defScope st) f (.ref (He.codeOf K (x, none))) A outer s H E).nox (defBody st) t ∧ t { nx := fun _ H' => Q .non H', rt := Q } (L2.start N vs) H) : Fn P w K mg base (k + 1) x ps sp := by
  obtain ⟨fd, F⟩ := Fx.def_ i hi
  have F2 := F
  obtain ⟨oc, od, dV, kV, doc, pm, an, cdv, ct, osl, efd, lk, hcd, _, _⟩ := F.ex
  obtain ⟨c, rfl⟩ := He.codeIn_ref hcd
  have ec : He.codeOf K (x, none) = c := He.codeOf_eq (p := (x, none)) lk (by rw [efd])
  refine ⟨⟨fd, ?_, F2.bindsN hb⟩, Fx.gl i _ hi, F2.kp⟩
  subst efd
  refine fn_of lk hcd S len fun A outer s H vs Q E hr h => ?_
  rw [← ec] at hr ⊢
  obtain ⟨t, h1, h2⟩ := body _ A outer s H vs Q E hr h
  exact ⟨t, h1.nox, h2⟩
def sp_wires (K : PySem.W.Frag) : Sp := fun vs H Q _ => ∃ (al ah ac : Addr) (L : Lk) (bit heard own : Int) (l : Lot) (done : Bool) (cs : HM.Code × HM.Code) (k : Int), vs = [.ref al, .ref ah, .ref ac, .int k] ∧
  ((LkA K H al L ∧ HoA K H ah bit heard own l done ∧ CdA K H ac cs ∧ Tabs (lamT K) H) ∧ L.Ok ∧ (0 ≤ heard ∧ heard ≤ L.q) ∧ (own = 0 ∨ own = 1) ∧ HM.In (HM.wanted L l)) ∧
  ∀ n z o y x p tp bp H', ExtN H H' → Tabs (lamT K) H' → SqT K H' p [.ref tp, .ref bp] → ThA K H' tp n z o → BkA K H' bp y x → HM.Wires L bit heard own (HM.wanted L l) cs k n z o y x → Q (.ref p) H'
theorem sc_wires_numbered : FnScope ["link", "hosts", "codes", "number", "new", "left", "zeros", "ones", "there", "nil", "one", "places", "back", "code"] ["link", "hosts", "codes", "number"] (defScope s_wires_numbered) := ⟨rfl, rfl, rfl, by decide +kernel, rfl, by decide +kernel, by decide +kernel⟩
theorem ok_wires_numbered (Fx : Facts K mg) (TB : Tb K mg base) : Fn P w K mg base 6 "wires_numbered" ["link", "hosts", "codes", "number"] (sp_wires K) := by
  have F_there_amount := ok_there_amount (P := P) (w := w) (base := base) Fx
  have F_code_at := ok_code_at (P := P) (w := w) (base := base) Fx
  have F_back_amount := ok_back_amount (P := P) (w := w) (base := base) Fx
  obtain ⟨fdL, FL⟩ := Fx.def_ 17 (st := s_least_with) rfl
  refine fn_mkC Fx 47 (st := s_wires_numbered) rfl sc_wires_numbered (fun _ _ _ _ _ _ us hl => match us, hl with | [_, _, _, _], _ => rfl) (fun vs H Q E h => ?_) (fun f A outer s H vs Q E hr h => ?_)
  · obtain ⟨al, ah, ac, L, bit, heard, own, l, done, cs, k, rfl, _⟩ := h
    rfl
  obtain ⟨al, ah, ac, L, bit, heard, own, l, done, cs, k, rfl, ⟨⟨hl, hH, hc, hT⟩, hL, hq, ho, hw⟩, q⟩ := h
  obtain ⟨L1, L2, L3, L4, L5, L6⟩ := hL
  have hL : L.Ok := ⟨L1, L2, L3, L4, L5, L6⟩
  have hh : HM.In heard := in_of hq.1 hq.2 (HM.q_in hL)
  refine ⟨_, (pss_cons (ps_par (i := 11) (j := 12) rfl sc_wires_numbered.nd rfl rfl (by decide) rfl rfl (pa_cons (pe_ix ix_tup (pv 0) pe_int (fun _ _ => rfl)) (pa_cons (pe_ix ix_tup (pv 0) pe_int (fun _ _ => rfl)) pa_nil)) (by rfl)) (pss_cons (ps_set (i := 4) sc_wires_numbered.nd rfl (.inr rfl) (pe_least (T := lamT K) (k := 3) (js := [3, 0, 1, 2]) (fr := ["number", "link", "hosts", "codes"]) (N := ["count", "number", "link", "hosts", "codes"]) (c := He.codeOf K ("wires_numbered", none)) FL (by rfl) (Fx.gl 17 _ rfl) TB.w rfl (.head _) TB.uw (by rfl) (free_by (sc := defScope s_wires_numbered) (by decide +kernel)) (by decide +kernel) (by rfl) (nscope_by (by decide +kernel)) (fun _ _ _ _ _ _ => rfl) (hr.mono (by decide)) (fun _ => rfl) (pv 11) (fun _ _ _ _ _ _ hr => (pe_cmpR op_gt (pe_fn F_there_amount hr (pa_cons (pv 2) (pa_cons (pv 3) (pa_cons (pv 4) (pa_cons (pe_tup (pa_cons (pe_op op_add (pv 0) pe_int) (pa_cons pe_int (pa_cons pe_int pa_nil)))) pa_nil))))) (pv 1) (nomark _))))) (pss_cons (ps_set (i := 5) sc_wires_numbered.nd rfl (.inl rfl) (pe_op op_sub (pv 11) (pv 4))) (pss_cons (ps_set (i := 6) sc_wires_numbered.nd rfl (.inr rfl) (pe_least (T := lamT K) (k := 3) (js := [3, 0, 1, 2, 4]) (fr := ["number", "link", "hosts", "codes", "new"]) (N := ["count", "number", "link", "hosts", "codes", "new"]) (c := He.codeOf K ("wires_numbered", none)) FL (by rfl) (Fx.gl 17 _ rfl) TB.w rfl (.head _) TB.uw (by rfl) (free_by (sc := defScope s_wires_numbered) (by decide +kernel)) (by decide +kernel) (by rfl) (nscope_by (by decide +kernel)) (fun _ _ _ _ _ _ => rfl) (hr.mono (by decide)) (fun _ => rfl) (pv 5) (fun _ _ _ _ _ _ hr => (pe_cmpR op_gt (pe_fn F_there_amount hr (pa_cons (pv 2) (pa_cons (pv 3) (pa_cons (pv 4) (pa_cons (pe_tup (pa_cons (pv 5) (pa_cons (pe_op op_add (pv 0) pe_int) (pa_cons pe_int pa_nil)))) pa_nil))))) (pv 1) (nomark _))))) (pss_cons (ps_set (i := 5) sc_wires_numbered.nd rfl (.inl rfl) (pe_op op_sub (pv 5) (pv 6))) (pss_cons (ps_set (i := 7) sc_wires_numbered.nd rfl (.inl rfl) (pe_least (T := lamT K) (k := 3) (js := [3, 0, 1, 2, 4, 6]) (fr := ["number", "link", "hosts", "codes", "new", "zeros"]) (N := ["count", "number", "link", "hosts", "codes", "new", "zeros"]) (c := He.codeOf K ("wires_numbered", none)) FL (by rfl) (Fx.gl 17 _ rfl) TB.w rfl (.head _) TB.uw (by rfl) (free_by (sc := defScope s_wires_numbered) (by decide +kernel)) (by decide +kernel) (by rfl) (nscope_by (by decide +kernel)) (fun _ _ _ _ _ _ => rfl) (hr.mono (by decide)) (fun _ => rfl) (pv 5) (fun _ _ _ _ _ _ hr => (pe_cmpR op_gt (pe_fn F_there_amount hr (pa_cons (pv 2) (pa_cons (pv 3) (pa_cons (pv 4) (pa_cons (pe_tup (pa_cons (pv 5) (pa_cons (pv 6) (pa_cons (pe_op op_add (pv 0) pe_int) pa_nil)))) pa_nil))))) (pv 1) (nomark _))))) (pss_cons (ps_set (i := 8) sc_wires_numbered.nd rfl (.inl rfl) (pe_tup (pa_cons (pv 4) (pa_cons (pv 6) (pa_cons (pv 7) pa_nil))))) (pss_cons (ps_asg (pe_tup (pa_cons (pe_op op_sub (pv 3) (pe_fn F_there_amount hr (pa_cons (pv 0) (pa_cons (pv 1) (pa_cons (pv 2) (pa_cons (pv 8) pa_nil)))))) (pa_cons (pe_fn F_code_at hr (pa_cons (pv 0) (pa_cons (pv 1) (pa_cons (pv 2) (pa_cons (pv 8) pa_nil))))) pa_nil))) (pg_tup rfl (pgs_cons (pg_name (i := 3) sc_wires_numbered.nd rfl (.inr rfl)) (pgs_cons (pg_name (i := 13) sc_wires_numbered.nd rfl (.inr rfl)) pgs_nil)))) (pss_cons (ps_set (i := 9) sc_wires_numbered.nd rfl (.inr rfl) (pe_least (T := lamT K) (k := 3) (js := [3, 0, 1, 13]) (fr := ["number", "link", "hosts", "code"]) (N := ["count", "number", "link", "hosts", "code"]) (c := He.codeOf K ("wires_numbered", none)) FL (by rfl) (Fx.gl 17 _ rfl) TB.w rfl (.head _) TB.uw (by rfl) (free_by (sc := defScope s_wires_numbered) (by decide +kernel)) (by decide +kernel) (by rfl) (nscope_by (by decide +kernel)) (fun _ _ _ _ _ _ => rfl) (hr.mono (by decide)) (fun _ => rfl) (pv 12) (fun _ _ _ _ _ _ hr => (pe_cmpR op_gt (pe_fn F_back_amount hr (pa_cons (pv 2) (pa_cons (pv 3) (pa_cons (pv 4) (pa_cons (pe_tup (pa_cons (pe_op op_add (pv 0) pe_int) (pa_cons pe_int pa_nil))) pa_nil))))) (pv 1) (nomark _))))) (pss_cons (ps_set (i := 10) sc_wires_numbered.nd rfl (.inl rfl) (pe_least (T := lamT K) (k := 3) (js := [3, 0, 1, 13, 9]) (fr := ["number", "link", "hosts", "code", "nil"]) (N := ["count", "number", "link", "hosts", "code", "nil"]) (c := He.codeOf K ("wires_numbered", none)) FL (by rfl) (Fx.gl 17 _ rfl) TB.w rfl (.head _) TB.uw (by rfl) (free_by (sc := defScope s_wires_numbered) (by decide +kernel)) (by decide +kernel) (by rfl) (nscope_by (by decide +kernel)) (fun _ _ _ _ _ _ => rfl) (hr.mono (by decide)) (fun _ => rfl) (pe_op op_sub (pv 12) (pv 9)) (fun _ _ _ _ _ _ hr => (pe_cmpR op_gt (pe_fn F_back_amount hr (pa_cons (pv 2) (pa_cons (pv 3) (pa_cons (pv 4) (pa_cons (pe_tup (pa_cons (pv 5) (pa_cons (pe_op op_add (pv 0) pe_int) pa_nil))) pa_nil))))) (pv 1) (nomark _))))) (pss_one (ps_ret (pe_tup (pa_cons (pv 8) (pa_cons (pe_tup (pa_cons (pv 9) (pa_cons (pv 10) pa_nil))) pa_nil))))))))))))))), ?_⟩
  refine ⟨_, rfl, _, _, _, _, rfl, rfl, (by walk_at "sq"), rfl, _, rfl, _, _, _, _, rfl, rfl, (by walk_at "sq"), rfl, _, _, rfl, ?_⟩
  walk_at "nm"
  refine ⟨_, rfl, ?_⟩
  refine ⟨_, fun i => decide (k < HM.thereAmt L heard own (HM.wanted L l) cs (i + 1) 0 0), rfl, (by omega), (by walk_at "tb"), (fun i i0 i1 HZ1 eZ1 Qb hb => ?_), (fun n H1 e1 T1 l1 => ?_)⟩
  · try walk_at "nf"
    refine ⟨_, rfl, _, rfl, _, rfl, _, rfl, _, _, rfl, rfl, (by show 3 ≤ sizeLine; decide), fun p2 np2 => ?_⟩
    refine ⟨_, _, _, _, _, _, _, _, _, _, _, _, _, _, rfl, ⟨⟨(by walk_at "sq"), (by walk_at "ho"), (by walk_at "sq"), (by walk_at "sq")⟩, hL, hh, hw, (by walk_at "in"), (by walk_at "in"), (by walk_at "in")⟩, _, rfl, _, _, rfl, rfl, ?_⟩
    exact hb _ (by walk_at "sm")
  · have n1 := l1.lo
    have n2 := l1.hi
    walk_at "nm"
    refine ⟨_, rfl, _, rfl, _, _, rfl, rfl, ?_⟩
    walk_at "nm"
    refine ⟨_, rfl, ?_⟩
    refine ⟨_, fun i => decide (k < HM.thereAmt L heard own (HM.wanted L l) cs n (i + 1) 0), rfl, (by omega), (by walk_at "tb"), (fun i i0 i1 HZ3 eZ3 Qb hb => ?_), (fun z H3 e3 T3 l3 => ?_)⟩
    · try walk_at "nf"
      refine ⟨_, rfl, _, rfl, _, rfl, _, rfl, _, rfl, _, _, rfl, rfl, (by show 3 ≤ sizeLine; decide), fun p4 np4 => ?_⟩
      refine ⟨_, _, _, _, _, _, _, _, _, _, _, _, _, _, rfl, ⟨⟨(by walk_at "sq"), (by walk_at "ho"), (by walk_at "sq"), (by walk_at "sq")⟩, hL, hh, hw, (by walk_at "in"), (by walk_at "in"), (by walk_at "in")⟩, _, rfl, _, _, rfl, rfl, ?_⟩
      exact hb _ (by walk_at "sm")
    · have z1 := l3.lo
      have z2 := l3.hi
      walk_at "nm"
      refine ⟨_, rfl, _, rfl, _, _, rfl, rfl, ?_⟩
      walk_at "nm"
      refine ⟨_, rfl, ?_⟩
      refine ⟨_, fun i => decide (k < HM.thereAmt L heard own (HM.wanted L l) cs n z (i + 1)), rfl, (by omega), (by walk_at "tb"), (fun i i0 i1 HZ5 eZ5 Qb hb => ?_), (fun o H5 e5 T5 l5 => ?_)⟩
      · try walk_at "nf"
        refine ⟨_, rfl, _, rfl, _, rfl, _, rfl, _, rfl, _, rfl, _, _, rfl, rfl, (by show 3 ≤ sizeLine; decide), fun p6 np6 => ?_⟩
        refine ⟨_, _, _, _, _, _, _, _, _, _, _, _, _, _, rfl, ⟨⟨(by walk_at "sq"), (by walk_at "ho"), (by walk_at "sq"), (by walk_at "sq")⟩, hL, hh, hw, (by walk_at "in"), (by walk_at "in"), (by walk_at "in")⟩, _, rfl, _, _, rfl, rfl, ?_⟩
        exact hb _ (by walk_at "sm")
      · have o1 := l5.lo
        have o2 := l5.hi
        walk_at "nm"
        refine ⟨_, rfl, _, rfl, _, rfl, (by show 3 ≤ sizeLine; decide), fun p7 np7 => ?_⟩
        walk_at "nm"
        refine ⟨_, rfl, _, rfl, _, rfl, _, rfl, _, rfl, _, _, _, _, _, _, _, _, _, _, _, _, _, _, rfl, ⟨⟨(by walk_at "sq"), (by walk_at "ho"), (by walk_at "sq"), (by walk_at "sq")⟩, hL, hh, hw, (by walk_at "in"), (by walk_at "in"), (by walk_at "in")⟩, _, _, rfl, rfl, _, rfl, _, rfl, _, rfl, _, rfl, _, _, _, _, _, _, _, _, _, _, _, _, _, _, rfl, ⟨⟨(by walk_at "sq"), (by walk_at "ho"), (by walk_at "sq"), (by walk_at "sq")⟩, ho⟩, (by show 2 ≤ sizeLine; decide), fun p8 np8 => ?_⟩
        refine ⟨_, _, rfl, (by walk_at "sq"), rfl, _, _, rfl, _, _, rfl, rfl, ?_⟩
        walk_at "nm"
        refine ⟨_, rfl, ?_⟩
        refine ⟨_, fun i => decide (k - HM.thereAmt L heard own (HM.wanted L l) cs n z o < HM.backAmt L bit heard (HM.codeAt own (HM.wanted L l) cs z o) (i + 1) 0), rfl, (by omega), (by walk_at "tb"), (fun i i0 i1 HZ9 eZ9 Qb hb => ?_), (fun y H9 e9 T9 l9 => ?_)⟩
        · try walk_at "nf"
          refine ⟨_, rfl, _, rfl, _, rfl, _, rfl, _, _, rfl, rfl, (by show 2 ≤ sizeLine; decide), fun p10 np10 => ?_⟩
          refine ⟨_, _, _, _, _, _, _, _, _, _, _, _, rfl, ⟨⟨(by walk_at "sq"), (by walk_at "ho"), (by walk_at "sq")⟩, hL, hq, (by walk_at "in"), (by walk_at "in")⟩, _, rfl, _, _, rfl, rfl, ?_⟩
          exact hb _ (by walk_at "sm")
        · have y1 := l9.lo
          have y2 := l9.hi
          walk_at "nm"
          refine ⟨_, rfl, _, rfl, _, _, rfl, rfl, ?_⟩
          refine ⟨_, fun i => decide (k - HM.thereAmt L heard own (HM.wanted L l) cs n z o < HM.backAmt L bit heard (HM.codeAt own (HM.wanted L l) cs z o) y (i + 1)), rfl, (by omega), (by walk_at "tb"), (fun i i0 i1 HZ11 eZ11 Qb hb => ?_), (fun x H11 e11 T11 l11 => ?_)⟩
          · try walk_at "nf"
            refine ⟨_, rfl, _, rfl, _, rfl, _, rfl, _, rfl, _, _, rfl, rfl, (by show 2 ≤ sizeLine; decide), fun p12 np12 => ?_⟩
            refine ⟨_, _, _, _, _, _, _, _, _, _, _, _, rfl, ⟨⟨(by walk_at "sq"), (by walk_at "ho"), (by walk_at "sq")⟩, hL, hq, (by walk_at "in"), (by walk_at "in")⟩, _, rfl, _, _, rfl, rfl, ?_⟩
            exact hb _ (by walk_at "sm")
          · skip
            walk_at "nm"
            refine ⟨_, rfl, _, rfl, _, rfl, (by show 2 ≤ sizeLine; decide), fun p13 np13 => ?_⟩
            refine ⟨(by show 2 ≤ sizeLine; decide), fun p14 np14 => ?_⟩
            exact q n z o y x _ _ _ _ (by walk_at "en") (by walk_at "tb") (SqT.of upd_same) (by walk_at "sq") (by walk_at "sq") ⟨l1, l3, l5, l9, l11⟩
end
end HW
/-! part W8 -/
namespace HW
open PySem PySem.Spec PyProof.Rows L2 NdefX LamX
open HM (Lk Ct Lot)
local macro_rules | `(tactic| walk_at "in") => `(tactic| first | assumption | (constructor <;> omega))
local macro_rules | `(tactic| walk_at "en") => `(tactic| first | with_reducible assumption | exact ExtN.refl _ | (with_reducible apply extN_up2; assumption; walk_at "en") | (with_reducible apply extN_S2; assumption; walk_at "en") | (with_reducible apply extN_N2; assumption; walk_at "en"))
local macro_rules | `(tactic| walk_at "tb") => `(tactic| first | with_reducible assumption | (with_reducible apply Tabs.up2; assumption; walk_at "tb") | (with_reducible apply Tabs.S2; assumption; walk_at "tb"))
local macro_rules | `(tactic| walk_at "nf") => `(tactic| dsimp only [L2.cxOf, L2.Cx.nox, NdefX.startF, NdefX.slotAt, L2.start, List.set, List.getElem?_cons_zero, List.getElem?_cons_succ, Option.join, Option.bind, List.length, List.replicate, List.map, HAppend.hAppend, Append.append, List.append, Nat.reduceAdd, Nat.reduceSub, Nat.zero_add])
local macro_rules | `(tactic| walk_at "nm") => `(tactic| dsimp only [L2.cxOf, L2.Cx.nox, L2.start, List.set, List.length, List.replicate, List.map, HAppend.hAppend, Append.append, List.append, Nat.reduceAdd, Nat.reduceSub, Nat.zero_add])
local macro_rules | `(tactic| walk_at "sq0") => `(tactic| first | assumption | exact SqT.of upd_same | (apply sqT_up; assumption; walk_at "sq0") | (apply sqT_S; assumption; walk_at "sq0") | (apply sqT_N; assumption; walk_at "sq0"))
local macro_rules | `(tactic| walk_at "sq1") => `(tactic| first | assumption | exact SqT.of upd_same | (apply sqT_up; assumption; walk_at "sq1") | (apply sqT_S; assumption; walk_at "sq1") | (apply sqT_N; assumption; walk_at "sq1"))
local macro_rules | `(tactic| walk_at "sq") => `(tactic| first | with_reducible walk_at "sq0" | walk_at "sq1")
local macro_rules | `(tactic| walk_at "sl0") => `(tactic| first | assumption | exact SqL.of upd_same | exact SqL.of (by assumption) | (apply sqL_up; assumption; walk_at "sl0") | (apply sqL_S; assumption; walk_at "sl0") | (apply sqL_N; assumption; walk_at "sl0"))
local macro_rules | `(tactic| walk_at "sl1") => `(tactic| first | assumption | exact SqL.of upd_same | exact SqL.of (by assumption) | (apply sqL_up; assumption; walk_at "sl1") | (apply sqL_S; assumption; walk_at "sl1") | (apply sqL_N; assumption; walk_at "sl1"))
local macro_rules | `(tactic| walk_at "sl") => `(tactic| first | with_reducible walk_at "sl0" | walk_at "sl1")
local macro_rules | `(tactic| walk_at "lt0") => `(tactic| first | assumption | (apply LotV.up; assumption; walk_at "lt0") | (apply LotV.S; assumption; walk_at "lt0") | (apply LotV.N; assumption; walk_at "lt0"))
local macro_rules | `(tactic| walk_at "lt1") => `(tactic| first | assumption | (apply LotV.up; assumption; walk_at "lt1") | (apply LotV.S; assumption; walk_at "lt1") | (apply LotV.N; assumption; walk_at "lt1"))
local macro_rules | `(tactic| walk_at "lt") => `(tactic| first | with_reducible walk_at "lt0" | walk_at "lt1")
local macro_rules | `(tactic| walk_at "ct0") => `(tactic| first | assumption | (apply CtA.up; assumption; walk_at "ct0") | (apply CtA.S; assumption; walk_at "ct0") | (apply CtA.N; assumption; walk_at "ct0"))
local macro_rules | `(tactic| walk_at "ct1") => `(tactic| first | assumption | (apply CtA.up; assumption; walk_at "ct1") | (apply CtA.S; assumption; walk_at "ct1") | (apply CtA.N; assumption; walk_at "ct1"))
local macro_rules | `(tactic| walk_at "ct") => `(tactic| first | with_reducible walk_at "ct0" | walk_at "ct1")
local macro_rules | `(tactic| walk_at "ho0") => `(tactic| first | assumption | (apply HoA.up; assumption; walk_at "ho0") | (apply HoA.S; assumption; walk_at "ho0") | (apply HoA.N; assumption; walk_at "ho0"))
local macro_rules | `(tactic| walk_at "ho1") => `(tactic| first | assumption | (apply HoA.up; assumption; walk_at "ho1") | (apply HoA.S; assumption; walk_at "ho1") | (apply HoA.N; assumption; walk_at "ho1"))
local macro_rules | `(tactic| walk_at "ho") => `(tactic| first | with_reducible walk_at "ho0" | walk_at "ho1")
local macro_rules | `(tactic| walk_at "sm0") => `(tactic| first | assumption | exact Same.refl _ | (refine same_up ?_ (by assumption); walk_at "sm0") | (refine Same.trans ?_ (by assumption); walk_at "sm0") | exact same_new (by assumption) _)
local macro_rules | `(tactic| walk_at "sm1") => `(tactic| first | assumption | exact Same.refl _ | (refine same_up ?_ (by assumption); walk_at "sm1") | (refine Same.trans ?_ (by assumption); walk_at "sm1") | exact same_new (by assumption) _)
local macro_rules | `(tactic| walk_at "sm") => `(tactic| first | with_reducible walk_at "sm0" | walk_at "sm1")
local macro_rules | `(tactic| walk_at "pre") => `(tactic| first | assumption | omega | decide)
section
variable {P : Program} {w : World} {K : PySem.W.Frag} {mg : Str → Option Value} {base : Heap}
theorem in_lt {i m : Int} (h : HM.In m) (h0 : 0 ≤ i) (h1 : i < m - 1) : HM.In (i + 1) := ⟨by omega, by have := h.2; omega⟩
theorem in_le1 {i m : Int} (h : HM.In m) (h0 : 0 ≤ i) (h1 : i ≤ m - 1) : HM.In (i + 1) := ⟨by omega, by have := h.2; omega⟩
theorem in_le0 {i m : Int} (h : HM.In m) (h0 : 0 ≤ i) (h1 : i ≤ m - 1) : HM.In i := ⟨by omega, by have := h.2; omega⟩
theorem lotsIn_pos {L : Lk} (hL : L.Ok) (e : Bool) : 0 ≤ HM.lotsIn L e - 1 := by
  have h1 := hL.c1
  have h2 := hL.cp
  unfold HM.lotsIn
  split <;> omega
theorem wanted_in2 {L : Lk} (hL : L.Ok) {e : Bool} {n : Int} (h0 : 0 ≤ n) (h1 : n ≤ HM.lotsIn L e - 1) : HM.In (HM.wanted L (HM.lotOf L e n)) := by
  have hp := hL.pb
  have h3 := hL.c1
  have h4 := hL.cp
  unfold HM.lotsIn at h1
  unfold HM.lotOf
  by_cases c : n = 0
  · rw [if_pos c]; exact ⟨by show -(2 ^ 105) < L.p; omega, by show L.p < 2 ^ 105; omega⟩
  · rw [if_neg c]
    cases e with
    | true =>
      rw [if_pos rfl] at h1 ⊢
      exact ⟨by show -(2 ^ 105) < L.p - n; omega, by show L.p - n < 2 ^ 105; omega⟩
    | false =>
      rw [if_neg (by decide)] at h1 ⊢
      split
      · exact ⟨by show -(2 ^ 105) < L.p - (n - L.p + 1); omega, by show L.p - (n - L.p + 1) < 2 ^ 105; omega⟩
      · exact ⟨by show -(2 ^ 105) < L.p; omega, by show L.p < 2 ^ 105; omega⟩
def sp_harmnum (K : PySem.W.Frag) : Sp := fun vs H Q _ => ∃ (a : Addr) (L : Lk) (h k : Int), vs = [.ref a, .int h, .int k] ∧ (LkA K H a L ∧ Tabs (lamT K) H ∧ L.Ok ∧ (h = 0 ∨ h = 1 ∨ h = 2 ∨ h = 3) ∧ 0 ≤ k ∧ k < HM.counted L h) ∧
  ∀ (x : Ct) p H', ExtN H H' → Tabs (lamT K) H' → x.Ok L → x.harm L = h → HM.numIn L h x = k → CtA K H' L p x → Q (.ref p) H'
theorem sc_harm_numbered_in : FnScope ["link", "harm", "number", "heard", "first", "lots", "undone", "hosts", "half", "bit", "suffice", "whole", "own", "even", "most", "old", "done"] ["link", "harm", "number"] (defScope s_harm_numbered_in) := ⟨rfl, rfl, rfl, by decide +kernel, rfl, by decide +kernel, by decide +kernel⟩
theorem ok_harm_numbered_in (Fx : Facts K mg) (TB : Tb K mg base) : Fn P w K mg base 8 "harm_numbered_in" ["link", "harm", "number"] (sp_harmnum K) := by
  have F_heard_before := ok_heard_before (P := P) (w := w) (base := base) Fx
  have F_sufficing := ok_sufficing (P := P) (w := w) (base := base) Fx
  have F_back_size := ok_back_size (P := P) (w := w) (base := base) Fx
  have F_lots_amount := ok_lots_amount (P := P) (w := w) (base := base) Fx
  have F_lots_in := ok_lots_in (P := P) (w := w) (base := base) Fx
  have F_old_before := ok_old_before (P := P) (w := w) (base := base) Fx
  have F_amount := ok_amount (P := P) (w := w) (base := base) Fx
  have F_codes_of := ok_codes_of (P := P) (w := w) (base := base) Fx
  have F_there_size := ok_there_size (P := P) (w := w) (base := base) Fx
  have F_lot_numbered := ok_lot_numbered (P := P) (w := w) (base := base) Fx
  have F_wires_numbered := ok_wires_numbered (P := P) (w := w) (base := base) Fx TB
  obtain ⟨fdL, FL⟩ := Fx.def_ 17 (st := s_least_with) rfl
  refine fn_mkC Fx 48 (st := s_harm_numbered_in) rfl sc_harm_numbered_in (fun _ _ _ _ _ _ us hl => match us, hl with | [_, _, _], _ => rfl) (fun vs H Q E h => ?_) (fun f A outer s H vs Q E hr h => ?_)
  · obtain ⟨a, L, h, k, rfl, _⟩ := h
    rfl
  obtain ⟨a, L, h, k, rfl, ⟨hl, hT, hL, hh4, k0, k9⟩, q⟩ := h
  refine ⟨_, (pss_cons (ps_par (i := 8) (j := 9) rfl sc_harm_numbered_in.nd rfl rfl (by decide) rfl rfl (pa_cons (pe_fn F_heard_before hr (pa_cons (pv 0) (pa_cons (pv 1) (pa_cons (pe_ix ix_tup (pv 0) pe_int (fun _ _ => rfl)) pa_nil)))) (pa_cons pe_int pa_nil)) (by rfl)) (pss_cons (ps_if (pt_cmpR op_ge (pv 2) (pv 8) (nomark _)) (pss_one (ps_asg (pe_tup (pa_cons pe_int (pa_cons (pe_op op_sub (pv 2) (pv 8)) pa_nil))) (pg_tup rfl (pgs_cons (pg_name (i := 9) sc_harm_numbered_in.nd rfl (.inl rfl)) (pgs_cons (pg_name (i := 2) sc_harm_numbered_in.nd rfl (.inr rfl)) pgs_nil))))) pss_nil) (pss_cons (ps_set (i := 3) sc_harm_numbered_in.nd rfl (.inl rfl) (pe_least (T := lamT K) (k := 5) (js := [2, 0, 1]) (fr := ["number", "link", "harm"]) (N := ["count", "number", "link", "harm"]) (c := He.codeOf K ("harm_numbered_in", none)) FL (by rfl) (Fx.gl 17 _ rfl) TB.h rfl (.tail _ (.head _)) TB.uh (by rfl) (free_by (sc := defScope s_harm_numbered_in) (by decide +kernel)) (by decide +kernel) (by rfl) (nscope_by (by decide +kernel)) (fun _ _ _ _ _ _ => rfl) (hr.mono (by decide)) (fun _ => rfl) (pe_op op_sub (pe_ix ix_tup (pv 0) pe_int (fun _ _ => rfl)) pe_int) (fun _ _ _ _ _ _ hr => (pe_cmpR op_gt (pe_fn F_heard_before hr (pa_cons (pv 2) (pa_cons (pv 3) (pa_cons (pe_op op_add (pv 0) pe_int) pa_nil)))) (pv 1) (nomark _))))) (pss_cons (ps_set (i := 2) sc_harm_numbered_in.nd rfl (.inr rfl) (pe_op op_sub (pv 2) (pe_fn F_heard_before hr (pa_cons (pv 0) (pa_cons (pv 1) (pa_cons (pv 3) pa_nil)))))) (pss_cons (ps_asg (pe_tup (pa_cons (pe_fn F_sufficing hr (pa_cons (pv 0) (pa_cons (pv 3) pa_nil))) (pa_cons (pe_fn F_back_size hr (pa_cons (pv 0) pa_nil)) (pa_cons pe_int pa_nil)))) (pg_tup rfl (pgs_cons (pg_name (i := 10) sc_harm_numbered_in.nd rfl (.inr rfl)) (pgs_cons (pg_name (i := 11) sc_harm_numbered_in.nd rfl (.inr rfl)) (pgs_cons (pg_name (i := 12) sc_harm_numbered_in.nd rfl (.inl rfl)) pgs_nil))))) (pss_cons (ps_set (i := 4) sc_harm_numbered_in.nd rfl (.inl rfl) (pe_fn F_lots_amount hr (pa_cons (pv 0) (pa_cons (pv 1) (pa_cons (pe_cmpR op_eq (pv 9) pe_int (nomark _)) (pa_cons (pe_fn F_lots_in hr (pa_cons (pv 0) (pa_cons (pe_cmpR op_eq (pv 9) pe_int (nomark _)) pa_nil))) (pa_cons (pv 10) (pa_cons (pv 11) pa_nil)))))))) (pss_cons (ps_if (pt_cmpR op_ge (pv 2) (pv 4) (nomark _)) (pss_one (ps_asg (pe_tup (pa_cons pe_int (pa_cons (pe_op op_sub (pv 2) (pv 4)) pa_nil))) (pg_tup rfl (pgs_cons (pg_name (i := 12) sc_harm_numbered_in.nd rfl (.inl rfl)) (pgs_cons (pg_name (i := 2) sc_harm_numbered_in.nd rfl (.inr rfl)) pgs_nil))))) pss_nil) (pss_cons (ps_asg (pe_tup (pa_cons (pe_cmpR op_eq (pv 9) (pv 12) (nomark _)) (pa_cons (pe_op op_sub (pe_fn F_lots_in hr (pa_cons (pv 0) (pa_cons (pe_cmpR op_eq (pv 9) (pv 12) (nomark _)) pa_nil))) pe_int) pa_nil))) (pg_tup rfl (pgs_cons (pg_name (i := 13) sc_harm_numbered_in.nd rfl (.inr rfl)) (pgs_cons (pg_name (i := 14) sc_harm_numbered_in.nd rfl (.inl rfl)) pgs_nil)))) (pss_cons (ps_set (i := 5) sc_harm_numbered_in.nd rfl (.inl rfl) (pe_least (T := lamT K) (k := 5) (js := [2, 0, 1, 13, 10, 11]) (fr := ["number", "link", "harm", "even", "suffice", "whole"]) (N := ["count", "number", "link", "harm", "even", "suffice", "whole"]) (c := He.codeOf K ("harm_numbered_in", none)) FL (by rfl) (Fx.gl 17 _ rfl) TB.h rfl (.tail _ (.head _)) TB.uh (by rfl) (free_by (sc := defScope s_harm_numbered_in) (by decide +kernel)) (by decide +kernel) (by rfl) (nscope_by (by decide +kernel)) (fun _ _ _ _ _ _ => rfl) (hr.mono (by decide)) (fun _ => rfl) (pv 14) (fun _ _ _ _ _ _ hr => (pe_cmpR op_gt (pe_fn F_lots_amount hr (pa_cons (pv 2) (pa_cons (pv 3) (pa_cons (pv 4) (pa_cons (pe_op op_add (pv 0) pe_int) (pa_cons (pv 5) (pa_cons (pv 6) pa_nil))))))) (pv 1) (nomark _))))) (pss_cons (ps_set (i := 2) sc_harm_numbered_in.nd rfl (.inr rfl) (pe_op op_sub (pv 2) (pe_fn F_lots_amount hr (pa_cons (pv 0) (pa_cons (pv 1) (pa_cons (pv 13) (pa_cons (pv 5) (pa_cons (pv 10) (pa_cons (pv 11) pa_nil))))))))) (pss_cons (ps_par (i := 15) (j := 16) rfl sc_harm_numbered_in.nd rfl rfl (by decide) rfl rfl (pa_cons (pe_op op_sub (pe_fn F_old_before hr (pa_cons (pv 0) (pa_cons (pv 13) (pa_cons (pe_op op_add (pv 5) pe_int) pa_nil)))) (pe_fn F_old_before hr (pa_cons (pv 0) (pa_cons (pv 13) (pa_cons (pv 5) pa_nil))))) (pa_cons pe_bl pa_nil)) (by rfl)) (pss_cons (ps_set (i := 6) sc_harm_numbered_in.nd rfl (.inl rfl) (pe_fn F_amount hr (pa_cons (pe_fn F_codes_of hr (pa_cons (pv 1) (pa_cons (pv 13) (pa_cons pe_bl pa_nil)))) (pa_cons (pv 15) (pa_cons (pe_fn F_there_size hr (pa_cons (pv 0) pa_nil)) (pa_cons (pv 10) (pa_cons (pv 11) pa_nil))))))) (pss_cons (ps_if (pt_cmpR op_ge (pv 2) (pv 6) (nomark _)) (pss_one (ps_asg (pe_tup (pa_cons pe_bl (pa_cons (pe_op op_sub (pv 2) (pv 6)) pa_nil))) (pg_tup rfl (pgs_cons (pg_name (i := 16) sc_harm_numbered_in.nd rfl (.inl rfl)) (pgs_cons (pg_name (i := 2) sc_harm_numbered_in.nd rfl (.inr rfl)) pgs_nil))))) pss_nil) (pss_cons (ps_set (i := 7) sc_harm_numbered_in.nd rfl (.inl rfl) (pe_tup (pa_cons (pe_tup (pa_cons (pv 9) (pa_cons (pv 3) pa_nil))) (pa_cons (pe_tup (pa_cons (pv 12) (pa_cons (pe_fn F_lot_numbered hr (pa_cons (pv 0) (pa_cons (pv 13) (pa_cons (pv 5) pa_nil)))) (pa_cons (pv 16) pa_nil)))) pa_nil)))) (pss_one (ps_ret (pe_op op_catT (pv 7) (pe_fn F_wires_numbered hr (pa_cons (pv 0) (pa_cons (pv 7) (pa_cons (pe_fn F_codes_of hr (pa_cons (pv 1) (pa_cons (pv 13) (pa_cons (pv 16) pa_nil)))) (pa_cons (pv 2) pa_nil)))))))))))))))))))))), ?_⟩
  refine ⟨_, rfl, _, rfl, _, rfl, _, _, _, _, rfl, rfl, (by walk_at "sq"), rfl, _, _, _, _, rfl, ⟨(by walk_at "sq"), hL, HM.q_in hL⟩, fun H1 e1 => ?_⟩
  refine ⟨_, _, rfl, ?_⟩
  walk_at "nm"
  refine ⟨_, rfl, _, rfl, _, _, rfl, rfl, _, rfl, ?_⟩
  refine ite2 (fun c1 => ?_) (fun c1 => ?_)
  · replace c1 := dT c1
    refine ⟨_, rfl, _, rfl, _, _, rfl, rfl, (by show 2 ≤ sizeLine; decide), fun p2 np2 => ?_⟩
    refine ⟨_, _, rfl, (by walk_at "sq"), rfl, _, _, rfl, _, _, rfl, rfl, ?_⟩
    walk_at "nm"
    obtain ⟨k1, hk1⟩ : ∃ k1, k1 = k - HM.heardBef L h L.q := ⟨_, rfl⟩
    rw [← hk1]
    refine ⟨_, rfl, _, _, _, _, rfl, rfl, (by walk_at "sq"), rfl, _, _, rfl, rfl, ?_⟩
    refine ⟨_, fun i => decide (k1 < HM.heardBef L h (i + 1)), rfl, (by have := hL.d1; have := hL.dq; omega), (by walk_at "tb"), (fun i i0 i1 HZ3 eZ3 Qb hb => ?_), (fun heard H3 e3 T3 l3 => ?_)⟩
    · try walk_at "nf"
      refine ⟨_, rfl, _, rfl, _, rfl, _, _, rfl, rfl, _, _, _, _, rfl, ⟨(by walk_at "sq"), hL, in_lt (HM.q_in hL) i0 i1⟩, fun H4 e4 => ?_⟩
      refine ⟨_, rfl, _, _, rfl, rfl, ?_⟩
      exact hb _ (by walk_at "sm")
    · have hq : 0 ≤ heard ∧ heard ≤ L.q := ⟨l3.lo, by have := l3.hi; omega⟩
      have hh : HM.In heard := in_of hq.1 hq.2 (HM.q_in hL)
      have lH := l3
      walk_at "nm"
      refine ⟨_, rfl, _, rfl, _, rfl, _, rfl, _, _, _, _, rfl, ⟨(by walk_at "sq"), hL, hh⟩, fun H5 e5 => ?_⟩
      refine ⟨_, _, rfl, rfl, ?_⟩
      walk_at "nm"
      refine ⟨_, rfl, _, rfl, _, _, _, rfl, ⟨(by walk_at "sq"), hL, hh⟩, _, rfl, _, _, rfl, ⟨(by walk_at "sq"), hL⟩, (by show 3 ≤ sizeLine; decide), fun p6 np6 => ?_⟩
      refine ⟨_, _, rfl, (by walk_at "sq"), rfl, _, _, rfl, _, _, rfl, _, _, rfl, rfl, ?_⟩
      walk_at "nm"
      refine ⟨_, rfl, _, rfl, _, rfl, rfl, _, rfl, _, rfl, rfl, _, _, _, rfl, ⟨(by walk_at "sq"), hL⟩, _, rfl, _, rfl, _, _, _, _, _, _, _, rfl, ⟨(by walk_at "sq"), hL, HM.lotsIn_in hL _, (HM.suffic_bd hL hh).mono (by decide), (HM.backSize_bd hL).mono (by decide)⟩, fun H7 e7 => ?_⟩
      walk_at "nm"
      refine ⟨_, rfl, _, rfl, _, _, rfl, rfl, _, rfl, ?_⟩
      refine ite2 (fun c2 => ?_) (fun c2 => ?_)
      · replace c2 := dT c2
        refine ⟨_, rfl, _, rfl, _, _, rfl, rfl, (by show 2 ≤ sizeLine; decide), fun p8 np8 => ?_⟩
        refine ⟨_, _, rfl, (by walk_at "sq"), rfl, _, _, rfl, _, _, rfl, rfl, ?_⟩
        walk_at "nm"
        obtain ⟨k2, hk2⟩ : ∃ k2, k2 = k1 - HM.heardBef L h heard - HM.lotsAmt L h (decide (V.int 1 = V.int 0)) (HM.lotsIn L (decide (V.int 1 = V.int 0))) (HM.suffic L heard) (HM.backSize L) := ⟨_, rfl⟩
        rw [← hk2]
        refine ⟨_, rfl, _, rfl, rfl, _, rfl, _, rfl, _, rfl, rfl, _, _, _, rfl, ⟨(by walk_at "sq"), hL⟩, _, _, rfl, rfl, (by show 2 ≤ sizeLine; decide), fun p9 np9 => ?_⟩
        refine ⟨_, _, rfl, (by walk_at "sq"), rfl, _, _, rfl, _, _, rfl, rfl, ?_⟩
        walk_at "nm"
        refine ⟨_, rfl, ?_⟩
        refine ⟨_, fun i => decide (k2 < HM.lotsAmt L h (decide (V.int 1 = V.int 1)) (i + 1) (HM.suffic L heard) (HM.backSize L)), rfl, (lotsIn_pos hL _), (by walk_at "tb"), (fun i i0 i1 HZ10 eZ10 Qb hb => ?_), (fun lots H10 e10 T10 l10 => ?_)⟩
        · try walk_at "nf"
          refine ⟨_, rfl, _, rfl, _, rfl, _, rfl, _, _, rfl, rfl, _, rfl, _, rfl, _, _, _, _, _, _, _, rfl, ⟨(by walk_at "sq"), hL, in_lt (HM.lotsIn_in hL _) i0 i1, (HM.suffic_bd hL hh).mono (by decide), (HM.backSize_bd hL).mono (by decide)⟩, fun H11 e11 => ?_⟩
          refine ⟨_, rfl, _, _, rfl, rfl, ?_⟩
          exact hb _ (by walk_at "sm")
        · have m1 := l10.lo
          have m2 := l10.hi
          have hw := wanted_in2 hL m1 m2
          have lL := l10
          walk_at "nm"
          refine ⟨_, rfl, _, rfl, _, rfl, _, rfl, _, rfl, _, rfl, _, rfl, _, _, _, _, _, _, _, rfl, ⟨(by walk_at "sq"), hL, in_le0 (HM.lotsIn_in hL _) m1 m2, (HM.suffic_bd hL hh).mono (by decide), (HM.backSize_bd hL).mono (by decide)⟩, fun H12 e12 => ?_⟩
          refine ⟨_, _, rfl, rfl, ?_⟩
          walk_at "nm"
          refine ⟨_, rfl, _, rfl, _, rfl, _, _, rfl, rfl, _, _, _, _, rfl, ⟨(by walk_at "sq"), hL, in_le1 (HM.lotsIn_in hL _) m1 m2⟩, _, rfl, _, rfl, _, rfl, _, _, _, _, rfl, ⟨(by walk_at "sq"), hL, in_le0 (HM.lotsIn_in hL _) m1 m2⟩, _, _, rfl, rfl, _, _, rfl, ?_⟩
          walk_at "nm"
          refine ⟨_, rfl, _, rfl, _, _, _, rfl, fun a13 H13 e13 cd13 => ?_⟩
          refine ⟨_, rfl, _, rfl, _, _, rfl, ⟨(by walk_at "sq"), hL⟩, _, rfl, _, rfl, _, _, _, _, _, _, rfl, ⟨(by walk_at "sq"), ((HM.oldBef_bd hL (in_le1 (HM.lotsIn_in hL _) m1 m2)).sub (HM.oldBef_bd hL (in_le0 (HM.lotsIn_in hL _) m1 m2))).mono (by decide), (HM.thereSize_bd hL).mono (by decide), (HM.suffic_bd hL hh).mono (by decide), (HM.backSize_bd hL).mono (by decide)⟩, ?_⟩
          walk_at "nm"
          refine ⟨_, rfl, _, rfl, _, _, rfl, rfl, _, rfl, ?_⟩
          refine ite2 (fun c3 => ?_) (fun c3 => ?_)
          · replace c3 := dT c3
            refine ⟨_, rfl, _, rfl, _, _, rfl, rfl, (by show 2 ≤ sizeLine; decide), fun p14 np14 => ?_⟩
            refine ⟨_, _, rfl, (by walk_at "sq"), rfl, _, _, rfl, _, _, rfl, rfl, ?_⟩
            walk_at "nm"
            refine ⟨_, rfl, _, rfl, (by show 2 ≤ sizeLine; decide), fun p15 np15 => ?_⟩
            refine ⟨_, rfl, _, rfl, _, rfl, _, rfl, _, _, _, _, rfl, (by walk_at "sq"), fun v16 H16 e16 lv16 => ?_⟩
            have LV := lv16
            refine ⟨_, rfl, (by show 3 ≤ sizeLine; decide), fun p17 np17 => ?_⟩
            refine ⟨(by show 2 ≤ sizeLine; decide), fun p18 np18 => ?_⟩
            walk_at "nm"
            refine ⟨_, rfl, _, rfl, _, rfl, _, rfl, _, rfl, _, rfl, _, _, _, rfl, fun a19 H19 e19 cd19 => ?_⟩
            refine ⟨_, rfl, _, _, _, _, _, _, _, _, _, _, _, rfl, ⟨⟨(by walk_at "sq"), ⟨⟨_, _, _, (by walk_at "sq"), (by walk_at "sq"), (by walk_at "sq"), (by walk_at "lt")⟩⟩, (by walk_at "sq"), (by walk_at "tb")⟩, hL, hq, (by first | exact .inl rfl | exact .inr rfl), hw⟩, fun n z o y x p20 tp bp H20 e20 T20 s20 t20 b20 W => ?_⟩
            refine ⟨_, _, _, _, rfl, rfl, (by walk_at "sq"), (by walk_at "sq"), (by simp), (by show 2 + 2 ≤ sizeLine; decide), fun z => absurd z (by simp), fun _ p21 np21 => ?_⟩
            simp only [int_eqv] at c2 hk2 lL c3 W
            have N : HM.Numd L h k ⟨1, heard, 1, lots, true, n, z, o, y, x⟩ k1 k2 _ _ := ⟨.inl ⟨c1, rfl, hk1⟩, lH, .inl ⟨c2, rfl, hk2⟩, lL, rfl, .inl ⟨c3, rfl, rfl⟩, W⟩
            obtain ⟨X1, X2, X3⟩ := N.is hL hh4 k0 k9
            have lv2 := LV
            simp only [int_eqv] at lv2
            exact q _ _ _ (by walk_at "en") (by walk_at "tb") X1 X2 X3 ⟨⟨_, _, _, _, _, SqT.of (upd_same.trans rfl), (by walk_at "sq"), (by walk_at "sq"), (by walk_at "lt"), (by walk_at "sq"), (by walk_at "sq")⟩⟩
          · replace c3 := dF c3
            refine ⟨_, rfl, _, rfl, (by show 2 ≤ sizeLine; decide), fun p22 np22 => ?_⟩
            refine ⟨_, rfl, _, rfl, _, rfl, _, rfl, _, _, _, _, rfl, (by walk_at "sq"), fun v23 H23 e23 lv23 => ?_⟩
            have LV := lv23
            refine ⟨_, rfl, (by show 3 ≤ sizeLine; decide), fun p24 np24 => ?_⟩
            refine ⟨(by show 2 ≤ sizeLine; decide), fun p25 np25 => ?_⟩
            walk_at "nm"
            refine ⟨_, rfl, _, rfl, _, rfl, _, rfl, _, rfl, _, rfl, _, _, _, rfl, fun a26 H26 e26 cd26 => ?_⟩
            refine ⟨_, rfl, _, _, _, _, _, _, _, _, _, _, _, rfl, ⟨⟨(by walk_at "sq"), ⟨⟨_, _, _, (by walk_at "sq"), (by walk_at "sq"), (by walk_at "sq"), (by walk_at "lt")⟩⟩, (by walk_at "sq"), (by walk_at "tb")⟩, hL, hq, (by first | exact .inl rfl | exact .inr rfl), hw⟩, fun n z o y x p27 tp bp H27 e27 T27 s27 t27 b27 W => ?_⟩
            refine ⟨_, _, _, _, rfl, rfl, (by walk_at "sq"), (by walk_at "sq"), (by simp), (by show 2 + 2 ≤ sizeLine; decide), fun z => absurd z (by simp), fun _ p28 np28 => ?_⟩
            simp only [int_eqv] at c2 hk2 lL c3 W
            have N : HM.Numd L h k ⟨1, heard, 1, lots, false, n, z, o, y, x⟩ k1 k2 _ _ := ⟨.inl ⟨c1, rfl, hk1⟩, lH, .inl ⟨c2, rfl, hk2⟩, lL, rfl, .inr ⟨Int.not_le.mp c3, rfl, rfl⟩, W⟩
            obtain ⟨X1, X2, X3⟩ := N.is hL hh4 k0 k9
            have lv2 := LV
            simp only [int_eqv] at lv2
            exact q _ _ _ (by walk_at "en") (by walk_at "tb") X1 X2 X3 ⟨⟨_, _, _, _, _, SqT.of (upd_same.trans rfl), (by walk_at "sq"), (by walk_at "sq"), (by walk_at "lt"), (by walk_at "sq"), (by walk_at "sq")⟩⟩
      · replace c2 := dF c2
        obtain ⟨k2, hk2⟩ : ∃ k2, k2 = k1 - HM.heardBef L h heard := ⟨_, rfl⟩
        rw [← hk2]
        refine ⟨_, rfl, _, rfl, rfl, _, rfl, _, rfl, _, rfl, rfl, _, _, _, rfl, ⟨(by walk_at "sq"), hL⟩, _, _, rfl, rfl, (by show 2 ≤ sizeLine; decide), fun p29 np29 => ?_⟩
        refine ⟨_, _, rfl, (by walk_at "sq"), rfl, _, _, rfl, _, _, rfl, rfl, ?_⟩
        walk_at "nm"
        refine ⟨_, rfl, ?_⟩
        refine ⟨_, fun i => decide (k2 < HM.lotsAmt L h (decide (V.int 1 = V.int 0)) (i + 1) (HM.suffic L heard) (HM.backSize L)), rfl, (lotsIn_pos hL _), (by walk_at "tb"), (fun i i0 i1 HZ30 eZ30 Qb hb => ?_), (fun lots H30 e30 T30 l30 => ?_)⟩
        · try walk_at "nf"
          refine ⟨_, rfl, _, rfl, _, rfl, _, rfl, _, _, rfl, rfl, _, rfl, _, rfl, _, _, _, _, _, _, _, rfl, ⟨(by walk_at "sq"), hL, in_lt (HM.lotsIn_in hL _) i0 i1, (HM.suffic_bd hL hh).mono (by decide), (HM.backSize_bd hL).mono (by decide)⟩, fun H31 e31 => ?_⟩
          refine ⟨_, rfl, _, _, rfl, rfl, ?_⟩
          exact hb _ (by walk_at "sm")
        · have m1 := l30.lo
          have m2 := l30.hi
          have hw := wanted_in2 hL m1 m2
          have lL := l30
          walk_at "nm"
          refine ⟨_, rfl, _, rfl, _, rfl, _, rfl, _, rfl, _, rfl, _, rfl, _, _, _, _, _, _, _, rfl, ⟨(by walk_at "sq"), hL, in_le0 (HM.lotsIn_in hL _) m1 m2, (HM.suffic_bd hL hh).mono (by decide), (HM.backSize_bd hL).mono (by decide)⟩, fun H32 e32 => ?_⟩
          refine ⟨_, _, rfl, rfl, ?_⟩
          walk_at "nm"
          refine ⟨_, rfl, _, rfl, _, rfl, _, _, rfl, rfl, _, _, _, _, rfl, ⟨(by walk_at "sq"), hL, in_le1 (HM.lotsIn_in hL _) m1 m2⟩, _, rfl, _, rfl, _, rfl, _, _, _, _, rfl, ⟨(by walk_at "sq"), hL, in_le0 (HM.lotsIn_in hL _) m1 m2⟩, _, _, rfl, rfl, _, _, rfl, ?_⟩
          walk_at "nm"
          refine ⟨_, rfl, _, rfl, _, _, _, rfl, fun a33 H33 e33 cd33 => ?_⟩
          refine ⟨_, rfl, _, rfl, _, _, rfl, ⟨(by walk_at "sq"), hL⟩, _, rfl, _, rfl, _, _, _, _, _, _, rfl, ⟨(by walk_at "sq"), ((HM.oldBef_bd hL (in_le1 (HM.lotsIn_in hL _) m1 m2)).sub (HM.oldBef_bd hL (in_le0 (HM.lotsIn_in hL _) m1 m2))).mono (by decide), (HM.thereSize_bd hL).mono (by decide), (HM.suffic_bd hL hh).mono (by decide), (HM.backSize_bd hL).mono (by decide)⟩, ?_⟩
          walk_at "nm"
          refine ⟨_, rfl, _, rfl, _, _, rfl, rfl, _, rfl, ?_⟩
          refine ite2 (fun c3 => ?_) (fun c3 => ?_)
          · replace c3 := dT c3
            refine ⟨_, rfl, _, rfl, _, _, rfl, rfl, (by show 2 ≤ sizeLine; decide), fun p34 np34 => ?_⟩
            refine ⟨_, _, rfl, (by walk_at "sq"), rfl, _, _, rfl, _, _, rfl, rfl, ?_⟩
            walk_at "nm"
            refine ⟨_, rfl, _, rfl, (by show 2 ≤ sizeLine; decide), fun p35 np35 => ?_⟩
            refine ⟨_, rfl, _, rfl, _, rfl, _, rfl, _, _, _, _, rfl, (by walk_at "sq"), fun v36 H36 e36 lv36 => ?_⟩
            have LV := lv36
            refine ⟨_, rfl, (by show 3 ≤ sizeLine; decide), fun p37 np37 => ?_⟩
            refine ⟨(by show 2 ≤ sizeLine; decide), fun p38 np38 => ?_⟩
            walk_at "nm"
            refine ⟨_, rfl, _, rfl, _, rfl, _, rfl, _, rfl, _, rfl, _, _, _, rfl, fun a39 H39 e39 cd39 => ?_⟩
            refine ⟨_, rfl, _, _, _, _, _, _, _, _, _, _, _, rfl, ⟨⟨(by walk_at "sq"), ⟨⟨_, _, _, (by walk_at "sq"), (by walk_at "sq"), (by walk_at "sq"), (by walk_at "lt")⟩⟩, (by walk_at "sq"), (by walk_at "tb")⟩, hL, hq, (by first | exact .inl rfl | exact .inr rfl), hw⟩, fun n z o y x p40 tp bp H40 e40 T40 s40 t40 b40 W => ?_⟩
            refine ⟨_, _, _, _, rfl, rfl, (by walk_at "sq"), (by walk_at "sq"), (by simp), (by show 2 + 2 ≤ sizeLine; decide), fun z => absurd z (by simp), fun _ p41 np41 => ?_⟩
            simp only [int_eqv] at c2 hk2 lL c3 W
            have N : HM.Numd L h k ⟨1, heard, 0, lots, true, n, z, o, y, x⟩ k1 k2 _ _ := ⟨.inl ⟨c1, rfl, hk1⟩, lH, .inr ⟨Int.not_le.mp c2, rfl, hk2⟩, lL, rfl, .inl ⟨c3, rfl, rfl⟩, W⟩
            obtain ⟨X1, X2, X3⟩ := N.is hL hh4 k0 k9
            have lv2 := LV
            simp only [int_eqv] at lv2
            exact q _ _ _ (by walk_at "en") (by walk_at "tb") X1 X2 X3 ⟨⟨_, _, _, _, _, SqT.of (upd_same.trans rfl), (by walk_at "sq"), (by walk_at "sq"), (by walk_at "lt"), (by walk_at "sq"), (by walk_at "sq")⟩⟩
          · replace c3 := dF c3
            refine ⟨_, rfl, _, rfl, (by show 2 ≤ sizeLine; decide), fun p42 np42 => ?_⟩
            refine ⟨_, rfl, _, rfl, _, rfl, _, rfl, _, _, _, _, rfl, (by walk_at "sq"), fun v43 H43 e43 lv43 => ?_⟩
            have LV := lv43
            refine ⟨_, rfl, (by show 3 ≤ sizeLine; decide), fun p44 np44 => ?_⟩
            refine ⟨(by show 2 ≤ sizeLine; decide), fun p45 np45 => ?_⟩
            walk_at "nm"
            refine ⟨_, rfl, _, rfl, _, rfl, _, rfl, _, rfl, _, rfl, _, _, _, rfl, fun a46 H46 e46 cd46 => ?_⟩
            refine ⟨_, rfl, _, _, _, _, _, _, _, _, _, _, _, rfl, ⟨⟨(by walk_at "sq"), ⟨⟨_, _, _, (by walk_at "sq"), (by walk_at "sq"), (by walk_at "sq"), (by walk_at "lt")⟩⟩, (by walk_at "sq"), (by walk_at "tb")⟩, hL, hq, (by first | exact .inl rfl | exact .inr rfl), hw⟩, fun n z o y x p47 tp bp H47 e47 T47 s47 t47 b47 W => ?_⟩
            refine ⟨_, _, _, _, rfl, rfl, (by walk_at "sq"), (by walk_at "sq"), (by simp), (by show 2 + 2 ≤ sizeLine; decide), fun z => absurd z (by simp), fun _ p48 np48 => ?_⟩
            simp only [int_eqv] at c2 hk2 lL c3 W
            have N : HM.Numd L h k ⟨1, heard, 0, lots, false, n, z, o, y, x⟩ k1 k2 _ _ := ⟨.inl ⟨c1, rfl, hk1⟩, lH, .inr ⟨Int.not_le.mp c2, rfl, hk2⟩, lL, rfl, .inr ⟨Int.not_le.mp c3, rfl, rfl⟩, W⟩
            obtain ⟨X1, X2, X3⟩ := N.is hL hh4 k0 k9
            have lv2 := LV
            simp only [int_eqv] at lv2
            exact q _ _ _ (by walk_at "en") (by walk_at "tb") X1 X2 X3 ⟨⟨_, _, _, _, _, SqT.of (upd_same.trans rfl), (by walk_at "sq"), (by walk_at "sq"), (by walk_at "lt"), (by walk_at "sq"), (by walk_at "sq")⟩⟩
  · replace c1 := dF c1
    obtain ⟨k1, hk1⟩ : ∃ k1, k1 = k := ⟨_, rfl⟩
    rw [← hk1]
    refine ⟨_, rfl, _, _, _, _, rfl, rfl, (by walk_at "sq"), rfl, _, _, rfl, rfl, ?_⟩
    refine ⟨_, fun i => decide (k1 < HM.heardBef L h (i + 1)), rfl, (by have := hL.d1; have := hL.dq; omega), (by walk_at "tb"), (fun i i0 i1 HZ49 eZ49 Qb hb => ?_), (fun heard H49 e49 T49 l49 => ?_)⟩
    · try walk_at "nf"
      refine ⟨_, rfl, _, rfl, _, rfl, _, _, rfl, rfl, _, _, _, _, rfl, ⟨(by walk_at "sq"), hL, in_lt (HM.q_in hL) i0 i1⟩, fun H50 e50 => ?_⟩
      refine ⟨_, rfl, _, _, rfl, rfl, ?_⟩
      exact hb _ (by walk_at "sm")
    · have hq : 0 ≤ heard ∧ heard ≤ L.q := ⟨l49.lo, by have := l49.hi; omega⟩
      have hh : HM.In heard := in_of hq.1 hq.2 (HM.q_in hL)
      have lH := l49
      walk_at "nm"
      refine ⟨_, rfl, _, rfl, _, rfl, _, rfl, _, _, _, _, rfl, ⟨(by walk_at "sq"), hL, hh⟩, fun H51 e51 => ?_⟩
      refine ⟨_, _, rfl, rfl, ?_⟩
      walk_at "nm"
      refine ⟨_, rfl, _, rfl, _, _, _, rfl, ⟨(by walk_at "sq"), hL, hh⟩, _, rfl, _, _, rfl, ⟨(by walk_at "sq"), hL⟩, (by show 3 ≤ sizeLine; decide), fun p52 np52 => ?_⟩
      refine ⟨_, _, rfl, (by walk_at "sq"), rfl, _, _, rfl, _, _, rfl, _, _, rfl, rfl, ?_⟩
      walk_at "nm"
      refine ⟨_, rfl, _, rfl, _, rfl, rfl, _, rfl, _, rfl, rfl, _, _, _, rfl, ⟨(by walk_at "sq"), hL⟩, _, rfl, _, rfl, _, _, _, _, _, _, _, rfl, ⟨(by walk_at "sq"), hL, HM.lotsIn_in hL _, (HM.suffic_bd hL hh).mono (by decide), (HM.backSize_bd hL).mono (by decide)⟩, fun H53 e53 => ?_⟩
      walk_at "nm"
      refine ⟨_, rfl, _, rfl, _, _, rfl, rfl, _, rfl, ?_⟩
      refine ite2 (fun c2 => ?_) (fun c2 => ?_)
      · replace c2 := dT c2
        refine ⟨_, rfl, _, rfl, _, _, rfl, rfl, (by show 2 ≤ sizeLine; decide), fun p54 np54 => ?_⟩
        refine ⟨_, _, rfl, (by walk_at "sq"), rfl, _, _, rfl, _, _, rfl, rfl, ?_⟩
        walk_at "nm"
        obtain ⟨k2, hk2⟩ : ∃ k2, k2 = k1 - HM.heardBef L h heard - HM.lotsAmt L h (decide (V.int 0 = V.int 0)) (HM.lotsIn L (decide (V.int 0 = V.int 0))) (HM.suffic L heard) (HM.backSize L) := ⟨_, rfl⟩
        rw [← hk2]
        refine ⟨_, rfl, _, rfl, rfl, _, rfl, _, rfl, _, rfl, rfl, _, _, _, rfl, ⟨(by walk_at "sq"), hL⟩, _, _, rfl, rfl, (by show 2 ≤ sizeLine; decide), fun p55 np55 => ?_⟩
        refine ⟨_, _, rfl, (by walk_at "sq"), rfl, _, _, rfl, _, _, rfl, rfl, ?_⟩
        walk_at "nm"
        refine ⟨_, rfl, ?_⟩
        refine ⟨_, fun i => decide (k2 < HM.lotsAmt L h (decide (V.int 0 = V.int 1)) (i + 1) (HM.suffic L heard) (HM.backSize L)), rfl, (lotsIn_pos hL _), (by walk_at "tb"), (fun i i0 i1 HZ56 eZ56 Qb hb => ?_), (fun lots H56 e56 T56 l56 => ?_)⟩
        · try walk_at "nf"
          refine ⟨_, rfl, _, rfl, _, rfl, _, rfl, _, _, rfl, rfl, _, rfl, _, rfl, _, _, _, _, _, _, _, rfl, ⟨(by walk_at "sq"), hL, in_lt (HM.lotsIn_in hL _) i0 i1, (HM.suffic_bd hL hh).mono (by decide), (HM.backSize_bd hL).mono (by decide)⟩, fun H57 e57 => ?_⟩
          refine ⟨_, rfl, _, _, rfl, rfl, ?_⟩
          exact hb _ (by walk_at "sm")
        · have m1 := l56.lo
          have m2 := l56.hi
          have hw := wanted_in2 hL m1 m2
          have lL := l56
          walk_at "nm"
          refine ⟨_, rfl, _, rfl, _, rfl, _, rfl, _, rfl, _, rfl, _, rfl, _, _, _, _, _, _, _, rfl, ⟨(by walk_at "sq"), hL, in_le0 (HM.lotsIn_in hL _) m1 m2, (HM.suffic_bd hL hh).mono (by decide), (HM.backSize_bd hL).mono (by decide)⟩, fun H58 e58 => ?_⟩
          refine ⟨_, _, rfl, rfl, ?_⟩
          walk_at "nm"
          refine ⟨_, rfl, _, rfl, _, rfl, _, _, rfl, rfl, _, _, _, _, rfl, ⟨(by walk_at "sq"), hL, in_le1 (HM.lotsIn_in hL _) m1 m2⟩, _, rfl, _, rfl, _, rfl, _, _, _, _, rfl, ⟨(by walk_at "sq"), hL, in_le0 (HM.lotsIn_in hL _) m1 m2⟩, _, _, rfl, rfl, _, _, rfl, ?_⟩
          walk_at "nm"
          refine ⟨_, rfl, _, rfl, _, _, _, rfl, fun a59 H59 e59 cd59 => ?_⟩
          refine ⟨_, rfl, _, rfl, _, _, rfl, ⟨(by walk_at "sq"), hL⟩, _, rfl, _, rfl, _, _, _, _, _, _, rfl, ⟨(by walk_at "sq"), ((HM.oldBef_bd hL (in_le1 (HM.lotsIn_in hL _) m1 m2)).sub (HM.oldBef_bd hL (in_le0 (HM.lotsIn_in hL _) m1 m2))).mono (by decide), (HM.thereSize_bd hL).mono (by decide), (HM.suffic_bd hL hh).mono (by decide), (HM.backSize_bd hL).mono (by decide)⟩, ?_⟩
          walk_at "nm"
          refine ⟨_, rfl, _, rfl, _, _, rfl, rfl, _, rfl, ?_⟩
          refine ite2 (fun c3 => ?_) (fun c3 => ?_)
          · replace c3 := dT c3
            refine ⟨_, rfl, _, rfl, _, _, rfl, rfl, (by show 2 ≤ sizeLine; decide), fun p60 np60 => ?_⟩
            refine ⟨_, _, rfl, (by walk_at "sq"), rfl, _, _, rfl, _, _, rfl, rfl, ?_⟩
            walk_at "nm"
            refine ⟨_, rfl, _, rfl, (by show 2 ≤ sizeLine; decide), fun p61 np61 => ?_⟩
            refine ⟨_, rfl, _, rfl, _, rfl, _, rfl, _, _, _, _, rfl, (by walk_at "sq"), fun v62 H62 e62 lv62 => ?_⟩
            have LV := lv62
            refine ⟨_, rfl, (by show 3 ≤ sizeLine; decide), fun p63 np63 => ?_⟩
            refine ⟨(by show 2 ≤ sizeLine; decide), fun p64 np64 => ?_⟩
            walk_at "nm"
            refine ⟨_, rfl, _, rfl, _, rfl, _, rfl, _, rfl, _, rfl, _, _, _, rfl, fun a65 H65 e65 cd65 => ?_⟩
            refine ⟨_, rfl, _, _, _, _, _, _, _, _, _, _, _, rfl, ⟨⟨(by walk_at "sq"), ⟨⟨_, _, _, (by walk_at "sq"), (by walk_at "sq"), (by walk_at "sq"), (by walk_at "lt")⟩⟩, (by walk_at "sq"), (by walk_at "tb")⟩, hL, hq, (by first | exact .inl rfl | exact .inr rfl), hw⟩, fun n z o y x p66 tp bp H66 e66 T66 s66 t66 b66 W => ?_⟩
            refine ⟨_, _, _, _, rfl, rfl, (by walk_at "sq"), (by walk_at "sq"), (by simp), (by show 2 + 2 ≤ sizeLine; decide), fun z => absurd z (by simp), fun _ p67 np67 => ?_⟩
            simp only [int_eqv] at c2 hk2 lL c3 W
            have N : HM.Numd L h k ⟨0, heard, 1, lots, true, n, z, o, y, x⟩ k1 k2 _ _ := ⟨.inr ⟨Int.not_le.mp c1, rfl, hk1⟩, lH, .inl ⟨c2, rfl, hk2⟩, lL, rfl, .inl ⟨c3, rfl, rfl⟩, W⟩
            obtain ⟨X1, X2, X3⟩ := N.is hL hh4 k0 k9
            have lv2 := LV
            simp only [int_eqv] at lv2
            exact q _ _ _ (by walk_at "en") (by walk_at "tb") X1 X2 X3 ⟨⟨_, _, _, _, _, SqT.of (upd_same.trans rfl), (by walk_at "sq"), (by walk_at "sq"), (by walk_at "lt"), (by walk_at "sq"), (by walk_at "sq")⟩⟩
          · replace c3 := dF c3
            refine ⟨_, rfl, _, rfl, (by show 2 ≤ sizeLine; decide), fun p68 np68 => ?_⟩
            refine ⟨_, rfl, _, rfl, _, rfl, _, rfl, _, _, _, _, rfl, (by walk_at "sq"), fun v69 H69 e69 lv69 => ?_⟩
            have LV := lv69
            refine ⟨_, rfl, (by show 3 ≤ sizeLine; decide), fun p70 np70 => ?_⟩
            refine ⟨(by show 2 ≤ sizeLine; decide), fun p71 np71 => ?_⟩
            walk_at "nm"
            refine ⟨_, rfl, _, rfl, _, rfl, _, rfl, _, rfl, _, rfl, _, _, _, rfl, fun a72 H72 e72 cd72 => ?_⟩
            refine ⟨_, rfl, _, _, _, _, _, _, _, _, _, _, _, rfl, ⟨⟨(by walk_at "sq"), ⟨⟨_, _, _, (by walk_at "sq"), (by walk_at "sq"), (by walk_at "sq"), (by walk_at "lt")⟩⟩, (by walk_at "sq"), (by walk_at "tb")⟩, hL, hq, (by first | exact .inl rfl | exact .inr rfl), hw⟩, fun n z o y x p73 tp bp H73 e73 T73 s73 t73 b73 W => ?_⟩
            refine ⟨_, _, _, _, rfl, rfl, (by walk_at "sq"), (by walk_at "sq"), (by simp), (by show 2 + 2 ≤ sizeLine; decide), fun z => absurd z (by simp), fun _ p74 np74 => ?_⟩
            simp only [int_eqv] at c2 hk2 lL c3 W
            have N : HM.Numd L h k ⟨0, heard, 1, lots, false, n, z, o, y, x⟩ k1 k2 _ _ := ⟨.inr ⟨Int.not_le.mp c1, rfl, hk1⟩, lH, .inl ⟨c2, rfl, hk2⟩, lL, rfl, .inr ⟨Int.not_le.mp c3, rfl, rfl⟩, W⟩
            obtain ⟨X1, X2, X3⟩ := N.is hL hh4 k0 k9
            have lv2 := LV
            simp only [int_eqv] at lv2
            exact q _ _ _ (by walk_at "en") (by walk_at "tb") X1 X2 X3 ⟨⟨_, _, _, _, _, SqT.of (upd_same.trans rfl), (by walk_at "sq"), (by walk_at "sq"), (by walk_at "lt"), (by walk_at "sq"), (by walk_at "sq")⟩⟩
      · replace c2 := dF c2
        obtain ⟨k2, hk2⟩ : ∃ k2, k2 = k1 - HM.heardBef L h heard := ⟨_, rfl⟩
        rw [← hk2]
        refine ⟨_, rfl, _, rfl, rfl, _, rfl, _, rfl, _, rfl, rfl, _, _, _, rfl, ⟨(by walk_at "sq"), hL⟩, _, _, rfl, rfl, (by show 2 ≤ sizeLine; decide), fun p75 np75 => ?_⟩
        refine ⟨_, _, rfl, (by walk_at "sq"), rfl, _, _, rfl, _, _, rfl, rfl, ?_⟩
        walk_at "nm"
        refine ⟨_, rfl, ?_⟩
        refine ⟨_, fun i => decide (k2 < HM.lotsAmt L h (decide (V.int 0 = V.int 0)) (i + 1) (HM.suffic L heard) (HM.backSize L)), rfl, (lotsIn_pos hL _), (by walk_at "tb"), (fun i i0 i1 HZ76 eZ76 Qb hb => ?_), (fun lots H76 e76 T76 l76 => ?_)⟩
        · try walk_at "nf"
          refine ⟨_, rfl, _, rfl, _, rfl, _, rfl, _, _, rfl, rfl, _, rfl, _, rfl, _, _, _, _, _, _, _, rfl, ⟨(by walk_at "sq"), hL, in_lt (HM.lotsIn_in hL _) i0 i1, (HM.suffic_bd hL hh).mono (by decide), (HM.backSize_bd hL).mono (by decide)⟩, fun H77 e77 => ?_⟩
          refine ⟨_, rfl, _, _, rfl, rfl, ?_⟩
          exact hb _ (by walk_at "sm")
        · have m1 := l76.lo
          have m2 := l76.hi
          have hw := wanted_in2 hL m1 m2
          have lL := l76
          walk_at "nm"
          refine ⟨_, rfl, _, rfl, _, rfl, _, rfl, _, rfl, _, rfl, _, rfl, _, _, _, _, _, _, _, rfl, ⟨(by walk_at "sq"), hL, in_le0 (HM.lotsIn_in hL _) m1 m2, (HM.suffic_bd hL hh).mono (by decide), (HM.backSize_bd hL).mono (by decide)⟩, fun H78 e78 => ?_⟩
          refine ⟨_, _, rfl, rfl, ?_⟩
          walk_at "nm"
          refine ⟨_, rfl, _, rfl, _, rfl, _, _, rfl, rfl, _, _, _, _, rfl, ⟨(by walk_at "sq"), hL, in_le1 (HM.lotsIn_in hL _) m1 m2⟩, _, rfl, _, rfl, _, rfl, _, _, _, _, rfl, ⟨(by walk_at "sq"), hL, in_le0 (HM.lotsIn_in hL _) m1 m2⟩, _, _, rfl, rfl, _, _, rfl, ?_⟩
          walk_at "nm"
          refine ⟨_, rfl, _, rfl, _, _, _, rfl, fun a79 H79 e79 cd79 => ?_⟩
          refine ⟨_, rfl, _, rfl, _, _, rfl, ⟨(by walk_at "sq"), hL⟩, _, rfl, _, rfl, _, _, _, _, _, _, rfl, ⟨(by walk_at "sq"), ((HM.oldBef_bd hL (in_le1 (HM.lotsIn_in hL _) m1 m2)).sub (HM.oldBef_bd hL (in_le0 (HM.lotsIn_in hL _) m1 m2))).mono (by decide), (HM.thereSize_bd hL).mono (by decide), (HM.suffic_bd hL hh).mono (by decide), (HM.backSize_bd hL).mono (by decide)⟩, ?_⟩
          walk_at "nm"
          refine ⟨_, rfl, _, rfl, _, _, rfl, rfl, _, rfl, ?_⟩
          refine ite2 (fun c3 => ?_) (fun c3 => ?_)
          · replace c3 := dT c3
            refine ⟨_, rfl, _, rfl, _, _, rfl, rfl, (by show 2 ≤ sizeLine; decide), fun p80 np80 => ?_⟩
            refine ⟨_, _, rfl, (by walk_at "sq"), rfl, _, _, rfl, _, _, rfl, rfl, ?_⟩
            walk_at "nm"
            refine ⟨_, rfl, _, rfl, (by show 2 ≤ sizeLine; decide), fun p81 np81 => ?_⟩
            refine ⟨_, rfl, _, rfl, _, rfl, _, rfl, _, _, _, _, rfl, (by walk_at "sq"), fun v82 H82 e82 lv82 => ?_⟩
            have LV := lv82
            refine ⟨_, rfl, (by show 3 ≤ sizeLine; decide), fun p83 np83 => ?_⟩
            refine ⟨(by show 2 ≤ sizeLine; decide), fun p84 np84 => ?_⟩
            walk_at "nm"
            refine ⟨_, rfl, _, rfl, _, rfl, _, rfl, _, rfl, _, rfl, _, _, _, rfl, fun a85 H85 e85 cd85 => ?_⟩
            refine ⟨_, rfl, _, _, _, _, _, _, _, _, _, _, _, rfl, ⟨⟨(by walk_at "sq"), ⟨⟨_, _, _, (by walk_at "sq"), (by walk_at "sq"), (by walk_at "sq"), (by walk_at "lt")⟩⟩, (by walk_at "sq"), (by walk_at "tb")⟩, hL, hq, (by first | exact .inl rfl | exact .inr rfl), hw⟩, fun n z o y x p86 tp bp H86 e86 T86 s86 t86 b86 W => ?_⟩
            refine ⟨_, _, _, _, rfl, rfl, (by walk_at "sq"), (by walk_at "sq"), (by simp), (by show 2 + 2 ≤ sizeLine; decide), fun z => absurd z (by simp), fun _ p87 np87 => ?_⟩
            simp only [int_eqv] at c2 hk2 lL c3 W
            have N : HM.Numd L h k ⟨0, heard, 0, lots, true, n, z, o, y, x⟩ k1 k2 _ _ := ⟨.inr ⟨Int.not_le.mp c1, rfl, hk1⟩, lH, .inr ⟨Int.not_le.mp c2, rfl, hk2⟩, lL, rfl, .inl ⟨c3, rfl, rfl⟩, W⟩
            obtain ⟨X1, X2, X3⟩ := N.is hL hh4 k0 k9
            have lv2 := LV
            simp only [int_eqv] at lv2
            exact q _ _ _ (by walk_at "en") (by walk_at "tb") X1 X2 X3 ⟨⟨_, _, _, _, _, SqT.of (upd_same.trans rfl), (by walk_at "sq"), (by walk_at "sq"), (by walk_at "lt"), (by walk_at "sq"), (by walk_at "sq")⟩⟩
          · replace c3 := dF c3
            refine ⟨_, rfl, _, rfl, (by show 2 ≤ sizeLine; decide), fun p88 np88 => ?_⟩
            refine ⟨_, rfl, _, rfl, _, rfl, _, rfl, _, _, _, _, rfl, (by walk_at "sq"), fun v89 H89 e89 lv89 => ?_⟩
            have LV := lv89
            refine ⟨_, rfl, (by show 3 ≤ sizeLine; decide), fun p90 np90 => ?_⟩
            refine ⟨(by show 2 ≤ sizeLine; decide), fun p91 np91 => ?_⟩
            walk_at "nm"
            refine ⟨_, rfl, _, rfl, _, rfl, _, rfl, _, rfl, _, rfl, _, _, _, rfl, fun a92 H92 e92 cd92 => ?_⟩
            refine ⟨_, rfl, _, _, _, _, _, _, _, _, _, _, _, rfl, ⟨⟨(by walk_at "sq"), ⟨⟨_, _, _, (by walk_at "sq"), (by walk_at "sq"), (by walk_at "sq"), (by walk_at "lt")⟩⟩, (by walk_at "sq"), (by walk_at "tb")⟩, hL, hq, (by first | exact .inl rfl | exact .inr rfl), hw⟩, fun n z o y x p93 tp bp H93 e93 T93 s93 t93 b93 W => ?_⟩
            refine ⟨_, _, _, _, rfl, rfl, (by walk_at "sq"), (by walk_at "sq"), (by simp), (by show 2 + 2 ≤ sizeLine; decide), fun z => absurd z (by simp), fun _ p94 np94 => ?_⟩
            simp only [int_eqv] at c2 hk2 lL c3 W
            have N : HM.Numd L h k ⟨0, heard, 0, lots, false, n, z, o, y, x⟩ k1 k2 _ _ := ⟨.inr ⟨Int.not_le.mp c1, rfl, hk1⟩, lH, .inr ⟨Int.not_le.mp c2, rfl, hk2⟩, lL, rfl, .inr ⟨Int.not_le.mp c3, rfl, rfl⟩, W⟩
            obtain ⟨X1, X2, X3⟩ := N.is hL hh4 k0 k9
            have lv2 := LV
            simp only [int_eqv] at lv2
            exact q _ _ _ (by walk_at "en") (by walk_at "tb") X1 X2 X3 ⟨⟨_, _, _, _, _, SqT.of (upd_same.trans rfl), (by walk_at "sq"), (by walk_at "sq"), (by walk_at "lt"), (by walk_at "sq"), (by walk_at "sq")⟩⟩
end
end HW
/-! part W9 -/
namespace HW
open PySem PySem.Spec PyProof.Rows L2 NdefX LamX
open HM (Lk Ct Lot)
local macro_rules | `(tactic| walk_at "in") => `(tactic| first | assumption | (constructor <;> omega))
local macro_rules | `(tactic| walk_at "en") => `(tactic| first | with_reducible assumption | exact ExtN.refl _ | (with_reducible apply extN_up2; assumption; walk_at "en") | (with_reducible apply extN_S2; assumption; walk_at "en") | (with_reducible apply extN_N2; assumption; walk_at "en"))
local macro_rules | `(tactic| walk_at "tb") => `(tactic| first | with_reducible assumption | (with_reducible apply Tabs.up2; assumption; walk_at "tb") | (with_reducible apply Tabs.S2; assumption; walk_at "tb"))
local macro_rules | `(tactic| walk_at "nf") => `(tactic| dsimp only [L2.cxOf, L2.Cx.nox, NdefX.startF, NdefX.slotAt, L2.start, List.set, List.getElem?_cons_zero, List.getElem?_cons_succ, Option.join, Option.bind, List.length, List.replicate, List.map, HAppend.hAppend, Append.append, List.append, Nat.reduceAdd, Nat.reduceSub, Nat.zero_add])
local macro_rules | `(tactic| walk_at "nm") => `(tactic| dsimp only [L2.cxOf, L2.Cx.nox, L2.start, List.set, List.length, List.replicate, List.map, HAppend.hAppend, Append.append, List.append, Nat.reduceAdd, Nat.reduceSub, Nat.zero_add])
local macro_rules | `(tactic| walk_at "sq0") => `(tactic| first | assumption | exact SqT.of upd_same | (apply sqT_up; assumption; walk_at "sq0") | (apply sqT_S; assumption; walk_at "sq0") | (apply sqT_N; assumption; walk_at "sq0"))
local macro_rules | `(tactic| walk_at "sq1") => `(tactic| first | assumption | exact SqT.of upd_same | (apply sqT_up; assumption; walk_at "sq1") | (apply sqT_S; assumption; walk_at "sq1") | (apply sqT_N; assumption; walk_at "sq1"))
local macro_rules | `(tactic| walk_at "sq") => `(tactic| first | with_reducible walk_at "sq0" | walk_at "sq1")
local macro_rules | `(tactic| walk_at "sl0") => `(tactic| first | assumption | exact SqL.of upd_same | exact SqL.of (by assumption) | (apply sqL_up; assumption; walk_at "sl0") | (apply sqL_S; assumption; walk_at "sl0") | (apply sqL_N; assumption; walk_at "sl0"))
local macro_rules | `(tactic| walk_at "sl1") => `(tactic| first | assumption | exact SqL.of upd_same | exact SqL.of (by assumption) | (apply sqL_up; assumption; walk_at "sl1") | (apply sqL_S; assumption; walk_at "sl1") | (apply sqL_N; assumption; walk_at "sl1"))
local macro_rules | `(tactic| walk_at "sl") => `(tactic| first | with_reducible walk_at "sl0" | walk_at "sl1")
local macro_rules | `(tactic| walk_at "lt0") => `(tactic| first | assumption | (apply LotV.up; assumption; walk_at "lt0") | (apply LotV.S; assumption; walk_at "lt0") | (apply LotV.N; assumption; walk_at "lt0"))
local macro_rules | `(tactic| walk_at "lt1") => `(tactic| first | assumption | (apply LotV.up; assumption; walk_at "lt1") | (apply LotV.S; assumption; walk_at "lt1") | (apply LotV.N; assumption; walk_at "lt1"))
local macro_rules | `(tactic| walk_at "lt") => `(tactic| first | with_reducible walk_at "lt0" | walk_at "lt1")
local macro_rules | `(tactic| walk_at "ct0") => `(tactic| first | assumption | (apply CtA.up; assumption; walk_at "ct0") | (apply CtA.S; assumption; walk_at "ct0") | (apply CtA.N; assumption; walk_at "ct0"))
local macro_rules | `(tactic| walk_at "ct1") => `(tactic| first | assumption | (apply CtA.up; assumption; walk_at "ct1") | (apply CtA.S; assumption; walk_at "ct1") | (apply CtA.N; assumption; walk_at "ct1"))
local macro_rules | `(tactic| walk_at "ct") => `(tactic| first | with_reducible walk_at "ct0" | walk_at "ct1")
local macro_rules | `(tactic| walk_at "ho0") => `(tactic| first | assumption | (apply HoA.up; assumption; walk_at "ho0") | (apply HoA.S; assumption; walk_at "ho0") | (apply HoA.N; assumption; walk_at "ho0"))
local macro_rules | `(tactic| walk_at "ho1") => `(tactic| first | assumption | (apply HoA.up; assumption; walk_at "ho1") | (apply HoA.S; assumption; walk_at "ho1") | (apply HoA.N; assumption; walk_at "ho1"))
local macro_rules | `(tactic| walk_at "ho") => `(tactic| first | with_reducible walk_at "ho0" | walk_at "ho1")
local macro_rules | `(tactic| walk_at "sm0") => `(tactic| first | assumption | exact Same.refl _ | (refine same_up ?_ (by assumption); walk_at "sm0") | (refine Same.trans ?_ (by assumption); walk_at "sm0") | exact same_new (by assumption) _)
local macro_rules | `(tactic| walk_at "sm1") => `(tactic| first | assumption | exact Same.refl _ | (refine same_up ?_ (by assumption); walk_at "sm1") | (refine Same.trans ?_ (by assumption); walk_at "sm1") | exact same_new (by assumption) _)
local macro_rules | `(tactic| walk_at "sm") => `(tactic| first | with_reducible walk_at "sm0" | walk_at "sm1")
local macro_rules | `(tactic| walk_at "pre") => `(tactic| first | assumption | omega | decide)
section
variable {P : Program} {w : World} {K : PySem.W.Frag} {mg : Str → Option Value} {base : Heap}
theorem same_updN {H H' : Hp} {D : Addr} {o : HO} (n : H D = none) (e : Same H H') : Same H (upd H' D o) := fun b u q => by rw [upd_ne (ne_of_none q n)]; exact e b u q
/-- what a number of a harm is answered with -/
inductive NumV (K : PySem.W.Frag) (H : Hp) (L : Lk) (h k : Int) : V → Prop where
  | no (c : HM.counted L h ≤ k) : NumV K H L h k .non
  | at_ {p : Addr} {x : Ct} (X : x.Ok L) (e1 : x.harm L = h) (e2 : HM.numIn L h x = k) (hc : CtA K H L p x) : NumV K H L h k (.ref p)
def sp_checkharm (K : PySem.W.Frag) : Sp := fun vs H Q _ => ∃ (a : Addr) (L : Lk) (h : Int), vs = [.ref a, .int h] ∧ (LkA K H a L ∧ L.Ok ∧ (h = 0 ∨ h = 1 ∨ h = 2 ∨ h = 3)) ∧ ∀ H', Same H H' → Q .non H'
def harmsV (L : Lk) (n : Nat) : List V := (List.range n).map fun (j : Nat) => V.int (HM.counted L j)
def sp_ofharms (K : PySem.W.Frag) : Sp := fun vs H Q _ => ∃ (a : Addr) (L : Lk), vs = [.ref a] ∧ (LkA K H a L ∧ L.Ok) ∧ ∀ D H', Same H H' → H' D = some (.lst (harmsV L 4)) → Q (.ref D) H'
def sp_ofnum (K : PySem.W.Frag) : Sp := fun vs H Q _ => ∃ (a : Addr) (L : Lk) (h k : Int), vs = [.ref a, .int h, .int k] ∧ (LkA K H a L ∧ Tabs (lamT K) H ∧ L.Ok ∧ (h = 0 ∨ h = 1 ∨ h = 2 ∨ h = 3) ∧ 0 ≤ k) ∧
  ∀ v H', ExtN H H' → Tabs (lamT K) H' → NumV K H' L h k v → Q v H'
def sp_next (K : PySem.W.Frag) : Sp := fun vs H Q _ => ∃ (a c : Addr) (L : Lk) (x : Ct), vs = [.ref a, .ref c] ∧ (LkA K H a L ∧ CtA K H L c x ∧ L.Ok ∧ x.Ok L ∧ Tabs (lamT K) H) ∧
  ∀ v H', ExtN H H' → Tabs (lamT K) H' → NumV K H' L (x.harm L) (HM.numIn L (x.harm L) x + 1) v → Q v H'
theorem h4_range {h : Int} (h4 : h = 0 ∨ h = 1 ∨ h = 2 ∨ h = 3) : 0 ≤ h ∧ h ≤ 3 := by omega
theorem none_of {H H' : Hp} {D : Addr} (e : Same H H') (n : H' D = none) : H D = none := by
  cases h : H D with
  | none => rfl
  | some u => rw [e D u h] at n; cases n
theorem sc_check_harm : FnScope ["link", "many"] ["link", "many"] (defScope s_check_harm) := ⟨rfl, rfl, rfl, by decide +kernel, rfl, by decide +kernel, by decide +kernel⟩
theorem ok_check_harm (Fx : Facts K mg) : Fn P w K mg base 5 "check_harm" ["link", "many"] (sp_checkharm K) := by
  have F_check_link := ok_check_link (P := P) (w := w) (base := base) Fx
  have F_is_between := ok_is_between (P := P) (w := w) (base := base) Fx
  refine fn_mk Fx 49 (st := s_check_harm) rfl sc_check_harm (fun _ _ _ _ _ _ us hl => match us, hl with | [_, _], _ => rfl) (fun vs H Q E h => ?_) (fun f cdv A outer s H vs Q E hr h => ?_)
  · obtain ⟨a, L, h, rfl, _⟩ := h
    rfl
  obtain ⟨a, L, h, rfl, ⟨hl, hL, h4⟩, q⟩ := h
  refine ⟨_, (pss_cons (ps_expr (pe_fn F_check_link hr (pa_cons (pv 0) pa_nil))) (pss_one (ps_if (pt_not (pt_val (pe_fn F_is_between hr (pa_cons (pv 1) (pa_cons pe_int (pa_cons pe_int pa_nil)))))) (pss_one ps_never) pss_nil))), ?_⟩
  refine ⟨_, rfl, _, _, rfl, ⟨(by walk_at "sq"), hL⟩, fun H1 e1 => ?_⟩
  refine ⟨_, rfl, _, _, _, rfl, ⟨(h4_range h4).1, .le (h4_range h4).2⟩, _, rfl, ?_⟩
  refine iteF ?_
  exact q _ (by walk_at "sm")
theorem sc_of_harms : FnScope ["link", "harm"] ["link"] (defScope s_of_harms) := ⟨rfl, rfl, rfl, by decide +kernel, rfl, by decide +kernel, by decide +kernel⟩
theorem ok_of_harms (Fx : Facts K mg) : Fn P w K mg base 7 "of_harms" ["link"] (sp_ofharms K) := by
  have F_check_link := ok_check_link (P := P) (w := w) (base := base) Fx
  have F_check_sound := ok_check_sound (P := P) (w := w) (base := base) Fx
  have F_counted := ok_counted (P := P) (w := w) (base := base) Fx
  refine fn_mk Fx 50 (st := s_of_harms) rfl sc_of_harms (fun _ _ _ _ _ _ us hl => match us, hl with | [_], _ => rfl) (fun vs H Q E h => ?_) (fun f cdv A outer s H vs Q E hr h => ?_)
  · obtain ⟨a, L, rfl, _⟩ := h
    rfl
  obtain ⟨a, L, rfl, ⟨hl, hL⟩, q⟩ := h
  refine ⟨_, (pss_cons (ps_expr (pe_fn F_check_link hr (pa_cons (pv 0) pa_nil))) (pss_cons (ps_expr (pe_fn F_check_sound hr (pa_cons (pv 0) pa_nil))) (pss_one (ps_ret (pe_lc (own := [("harm", 1)]) rfl sc_of_harms.nd (pi_range1 (by rfl) (Fx.bt 7 _ rfl) (pa_cons pe_int pa_nil)) (blkOk_by (N := ["link", "harm"]) (sc := defScope s_of_harms) (by decide +kernel)) (fun _ _ _ _ _ => (pg_name (i := 1) sc_of_harms.nd rfl (.inl rfl))) (fun _ _ _ _ _ => pts_nil) (fun _ _ _ _ _ => (pe_fn F_counted hr (pa_cons (pv 0) (pa_cons (pv 1) pa_nil))))))))), ?_⟩
  refine ⟨_, rfl, _, _, rfl, ⟨(by walk_at "sq"), hL⟩, fun H1 e1 => ?_⟩
  refine ⟨_, rfl, _, _, rfl, ⟨(by walk_at "sq"), hL⟩, fun H2 e2 => ?_⟩
  refine ⟨_, rfl, (by decide), (by decide), fun D nD => ?_⟩
  refine lc_range (lo := 0) (n := 4) (g := gName 1) (tt := tYes) (te := fun σ H Q => tCons (tVar 0) (tCons (tVar 1) tNil) σ H fun vs H1 => sp_counted K vs H1 Q E0) (vs := [1]) (fun i H' => Same H H' ∧ H' D = some (.lst (harmsV L i))) ⟨(by walk_at "sm"), upd_same⟩ (fun i H' hi hP => ?_) (fun H' hP => ?_)
  · obtain ⟨e0, e9⟩ := hP
    refine ⟨rfl, ?_⟩
    dsimp only [tYes]
    refine iteT ?_
    refine ⟨_, rfl, _, rfl, _, _, _, rfl, ⟨(by walk_at "sq"), hL⟩, fun H3 e3 => ?_⟩
    refine ⟨_, e3 _ _ e9, (by unfold harmsV; rw [List.length_map, List.length_range]; exact Nat.lt_of_lt_of_le hi (by decide)), same_updN (none_of (by walk_at "sm") nD) (by walk_at "sm"), ?_⟩
    rw [upd_same]
    unfold harmsV
    rw [List.range_succ, List.map_append, Int.zero_add]
    rfl
  · obtain ⟨e0, e9⟩ := hP
    exact q D _ e0 e9
theorem sc_of_harm_numbered : FnScope ["link", "many", "number"] ["link", "many", "number"] (defScope s_of_harm_numbered) := ⟨rfl, rfl, rfl, by decide +kernel, rfl, by decide +kernel, by decide +kernel⟩
theorem ok_of_harm_numbered (Fx : Facts K mg) (TB : Tb K mg base) : Fn P w K mg base 9 "of_harm_numbered" ["link", "many", "number"] (sp_ofnum K) := by
  have F_check_harm := ok_check_harm (P := P) (w := w) (base := base) Fx
  have F_check_number := ok_check_number (P := P) (w := w) (base := base) Fx
  have F_check_sound := ok_check_sound (P := P) (w := w) (base := base) Fx
  have F_counted := ok_counted (P := P) (w := w) (base := base) Fx
  have F_harm_numbered_in := ok_harm_numbered_in (P := P) (w := w) (base := base) Fx TB
  obtain ⟨fdL, FL⟩ := Fx.def_ 17 (st := s_least_with) rfl
  refine fn_mkC Fx 51 (st := s_of_harm_numbered) rfl sc_of_harm_numbered (fun _ _ _ _ _ _ us hl => match us, hl with | [_, _, _], _ => rfl) (fun vs H Q E h => ?_) (fun f A outer s H vs Q E hr h => ?_)
  · obtain ⟨a, L, h, k, rfl, _⟩ := h
    rfl
  obtain ⟨a, L, h, k, rfl, ⟨hl, hT, hL, h4, k0⟩, q⟩ := h
  refine ⟨_, (pss_cons (ps_expr (pe_fn F_check_harm hr (pa_cons (pv 0) (pa_cons (pv 1) pa_nil)))) (pss_cons (ps_expr (pe_fn F_check_number hr (pa_cons (pv 2) (pa_cons pe_int (pa_cons pe_non pa_nil))))) (pss_cons (ps_expr (pe_fn F_check_sound hr (pa_cons (pv 0) pa_nil))) (pss_one (ps_ret (pe_ifExp (pt_cmpR op_lt (pv 2) (pe_fn F_counted hr (pa_cons (pv 0) (pa_cons (pv 1) pa_nil))) (nomark _)) (pe_fn F_harm_numbered_in hr (pa_cons (pv 0) (pa_cons (pv 1) (pa_cons (pv 2) pa_nil)))) pe_non)))))), ?_⟩
  refine ⟨_, rfl, _, rfl, _, _, _, rfl, ⟨(by walk_at "sq"), hL, h4⟩, fun H1 e1 => ?_⟩
  refine ⟨_, rfl, _, _, _, rfl, ⟨k0, .no _⟩, _, rfl, _, _, rfl, ⟨(by walk_at "sq"), hL⟩, fun H2 e2 => ?_⟩
  refine ⟨_, rfl, _, rfl, _, rfl, _, _, _, rfl, ⟨(by walk_at "sq"), hL⟩, fun H3 e3 => ?_⟩
  refine ⟨_, _, rfl, rfl, _, rfl, ?_⟩
  refine ite2 (fun c1 => ?_) (fun c1 => ?_)
  · replace c1 := dT c1
    refine ⟨_, rfl, _, rfl, _, rfl, _, _, _, _, rfl, ⟨(by walk_at "sq"), (by walk_at "tb"), hL, h4, k0, c1⟩, fun y p4 H4 e4 T4 y1 y2 y3 ct4 => ?_⟩
    exact q _ _ (by walk_at "en") (by walk_at "tb") (.at_ y1 y2 y3 (by walk_at "ct"))
  · replace c1 := dF c1
    exact q _ _ (by walk_at "en") (by walk_at "tb") (.no (Int.not_lt.mp c1))
theorem sc_number_of_its_harm : FnScope ["link", "contents"] ["link", "contents"] (defScope s_number_of_its_harm) := ⟨rfl, rfl, rfl, by decide +kernel, rfl, by decide +kernel, by decide +kernel⟩
theorem ok_number_of_its_harm (Fx : Facts K mg) : Fn P w K mg base 7 "number_of_its_harm" ["link", "contents"] (sp_numin K) := by
  have F_check_contents := ok_check_contents (P := P) (w := w) (base := base) Fx
  have F_check_sound := ok_check_sound (P := P) (w := w) (base := base) Fx
  have F_number_of_harm_in := ok_number_of_harm_in (P := P) (w := w) (base := base) Fx
  refine fn_mk Fx 52 (st := s_number_of_its_harm) rfl sc_number_of_its_harm (fun _ _ _ _ _ _ us hl => match us, hl with | [_, _], _ => rfl) (fun vs H Q E h => ?_) (fun f cdv A outer s H vs Q E hr h => ?_)
  · obtain ⟨a, c, L, x, rfl, _⟩ := h
    rfl
  obtain ⟨a, c, L, x, rfl, ⟨hl, hc, hL, hX⟩, q⟩ := h
  refine ⟨_, (pss_cons (ps_expr (pe_fn F_check_contents hr (pa_cons (pv 0) (pa_cons (pv 1) pa_nil)))) (pss_cons (ps_expr (pe_fn F_check_sound hr (pa_cons (pv 0) pa_nil))) (pss_one (ps_ret (pe_fn F_number_of_harm_in hr (pa_cons (pv 0) (pa_cons (pv 1) pa_nil))))))), ?_⟩
  refine ⟨_, rfl, _, rfl, _, _, _, _, rfl, ⟨(by walk_at "sq"), (by walk_at "ct"), hL, hX⟩, fun H1 e1 => ?_⟩
  refine ⟨_, rfl, _, _, rfl, ⟨(by walk_at "sq"), hL⟩, fun H2 e2 => ?_⟩
  refine ⟨_, rfl, _, rfl, _, _, _, _, rfl, ⟨(by walk_at "sq"), (by walk_at "ct"), hL, hX⟩, fun H3 e3 => ?_⟩
  exact q _ (by walk_at "sm")
theorem sc_next_of_harm : FnScope ["link", "contents", "number", "harm"] ["link", "contents"] (defScope s_next_of_harm) := ⟨rfl, rfl, rfl, by decide +kernel, rfl, by decide +kernel, by decide +kernel⟩
theorem ok_next_of_harm (Fx : Facts K mg) (TB : Tb K mg base) : Fn P w K mg base 9 "next_of_harm" ["link", "contents"] (sp_next K) := by
  have F_check_contents := ok_check_contents (P := P) (w := w) (base := base) Fx
  have F_check_sound := ok_check_sound (P := P) (w := w) (base := base) Fx
  have F_number_of_harm_in := ok_number_of_harm_in (P := P) (w := w) (base := base) Fx
  have F_harm_in := ok_harm_in (P := P) (w := w) (base := base) Fx
  have F_counted := ok_counted (P := P) (w := w) (base := base) Fx
  have F_harm_numbered_in := ok_harm_numbered_in (P := P) (w := w) (base := base) Fx TB
  obtain ⟨fdL, FL⟩ := Fx.def_ 17 (st := s_least_with) rfl
  refine fn_mkC Fx 53 (st := s_next_of_harm) rfl sc_next_of_harm (fun _ _ _ _ _ _ us hl => match us, hl with | [_, _], _ => rfl) (fun vs H Q E h => ?_) (fun f A outer s H vs Q E hr h => ?_)
  · obtain ⟨a, c, L, x, rfl, _⟩ := h
    rfl
  obtain ⟨a, c, L, x, rfl, ⟨hl, hc, hL, hX, hT⟩, q⟩ := h
  have h4 := HM.harm_range (L := L) x
  have k0 : 0 ≤ HM.numIn L (x.harm L) x + 1 := by have := (HM.num_in hL hX h4).1; omega
  refine ⟨_, (pss_cons (ps_expr (pe_fn F_check_contents hr (pa_cons (pv 0) (pa_cons (pv 1) pa_nil)))) (pss_cons (ps_expr (pe_fn F_check_sound hr (pa_cons (pv 0) pa_nil))) (pss_cons (ps_par (i := 2) (j := 3) rfl sc_next_of_harm.nd rfl rfl (by decide) rfl rfl (pa_cons (pe_op op_add (pe_fn F_number_of_harm_in hr (pa_cons (pv 0) (pa_cons (pv 1) pa_nil))) pe_int) (pa_cons (pe_fn F_harm_in hr (pa_cons (pv 0) (pa_cons (pv 1) pa_nil))) pa_nil)) (by rfl)) (pss_one (ps_ret (pe_ifExp (pt_cmpR op_lt (pv 2) (pe_fn F_counted hr (pa_cons (pv 0) (pa_cons (pv 3) pa_nil))) (nomark _)) (pe_fn F_harm_numbered_in hr (pa_cons (pv 0) (pa_cons (pv 3) (pa_cons (pv 2) pa_nil)))) pe_non)))))), ?_⟩
  refine ⟨_, rfl, _, rfl, _, _, _, _, rfl, ⟨(by walk_at "sq"), (by walk_at "ct"), hL, hX⟩, fun H1 e1 => ?_⟩
  refine ⟨_, rfl, _, _, rfl, ⟨(by walk_at "sq"), hL⟩, fun H2 e2 => ?_⟩
  refine ⟨_, rfl, _, rfl, _, _, _, _, rfl, ⟨(by walk_at "sq"), (by walk_at "ct"), hL, hX⟩, fun H3 e3 => ?_⟩
  refine ⟨_, _, rfl, rfl, _, rfl, _, rfl, _, _, _, _, rfl, ⟨(by walk_at "sq"), (by walk_at "ct"), hX⟩, fun H4 e4 => ?_⟩
  refine ⟨_, _, rfl, _, rfl, _, rfl, _, rfl, _, _, _, rfl, ⟨(by walk_at "sq"), hL⟩, fun H5 e5 => ?_⟩
  refine ⟨_, _, rfl, rfl, _, rfl, ?_⟩
  refine ite2 (fun c1 => ?_) (fun c1 => ?_)
  · replace c1 := dT c1
    refine ⟨_, rfl, _, rfl, _, rfl, _, _, _, _, rfl, ⟨(by walk_at "sq"), (by walk_at "tb"), hL, h4, k0, c1⟩, fun y p6 H6 e6 T6 y1 y2 y3 ct6 => ?_⟩
    exact q _ _ (by walk_at "en") (by walk_at "tb") (.at_ y1 y2 y3 (by walk_at "ct"))
  · replace c1 := dF c1
    exact q _ _ (by walk_at "en") (by walk_at "tb") (.no (Int.not_lt.mp c1))
end
end HW
/-! part W10 -/
namespace HW
open PySem PySem.Spec PyProof.Rows L2 NdefX LamX
open HM (Lk Ct Lot)
local macro_rules | `(tactic| walk_at "ga") => `(tactic| first | with_reducible assumption | (with_reducible apply GenA.up; assumption; walk_at "ga") | (with_reducible apply GenA.S; assumption; walk_at "ga") | (with_reducible apply GenA.N; assumption; walk_at "ga"))
local macro_rules | `(tactic| walk_at "mg") => `(tactic| first | with_reducible assumption | (with_reducible apply Mg.refl; assumption) | (with_reducible apply Mg.up; assumption; walk_at "mg") | (with_reducible apply Mg.S; assumption; walk_at "mg") | (with_reducible apply mg_T; assumption; walk_at "mg"))
local macro_rules | `(tactic| walk_at "in") => `(tactic| first | assumption | (constructor <;> omega))
local macro_rules | `(tactic| walk_at "en") => `(tactic| first | with_reducible assumption | exact ExtN.refl _ | (with_reducible apply extN_up2; assumption; walk_at "en") | (with_reducible apply extN_S2; assumption; walk_at "en") | (with_reducible apply extN_N2; assumption; walk_at "en"))
local macro_rules | `(tactic| walk_at "tb") => `(tactic| first | with_reducible assumption | (with_reducible apply Tabs.up2; assumption; walk_at "tb") | (with_reducible apply Tabs.S2; assumption; walk_at "tb") | (with_reducible apply Tabs.M; assumption; walk_at "tb"))
local macro_rules | `(tactic| walk_at "nf") => `(tactic| dsimp only [L2.cxOf, L2.Cx.nox, NdefX.startF, NdefX.slotAt, L2.start, List.set, List.getElem?_cons_zero, List.getElem?_cons_succ, Option.join, Option.bind, List.length, List.replicate, List.map, HAppend.hAppend, Append.append, List.append, Nat.reduceAdd, Nat.reduceSub, Nat.zero_add])
local macro_rules | `(tactic| walk_at "nm") => `(tactic| dsimp only [L2.cxOf, L2.Cx.nox, L2.start, List.set, List.length, List.replicate, List.map, HAppend.hAppend, Append.append, List.append, Nat.reduceAdd, Nat.reduceSub, Nat.zero_add])
local macro_rules | `(tactic| walk_at "sq0") => `(tactic| first | assumption | exact SqT.of upd_same | (apply sqT_up; assumption; walk_at "sq0") | (apply sqT_S; assumption; walk_at "sq0") | (apply sqT_N; assumption; walk_at "sq0") | (apply sqT_M; assumption; walk_at "sq0"))
local macro_rules | `(tactic| walk_at "sq1") => `(tactic| first | assumption | exact SqT.of upd_same | (apply sqT_up; assumption; walk_at "sq1") | (apply sqT_S; assumption; walk_at "sq1") | (apply sqT_N; assumption; walk_at "sq1") | (apply sqT_M; assumption; walk_at "sq1"))
local macro_rules | `(tactic| walk_at "sq") => `(tactic| first | with_reducible walk_at "sq0" | walk_at "sq1")
local macro_rules | `(tactic| walk_at "sl0") => `(tactic| first | assumption | exact SqL.of upd_same | exact SqL.of (by assumption) | (apply sqL_up; assumption; walk_at "sl0") | (apply sqL_S; assumption; walk_at "sl0") | (apply sqL_N; assumption; walk_at "sl0") | (apply sqL_M; assumption; assumption; walk_at "sl0"))
local macro_rules | `(tactic| walk_at "sl1") => `(tactic| first | assumption | exact SqL.of upd_same | exact SqL.of (by assumption) | (apply sqL_up; assumption; walk_at "sl1") | (apply sqL_S; assumption; walk_at "sl1") | (apply sqL_N; assumption; walk_at "sl1") | (apply sqL_M; assumption; assumption; walk_at "sl1"))
local macro_rules | `(tactic| walk_at "sl") => `(tactic| first | with_reducible walk_at "sl0" | walk_at "sl1")
local macro_rules | `(tactic| walk_at "lt0") => `(tactic| first | assumption | (apply LotV.up; assumption; walk_at "lt0") | (apply LotV.S; assumption; walk_at "lt0") | (apply LotV.N; assumption; walk_at "lt0") | (apply LotV.M; assumption; walk_at "lt0"))
local macro_rules | `(tactic| walk_at "lt1") => `(tactic| first | assumption | (apply LotV.up; assumption; walk_at "lt1") | (apply LotV.S; assumption; walk_at "lt1") | (apply LotV.N; assumption; walk_at "lt1") | (apply LotV.M; assumption; walk_at "lt1"))
local macro_rules | `(tactic| walk_at "lt") => `(tactic| first | with_reducible walk_at "lt0" | walk_at "lt1")
local macro_rules | `(tactic| walk_at "ct0") => `(tactic| first | assumption | (apply CtA.up; assumption; walk_at "ct0") | (apply CtA.S; assumption; walk_at "ct0") | (apply CtA.N; assumption; walk_at "ct0") | (apply CtA.M; assumption; walk_at "ct0"))
local macro_rules | `(tactic| walk_at "ct1") => `(tactic| first | assumption | (apply CtA.up; assumption; walk_at "ct1") | (apply CtA.S; assumption; walk_at "ct1") | (apply CtA.N; assumption; walk_at "ct1") | (apply CtA.M; assumption; walk_at "ct1"))
local macro_rules | `(tactic| walk_at "ct") => `(tactic| first | with_reducible walk_at "ct0" | walk_at "ct1")
local macro_rules | `(tactic| walk_at "ho0") => `(tactic| first | assumption | (apply HoA.up; assumption; walk_at "ho0") | (apply HoA.S; assumption; walk_at "ho0") | (apply HoA.N; assumption; walk_at "ho0"))
local macro_rules | `(tactic| walk_at "ho1") => `(tactic| first | assumption | (apply HoA.up; assumption; walk_at "ho1") | (apply HoA.S; assumption; walk_at "ho1") | (apply HoA.N; assumption; walk_at "ho1"))
local macro_rules | `(tactic| walk_at "ho") => `(tactic| first | with_reducible walk_at "ho0" | walk_at "ho1")
local macro_rules | `(tactic| walk_at "sm0") => `(tactic| first | assumption | exact Same.refl _ | (refine same_up ?_ (by assumption); walk_at "sm0") | (refine Same.trans ?_ (by assumption); walk_at "sm0") | exact same_new (by assumption) _)
local macro_rules | `(tactic| walk_at "sm1") => `(tactic| first | assumption | exact Same.refl _ | (refine same_up ?_ (by assumption); walk_at "sm1") | (refine Same.trans ?_ (by assumption); walk_at "sm1") | exact same_new (by assumption) _)
local macro_rules | `(tactic| walk_at "sm") => `(tactic| first | with_reducible walk_at "sm0" | walk_at "sm1")
local macro_rules | `(tactic| walk_at "pre") => `(tactic| first | assumption | omega | decide)
section
variable {P : Program} {w : World} {K : PySem.W.Frag} {mg : Str → Option Value} {base : Heap}
/-- the generator at g, its count below n -/
structure GenA (H : Hp) (g : Addr) (n : Int) : Prop where
  ex : ∃ g0 g1 g2 : Int, H g = some (.lst [.int g0, .int g1, .int g2]) ∧ 0 ≤ g0 ∧ 0 ≤ g2 ∧ g2 < n ∧ (0 ≤ g1 ∧ g1 < 2147483647)
/-- H' is H but for the list at g -/
structure Mg (g : Addr) (H H' : Hp) : Prop where
  ls : ∃ xs, H g = some (.lst xs)
  to : ∀ b o, b ≠ g → H b = some o → H' b = some o
theorem GenA.N {H H' : Hp} {g : Addr} {n : Int} (e : ExtN H H') (h : GenA H g n) : GenA H' g n := by
  obtain ⟨a, b, c, h1, h2⟩ := h.ex
  exact ⟨a, b, c, e _ _ h1 (fun ps z => by cases z), h2⟩
theorem GenA.S {H H' : Hp} {g : Addr} {n : Int} (e : Same H H') (h : GenA H g n) : GenA H' g n := h.N (Same.extN e)
theorem GenA.up {H : Hp} {g p : Addr} {o : HO} {n : Int} (np : H p = none) (h : GenA H g n) : GenA (upd H p o) g n := h.S (same_new np o)
theorem GenA.le {H : Hp} {g : Addr} {m n : Int} (l : m ≤ n) (h : GenA H g m) : GenA H g n := by
  obtain ⟨a, b, c, h1, h2, h3, h4, h5⟩ := h.ex
  exact ⟨a, b, c, h1, h2, h3, by omega, h5⟩
theorem Mg.refl {H : Hp} {g : Addr} {n : Int} (h : GenA H g n) : Mg g H H := by
  obtain ⟨a, b, c, h1, _⟩ := h.ex
  exact ⟨⟨_, h1⟩, fun _ _ _ e => e⟩
theorem Mg.trans {g : Addr} {H H1 H2 : Hp} (a : Mg g H H1) (b : Mg g H1 H2) : Mg g H H2 := ⟨a.ls, fun c o n e => b.to c o n (a.to c o n e)⟩
theorem Mg.S {g : Addr} {H H1 H2 : Hp} (b : Same H1 H2) (a : Mg g H H1) : Mg g H H2 := ⟨a.ls, fun c o n e => b c o (a.to c o n e)⟩
theorem Mg.up {g p : Addr} {o : HO} {H H1 : Hp} (np : H1 p = none) (a : Mg g H H1) : Mg g H (upd H1 p o) := a.S (same_new np o)
theorem Mg.setg {g : Addr} {o : HO} {H H1 : Hp} (a : Mg g H H1) : Mg g H (upd H1 g o) := ⟨a.ls, fun c u n e => (upd_ne n).trans (a.to c u n e)⟩
theorem Mg.of_S {g : Addr} {n : Int} {H H1 : Hp} (e : Same H H1) (h : GenA H g n) : Mg g H H1 := (Mg.refl h).S e
theorem Mg.ne {g a : Addr} {H H' : Hp} (m : Mg g H H') {o : HO} (e : H a = some o) (n : ∀ xs, o ≠ .lst xs) : a ≠ g := fun z => by
  obtain ⟨xs, h⟩ := m.ls
  rw [z, h] at e
  exact n xs (Option.some.inj e).symm
theorem Mg.none {g a : Addr} {H H' : Hp} (m : Mg g H H') (e : H' a = none) : a ≠ g → H a = none := fun n => by
  cases h : H a with
  | none => rfl
  | some o => rw [m.to a o n h] at e; cases e
theorem sqT_M {K : PySem.W.Frag} {g a : Addr} {H H' : Hp} {xs : List V} (m : Mg g H H') (h : SqT K H a xs) : SqT K H' a xs := by
  rcases h with (h | ⟨ob, h⟩) | h
  · exact .inl (.inl (m.to _ _ (m.ne h fun xs z => by cases z) h))
  · exact .inl (.inr ⟨ob, m.to _ _ (m.ne h fun xs z => by cases z) h⟩)
  · exact .inr h
theorem LotV.M {K : PySem.W.Frag} {g : Addr} {H H' : Hp} {v : V} {l : Lot} (m : Mg g H H') (h : LotV K H v l) : LotV K H' v l := by
  cases h with
  | no => exact .no
  | new h => exact .new (sqT_M m h)
  | old h => exact .old (sqT_M m h)
theorem CtA.M {K : PySem.W.Frag} {g : Addr} {H H' : Hp} {L : Lk} {a : Addr} {x : Ct} (m : Mg g H H') (h : CtA K H L a x) : CtA K H' L a x := by
  obtain ⟨s, r, t, b, v, h0, h1, h2, h3, h4, h5⟩ := h.ex
  exact ⟨s, r, t, b, v, sqT_M m h0, sqT_M m h1, sqT_M m h2, h3.M m, sqT_M m h4, sqT_M m h5⟩
theorem Tabs.M {T : List (Addr × Str)} {g : Addr} {H H' : Hp} (m : Mg g H H') (t : Tabs T H) : Tabs T H' := fun q hq => by
  obtain ⟨ps, a1, a2, a3⟩ := t q hq
  refine ⟨ps, m.to _ _ (m.ne a1 fun xs z => by cases z) a1, a2, fun p cv h => ?_⟩
  obtain ⟨c, e1, e2⟩ := a3 p cv h
  refine ⟨c, e1, m.to _ _ (m.ne e2 fun xs z => ?_) e2⟩
  unfold CodeO at z
  cases z
def call_intI {X : Cx} : CallR X (.type "int") (fun xs H Q => ∃ i, xs = [.int i] ∧ Q (.int i) H) := by
  intro pins s σ H xs us Q I r h
  exact call_int1 pins s σ H xs us Q I r (.inl h)
def call_intB {X : Cx} : CallR X (.type "int") (fun xs H Q => ∃ k, xs = [.bl k] ∧ Q (.int (if k then 1 else 0)) H) := by
  intro pins s σ H xs us Q I r h
  exact call_int1 pins s σ H xs us Q I r (.inr h)
def sp_hash : Sp := fun vs H Q _ => ∃ s i : Int, vs = [.int s, .int i] ∧ (0 ≤ i ∧ i < 2 ^ 60) ∧ ∀ r : Int, Q (.int r) H
def sp_random : Sp := fun vs H Q _ => ∃ (g : Addr) (b n : Int), vs = [.ref g, .int b] ∧ (GenA H g n ∧ n ≤ 2 ^ 50 ∧ 0 < b ∧ HM.Bd 2000 b) ∧ ∀ (r : Int) (H' : Hp), 0 ≤ r → r < b → Mg g H H' → GenA H' g (n + 100) → Q (.int r) H'
def sp_cell (K : PySem.W.Frag) : Sp := fun vs H Q _ => ∃ (a : Addr) (ns : List Int) (i : Int), vs = [.ref a, .int i] ∧ (SqL K H a (ns.map V.int) ∧ 0 ≤ i) ∧ ∀ (r : Int) (H' : Hp), Same H H' → Q (.int r) H'
def sp_gen (K : PySem.W.Frag) : Sp := fun vs H Q _ => ∃ (a : Addr) (ns : List Int) (i : Int), vs = [.ref a, .int i] ∧ (SqL K H a (ns.map V.int) ∧ 0 ≤ i ∧ i ≤ 4) ∧ ∀ (g : Addr) (H' : Hp), Same H H' → H g = none → GenA H' g 5000 → Q (.ref g) H'
theorem bits_le {b : Int} (h : HM.Bd 2000 b) : Builtin.Int.intBits b ≤ 2000 := by
  have h1 := PyProof.Rows.intBits_le h
  exact h1
theorem cut1 (ns : List Int) : ∃ ms : List Int, cutV (ns.map V.int) none (some 1) = ms.map V.int := by
  refine ⟨(ns.drop (HT.sIx (ns.map V.int).length 0 none)).take (HT.sIx (ns.map V.int).length (ns.map V.int).length (some 1) - HT.sIx (ns.map V.int).length 0 none), ?_⟩
  unfold cutV
  rw [← List.map_drop, ← List.map_take]
theorem at_map {ns : List Int} {i : Int} (h0 : 0 ≤ i) (h1 : i < ((ns.map V.int).length : Nat)) : ∃ r : Int, atI (ns.map V.int) i = some (V.int r) := by
  have h2 : i.toNat < ns.length := by rw [List.length_map] at h1; omega
  refine ⟨ns[i.toNat], ?_⟩
  unfold atI ixN
  rw [if_pos h0, if_pos h1]
  show (ns.map V.int)[i.toNat]? = _
  rw [List.getElem?_map, List.getElem?_eq_getElem h2]
  rfl
theorem sc__law_hash : FnScope ["_law_seed", "_law_index", "_law_mixed"] ["_law_seed", "_law_index"] (defScope s__law_hash) := ⟨rfl, rfl, rfl, by decide +kernel, rfl, by decide +kernel, by decide +kernel⟩
theorem ok__law_hash (Fx : Facts K mg) : Fn P w K mg base 1 "_law_hash" ["_law_seed", "_law_index"] sp_hash := by
  refine fn_mk Fx 54 (st := s__law_hash) rfl sc__law_hash (fun _ _ _ _ _ _ us hl => match us, hl with | [_, _], _ => rfl) (fun vs H Q E h => ?_) (fun f cdv A outer s H vs Q E hr h => ?_)
  · obtain ⟨s, i, rfl, _⟩ := h
    rfl
  obtain ⟨s, i, rfl, ⟨i0, i1⟩, q⟩ := h
  refine ⟨_, (pss_cons (ps_set (i := 2) sc__law_hash.nd rfl (.inl rfl) (pe_op op_mod (pe_callTy call_intI (by rfl) (Fx.bt 1 _ rfl) boot_int (pa_cons (pe_op op_add (pe_op op_add (pe_op op_add (pe_op op_mul (pv 0) pe_int) (pe_op op_mul (pe_op op_mul pe_int (pv 1)) (pv 1))) (pe_op op_mul pe_int (pv 1))) pe_int) pa_nil)) pe_int)) (pss_cons (ps_set (i := 2) sc__law_hash.nd rfl (.inl rfl) (pe_op op_mod (pe_callTy call_intI (by rfl) (Fx.bt 1 _ rfl) boot_int (pa_cons (pe_op op_add (pe_op op_add (pe_op op_mul (pv 2) (pv 2)) (pe_op op_mul pe_int (pv 1))) pe_int) pa_nil)) pe_int)) (pss_one (ps_ret (pe_op op_mod (pe_callTy call_intI (by rfl) (Fx.bt 1 _ rfl) boot_int (pa_cons (pe_op op_mul (pv 2) pe_int) pa_nil)) pe_int))))), ?_⟩
  refine ⟨_, rfl, _, _, rfl, rfl, (.inr ⟨by decide, by decide⟩), _, rfl, _, _, rfl, rfl, (.inl ⟨by decide, by decide⟩), _, rfl, _, _, rfl, rfl, (.inr ⟨by omega, by omega⟩), _, _, rfl, rfl, _, rfl, _, _, rfl, rfl, (.inl ⟨by decide, by decide⟩), _, _, rfl, rfl, _, _, rfl, rfl, _, rfl, _, _, rfl, rfl, (by show (0 : Int) < _; decide), _, rfl, _, rfl, _, _, rfl, rfl, (.inl ⟨by omega, by omega⟩), _, rfl, _, _, rfl, rfl, (.inl ⟨by decide, by decide⟩), _, _, rfl, rfl, _, _, rfl, rfl, _, rfl, _, _, rfl, rfl, (by show (0 : Int) < _; decide), _, rfl, _, _, rfl, rfl, (.inr ⟨by decide, by decide⟩), _, rfl, _, _, rfl, rfl, (by show (0 : Int) < _; decide), ?_⟩
  exact q _
theorem sc__law_random : FnScope ["_law_generator_here", "_law_bound", "_law_drawn", "_law_turn"] ["_law_generator_here", "_law_bound"] (defScope s__law_random) := ⟨rfl, rfl, rfl, by decide +kernel, rfl, by decide +kernel, by decide +kernel⟩
theorem ok__law_random (Fx : Facts K mg) : Fn P w K mg base 2 "_law_random" ["_law_generator_here", "_law_bound"] sp_random := by
  have F__law_hash := ok__law_hash (P := P) (w := w) (base := base) Fx
  refine fn_mk Fx 55 (st := s__law_random) rfl sc__law_random (fun _ _ _ _ _ _ us hl => match us, hl with | [_, _], _ => rfl) (fun vs H Q E h => ?_) (fun f cdv A outer s H vs Q E hr h => ?_)
  · obtain ⟨g, b, n, rfl, _⟩ := h
    rfl
  obtain ⟨g, b, n, rfl, ⟨hG, hn, hb, hB⟩, q⟩ := h
  obtain ⟨g0, g1, g2, hg, h0, h2, h3, h1⟩ := hG.ex
  have hbits := bits_le hB
  refine ⟨_, (pss_cons (ps_if (pt_cmpR op_gt (pe_ix ix_list (pv 0) pe_int (fun _ _ => rfl)) pe_int (nomark _)) (pss_cons (ps_set (i := 2) sc__law_random.nd rfl (.inl rfl) (pe_op op_mod (pe_callTy call_intI (by rfl) (Fx.bt 1 _ rfl) boot_int (pa_cons (pe_ix ix_list (pv 0) pe_int (fun _ _ => rfl)) pa_nil)) (pv 1))) (pss_cons (ps_asg (pe_op op_fdivW (pe_ix ix_list (pv 0) pe_int (fun _ _ => rfl)) (pv 1)) (pg_sub (pv 0) pe_int set_list)) (pss_one (ps_ret (pv 2))))) pss_nil) (pss_cons (ps_set (i := 2) sc__law_random.nd rfl (.inl rfl) pe_int) (pss_cons (ps_for PassesOwn.never rfl (pi_range1 (by rfl) (Fx.bt 7 _ rfl) (pa_cons (pe_op op_add pe_int (pe_op op_fdiv (pe_bits (pv 1)) pe_int)) pa_nil)) (pg_name (i := 3) sc__law_random.nd rfl (.inl rfl)) (pss_cons (ps_asg (pe_op op_add (pe_ix ix_list (pv 0) pe_int (fun _ _ => rfl)) pe_int) (pg_sub (pv 0) pe_int set_list)) (pss_one (ps_set (i := 2) sc__law_random.nd rfl (.inl rfl) (pe_op op_add (pe_op op_mul (pv 2) pe_int) (pe_fn F__law_hash hr (pa_cons (pe_ix ix_list (pv 0) pe_int (fun _ _ => rfl)) (pa_cons (pe_ix ix_list (pv 0) pe_int (fun _ _ => rfl)) pa_nil)))))))) (pss_one (ps_ret (pe_op op_mod (pe_callTy call_intI (by rfl) (Fx.bt 1 _ rfl) boot_int (pa_cons (pv 2) pa_nil)) (pv 1))))))), ?_⟩
  refine ⟨_, rfl, _, _, _, _, rfl, rfl, (SqL.of hg), rfl, _, _, rfl, rfl, _, rfl, ?_⟩
  refine ite2 (fun c1 => ?_) (fun c1 => ?_)
  · replace c1 := dT c1
    refine ⟨_, rfl, _, _, _, _, rfl, rfl, (SqL.of hg), rfl, _, rfl, _, rfl, _, _, rfl, rfl, hb, _, rfl, _, _, _, _, rfl, rfl, (SqL.of hg), rfl, _, rfl, _, _, rfl, rfl, (wide_div hb hB (by decide) (by decide)), _, rfl, _, _, _, _, rfl, rfl, hg, rfl, _, rfl, ?_⟩
    refine q _ _ (Int.emod_nonneg _ (by omega)) (Int.emod_lt_of_pos _ hb) ((Mg.refl hG).setg) ⟨_, _, _, upd_same, Int.ediv_nonneg h0 (by omega), h2, by omega, h1⟩
  · replace c1 := dF c1
    refine ⟨_, rfl, _, rfl, _, _, rfl, rfl, ⟨by decide, by decide⟩, _, _, rfl, rfl, _, rfl, (by omega), (by omega), ?_⟩
    refine for_range (lo := 0) (n := (1 + (Builtin.Int.intBits b : Nat) / 30 : Int).toNat) (fun i σ H' => Mg g H H' ∧ H' g = some (.lst [.int g0, .int g1, .int (g2 + i)]) ∧ ∃ d z, σ = [some (.ref g), some (.int b), some (.int d), z]) ⟨Mg.refl hG, by rw [hg]; simp, _, _, rfl⟩ (fun i σ H' hi hp => ?_) (fun σ H' hp => ?_)
    · obtain ⟨m2, hg2, d, z, rfl⟩ := hp
      have hi2 : (i : Int) < 100 := by omega
      refine ⟨_, rfl, _, _, _, _, rfl, rfl, (by first | exact SqL.of hg2 | exact SqL.of upd_same), rfl, _, _, rfl, rfl, _, rfl, _, _, _, _, rfl, rfl, hg2, rfl, _, rfl, _, _, rfl, rfl, (.inr ⟨by decide, by decide⟩), _, rfl, _, _, _, _, rfl, rfl, (SqL.of upd_same), rfl, _, rfl, _, _, _, _, rfl, rfl, (by first | exact SqL.of hg2 | exact SqL.of upd_same), rfl, _, _, rfl, ⟨by omega, by omega⟩, fun r1 => ?_⟩
      refine ⟨_, _, rfl, rfl, ?_⟩
      refine ⟨m2.setg, ?_, _, _, rfl⟩
      rw [upd_same]
      exact congrArg (fun t => some (HO.lst [V.int g0, V.int g1, V.int t])) (by omega)
    · obtain ⟨m2, hg2, d, z, rfl⟩ := hp
      refine ⟨_, rfl, _, rfl, _, rfl, _, _, rfl, rfl, hb, ?_⟩
      exact q _ _ (Int.emod_nonneg _ (by omega)) (Int.emod_lt_of_pos _ hb) m2 ⟨_, _, _, hg2, h0, by omega, by omega, h1⟩
theorem sc__law_cell : FnScope ["_law_script", "_law_index"] ["_law_script", "_law_index"] (defScope s__law_cell) := ⟨rfl, rfl, rfl, by decide +kernel, rfl, by decide +kernel, by decide +kernel⟩
theorem ok__law_cell (Fx : Facts K mg) : Fn P w K mg base 1 "_law_cell" ["_law_script", "_law_index"] (sp_cell K) := by
  refine fn_mk Fx 56 (st := s__law_cell) rfl sc__law_cell (fun _ _ _ _ _ _ us hl => match us, hl with | [_, _], _ => rfl) (fun vs H Q E h => ?_) (fun f cdv A outer s H vs Q E hr h => ?_)
  · obtain ⟨a, ns, i, rfl, _⟩ := h
    rfl
  obtain ⟨a, ns, i, rfl, ⟨ha, i0⟩, q⟩ := h
  refine ⟨_, (pss_cons (ps_if (pt_cmpR op_lt (pv 1) (pe_callB call_len_seq (by rfl) (Fx.bt 5 _ rfl) boot_len (pa_cons (pv 0) pa_nil)) (nomark _)) (pss_one (ps_ret (pe_ix ix_list (pv 0) (pv 1) (fun _ _ => rfl)))) pss_nil) (pss_one (ps_ret (pe_op op_mod (pe_callB (cr_sum rfl) (by rfl) (Fx.bt 6 _ rfl) boot_sum (pa_cons (pe_slice sl_list (pv 0) po_none (po_some pe_int)) pa_nil)) pe_int)))), ?_⟩
  refine ⟨_, rfl, _, rfl, _, _, rfl, (.inl ha), _, _, rfl, rfl, _, rfl, ?_⟩
  refine ite2 (fun c1 => ?_) (fun c1 => ?_)
  · replace c1 := dT c1
    obtain ⟨r1, hr1⟩ := at_map i0 c1
    refine ⟨_, rfl, _, rfl, _, _, _, _, rfl, rfl, ha, hr1, ?_⟩
    exact q _ _ (by walk_at "sm")
  · replace c1 := dF c1
    refine ⟨_, rfl, _, rfl, _, _, rfl, ha, fun p1 np1 => ?_⟩
    obtain ⟨ms, em⟩ := cut1 ns
    rw [em]
    refine ⟨_, ms, rfl, (SqL.of upd_same), _, _, rfl, rfl, (by show (0 : Int) < _; decide), ?_⟩
    exact q _ _ (by walk_at "sm")
theorem sc__law_generator : FnScope ["_law_script", "_law_index", "_law_seed"] ["_law_script", "_law_index"] (defScope s__law_generator) := ⟨rfl, rfl, rfl, by decide +kernel, rfl, by decide +kernel, by decide +kernel⟩
theorem ok__law_generator (Fx : Facts K mg) : Fn P w K mg base 2 "_law_generator" ["_law_script", "_law_index"] (sp_gen K) := by
  have F__law_cell := ok__law_cell (P := P) (w := w) (base := base) Fx
  refine fn_mk Fx 57 (st := s__law_generator) rfl sc__law_generator (fun _ _ _ _ _ _ us hl => match us, hl with | [_, _], _ => rfl) (fun vs H Q E h => ?_) (fun f cdv A outer s H vs Q E hr h => ?_)
  · obtain ⟨a, ns, i, rfl, _⟩ := h
    rfl
  obtain ⟨a, ns, i, rfl, ⟨ha, i0, i4⟩, q⟩ := h
  refine ⟨_, (pss_cons (ps_set (i := 2) sc__law_generator.nd rfl (.inl rfl) (pe_fn F__law_cell hr (pa_cons (pv 0) (pa_cons (pv 1) pa_nil)))) (pss_one (ps_ret (pe_lst (pa_cons (pe_op op_mod (pe_callTy call_intI (by rfl) (Fx.bt 1 _ rfl) boot_int (pa_cons (pe_callB (call_max2 rfl) (by rfl) (Fx.bt 9 _ rfl) boot_max (pa_cons (pe_op op_sub (pv 2) (pe_op op_pow pe_int pe_int)) (pa_cons pe_int pa_nil))) pa_nil)) (pe_op op_powW (pe_op op_pow pe_int pe_int) pe_int)) (pa_cons (pe_op op_mod (pe_callTy call_intI (by rfl) (Fx.bt 1 _ rfl) boot_int (pa_cons (pv 2) pa_nil)) pe_int) (pa_cons (pe_op op_mul pe_int (pv 1)) pa_nil))))))), ?_⟩
  refine ⟨_, rfl, _, rfl, _, _, _, rfl, ⟨ha, i0⟩, fun r1 H1 e1 => ?_⟩
  refine ⟨_, rfl, _, _, rfl, rfl, ⟨by decide, by decide, by decide⟩, _, _, rfl, rfl, _, _, rfl, _, rfl, _, _, rfl, rfl, ⟨by decide, by decide, by decide⟩, _, _, rfl, rfl, ⟨by decide, by decide +kernel⟩, _, _, rfl, rfl, (by show (0 : Int) < _; decide +kernel), _, rfl, _, rfl, _, _, rfl, rfl, (by show (0 : Int) < _; decide), _, rfl, _, _, rfl, rfl, (.inl ⟨by decide, by decide⟩), (by show 3 ≤ sizeLine; decide), fun p2 np2 => ?_⟩
  exact q _ _ (by walk_at "sm") (none_of (by walk_at "sm") (by assumption)) ⟨_, _, _, upd_same, Int.emod_nonneg _ (by decide +kernel), by omega, by omega, Int.emod_nonneg _ (by decide), Int.emod_lt_of_pos _ (by decide)⟩
end
end HW
/-! part W11 -/
namespace HW
open PySem PySem.Spec PyProof.Rows L2 NdefX LamX
open HM (Lk Ct Lot)
local macro_rules | `(tactic| walk_at "ga") => `(tactic| first | with_reducible assumption | (with_reducible apply GenA.up; assumption; walk_at "ga") | (with_reducible apply GenA.S; assumption; walk_at "ga") | (with_reducible apply GenA.N; assumption; walk_at "ga"))
local macro_rules | `(tactic| walk_at "mg") => `(tactic| first | with_reducible assumption | (with_reducible apply Mg.refl; assumption) | (with_reducible apply Mg.up; assumption; walk_at "mg") | (with_reducible apply Mg.S; assumption; walk_at "mg") | (with_reducible apply mg_T; assumption; walk_at "mg"))
local macro_rules | `(tactic| walk_at "in") => `(tactic| first | assumption | (constructor <;> omega))
local macro_rules | `(tactic| walk_at "en") => `(tactic| first | with_reducible assumption | exact ExtN.refl _ | (with_reducible apply extN_up2; assumption; walk_at "en") | (with_reducible apply extN_S2; assumption; walk_at "en") | (with_reducible apply extN_N2; assumption; walk_at "en"))
local macro_rules | `(tactic| walk_at "tb") => `(tactic| first | with_reducible assumption | (with_reducible apply Tabs.up2; assumption; walk_at "tb") | (with_reducible apply Tabs.S2; assumption; walk_at "tb") | (with_reducible apply Tabs.M; assumption; walk_at "tb"))
local macro_rules | `(tactic| walk_at "nf") => `(tactic| dsimp only [L2.cxOf, L2.Cx.nox, NdefX.startF, NdefX.slotAt, L2.start, List.set, List.getElem?_cons_zero, List.getElem?_cons_succ, Option.join, Option.bind, List.length, List.replicate, List.map, HAppend.hAppend, Append.append, List.append, Nat.reduceAdd, Nat.reduceSub, Nat.zero_add])
local macro_rules | `(tactic| walk_at "nm") => `(tactic| dsimp only [L2.cxOf, L2.Cx.nox, L2.start, List.set, List.length, List.replicate, List.map, HAppend.hAppend, Append.append, List.append, Nat.reduceAdd, Nat.reduceSub, Nat.zero_add])
local macro_rules | `(tactic| walk_at "sq0") => `(tactic| first | assumption | exact SqT.of upd_same | (apply sqT_up; assumption; walk_at "sq0") | (apply sqT_S; assumption; walk_at "sq0") | (apply sqT_N; assumption; walk_at "sq0") | (apply sqT_M; assumption; walk_at "sq0"))
local macro_rules | `(tactic| walk_at "sq1") => `(tactic| first | assumption | exact SqT.of upd_same | (apply sqT_up; assumption; walk_at "sq1") | (apply sqT_S; assumption; walk_at "sq1") | (apply sqT_N; assumption; walk_at "sq1") | (apply sqT_M; assumption; walk_at "sq1"))
local macro_rules | `(tactic| walk_at "sq") => `(tactic| first | with_reducible walk_at "sq0" | walk_at "sq1")
local macro_rules | `(tactic| walk_at "sl0") => `(tactic| first | assumption | exact SqL.of upd_same | exact SqL.of (by assumption) | (apply sqL_up; assumption; walk_at "sl0") | (apply sqL_S; assumption; walk_at "sl0") | (apply sqL_N; assumption; walk_at "sl0") | (apply sqL_M; assumption; assumption; walk_at "sl0"))
local macro_rules | `(tactic| walk_at "sl1") => `(tactic| first | assumption | exact SqL.of upd_same | exact SqL.of (by assumption) | (apply sqL_up; assumption; walk_at "sl1") | (apply sqL_S; assumption; walk_at "sl1") | (apply sqL_N; assumption; walk_at "sl1") | (apply sqL_M; assumption; assumption; walk_at "sl1"))
local macro_rules | `(tactic| walk_at "sl") => `(tactic| first | with_reducible walk_at "sl0" | walk_at "sl1")
local macro_rules | `(tactic| walk_at "lt0") => `(tactic| first | assumption | (apply LotV.up; assumption; walk_at "lt0") | (apply LotV.S; assumption; walk_at "lt0") | (apply LotV.N; assumption; walk_at "lt0") | (apply LotV.M; assumption; walk_at "lt0"))
local macro_rules | `(tactic| walk_at "lt1") => `(tactic| first | assumption | (apply LotV.up; assumption; walk_at "lt1") | (apply LotV.S; assumption; walk_at "lt1") | (apply LotV.N; assumption; walk_at "lt1") | (apply LotV.M; assumption; walk_at "lt1"))
local macro_rules | `(tactic| walk_at "lt") => `(tactic| first | with_reducible walk_at "lt0" | walk_at "lt1")
local macro_rules | `(tactic| walk_at "ct0") => `(tactic| first | assumption | (apply CtA.up; assumption; walk_at "ct0") | (apply CtA.S; assumption; walk_at "ct0") | (apply CtA.N; assumption; walk_at "ct0") | (apply CtA.M; assumption; walk_at "ct0"))
local macro_rules | `(tactic| walk_at "ct1") => `(tactic| first | assumption | (apply CtA.up; assumption; walk_at "ct1") | (apply CtA.S; assumption; walk_at "ct1") | (apply CtA.N; assumption; walk_at "ct1") | (apply CtA.M; assumption; walk_at "ct1"))
local macro_rules | `(tactic| walk_at "ct") => `(tactic| first | with_reducible walk_at "ct0" | walk_at "ct1")
local macro_rules | `(tactic| walk_at "ho0") => `(tactic| first | assumption | (apply HoA.up; assumption; walk_at "ho0") | (apply HoA.S; assumption; walk_at "ho0") | (apply HoA.N; assumption; walk_at "ho0"))
local macro_rules | `(tactic| walk_at "ho1") => `(tactic| first | assumption | (apply HoA.up; assumption; walk_at "ho1") | (apply HoA.S; assumption; walk_at "ho1") | (apply HoA.N; assumption; walk_at "ho1"))
local macro_rules | `(tactic| walk_at "ho") => `(tactic| first | with_reducible walk_at "ho0" | walk_at "ho1")
local macro_rules | `(tactic| walk_at "sm0") => `(tactic| first | assumption | exact Same.refl _ | (refine same_up ?_ (by assumption); walk_at "sm0") | (refine Same.trans ?_ (by assumption); walk_at "sm0") | exact same_new (by assumption) _)
local macro_rules | `(tactic| walk_at "sm1") => `(tactic| first | assumption | exact Same.refl _ | (refine same_up ?_ (by assumption); walk_at "sm1") | (refine Same.trans ?_ (by assumption); walk_at "sm1") | exact same_new (by assumption) _)
local macro_rules | `(tactic| walk_at "sm") => `(tactic| first | with_reducible walk_at "sm0" | walk_at "sm1")
local macro_rules | `(tactic| walk_at "pre") => `(tactic| first | assumption | omega | decide)
section
variable {P : Program} {w : World} {K : PySem.W.Frag} {mg : Str → Option Value} {base : Heap}
theorem bd_of {b : Int} (h0 : 0 ≤ b) (h : b < 2 ^ 200) : HM.Bd 2000 b := by
  have e : b.natAbs < 2 ^ 200 := by omega
  exact Nat.lt_of_lt_of_le e (Nat.pow_le_pow_right (by decide) (by decide))
theorem at3 {a b c : V} {i : Int} (h0 : 0 ≤ i) (h1 : i < 3) : ∃ v, atI [a, b, c] i = some v ∧ (v = a ∨ v = b ∨ v = c) := by
  rcases (by omega : i = 0 ∨ i = 1 ∨ i = 2) with rfl | rfl | rfl
  · exact ⟨a, rfl, .inl rfl⟩
  · exact ⟨b, rfl, .inr (.inl rfl)⟩
  · exact ⟨c, rfl, .inr (.inr rfl)⟩
theorem ne_g {H : Hp} {g p : Addr} {n : Int} (h : GenA H g n) (np : H p = none) : p ≠ g := fun z => by
  obtain ⟨a, b, c, h1, _⟩ := h.ex
  rw [z, h1] at np
  cases np
theorem GenA.to {H : Hp} {g p : Addr} {o : HO} {n : Int} (ne : p ≠ g) (h : GenA H g n) : GenA (upd H p o) g n := by
  obtain ⟨a, b, c, h1, h2⟩ := h.ex
  exact ⟨a, b, c, (upd_ne (Ne.symm ne)).trans h1, h2⟩
theorem mg_to_n {g p : Addr} {o : HO} {H H1 : Hp} (a : Mg g H H1) (np : H p = none) : Mg g H (upd H1 p o) := ⟨a.ls, fun c u n e => (upd_ne (ne_of_none e np)).trans (a.to c u n e)⟩
theorem mg_T {g : Addr} {H H1 H2 : Hp} (b : Mg g H1 H2) (a : Mg g H H1) : Mg g H H2 := a.trans b
theorem sqL_M {K : PySem.W.Frag} {g a : Addr} {H H' : Hp} {xs : List V} (m : Mg g H H') (ne : a ≠ g) (h : SqL K H a xs) : SqL K H' a xs := by
  rcases h with (h | ⟨ob, h⟩) | h
  · exact .inl (.inl (m.to _ _ ne h))
  · exact .inl (.inr ⟨ob, m.to _ _ ne h⟩)
  · exact .inr h
theorem sum_app (ns : List Int) (m : Int) : (ns ++ [m]).sum = ns.sum + m := by
  induction ns with
  | nil => simp
  | cons a r ih => simp only [List.cons_append, List.sum_cons, ih]; omega
theorem sum_set : ∀ (ns : List Int) (j : Nat) (m : Int) (h : j < ns.length), (ns.set j m).sum = ns.sum - ns[j] + m
  | a :: r, 0, m, _ => by simp only [List.set_cons_zero, List.sum_cons, List.getElem_cons_zero]; omega
  | a :: r, j + 1, m, h => by
    have q := sum_set r j m (by simpa using h)
    simp only [List.set_cons_succ, List.sum_cons, List.getElem_cons_succ, q]; omega
theorem sum_nn : ∀ {ns : List Int}, (∀ n ∈ ns, 0 ≤ n) → 0 ≤ ns.sum
  | [], _ => by simp
  | a :: r, h => by
    have h1 := h a (List.mem_cons_self ..)
    have h2 := sum_nn fun n hn => h n (List.mem_cons_of_mem _ hn)
    simp only [List.sum_cons]; omega
def sp_sum (K : PySem.W.Frag) : Sp := fun vs H Q _ => ∃ (g : Addr) (most size n : Int), vs = [.ref g, .int most, .int size] ∧ (GenA H g n ∧ n ≤ 2 ^ 49 ∧ 0 ≤ most ∧ most < 2 ^ 150 ∧ (size = 2 ∨ size = 3)) ∧
  ∀ (ns : List Int) (p : Addr) (H' : Hp), (ns.length : Int) = size → (∀ m ∈ ns, 0 ≤ m) → ns.sum ≤ most → Mg g H H' → GenA H' g (n + 2000) → SqT K H' p (ns.map V.int) → Q (.ref p) H'
theorem at_nat (ns : List Int) (j : Nat) (h : j < ns.length) : atI (ns.map V.int) (j : Int) = some (V.int ns[j]) := by
  unfold atI ixN
  rw [if_pos (by omega), if_pos (by rw [List.length_map]; omega)]
  show (ns.map V.int)[((j : Nat) : Int).toNat]? = _
  rw [List.getElem?_map, Int.toNat_natCast, List.getElem?_eq_getElem h]
  rfl
theorem at_end (ns : List Int) (k : Int) {i : Int} (h : i = (ns.length : Int)) : atI (ns.map V.int ++ [V.int k]) i = some (V.int k) := by
  subst h
  have e : ns.map V.int ++ [V.int k] = (ns ++ [k]).map V.int := by rw [List.map_append]; rfl
  rw [e, at_nat (ns ++ [k]) ns.length (by rw [List.length_append]; show _ < _ + 1; omega)]
  simp
theorem sc__law_sum : FnScope ["_law_generator_here", "_law_most", "_law_size", "_law_turn", "_law_found", "_law_left", "_law_few", "_law_at"] ["_law_generator_here", "_law_most", "_law_size"] (defScope s__law_sum) := ⟨rfl, rfl, rfl, by decide +kernel, rfl, by decide +kernel, by decide +kernel⟩
theorem ok__law_sum (Fx : Facts K mg) : Fn P w K mg base 3 "_law_sum" ["_law_generator_here", "_law_most", "_law_size"] (sp_sum K) := by
  have F__law_random := ok__law_random (P := P) (w := w) (base := base) Fx
  refine fn_mk Fx 60 (st := s__law_sum) rfl sc__law_sum (fun _ _ _ _ _ _ us hl => match us, hl with | [_, _, _], _ => rfl) (fun vs H Q E h => ?_) (fun f cdv A outer s H vs Q E hr h => ?_)
  · obtain ⟨g, most, size, n, rfl, _⟩ := h
    rfl
  obtain ⟨g, most, size, n, rfl, ⟨hG, hn, hm0, hm1, hsz⟩, q⟩ := h
  refine ⟨_, (pss_cons (ps_par (i := 4) (j := 5) rfl sc__law_sum.nd rfl rfl (by decide) rfl rfl (pa_cons (pe_lst pa_nil) (pa_cons (pv 1) pa_nil)) (by rfl)) (pss_cons (ps_for PassesOwn.never rfl (pi_range1 (by rfl) (Fx.bt 7 _ rfl) (pa_cons (pv 2) pa_nil)) (pg_name (i := 3) sc__law_sum.nd rfl (.inl rfl)) (pss_cons (ps_set (i := 6) sc__law_sum.nd rfl (.inl rfl) (pe_fn F__law_random hr (pa_cons (pv 0) (pa_cons (pe_op op_add (pe_callB (call_min2 rfl) (by rfl) (Fx.bt 8 _ rfl) boot_min (pa_cons (pv 5) (pa_cons pe_int pa_nil))) pe_int) pa_nil)))) (pss_cons (ps_expr (pe_bm PySem.F.plainAttrs_list PySem.F.slot_list_append PySem.F.type_list_append mt_append (pv 4) (pa_cons (pe_ix ix_list (pe_lst (pa_cons (pv 6) (pa_cons pe_int (pa_cons (pe_fn F__law_random hr (pa_cons (pv 0) (pa_cons (pe_op op_add (pv 5) pe_int) pa_nil))) pa_nil)))) (pe_fn F__law_random hr (pa_cons (pv 0) (pa_cons pe_int pa_nil))) (fun _ _ => rfl)) pa_nil))) (pss_one (ps_set (i := 5) sc__law_sum.nd rfl (.inl rfl) (pe_op op_sub (pv 5) (pe_ix ix_list (pv 4) (pv 3) (fun _ _ => rfl)))))))) (pss_cons (ps_if (pt_cmpR op_eq (pe_fn F__law_random hr (pa_cons (pv 0) (pa_cons pe_int pa_nil))) pe_int (nomark _)) (pss_cons (ps_set (i := 7) sc__law_sum.nd rfl (.inl rfl) (pe_fn F__law_random hr (pa_cons (pv 0) (pa_cons (pv 2) pa_nil)))) (pss_one (ps_asg (pe_op op_add (pe_ix ix_list (pv 4) (pv 7) (fun _ _ => rfl)) (pv 5)) (pg_sub (pv 4) (pv 7) set_list)))) pss_nil) (pss_one (ps_ret (pe_callTy call_tuple_of (by rfl) (Fx.bt 3 _ rfl) boot_tuple (pa_cons (pv 4) pa_nil))))))), ?_⟩
  refine ⟨(by show 0 ≤ sizeLine; decide), fun p1 np1 => ?_⟩
  have hFg : p1 ≠ g := ne_g hG np1
  refine ⟨_, rfl, _, _, rfl, _, rfl, _, rfl, (by omega), (by omega), ?_⟩
  refine for_range (lo := 0) (n := size.toNat) (fun i σ H' => ∃ ns left z1 z2 z3, σ = [some (.ref g), some (.int most), some (.int size), z1, some (.ref p1), some (.int left), z2, z3] ∧ Mg g H H' ∧ GenA H' g (n + 300 * (i : Int)) ∧ H' p1 = some (.lst (ns.map V.int)) ∧ ns.length = i ∧ (∀ m ∈ ns, 0 ≤ m) ∧ ns.sum + left = most ∧ 0 ≤ left)
    ⟨[], most, none, none, none, rfl, (Mg.refl hG).up np1, (hG.up np1).le (by omega), upd_same, rfl, (fun m hm => absurd hm (by simp)), by simp, hm0⟩ (fun i σ H' hi hp => ?_) (fun σ H' hp => ?_)
  · obtain ⟨ns, left, z1, z2, z3, rfl, m0, a0, hF, hl, h0, hs, l0⟩ := hp
    have hsum := sum_nn h0
    refine ⟨_, rfl, _, rfl, _, _, rfl, _, _, rfl, rfl, _, _, _, rfl, ⟨a0, by omega, by split <;> omega, bd_of (by split <;> omega) (by split <;> omega)⟩, fun r2 H2 b2 t2 m2 a2 => ?_⟩
    have few : r2 ≤ left := by split at t2 <;> omega
    have hF2 := m2.to _ _ hFg hF
    refine ⟨_, rfl, (.inl ⟨rfl, _, SqL.of hF2⟩), _, rfl, _, rfl, _, rfl, _, _, rfl, rfl, _, _, _, rfl, ⟨a2, by omega, by omega, bd_of (by omega) (by omega)⟩, fun r3 H3 b3 t3 m3 a3 => ?_⟩
    refine ⟨(by show 3 ≤ sizeLine; decide), fun p4 np4 => ?_⟩
    have h4g : p4 ≠ g := ne_g a3 np4
    refine ⟨_, rfl, _, _, _, rfl, ⟨a3.up np4, by omega, by omega, bd_of (by omega) (by omega)⟩, fun r5 H5 b5 t5 m5 a5 => ?_⟩
    have hF3 := m5.to _ _ hFg ((upd_ne (ne_of_none (m3.to _ _ hFg hF2) np4)).trans (m3.to _ _ hFg hF2))
    have hP : H5 p4 = some (.lst [.int r2, .int 0, .int r3]) := m5.to _ _ h4g upd_same
    obtain ⟨v, hv, hvs⟩ := at3 (a := V.int r2) (b := V.int 0) (c := V.int r3) b5 t5
    obtain ⟨k, rfl, k0, k1⟩ : ∃ k : Int, v = .int k ∧ 0 ≤ k ∧ k ≤ left := by
      rcases hvs with rfl | rfl | rfl
      · exact ⟨_, rfl, b2, few⟩
      · exact ⟨_, rfl, by omega, l0⟩
      · exact ⟨_, rfl, b3, by omega⟩
    have hi3 : i < 3 := by omega
    refine ⟨_, _, _, _, rfl, rfl, SqL.of hP, hv, _, _, _, rfl, rfl, hF3, (by rw [List.length_map, hl]; exact Nat.lt_of_lt_of_le hi3 (by decide)), _, rfl, _, rfl, _, rfl, _, _, _, _, rfl, rfl, SqL.of upd_same, at_end ns k (by omega), _, _, rfl, rfl, ?_⟩
    refine ⟨ns ++ [k], left - k, _, _, z3, rfl, ?_, ?_, ?_, by rw [List.length_append, hl]; rfl, ?_, by rw [sum_app]; omega, by omega⟩
    · exact mg_to_n ((((m0.trans m2).trans m3).up np4).trans m5) np1
    · exact (a5.to hFg).le (by omega)
    · rw [upd_same, List.map_append]; rfl
    · intro m hm
      rcases List.mem_append.mp hm with hm | hm
      · exact h0 m hm
      · rw [List.mem_singleton.mp hm]; exact k0
  · obtain ⟨ns, left, z1, z2, z3, rfl, m0, a0, hF, hl, h0, hs, l0⟩ := hp
    have hl2 : (ns.length : Int) = size := by omega
    refine ⟨_, rfl, _, _, _, rfl, ⟨a0, by omega, by omega, bd_of (by omega) (by omega)⟩, fun r6 H6 b6 t6 m6 a6 => ?_⟩
    have hF6 := m6.to _ _ hFg hF
    refine ⟨rfl, _, rfl, ?_⟩
    refine ite2 (fun c1 => ?_) (fun c1 => ?_)
    · refine ⟨_, rfl, _, rfl, _, _, _, rfl, ⟨a6, by omega, by omega, bd_of (by omega) (by omega)⟩, fun r7 H7 b7 t7 m7 a7 => ?_⟩
      have hF7 := m7.to _ _ hFg hF6
      obtain ⟨j, rfl⟩ : ∃ j : Nat, r7 = (j : Int) := ⟨r7.toNat, by omega⟩
      have hj : j < ns.length := by omega
      have hjm : j < (ns.map V.int).length := by rw [List.length_map]; exact hj
      have hat := at_nat ns j hj
      have hix : ixN (ns.map V.int).length (j : Int) = some j := by
        unfold ixN
        rw [if_pos (by omega), if_pos (by omega)]
        simp
      have hset : (ns.map V.int).set j (V.int (ns[j] + left)) = (ns.set j (ns[j] + left)).map V.int := List.map_set.symm
      refine ⟨_, rfl, _, rfl, _, _, _, _, rfl, rfl, SqL.of hF7, hat, _, rfl, _, _, rfl, rfl, _, rfl, _, rfl, _, _, _, _, rfl, rfl, hF7, hix, _, rfl, _, _, rfl, .inl ⟨SqL.of upd_same, fun pt npt => ?_⟩⟩
      rw [hset] at npt ⊢
      refine q (ns.set j (ns[j] + left)) pt _ (by rw [List.length_set]; exact hl2) ?_ (by rw [sum_set ns j _ hj]; omega) ((mg_to_n ((m0.trans m6).trans m7) np1).up npt) (((a7.to hFg).up npt).le (by omega)) (SqT.of upd_same)
      intro m hm
      rcases List.mem_or_eq_of_mem_set hm with hm | rfl
      · exact h0 m hm
      · have := h0 _ (List.getElem_mem hj); omega
    · refine ⟨_, rfl, _, _, rfl, .inl ⟨SqL.of hF6, fun pt npt => ?_⟩⟩
      exact q ns pt _ hl2 h0 (by omega) ((m0.trans m6).up npt) ((a6.up npt).le (by omega)) (SqT.of upd_same)
end
end HW
/-! part W12 -/
namespace HW
open PySem PySem.Spec PyProof.Rows L2 NdefX LamX
open HM (Lk Ct Lot)
local macro_rules | `(tactic| walk_at "ga") => `(tactic| first | with_reducible assumption | (with_reducible apply GenA.up; assumption; walk_at "ga") | (with_reducible apply GenA.S; assumption; walk_at "ga") | (with_reducible apply GenA.N; assumption; walk_at "ga"))
local macro_rules | `(tactic| walk_at "mg") => `(tactic| first | with_reducible assumption | (with_reducible apply Mg.refl; assumption) | (with_reducible apply Mg.up; assumption; walk_at "mg") | (with_reducible apply Mg.S; assumption; walk_at "mg") | (with_reducible apply mg_T; assumption; walk_at "mg"))
local macro_rules | `(tactic| walk_at "in") => `(tactic| first | assumption | (constructor <;> omega))
local macro_rules | `(tactic| walk_at "en") => `(tactic| first | with_reducible assumption | exact ExtN.refl _ | (with_reducible apply extN_up2; assumption; walk_at "en") | (with_reducible apply extN_S2; assumption; walk_at "en") | (with_reducible apply extN_N2; assumption; walk_at "en"))
local macro_rules | `(tactic| walk_at "tb") => `(tactic| first | with_reducible assumption | (with_reducible apply Tabs.up2; assumption; walk_at "tb") | (with_reducible apply Tabs.S2; assumption; walk_at "tb") | (with_reducible apply Tabs.M; assumption; walk_at "tb"))
local macro_rules | `(tactic| walk_at "nf") => `(tactic| dsimp only [L2.cxOf, L2.Cx.nox, NdefX.startF, NdefX.slotAt, L2.start, List.set, List.getElem?_cons_zero, List.getElem?_cons_succ, Option.join, Option.bind, List.length, List.replicate, List.map, HAppend.hAppend, Append.append, List.append, Nat.reduceAdd, Nat.reduceSub, Nat.zero_add])
local macro_rules | `(tactic| walk_at "nm") => `(tactic| dsimp only [L2.cxOf, L2.Cx.nox, L2.start, List.set, List.length, List.replicate, List.map, HAppend.hAppend, Append.append, List.append, Nat.reduceAdd, Nat.reduceSub, Nat.zero_add])
local macro_rules | `(tactic| walk_at "sq0") => `(tactic| first | assumption | exact SqT.of upd_same | (apply sqT_up; assumption; walk_at "sq0") | (apply sqT_S; assumption; walk_at "sq0") | (apply sqT_N; assumption; walk_at "sq0") | (apply sqT_M; assumption; walk_at "sq0"))
local macro_rules | `(tactic| walk_at "sq1") => `(tactic| first | assumption | exact SqT.of upd_same | (apply sqT_up; assumption; walk_at "sq1") | (apply sqT_S; assumption; walk_at "sq1") | (apply sqT_N; assumption; walk_at "sq1") | (apply sqT_M; assumption; walk_at "sq1"))
local macro_rules | `(tactic| walk_at "sq") => `(tactic| first | with_reducible walk_at "sq0" | walk_at "sq1")
local macro_rules | `(tactic| walk_at "sl0") => `(tactic| first | assumption | exact SqL.of upd_same | exact SqL.of (by assumption) | (apply sqL_up; assumption; walk_at "sl0") | (apply sqL_S; assumption; walk_at "sl0") | (apply sqL_N; assumption; walk_at "sl0") | (apply sqL_M; assumption; assumption; walk_at "sl0"))
local macro_rules | `(tactic| walk_at "sl1") => `(tactic| first | assumption | exact SqL.of upd_same | exact SqL.of (by assumption) | (apply sqL_up; assumption; walk_at "sl1") | (apply sqL_S; assumption; walk_at "sl1") | (apply sqL_N; assumption; walk_at "sl1") | (apply sqL_M; assumption; assumption; walk_at "sl1"))
local macro_rules | `(tactic| walk_at "sl") => `(tactic| first | with_reducible walk_at "sl0" | walk_at "sl1")
local macro_rules | `(tactic| walk_at "lt0") => `(tactic| first | assumption | (apply LotV.up; assumption; walk_at "lt0") | (apply LotV.S; assumption; walk_at "lt0") | (apply LotV.N; assumption; walk_at "lt0") | (apply LotV.M; assumption; walk_at "lt0"))
local macro_rules | `(tactic| walk_at "lt1") => `(tactic| first | assumption | (apply LotV.up; assumption; walk_at "lt1") | (apply LotV.S; assumption; walk_at "lt1") | (apply LotV.N; assumption; walk_at "lt1") | (apply LotV.M; assumption; walk_at "lt1"))
local macro_rules | `(tactic| walk_at "lt") => `(tactic| first | with_reducible walk_at "lt0" | walk_at "lt1")
local macro_rules | `(tactic| walk_at "ct0") => `(tactic| first | assumption | (apply CtA.up; assumption; walk_at "ct0") | (apply CtA.S; assumption; walk_at "ct0") | (apply CtA.N; assumption; walk_at "ct0") | (apply CtA.M; assumption; walk_at "ct0"))
local macro_rules | `(tactic| walk_at "ct1") => `(tactic| first | assumption | (apply CtA.up; assumption; walk_at "ct1") | (apply CtA.S; assumption; walk_at "ct1") | (apply CtA.N; assumption; walk_at "ct1") | (apply CtA.M; assumption; walk_at "ct1"))
local macro_rules | `(tactic| walk_at "ct") => `(tactic| first | with_reducible walk_at "ct0" | walk_at "ct1")
local macro_rules | `(tactic| walk_at "ho0") => `(tactic| first | assumption | (apply HoA.up; assumption; walk_at "ho0") | (apply HoA.S; assumption; walk_at "ho0") | (apply HoA.N; assumption; walk_at "ho0"))
local macro_rules | `(tactic| walk_at "ho1") => `(tactic| first | assumption | (apply HoA.up; assumption; walk_at "ho1") | (apply HoA.S; assumption; walk_at "ho1") | (apply HoA.N; assumption; walk_at "ho1"))
local macro_rules | `(tactic| walk_at "ho") => `(tactic| first | with_reducible walk_at "ho0" | walk_at "ho1")
local macro_rules | `(tactic| walk_at "sm0") => `(tactic| first | assumption | exact Same.refl _ | (refine same_up ?_ (by assumption); walk_at "sm0") | (refine Same.trans ?_ (by assumption); walk_at "sm0") | exact same_new (by assumption) _)
local macro_rules | `(tactic| walk_at "sm1") => `(tactic| first | assumption | exact Same.refl _ | (refine same_up ?_ (by assumption); walk_at "sm1") | (refine Same.trans ?_ (by assumption); walk_at "sm1") | exact same_new (by assumption) _)
local macro_rules | `(tactic| walk_at "sm") => `(tactic| first | with_reducible walk_at "sm0" | walk_at "sm1")
local macro_rules | `(tactic| walk_at "pre") => `(tactic| first | assumption | omega | decide)
section
variable {P : Program} {w : World} {K : PySem.W.Frag} {mg : Str → Option Value} {base : Heap}
theorem at3i {a b c i m : Int} (h0 : 0 ≤ i) (h1 : i < 3) (ha : 0 ≤ a ∧ a ≤ m) (hb : 0 ≤ b ∧ b ≤ m) (hc : 0 ≤ c ∧ c ≤ m) : ∃ k, atI [V.int a, V.int b, V.int c] i = some (V.int k) ∧ 0 ≤ k ∧ k ≤ m := by
  rcases (by omega : i = 0 ∨ i = 1 ∨ i = 2) with rfl | rfl | rfl
  · exact ⟨a, rfl, ha⟩
  · exact ⟨b, rfl, hb⟩
  · exact ⟨c, rfl, hc⟩
theorem at2i {a b i m : Int} (h0 : 0 ≤ i) (h1 : i < 2) (ha : 0 ≤ a ∧ a ≤ m) (hb : 0 ≤ b ∧ b ≤ m) : ∃ k, atI [V.int a, V.int b] i = some (V.int k) ∧ 0 ≤ k ∧ k ≤ m := by
  rcases (by omega : i = 0 ∨ i = 1) with rfl | rfl
  · exact ⟨a, rfl, ha⟩
  · exact ⟨b, rfl, hb⟩
theorem at4i {a b c d i m : Int} (h0 : 0 ≤ i) (h1 : i < 4) (ha : 1 ≤ a ∧ a ≤ m) (hb : 1 ≤ b ∧ b ≤ m) (hc : 1 ≤ c ∧ c ≤ m) (hd : 1 ≤ d ∧ d ≤ m) : ∃ k, atI [V.int a, V.int b, V.int c, V.int d] i = some (V.int k) ∧ 1 ≤ k ∧ k ≤ m := by
  rcases (by omega : i = 0 ∨ i = 1 ∨ i = 2 ∨ i = 3) with rfl | rfl | rfl | rfl
  · exact ⟨a, rfl, ha⟩
  · exact ⟨b, rfl, hb⟩
  · exact ⟨c, rfl, hc⟩
  · exact ⟨d, rfl, hd⟩
def SortOk (z : Str) (a b : Int) : Prop := z = "old" ∨ (z = "new" ∧ a ≠ b)
theorem at1s {i a b : Int} (h0 : 0 ≤ i) (h1 : i < (([V.str "old"] : List V).length : Nat)) : ∃ z : Str, atI [V.str "old"] i = some (V.str z) ∧ SortOk z a b := by
  have h2 : i < 1 := h1
  obtain rfl : i = 0 := by omega
  exact ⟨"old", rfl, .inl rfl⟩
theorem at2s {i a b : Int} (h0 : 0 ≤ i) (h1 : i < (([V.str "old", V.str "new"] : List V).length : Nat)) (ne : a ≠ b) : ∃ z : Str, atI [V.str "old", V.str "new"] i = some (V.str z) ∧ SortOk z a b := by
  have h2 : i < 2 := h1
  rcases (by omega : i = 0 ∨ i = 1) with rfl | rfl
  · exact ⟨"old", rfl, .inl rfl⟩
  · exact ⟨"new", rfl, .inr ⟨rfl, ne⟩⟩
theorem lot_made {K : PySem.W.Frag} {H : Hp} {L : Lk} {p : Addr} {z : Str} {a b k : Int} (k0 : 0 ≤ k) (k1 : k ≤ L.p - 2) (hz : SortOk z a b) (h : SqT K H p [.str z, .int (1 + k)]) :
    ∃ m, 0 ≤ m ∧ m < HM.lotsIn L (decide (a = b)) ∧ LotV K H (.ref p) (HM.lotOf L (decide (a = b)) m) := by
  rcases hz with rfl | ⟨rfl, ne⟩
  · by_cases e : a = b
    · refine ⟨1 + k, by omega, ?_, ?_⟩
      · rw [decide_eq_true e]; show 1 + k < L.p; omega
      · rw [decide_eq_true e, show HM.lotOf L true (1 + k) = .old (1 + k) from (if_neg (by omega)).trans (if_pos rfl)]
        exact .old h
    · refine ⟨1 + k + L.p - 1, by omega, ?_, ?_⟩
      · rw [decide_eq_false e]; show 1 + k + L.p - 1 < 2 * L.p - 1; omega
      · rw [decide_eq_false e, show HM.lotOf L false (1 + k + L.p - 1) = .old (1 + k + L.p - 1 - L.p + 1) from (if_neg (by omega)).trans ((if_neg (by decide)).trans (if_pos (by omega)))]
        rw [show 1 + k + L.p - 1 - L.p + 1 = 1 + k by omega]
        exact .old h
  · refine ⟨1 + k, by omega, ?_, ?_⟩
    · rw [decide_eq_false ne]; show 1 + k < 2 * L.p - 1; omega
    · rw [decide_eq_false ne, show HM.lotOf L false (1 + k) = .new (1 + k) from (if_neg (by omega)).trans ((if_neg (by decide)).trans (if_neg (by omega)))]
      exact .new h
theorem lots_pos {L : Lk} (hL : L.Ok) (e : Bool) : 0 < HM.lotsIn L e := by have := lotsIn_pos hL e; omega
theorem len3 {ns : List Int} (h : (ns.length : Int) = 3) : ∃ a b c, ns = [a, b, c] := match ns, h with
  | [a, b, c], _ => ⟨a, b, c, rfl⟩
  | [], h => absurd h (by decide)
  | [_], h => absurd h (by simp)
  | [_, _], h => absurd h (by simp)
  | _ :: _ :: _ :: _ :: r, h => by simp only [List.length_cons] at h; omega
theorem len2 {ns : List Int} (h : (ns.length : Int) = 2) : ∃ a b, ns = [a, b] := match ns, h with
  | [a, b], _ => ⟨a, b, rfl⟩
  | [], h => absurd h (by decide)
  | [_], h => absurd h (by simp)
  | _ :: _ :: _ :: r, h => by simp only [List.length_cons] at h; omega
def sp_here (K : PySem.W.Frag) : Sp := fun vs H Q _ => ∃ (g a : Addr) (L : Lk) (n : Int), vs = [.ref g, .ref a] ∧ (GenA H g n ∧ n ≤ 2 ^ 48 ∧ LkA K H a L ∧ L.Ok) ∧
  ∀ (x : Ct) (p : Addr) (H' : Hp), Mg g H H' → GenA H' g (n + 10000) → x.Ok L → CtA K H' L p x → Q (.ref p) H'
def sp_great (K : PySem.W.Frag) : Sp := fun vs H Q _ => ∃ (g : Addr) (n : Int), vs = [.ref g, .bl true] ∧ (GenA H g n ∧ n ≤ 2 ^ 48) ∧
  ∀ (L : Lk) (p : Addr) (H' : Hp), Mg g H H' → GenA H' g (n + 10000) → L.Ok → LkA K H' p L → Q (.ref p) H'
theorem sc__law_here : FnScope ["_law_generator_here", "_law_link", "_law_sorts", "_law_lot", "_law_heard_here", "_law_bit", "_law_own"] ["_law_generator_here", "_law_link"] (defScope s__law_here) := ⟨rfl, rfl, rfl, by decide +kernel, rfl, by decide +kernel, by decide +kernel⟩
theorem ok__law_here (Fx : Facts K mg) : Fn P w K mg base 4 "_law_here" ["_law_generator_here", "_law_link"] (sp_here K) := by
  have F__law_random := ok__law_random (P := P) (w := w) (base := base) Fx
  have F__law_sum := ok__law_sum (P := P) (w := w) (base := base) Fx
  refine fn_mk Fx 61 (st := s__law_here) rfl sc__law_here (fun _ _ _ _ _ _ us hl => match us, hl with | [_, _], _ => rfl) (fun vs H Q E h => ?_) (fun f cdv A outer s H vs Q E hr h => ?_)
  · obtain ⟨g, a, L, n, rfl, _⟩ := h
    rfl
  obtain ⟨g, a, L, n, rfl, ⟨hG, hn, hl, hL⟩, q⟩ := h
  have ⟨k_1, d1, cp, dq, pb, qb⟩ := hL
  refine ⟨_, (pss_cons (ps_par (i := 5) (j := 6) rfl sc__law_here.nd rfl rfl (by decide) rfl rfl (pa_cons (pe_fn F__law_random hr (pa_cons (pv 0) (pa_cons pe_int pa_nil))) (pa_cons (pe_fn F__law_random hr (pa_cons (pv 0) (pa_cons pe_int pa_nil))) pa_nil)) (by rfl)) (pss_cons (ps_set (i := 2) sc__law_here.nd rfl (.inl rfl) (pe_ifExp (pt_cmpR op_eq (pv 5) (pv 6) (nomark _)) (pe_lst (pa_cons pe_str pa_nil)) (pe_lst (pa_cons pe_str (pa_cons pe_str pa_nil))))) (pss_cons (ps_set (i := 3) sc__law_here.nd rfl (.inl rfl) pe_non) (pss_cons (ps_if (PW.pt (pw_and (pt_cmpR op_gt (pe_ix ix_tup (pv 1) pe_int (fun _ _ => rfl)) pe_int (nomark _)) (pw_and1 (pt_cmpR op_eq (pe_fn F__law_random hr (pa_cons (pv 0) (pa_cons pe_int pa_nil))) pe_int (nomark _))))) (pss_one (ps_set (i := 3) sc__law_here.nd rfl (.inl rfl) (pe_tup (pa_cons (pe_ix ix_list (pv 2) (pe_fn F__law_random hr (pa_cons (pv 0) (pa_cons (pe_callB call_len_seq (by rfl) (Fx.bt 5 _ rfl) boot_len (pa_cons (pv 2) pa_nil)) pa_nil))) (fun _ _ => rfl)) (pa_cons (pe_op op_add pe_int (pe_ix ix_list (pe_lst (pa_cons (pe_fn F__law_random hr (pa_cons (pv 0) (pa_cons (pe_op op_sub (pe_ix ix_tup (pv 1) pe_int (fun _ _ => rfl)) pe_int) pa_nil))) (pa_cons (pe_op op_sub (pe_ix ix_tup (pv 1) pe_int (fun _ _ => rfl)) pe_int) pa_nil))) (pe_fn F__law_random hr (pa_cons (pv 0) (pa_cons pe_int pa_nil))) (fun _ _ => rfl))) pa_nil))))) pss_nil) (pss_cons (ps_set (i := 4) sc__law_here.nd rfl (.inl rfl) (pe_ix ix_list (pe_lst (pa_cons (pe_fn F__law_random hr (pa_cons (pv 0) (pa_cons (pe_ix ix_tup (pv 1) pe_int (fun _ _ => rfl)) pa_nil))) (pa_cons pe_int (pa_cons (pe_op op_sub (pe_ix ix_tup (pv 1) pe_int (fun _ _ => rfl)) pe_int) pa_nil)))) (pe_fn F__law_random hr (pa_cons (pv 0) (pa_cons pe_int pa_nil))) (fun _ _ => rfl))) (pss_one (ps_ret (pe_tup (pa_cons (pe_tup (pa_cons (pv 5) (pa_cons (pv 4) pa_nil))) (pa_cons (pe_tup (pa_cons (pv 6) (pa_cons (pv 3) (pa_cons (pe_cmpR op_eq (pe_fn F__law_random hr (pa_cons (pv 0) (pa_cons pe_int pa_nil))) pe_int (nomark _)) pa_nil)))) (pa_cons (pe_fn F__law_sum hr (pa_cons (pv 0) (pa_cons (pe_ix ix_tup (pv 1) pe_int (fun _ _ => rfl)) (pa_cons pe_int pa_nil)))) (pa_cons (pe_fn F__law_sum hr (pa_cons (pv 0) (pa_cons (pe_ix ix_tup (pv 1) pe_int (fun _ _ => rfl)) (pa_cons pe_int pa_nil)))) pa_nil)))))))))))), ?_⟩
  refine ⟨_, rfl, _, _, _, rfl, ⟨(by walk_at "ga"), (by omega), (by first | omega | decide), bd_of (by first | omega | decide) (by first | omega | decide)⟩, fun r1 H1 b1 t1 m1 a1 => ?_⟩
  refine ⟨_, rfl, _, _, _, rfl, ⟨(by walk_at "ga"), (by omega), (by first | omega | decide), bd_of (by first | omega | decide) (by first | omega | decide)⟩, fun r2 H2 b2 t2 m2 a2 => ?_⟩
  refine ⟨_, _, rfl, _, rfl, _, rfl, rfl, _, rfl, ?_⟩
  refine ite2 (fun c1 => ?_) (fun c1 => ?_)
  · replace c1 := eqT c1
    refine ⟨(by show 1 ≤ sizeLine; decide), fun p3 np3 => ?_⟩
    have ng3 : p3 ≠ g := ne_g (by walk_at "ga") np3
    refine ⟨_, rfl, _, _, _, _, rfl, rfl, (by walk_at "sq"), rfl, _, _, rfl, rfl, _, rfl, ?_⟩
    refine ite2 (fun c2 => ?_) (fun c2 => ?_)
    · replace c2 := dT c2
      refine ⟨_, rfl, _, _, _, rfl, ⟨(by walk_at "ga"), (by omega), (by first | omega | decide), bd_of (by first | omega | decide) (by first | omega | decide)⟩, fun r4 H4 b4 t4 m4 a4 => ?_⟩
      refine ⟨rfl, _, rfl, ?_⟩
      refine ite2 (fun c3 => ?_) (fun c3 => ?_)
      · replace c3 := eqT c3
        refine ⟨_, rfl, _, rfl, _, rfl, _, _, rfl, (.inl (by walk_at "sl")), _, _, _, rfl, ⟨(by walk_at "ga"), (by omega), (by first | omega | decide), bd_of (by first | omega | decide) (by first | omega | decide)⟩, fun r5 H5 b5 t5 m5 a5 => ?_⟩
        obtain ⟨zz, hzz, zok⟩ := at1s (a := r1) (b := r2) b5 t5
        refine ⟨_, _, _, _, rfl, rfl, (by walk_at "sl"), hzz, _, rfl, _, rfl, _, _, _, _, rfl, rfl, (by walk_at "sq"), rfl, _, _, rfl, rfl, _, _, _, rfl, ⟨(by walk_at "ga"), (by omega), (by first | omega | decide), bd_of (by first | omega | decide) (by first | omega | decide)⟩, fun r6 H6 b6 t6 m6 a6 => ?_⟩
        refine ⟨_, rfl, _, _, _, _, rfl, rfl, (by walk_at "sq"), rfl, _, _, rfl, rfl, (by show 2 ≤ sizeLine; decide), fun p7 np7 => ?_⟩
        have ng7 : p7 ≠ g := ne_g (by walk_at "ga") np7
        refine ⟨_, rfl, _, _, _, rfl, ⟨(by walk_at "ga"), (by omega), (by first | omega | decide), bd_of (by first | omega | decide) (by first | omega | decide)⟩, fun r8 H8 b8 t8 m8 a8 => ?_⟩
        obtain ⟨kk, kv, k0, k1⟩ := at2i (a := r6) (b := L.p - 2) (m := L.p - 2) b8 t8 ⟨b6, by omega⟩ ⟨by omega, by omega⟩
        refine ⟨_, _, _, _, rfl, rfl, (by walk_at "sl"), kv, _, _, rfl, rfl, (by show 2 ≤ sizeLine; decide), fun p9 np9 => ?_⟩
        have TT := SqT.of (K := K) (upd_same (H := H8) (a := p9) (o := HO.tup [.str zz, .int (1 + kk)]))
        obtain ⟨mm, q0, q1, LV⟩ := lot_made (L := L) k0 k1 zok TT
        refine ⟨_, rfl, _, rfl, _, _, _, _, rfl, rfl, (by walk_at "sq"), rfl, _, _, _, rfl, ⟨(by walk_at "ga"), (by omega), (by first | omega | decide), bd_of (by first | omega | decide) (by first | omega | decide)⟩, fun r10 H10 b10 t10 m10 a10 => ?_⟩
        refine ⟨_, rfl, _, _, _, _, rfl, rfl, (by walk_at "sq"), rfl, _, _, rfl, rfl, (by show 3 ≤ sizeLine; decide), fun p11 np11 => ?_⟩
        have ng11 : p11 ≠ g := ne_g (by walk_at "ga") np11
        refine ⟨_, rfl, _, _, _, rfl, ⟨(by walk_at "ga"), (by omega), (by first | omega | decide), bd_of (by first | omega | decide) (by first | omega | decide)⟩, fun r12 H12 b12 t12 m12 a12 => ?_⟩
        obtain ⟨hd, hdv, hd0, hd1⟩ := at3i (a := r10) (b := 0) (c := L.q - 1) (m := L.q - 1) b12 t12 ⟨b10, by omega⟩ ⟨by omega, by omega⟩ ⟨by omega, by omega⟩
        refine ⟨_, _, _, _, rfl, rfl, (by walk_at "sl"), hdv, _, rfl, _, rfl, (by show 2 ≤ sizeLine; decide), fun p13 np13 => ?_⟩
        refine ⟨_, rfl, _, rfl, _, rfl, _, _, _, rfl, ⟨(by walk_at "ga"), (by omega), (by first | omega | decide), bd_of (by first | omega | decide) (by first | omega | decide)⟩, fun r14 H14 b14 t14 m14 a14 => ?_⟩
        refine ⟨rfl, (by show 3 ≤ sizeLine; decide), fun p15 np15 => ?_⟩
        refine ⟨_, rfl, _, rfl, _, _, _, _, rfl, rfl, (by walk_at "sq"), rfl, _, _, _, _, rfl, ⟨(by walk_at "ga"), (by omega), (by omega), (by omega), (by decide)⟩, fun ns16 pp16 H16 l16 nn16 s16 m16 a16 sq16 => ?_⟩
        refine ⟨_, rfl, _, rfl, _, _, _, _, rfl, rfl, (by walk_at "sq"), rfl, _, _, _, _, rfl, ⟨(by walk_at "ga"), (by omega), (by omega), (by omega), (by decide)⟩, fun ns17 pp17 H17 l17 nn17 s17 m17 a17 sq17 => ?_⟩
        refine ⟨(by show 4 ≤ sizeLine; decide), fun p18 np18 => ?_⟩
        obtain ⟨x1, x2, x3, rfl⟩ := len3 l16
        obtain ⟨y1, y2, rfl⟩ := len2 l17
        rw [sum3] at s16
        rw [sum2] at s17
        have z1 := nn16 x1 (by simp)
        have z2 := nn16 x2 (by simp)
        have z3 := nn16 x3 (by simp)
        have w1 := nn17 y1 (by simp)
        have w2 := nn17 y2 (by simp)
        exact q ⟨r1, hd, r2, mm, decide (V.int r14 = V.int 0), x1, x2, x3, y1, y2⟩ _ _ (by walk_at "mg") (by refine GenA.le ?_ (by walk_at "ga"); omega) ⟨by show r1 = 0 ∨ r1 = 1; omega, hd0, by show hd < L.q; omega, by show r2 = 0 ∨ r2 = 1; omega, q0, q1, z1, z2, z3, s16, w1, w2, s17⟩ ⟨⟨_, _, _, _, _, SqT.of upd_same, (by walk_at "sq"), (by walk_at "sq"), (by walk_at "lt"), (by walk_at "sq"), (by walk_at "sq")⟩⟩
      · replace c3 := eqF c3
        refine ⟨_, rfl, _, rfl, _, _, _, _, rfl, rfl, (by walk_at "sq"), rfl, _, _, _, rfl, ⟨(by walk_at "ga"), (by omega), (by first | omega | decide), bd_of (by first | omega | decide) (by first | omega | decide)⟩, fun r19 H19 b19 t19 m19 a19 => ?_⟩
        refine ⟨_, rfl, _, _, _, _, rfl, rfl, (by walk_at "sq"), rfl, _, _, rfl, rfl, (by show 3 ≤ sizeLine; decide), fun p20 np20 => ?_⟩
        have ng20 : p20 ≠ g := ne_g (by walk_at "ga") np20
        refine ⟨_, rfl, _, _, _, rfl, ⟨(by walk_at "ga"), (by omega), (by first | omega | decide), bd_of (by first | omega | decide) (by first | omega | decide)⟩, fun r21 H21 b21 t21 m21 a21 => ?_⟩
        obtain ⟨hd, hdv, hd0, hd1⟩ := at3i (a := r19) (b := 0) (c := L.q - 1) (m := L.q - 1) b21 t21 ⟨b19, by omega⟩ ⟨by omega, by omega⟩ ⟨by omega, by omega⟩
        refine ⟨_, _, _, _, rfl, rfl, (by walk_at "sl"), hdv, _, rfl, _, rfl, (by show 2 ≤ sizeLine; decide), fun p22 np22 => ?_⟩
        refine ⟨_, rfl, _, rfl, _, rfl, _, _, _, rfl, ⟨(by walk_at "ga"), (by omega), (by first | omega | decide), bd_of (by first | omega | decide) (by first | omega | decide)⟩, fun r23 H23 b23 t23 m23 a23 => ?_⟩
        refine ⟨rfl, (by show 3 ≤ sizeLine; decide), fun p24 np24 => ?_⟩
        refine ⟨_, rfl, _, rfl, _, _, _, _, rfl, rfl, (by walk_at "sq"), rfl, _, _, _, _, rfl, ⟨(by walk_at "ga"), (by omega), (by omega), (by omega), (by decide)⟩, fun ns25 pp25 H25 l25 nn25 s25 m25 a25 sq25 => ?_⟩
        refine ⟨_, rfl, _, rfl, _, _, _, _, rfl, rfl, (by walk_at "sq"), rfl, _, _, _, _, rfl, ⟨(by walk_at "ga"), (by omega), (by omega), (by omega), (by decide)⟩, fun ns26 pp26 H26 l26 nn26 s26 m26 a26 sq26 => ?_⟩
        refine ⟨(by show 4 ≤ sizeLine; decide), fun p27 np27 => ?_⟩
        obtain ⟨x1, x2, x3, rfl⟩ := len3 l25
        obtain ⟨y1, y2, rfl⟩ := len2 l26
        rw [sum3] at s25
        rw [sum2] at s26
        have z1 := nn25 x1 (by simp)
        have z2 := nn25 x2 (by simp)
        have z3 := nn25 x3 (by simp)
        have w1 := nn26 y1 (by simp)
        have w2 := nn26 y2 (by simp)
        exact q ⟨r1, hd, r2, 0, decide (V.int r23 = V.int 0), x1, x2, x3, y1, y2⟩ _ _ (by walk_at "mg") (by refine GenA.le ?_ (by walk_at "ga"); omega) ⟨by show r1 = 0 ∨ r1 = 1; omega, hd0, by show hd < L.q; omega, by show r2 = 0 ∨ r2 = 1; omega, Int.le_refl _, lots_pos hL _, z1, z2, z3, s25, w1, w2, s26⟩ ⟨⟨_, _, _, _, _, SqT.of upd_same, (by walk_at "sq"), (by walk_at "sq"), .no, (by walk_at "sq"), (by walk_at "sq")⟩⟩
    · replace c2 := dF c2
      refine iteF ?_
      refine ⟨_, rfl, _, rfl, _, _, _, _, rfl, rfl, (by walk_at "sq"), rfl, _, _, _, rfl, ⟨(by walk_at "ga"), (by omega), (by first | omega | decide), bd_of (by first | omega | decide) (by first | omega | decide)⟩, fun r28 H28 b28 t28 m28 a28 => ?_⟩
      refine ⟨_, rfl, _, _, _, _, rfl, rfl, (by walk_at "sq"), rfl, _, _, rfl, rfl, (by show 3 ≤ sizeLine; decide), fun p29 np29 => ?_⟩
      have ng29 : p29 ≠ g := ne_g (by walk_at "ga") np29
      refine ⟨_, rfl, _, _, _, rfl, ⟨(by walk_at "ga"), (by omega), (by first | omega | decide), bd_of (by first | omega | decide) (by first | omega | decide)⟩, fun r30 H30 b30 t30 m30 a30 => ?_⟩
      obtain ⟨hd, hdv, hd0, hd1⟩ := at3i (a := r28) (b := 0) (c := L.q - 1) (m := L.q - 1) b30 t30 ⟨b28, by omega⟩ ⟨by omega, by omega⟩ ⟨by omega, by omega⟩
      refine ⟨_, _, _, _, rfl, rfl, (by walk_at "sl"), hdv, _, rfl, _, rfl, (by show 2 ≤ sizeLine; decide), fun p31 np31 => ?_⟩
      refine ⟨_, rfl, _, rfl, _, rfl, _, _, _, rfl, ⟨(by walk_at "ga"), (by omega), (by first | omega | decide), bd_of (by first | omega | decide) (by first | omega | decide)⟩, fun r32 H32 b32 t32 m32 a32 => ?_⟩
      refine ⟨rfl, (by show 3 ≤ sizeLine; decide), fun p33 np33 => ?_⟩
      refine ⟨_, rfl, _, rfl, _, _, _, _, rfl, rfl, (by walk_at "sq"), rfl, _, _, _, _, rfl, ⟨(by walk_at "ga"), (by omega), (by omega), (by omega), (by decide)⟩, fun ns34 pp34 H34 l34 nn34 s34 m34 a34 sq34 => ?_⟩
      refine ⟨_, rfl, _, rfl, _, _, _, _, rfl, rfl, (by walk_at "sq"), rfl, _, _, _, _, rfl, ⟨(by walk_at "ga"), (by omega), (by omega), (by omega), (by decide)⟩, fun ns35 pp35 H35 l35 nn35 s35 m35 a35 sq35 => ?_⟩
      refine ⟨(by show 4 ≤ sizeLine; decide), fun p36 np36 => ?_⟩
      obtain ⟨x1, x2, x3, rfl⟩ := len3 l34
      obtain ⟨y1, y2, rfl⟩ := len2 l35
      rw [sum3] at s34
      rw [sum2] at s35
      have z1 := nn34 x1 (by simp)
      have z2 := nn34 x2 (by simp)
      have z3 := nn34 x3 (by simp)
      have w1 := nn35 y1 (by simp)
      have w2 := nn35 y2 (by simp)
      exact q ⟨r1, hd, r2, 0, decide (V.int r32 = V.int 0), x1, x2, x3, y1, y2⟩ _ _ (by walk_at "mg") (by refine GenA.le ?_ (by walk_at "ga"); omega) ⟨by show r1 = 0 ∨ r1 = 1; omega, hd0, by show hd < L.q; omega, by show r2 = 0 ∨ r2 = 1; omega, Int.le_refl _, lots_pos hL _, z1, z2, z3, s34, w1, w2, s35⟩ ⟨⟨_, _, _, _, _, SqT.of upd_same, (by walk_at "sq"), (by walk_at "sq"), .no, (by walk_at "sq"), (by walk_at "sq")⟩⟩
  · replace c1 := eqF c1
    refine ⟨(by show 2 ≤ sizeLine; decide), fun p37 np37 => ?_⟩
    have ng37 : p37 ≠ g := ne_g (by walk_at "ga") np37
    refine ⟨_, rfl, _, _, _, _, rfl, rfl, (by walk_at "sq"), rfl, _, _, rfl, rfl, _, rfl, ?_⟩
    refine ite2 (fun c2 => ?_) (fun c2 => ?_)
    · replace c2 := dT c2
      refine ⟨_, rfl, _, _, _, rfl, ⟨(by walk_at "ga"), (by omega), (by first | omega | decide), bd_of (by first | omega | decide) (by first | omega | decide)⟩, fun r38 H38 b38 t38 m38 a38 => ?_⟩
      refine ⟨rfl, _, rfl, ?_⟩
      refine ite2 (fun c3 => ?_) (fun c3 => ?_)
      · replace c3 := eqT c3
        refine ⟨_, rfl, _, rfl, _, rfl, _, _, rfl, (.inl (by walk_at "sl")), _, _, _, rfl, ⟨(by walk_at "ga"), (by omega), (by first | omega | decide), bd_of (by first | omega | decide) (by first | omega | decide)⟩, fun r39 H39 b39 t39 m39 a39 => ?_⟩
        obtain ⟨zz, hzz, zok⟩ := at2s (a := r1) (b := r2) b39 t39 c1
        refine ⟨_, _, _, _, rfl, rfl, (by walk_at "sl"), hzz, _, rfl, _, rfl, _, _, _, _, rfl, rfl, (by walk_at "sq"), rfl, _, _, rfl, rfl, _, _, _, rfl, ⟨(by walk_at "ga"), (by omega), (by first | omega | decide), bd_of (by first | omega | decide) (by first | omega | decide)⟩, fun r40 H40 b40 t40 m40 a40 => ?_⟩
        refine ⟨_, rfl, _, _, _, _, rfl, rfl, (by walk_at "sq"), rfl, _, _, rfl, rfl, (by show 2 ≤ sizeLine; decide), fun p41 np41 => ?_⟩
        have ng41 : p41 ≠ g := ne_g (by walk_at "ga") np41
        refine ⟨_, rfl, _, _, _, rfl, ⟨(by walk_at "ga"), (by omega), (by first | omega | decide), bd_of (by first | omega | decide) (by first | omega | decide)⟩, fun r42 H42 b42 t42 m42 a42 => ?_⟩
        obtain ⟨kk, kv, k0, k1⟩ := at2i (a := r40) (b := L.p - 2) (m := L.p - 2) b42 t42 ⟨b40, by omega⟩ ⟨by omega, by omega⟩
        refine ⟨_, _, _, _, rfl, rfl, (by walk_at "sl"), kv, _, _, rfl, rfl, (by show 2 ≤ sizeLine; decide), fun p43 np43 => ?_⟩
        have TT := SqT.of (K := K) (upd_same (H := H42) (a := p43) (o := HO.tup [.str zz, .int (1 + kk)]))
        obtain ⟨mm, q0, q1, LV⟩ := lot_made (L := L) k0 k1 zok TT
        refine ⟨_, rfl, _, rfl, _, _, _, _, rfl, rfl, (by walk_at "sq"), rfl, _, _, _, rfl, ⟨(by walk_at "ga"), (by omega), (by first | omega | decide), bd_of (by first | omega | decide) (by first | omega | decide)⟩, fun r44 H44 b44 t44 m44 a44 => ?_⟩
        refine ⟨_, rfl, _, _, _, _, rfl, rfl, (by walk_at "sq"), rfl, _, _, rfl, rfl, (by show 3 ≤ sizeLine; decide), fun p45 np45 => ?_⟩
        have ng45 : p45 ≠ g := ne_g (by walk_at "ga") np45
        refine ⟨_, rfl, _, _, _, rfl, ⟨(by walk_at "ga"), (by omega), (by first | omega | decide), bd_of (by first | omega | decide) (by first | omega | decide)⟩, fun r46 H46 b46 t46 m46 a46 => ?_⟩
        obtain ⟨hd, hdv, hd0, hd1⟩ := at3i (a := r44) (b := 0) (c := L.q - 1) (m := L.q - 1) b46 t46 ⟨b44, by omega⟩ ⟨by omega, by omega⟩ ⟨by omega, by omega⟩
        refine ⟨_, _, _, _, rfl, rfl, (by walk_at "sl"), hdv, _, rfl, _, rfl, (by show 2 ≤ sizeLine; decide), fun p47 np47 => ?_⟩
        refine ⟨_, rfl, _, rfl, _, rfl, _, _, _, rfl, ⟨(by walk_at "ga"), (by omega), (by first | omega | decide), bd_of (by first | omega | decide) (by first | omega | decide)⟩, fun r48 H48 b48 t48 m48 a48 => ?_⟩
        refine ⟨rfl, (by show 3 ≤ sizeLine; decide), fun p49 np49 => ?_⟩
        refine ⟨_, rfl, _, rfl, _, _, _, _, rfl, rfl, (by walk_at "sq"), rfl, _, _, _, _, rfl, ⟨(by walk_at "ga"), (by omega), (by omega), (by omega), (by decide)⟩, fun ns50 pp50 H50 l50 nn50 s50 m50 a50 sq50 => ?_⟩
        refine ⟨_, rfl, _, rfl, _, _, _, _, rfl, rfl, (by walk_at "sq"), rfl, _, _, _, _, rfl, ⟨(by walk_at "ga"), (by omega), (by omega), (by omega), (by decide)⟩, fun ns51 pp51 H51 l51 nn51 s51 m51 a51 sq51 => ?_⟩
        refine ⟨(by show 4 ≤ sizeLine; decide), fun p52 np52 => ?_⟩
        obtain ⟨x1, x2, x3, rfl⟩ := len3 l50
        obtain ⟨y1, y2, rfl⟩ := len2 l51
        rw [sum3] at s50
        rw [sum2] at s51
        have z1 := nn50 x1 (by simp)
        have z2 := nn50 x2 (by simp)
        have z3 := nn50 x3 (by simp)
        have w1 := nn51 y1 (by simp)
        have w2 := nn51 y2 (by simp)
        exact q ⟨r1, hd, r2, mm, decide (V.int r48 = V.int 0), x1, x2, x3, y1, y2⟩ _ _ (by walk_at "mg") (by refine GenA.le ?_ (by walk_at "ga"); omega) ⟨by show r1 = 0 ∨ r1 = 1; omega, hd0, by show hd < L.q; omega, by show r2 = 0 ∨ r2 = 1; omega, q0, q1, z1, z2, z3, s50, w1, w2, s51⟩ ⟨⟨_, _, _, _, _, SqT.of upd_same, (by walk_at "sq"), (by walk_at "sq"), (by walk_at "lt"), (by walk_at "sq"), (by walk_at "sq")⟩⟩
      · replace c3 := eqF c3
        refine ⟨_, rfl, _, rfl, _, _, _, _, rfl, rfl, (by walk_at "sq"), rfl, _, _, _, rfl, ⟨(by walk_at "ga"), (by omega), (by first | omega | decide), bd_of (by first | omega | decide) (by first | omega | decide)⟩, fun r53 H53 b53 t53 m53 a53 => ?_⟩
        refine ⟨_, rfl, _, _, _, _, rfl, rfl, (by walk_at "sq"), rfl, _, _, rfl, rfl, (by show 3 ≤ sizeLine; decide), fun p54 np54 => ?_⟩
        have ng54 : p54 ≠ g := ne_g (by walk_at "ga") np54
        refine ⟨_, rfl, _, _, _, rfl, ⟨(by walk_at "ga"), (by omega), (by first | omega | decide), bd_of (by first | omega | decide) (by first | omega | decide)⟩, fun r55 H55 b55 t55 m55 a55 => ?_⟩
        obtain ⟨hd, hdv, hd0, hd1⟩ := at3i (a := r53) (b := 0) (c := L.q - 1) (m := L.q - 1) b55 t55 ⟨b53, by omega⟩ ⟨by omega, by omega⟩ ⟨by omega, by omega⟩
        refine ⟨_, _, _, _, rfl, rfl, (by walk_at "sl"), hdv, _, rfl, _, rfl, (by show 2 ≤ sizeLine; decide), fun p56 np56 => ?_⟩
        refine ⟨_, rfl, _, rfl, _, rfl, _, _, _, rfl, ⟨(by walk_at "ga"), (by omega), (by first | omega | decide), bd_of (by first | omega | decide) (by first | omega | decide)⟩, fun r57 H57 b57 t57 m57 a57 => ?_⟩
        refine ⟨rfl, (by show 3 ≤ sizeLine; decide), fun p58 np58 => ?_⟩
        refine ⟨_, rfl, _, rfl, _, _, _, _, rfl, rfl, (by walk_at "sq"), rfl, _, _, _, _, rfl, ⟨(by walk_at "ga"), (by omega), (by omega), (by omega), (by decide)⟩, fun ns59 pp59 H59 l59 nn59 s59 m59 a59 sq59 => ?_⟩
        refine ⟨_, rfl, _, rfl, _, _, _, _, rfl, rfl, (by walk_at "sq"), rfl, _, _, _, _, rfl, ⟨(by walk_at "ga"), (by omega), (by omega), (by omega), (by decide)⟩, fun ns60 pp60 H60 l60 nn60 s60 m60 a60 sq60 => ?_⟩
        refine ⟨(by show 4 ≤ sizeLine; decide), fun p61 np61 => ?_⟩
        obtain ⟨x1, x2, x3, rfl⟩ := len3 l59
        obtain ⟨y1, y2, rfl⟩ := len2 l60
        rw [sum3] at s59
        rw [sum2] at s60
        have z1 := nn59 x1 (by simp)
        have z2 := nn59 x2 (by simp)
        have z3 := nn59 x3 (by simp)
        have w1 := nn60 y1 (by simp)
        have w2 := nn60 y2 (by simp)
        exact q ⟨r1, hd, r2, 0, decide (V.int r57 = V.int 0), x1, x2, x3, y1, y2⟩ _ _ (by walk_at "mg") (by refine GenA.le ?_ (by walk_at "ga"); omega) ⟨by show r1 = 0 ∨ r1 = 1; omega, hd0, by show hd < L.q; omega, by show r2 = 0 ∨ r2 = 1; omega, Int.le_refl _, lots_pos hL _, z1, z2, z3, s59, w1, w2, s60⟩ ⟨⟨_, _, _, _, _, SqT.of upd_same, (by walk_at "sq"), (by walk_at "sq"), .no, (by walk_at "sq"), (by walk_at "sq")⟩⟩
    · replace c2 := dF c2
      refine iteF ?_
      refine ⟨_, rfl, _, rfl, _, _, _, _, rfl, rfl, (by walk_at "sq"), rfl, _, _, _, rfl, ⟨(by walk_at "ga"), (by omega), (by first | omega | decide), bd_of (by first | omega | decide) (by first | omega | decide)⟩, fun r62 H62 b62 t62 m62 a62 => ?_⟩
      refine ⟨_, rfl, _, _, _, _, rfl, rfl, (by walk_at "sq"), rfl, _, _, rfl, rfl, (by show 3 ≤ sizeLine; decide), fun p63 np63 => ?_⟩
      have ng63 : p63 ≠ g := ne_g (by walk_at "ga") np63
      refine ⟨_, rfl, _, _, _, rfl, ⟨(by walk_at "ga"), (by omega), (by first | omega | decide), bd_of (by first | omega | decide) (by first | omega | decide)⟩, fun r64 H64 b64 t64 m64 a64 => ?_⟩
      obtain ⟨hd, hdv, hd0, hd1⟩ := at3i (a := r62) (b := 0) (c := L.q - 1) (m := L.q - 1) b64 t64 ⟨b62, by omega⟩ ⟨by omega, by omega⟩ ⟨by omega, by omega⟩
      refine ⟨_, _, _, _, rfl, rfl, (by walk_at "sl"), hdv, _, rfl, _, rfl, (by show 2 ≤ sizeLine; decide), fun p65 np65 => ?_⟩
      refine ⟨_, rfl, _, rfl, _, rfl, _, _, _, rfl, ⟨(by walk_at "ga"), (by omega), (by first | omega | decide), bd_of (by first | omega | decide) (by first | omega | decide)⟩, fun r66 H66 b66 t66 m66 a66 => ?_⟩
      refine ⟨rfl, (by show 3 ≤ sizeLine; decide), fun p67 np67 => ?_⟩
      refine ⟨_, rfl, _, rfl, _, _, _, _, rfl, rfl, (by walk_at "sq"), rfl, _, _, _, _, rfl, ⟨(by walk_at "ga"), (by omega), (by omega), (by omega), (by decide)⟩, fun ns68 pp68 H68 l68 nn68 s68 m68 a68 sq68 => ?_⟩
      refine ⟨_, rfl, _, rfl, _, _, _, _, rfl, rfl, (by walk_at "sq"), rfl, _, _, _, _, rfl, ⟨(by walk_at "ga"), (by omega), (by omega), (by omega), (by decide)⟩, fun ns69 pp69 H69 l69 nn69 s69 m69 a69 sq69 => ?_⟩
      refine ⟨(by show 4 ≤ sizeLine; decide), fun p70 np70 => ?_⟩
      obtain ⟨x1, x2, x3, rfl⟩ := len3 l68
      obtain ⟨y1, y2, rfl⟩ := len2 l69
      rw [sum3] at s68
      rw [sum2] at s69
      have z1 := nn68 x1 (by simp)
      have z2 := nn68 x2 (by simp)
      have z3 := nn68 x3 (by simp)
      have w1 := nn69 y1 (by simp)
      have w2 := nn69 y2 (by simp)
      exact q ⟨r1, hd, r2, 0, decide (V.int r66 = V.int 0), x1, x2, x3, y1, y2⟩ _ _ (by walk_at "mg") (by refine GenA.le ?_ (by walk_at "ga"); omega) ⟨by show r1 = 0 ∨ r1 = 1; omega, hd0, by show hd < L.q; omega, by show r2 = 0 ∨ r2 = 1; omega, Int.le_refl _, lots_pos hL _, z1, z2, z3, s68, w1, w2, s69⟩ ⟨⟨_, _, _, _, _, SqT.of upd_same, (by walk_at "sq"), (by walk_at "sq"), .no, (by walk_at "sq"), (by walk_at "sq")⟩⟩
theorem sc__law_great : FnScope ["_law_generator_here", "_law_sound", "_law_size", "_law_more", "_law_c", "_law_d"] ["_law_generator_here", "_law_sound"] (defScope s__law_great) := ⟨rfl, rfl, rfl, by decide +kernel, rfl, by decide +kernel, by decide +kernel⟩
theorem ok__law_great (Fx : Facts K mg) : Fn P w K mg base 3 "_law_great" ["_law_generator_here", "_law_sound"] (sp_great K) := by
  have F__law_random := ok__law_random (P := P) (w := w) (base := base) Fx
  refine fn_mk Fx 62 (st := s__law_great) rfl sc__law_great (fun _ _ _ _ _ _ us hl => match us, hl with | [_, _], _ => rfl) (fun vs H Q E h => ?_) (fun f cdv A outer s H vs Q E hr h => ?_)
  · obtain ⟨g, n, rfl, _⟩ := h
    rfl
  obtain ⟨g, n, rfl, ⟨hG, hn⟩, q⟩ := h
  refine ⟨_, (pss_cons (ps_set (i := 2) sc__law_great.nd rfl (.inl rfl) (pe_ix ix_list (pe_lst (pa_cons pe_int (pa_cons (pe_op op_pow pe_int pe_int) (pa_cons (pe_op op_pow pe_int pe_int) (pa_cons (pe_op op_pow pe_int pe_int) pa_nil))))) (pe_fn F__law_random hr (pa_cons (pv 0) (pa_cons pe_int pa_nil))) (fun _ _ => rfl))) (pss_cons (ps_par (i := 4) (j := 5) rfl sc__law_great.nd rfl rfl (by decide) rfl rfl (pa_cons (pe_op op_add pe_int (pe_fn F__law_random hr (pa_cons (pv 0) (pa_cons (pv 2) pa_nil)))) (pa_cons (pe_op op_add pe_int (pe_fn F__law_random hr (pa_cons (pv 0) (pa_cons (pv 2) pa_nil)))) pa_nil)) (by rfl)) (pss_cons (ps_if (PW.pt (pw_and (pt_not (pt_val (pv 1))) (pw_and1 (pt_cmpR op_eq (pe_fn F__law_random hr (pa_cons (pv 0) (pa_cons pe_int pa_nil))) pe_int (nomark _))))) (pss_one (ps_ret (pe_tup (pa_cons (pv 4) (pa_cons (pv 5) (pa_cons (pe_op op_add pe_int (pe_fn F__law_random hr (pa_cons (pv 0) (pa_cons (pv 2) pa_nil)))) (pa_cons (pe_op op_add pe_int (pe_fn F__law_random hr (pa_cons (pv 0) (pa_cons (pv 2) pa_nil)))) pa_nil))))))) pss_nil) (pss_cons (ps_set (i := 3) sc__law_great.nd rfl (.inl rfl) (pe_lst (pa_cons pe_int (pa_cons pe_int (pa_cons (pe_fn F__law_random hr (pa_cons (pv 0) (pa_cons (pv 2) pa_nil))) pa_nil))))) (pss_one (ps_ret (pe_tup (pa_cons (pv 4) (pa_cons (pv 5) (pa_cons (pe_op op_add (pv 4) (pe_ix ix_list (pv 3) (pe_fn F__law_random hr (pa_cons (pv 0) (pa_cons pe_int pa_nil))) (fun _ _ => rfl))) (pa_cons (pe_op op_add (pv 5) (pe_ix ix_list (pv 3) (pe_fn F__law_random hr (pa_cons (pv 0) (pa_cons pe_int pa_nil))) (fun _ _ => rfl))) pa_nil))))))))))), ?_⟩
  refine ⟨_, _, rfl, rfl, ⟨by decide, by decide, by decide⟩, _, _, rfl, rfl, ⟨by decide, by decide, by decide⟩, _, _, rfl, rfl, ⟨by decide, by decide, by decide⟩, (by show 4 ≤ sizeLine; decide), fun p1 np1 => ?_⟩
  have ng1 : p1 ≠ g := ne_g (by walk_at "ga") np1
  refine ⟨_, rfl, _, _, _, rfl, ⟨(by walk_at "ga"), (by omega), (by first | omega | decide), bd_of (by first | omega | decide) (by first | omega | decide)⟩, fun r2 H2 b2 t2 m2 a2 => ?_⟩
  obtain ⟨sz, szv, sz0, sz1⟩ := at4i (a := 9) (b := 10 ^ Int.toNat 4) (c := 10 ^ Int.toNat 12) (d := 10 ^ Int.toNat 28) (m := 2 ^ 95) b2 t2 (by decide) (by decide) (by decide) (by decide)
  refine ⟨_, _, _, _, rfl, rfl, (by walk_at "sl"), szv, _, rfl, _, rfl, _, _, _, rfl, ⟨(by walk_at "ga"), (by omega), (by first | omega | decide), bd_of (by first | omega | decide) (by first | omega | decide)⟩, fun r3 H3 b3 t3 m3 a3 => ?_⟩
  refine ⟨_, _, rfl, rfl, _, rfl, _, rfl, _, _, _, rfl, ⟨(by walk_at "ga"), (by omega), (by first | omega | decide), bd_of (by first | omega | decide) (by first | omega | decide)⟩, fun r4 H4 b4 t4 m4 a4 => ?_⟩
  refine ⟨_, _, rfl, rfl, _, _, rfl, _, rfl, _, rfl, ?_⟩
  refine iteF ?_
  refine iteF ?_
  refine ⟨_, rfl, _, rfl, _, _, _, rfl, ⟨(by walk_at "ga"), (by omega), (by first | omega | decide), bd_of (by first | omega | decide) (by first | omega | decide)⟩, fun r5 H5 b5 t5 m5 a5 => ?_⟩
  refine ⟨(by show 3 ≤ sizeLine; decide), fun p6 np6 => ?_⟩
  have ng6 : p6 ≠ g := ne_g (by walk_at "ga") np6
  refine ⟨_, rfl, _, rfl, _, rfl, _, rfl, _, rfl, _, _, _, rfl, ⟨(by walk_at "ga"), (by omega), (by first | omega | decide), bd_of (by first | omega | decide) (by first | omega | decide)⟩, fun r7 H7 b7 t7 m7 a7 => ?_⟩
  obtain ⟨e0, e0v, e00, e01⟩ := at3i (a := 0) (b := 1) (c := r5) (m := 2 ^ 95) b7 t7 (by decide) (by decide) ⟨b5, by omega⟩
  refine ⟨_, _, _, _, rfl, rfl, (by walk_at "sl"), (by first | exact e1v | exact e0v), _, _, rfl, rfl, _, rfl, _, rfl, _, rfl, _, _, _, rfl, ⟨(by walk_at "ga"), (by omega), (by first | omega | decide), bd_of (by first | omega | decide) (by first | omega | decide)⟩, fun r8 H8 b8 t8 m8 a8 => ?_⟩
  obtain ⟨e1, e1v, e10, e11⟩ := at3i (a := 0) (b := 1) (c := r5) (m := 2 ^ 95) b8 t8 (by decide) (by decide) ⟨b5, by omega⟩
  refine ⟨_, _, _, _, rfl, rfl, (by walk_at "sl"), (by first | exact e1v | exact e0v), _, _, rfl, rfl, (by show 4 ≤ sizeLine; decide), fun p9 np9 => ?_⟩
  exact q ⟨1 + r3, 1 + r4, 1 + r3 + e0, 1 + r4 + e1⟩ _ _ (by walk_at "mg") (by refine GenA.le ?_ (by walk_at "ga"); omega) ⟨by show 1 ≤ 1 + r3; omega, by show 1 ≤ 1 + r4; omega, by show 1 + r3 ≤ 1 + r3 + e0; omega, by show 1 + r4 ≤ 1 + r4 + e1; omega, by show 1 + r3 + e0 < 2 ^ 100; omega, by show 1 + r4 + e1 < 2 ^ 100; omega⟩ (SqT.of upd_same)
end
end HW
/-! part D1 -/
namespace HW
open PySem PySem.Spec PyProof.Rows L2 NdefX LamX
open HM (Lk Ct Lot)
local macro_rules | `(tactic| walk_at "ga") => `(tactic| first | with_reducible assumption | (with_reducible apply GenA.up; assumption; walk_at "ga") | (with_reducible apply GenA.S; assumption; walk_at "ga") | (with_reducible apply GenA.N; assumption; walk_at "ga"))
local macro_rules | `(tactic| walk_at "mg") => `(tactic| first | with_reducible assumption | (with_reducible apply Mg.refl; assumption) | (with_reducible apply Mg.up; assumption; walk_at "mg") | (with_reducible apply Mg.S; assumption; walk_at "mg") | (with_reducible apply mg_T; assumption; walk_at "mg"))
local macro_rules | `(tactic| walk_at "in") => `(tactic| first | assumption | (constructor <;> omega))
local macro_rules | `(tactic| walk_at "en") => `(tactic| first | with_reducible assumption | exact ExtN.refl _ | (with_reducible apply extN_up2; assumption; walk_at "en") | (with_reducible apply extN_S2; assumption; walk_at "en") | (with_reducible apply extN_N2; assumption; walk_at "en"))
local macro_rules | `(tactic| walk_at "tb") => `(tactic| first | with_reducible assumption | (with_reducible apply Tabs.up2; assumption; walk_at "tb") | (with_reducible apply Tabs.S2; assumption; walk_at "tb") | (with_reducible apply Tabs.M; assumption; walk_at "tb"))
local macro_rules | `(tactic| walk_at "nf") => `(tactic| dsimp only [L2.cxOf, L2.Cx.nox, NdefX.startF, NdefX.slotAt, L2.start, List.set, List.getElem?_cons_zero, List.getElem?_cons_succ, Option.join, Option.bind, List.length, List.replicate, List.map, HAppend.hAppend, Append.append, List.append, Nat.reduceAdd, Nat.reduceSub, Nat.zero_add])
local macro_rules | `(tactic| walk_at "nm") => `(tactic| dsimp only [L2.cxOf, L2.Cx.nox, L2.start, List.set, List.length, List.replicate, List.map, HAppend.hAppend, Append.append, List.append, Nat.reduceAdd, Nat.reduceSub, Nat.zero_add])
local macro_rules | `(tactic| walk_at "sq0") => `(tactic| first | assumption | exact SqT.of upd_same | (apply sqT_up; assumption; walk_at "sq0") | (apply sqT_S; assumption; walk_at "sq0") | (apply sqT_N; assumption; walk_at "sq0") | (apply sqT_M; assumption; walk_at "sq0"))
local macro_rules | `(tactic| walk_at "sq1") => `(tactic| first | assumption | exact SqT.of upd_same | (apply sqT_up; assumption; walk_at "sq1") | (apply sqT_S; assumption; walk_at "sq1") | (apply sqT_N; assumption; walk_at "sq1") | (apply sqT_M; assumption; walk_at "sq1"))
local macro_rules | `(tactic| walk_at "sq") => `(tactic| first | with_reducible walk_at "sq0" | walk_at "sq1")
local macro_rules | `(tactic| walk_at "sl0") => `(tactic| first | assumption | exact SqL.of upd_same | exact SqL.of (by assumption) | (apply sqL_up; assumption; walk_at "sl0") | (apply sqL_S; assumption; walk_at "sl0") | (apply sqL_N; assumption; walk_at "sl0") | (apply sqL_M; assumption; assumption; walk_at "sl0"))
local macro_rules | `(tactic| walk_at "sl1") => `(tactic| first | assumption | exact SqL.of upd_same | exact SqL.of (by assumption) | (apply sqL_up; assumption; walk_at "sl1") | (apply sqL_S; assumption; walk_at "sl1") | (apply sqL_N; assumption; walk_at "sl1") | (apply sqL_M; assumption; assumption; walk_at "sl1"))
local macro_rules | `(tactic| walk_at "sl") => `(tactic| first | with_reducible walk_at "sl0" | walk_at "sl1")
local macro_rules | `(tactic| walk_at "lt0") => `(tactic| first | assumption | (apply LotV.up; assumption; walk_at "lt0") | (apply LotV.S; assumption; walk_at "lt0") | (apply LotV.N; assumption; walk_at "lt0") | (apply LotV.M; assumption; walk_at "lt0"))
local macro_rules | `(tactic| walk_at "lt1") => `(tactic| first | assumption | (apply LotV.up; assumption; walk_at "lt1") | (apply LotV.S; assumption; walk_at "lt1") | (apply LotV.N; assumption; walk_at "lt1") | (apply LotV.M; assumption; walk_at "lt1"))
local macro_rules | `(tactic| walk_at "lt") => `(tactic| first | with_reducible walk_at "lt0" | walk_at "lt1")
local macro_rules | `(tactic| walk_at "ct0") => `(tactic| first | assumption | (apply CtA.up; assumption; walk_at "ct0") | (apply CtA.S; assumption; walk_at "ct0") | (apply CtA.N; assumption; walk_at "ct0") | (apply CtA.M; assumption; walk_at "ct0"))
local macro_rules | `(tactic| walk_at "ct1") => `(tactic| first | assumption | (apply CtA.up; assumption; walk_at "ct1") | (apply CtA.S; assumption; walk_at "ct1") | (apply CtA.N; assumption; walk_at "ct1") | (apply CtA.M; assumption; walk_at "ct1"))
local macro_rules | `(tactic| walk_at "ct") => `(tactic| first | with_reducible walk_at "ct0" | walk_at "ct1")
local macro_rules | `(tactic| walk_at "ho0") => `(tactic| first | assumption | (apply HoA.up; assumption; walk_at "ho0") | (apply HoA.S; assumption; walk_at "ho0") | (apply HoA.N; assumption; walk_at "ho0"))
local macro_rules | `(tactic| walk_at "ho1") => `(tactic| first | assumption | (apply HoA.up; assumption; walk_at "ho1") | (apply HoA.S; assumption; walk_at "ho1") | (apply HoA.N; assumption; walk_at "ho1"))
local macro_rules | `(tactic| walk_at "ho") => `(tactic| first | with_reducible walk_at "ho0" | walk_at "ho1")
local macro_rules | `(tactic| walk_at "sm0") => `(tactic| first | assumption | exact Same.refl _ | (refine same_up ?_ (by assumption); walk_at "sm0") | (refine Same.trans ?_ (by assumption); walk_at "sm0") | exact same_new (by assumption) _)
local macro_rules | `(tactic| walk_at "sm1") => `(tactic| first | assumption | exact Same.refl _ | (refine same_up ?_ (by assumption); walk_at "sm1") | (refine Same.trans ?_ (by assumption); walk_at "sm1") | exact same_new (by assumption) _)
local macro_rules | `(tactic| walk_at "sm") => `(tactic| first | with_reducible walk_at "sm0" | walk_at "sm1")
local macro_rules | `(tactic| walk_at "pre") => `(tactic| first | assumption | omega | decide)
section
variable {P : Program} {w : World} {K : PySem.W.Frag} {mg : Str → Option Value} {base : Heap}
open PyData in
def lotD : Lot → PyData
  | .no => .none
  | .new m => .tuple [.str "new", .int m]
  | .old m => .tuple [.str "old", .int m]
def ctD (L : Lk) (x : Ct) : PyData := .tuple [.tuple [.int x.bit, .int x.heard], .tuple [.int x.own, lotD (x.lot L), .bool x.done], .tuple [.int x.n, .int x.z, .int x.o], .tuple [.int x.y, .int x.x]]
theorem dp1 {K : PySem.W.Frag} {H : Hp} {a : V} {d : PyData} (h : Dp K H a d) : DpAll K H [a] [d] := .cons h .nil
theorem dp2 {K : PySem.W.Frag} {H : Hp} {a b : V} {d e : PyData} (h : Dp K H a d) (i : Dp K H b e) : DpAll K H [a, b] [d, e] := .cons h (dp1 i)
theorem dp3 {K : PySem.W.Frag} {H : Hp} {a b c : V} {d e f : PyData} (h : Dp K H a d) (i : Dp K H b e) (j : Dp K H c f) : DpAll K H [a, b, c] [d, e, f] := .cons h (dp2 i j)
theorem dp4 {K : PySem.W.Frag} {H : Hp} {a b c a' : V} {d e f d' : PyData} (h : Dp K H a d) (i : Dp K H b e) (j : Dp K H c f) (k : Dp K H a' d') : DpAll K H [a, b, c, a'] [d, e, f, d'] := .cons h (dp3 i j k)
theorem LotV.dp {K : PySem.W.Frag} {H : Hp} {v : V} {l : Lot} (h : LotV K H v l) : Dp K H v (lotD l) := by
  cases h with
  | no => exact .non
  | new h => exact .tup h (dp2 (.str _) (.int _))
  | old h => exact .tup h (dp2 (.str _) (.int _))
theorem CtA.dp {K : PySem.W.Frag} {H : Hp} {L : Lk} {a : Addr} {x : Ct} (h : CtA K H L a x) : Dp K H (.ref a) (ctD L x) := by
  obtain ⟨s, r, t, b, v, h0, h1, h2, h3, h4, h5⟩ := h.ex
  exact .tup h0 (dp4 (.tup h1 (dp2 (.int _) (.int _))) (.tup h2 (dp3 (.int _) h3.dp (.bl _))) (.tup h4 (dp3 (.int _) (.int _) (.int _))) (.tup h5 (dp2 (.int _) (.int _))))
/-- what repr asks -/
structure Sho (d : PyData) : Prop where
  h : d.showable = true ∧ d.hasDict = false ∧ d.depth ≤ 60 ∧ d.shown.length ≤ sizeLine
theorem log_in {n : Int} (h : HM.Bd 1900 n) : n.natAbs.log2 < 1920 := Nat.lt_of_lt_of_le (PySem.Flt.log2_lt_of (by decide) h) (by decide)
theorem sho_by {d : PyData} {B : Nat} (h1 : d.showable = true) (h2 : d.hasDict = false) (h3 : d.depth ≤ 60) (h4 : d.leavesShort B = true) (hB : 8 ≤ B) (hb : (B + 2) * d.weight + B ≤ 16777216) : Sho d :=
  ⟨h1, h2, h3, by rw [PySem.sizeLine_eq]; exact Nat.le_trans (PyData.shown_le B hB d h4) hb⟩
theorem int_short {n : Int} (h : HM.Bd 1900 n) : (PyData.shown (.int n)).length ≤ 601 := by
  have e : n.natAbs < 10 ^ 600 := Nat.lt_of_lt_of_le h (by decide +kernel)
  have q := int_text_length_le10 (k := 600) (by decide) e
  show (Str.ofString (toString n)).length ≤ 601
  rw [PySem.ofString_length]; exact q
theorem int_sho {n : Int} (h : HM.Bd 1900 n) : Sho (.int n) := by
  refine ⟨?_, ?_, by simp [PyData.depth], ?_⟩
  · show decide (n.natAbs.log2 < 1920) = true
    exact decide_eq_true (log_in h)
  · simp only [PyData.hasDict]
  · rw [PySem.sizeLine_eq]; exact Nat.le_trans (int_short h) (by decide)
theorem none_sho : Sho .none := ⟨by decide, by decide, by decide, by decide⟩
theorem wt_in {n : Int} (h : HM.Bd 1900 n) : (PyData.weight (.int n)) ≤ 1921 := by
  have q := log_in h
  simp only [PyData.weight]
  split <;> omega
theorem bd_nn {n m : Int} (h0 : 0 ≤ n) (h1 : n ≤ m) (h : m < 2 ^ 200) : HM.Bd 1900 n := by
  have e : n.natAbs < 2 ^ 200 := by omega
  exact Nat.lt_of_lt_of_le e (Nat.pow_le_pow_right (by decide) (by decide))
theorem str_w (x : Str) (h : x = "new" ∨ x = "old") : x.cps.size = 3 ∧ (x.cps.toList.all fun c => decide (c < 16 ^ 8)) = true := by
  rcases h with rfl | rfl <;> exact ⟨by decide, by decide⟩
theorem lot_sho {L : Lk} (hL : L.Ok) {e : Bool} {l : Lot} (h : LotFit L e l) : (lotD l).showable = true ∧ (lotD l).hasDict = false ∧ (lotD l).depth ≤ 2 ∧ (lotD l).leavesShort 601 = true ∧ (lotD l).weight ≤ 2000 := by
  have hp := hL.pb
  have two : ∀ (z : Str) (m : Int), (z = "new" ∨ z = "old") → 1 ≤ m → m ≤ L.p - 1 → (PyData.tuple [.str z, .int m]).showable = true ∧ (PyData.tuple [.str z, .int m]).hasDict = false ∧ (PyData.tuple [.str z, .int m]).depth ≤ 2 ∧ (PyData.tuple [.str z, .int m]).leavesShort 601 = true ∧ (PyData.tuple [.str z, .int m]).weight ≤ 2000 := fun z m hz h1 h2 => by
    have hb := bd_nn (n := m) (m := L.p) (by omega) (by omega) (by omega)
    have hw := wt_in hb
    have h3 := log_in hb
    have h4 := int_short hb
    obtain ⟨s1, s2⟩ := str_w z hz
    refine ⟨?_, ?_, ?_, ?_, ?_⟩
    · simp only [PyData.showable, PyData.showableAll, decide_eq_true h3, Bool.and_self]
    · simp [PyData.hasDict, PyData.hasDictAll]
    · simp [PyData.depth, PyData.depthAll]
    · simp only [PyData.leavesShort, PyData.leavesShortAll, decide_eq_true h4, s2, Bool.and_self]
    · rw [PyData.weight, PyData.weightAll, PyData.weightAll, PyData.weightAll, PyData.weight, s1]
      omega
  cases l with
  | no => exact ⟨by decide, by decide, by decide, by decide, by decide⟩
  | new m => exact two "new" m (.inl rfl) h.2.1 h.2.2
  | old m => exact two "old" m (.inr rfl) h.1 h.2
theorem ct_sho {L : Lk} {x : Ct} (hL : L.Ok) (X : x.Ok L) : Sho (ctD L x) := by
  obtain ⟨l1, l2, l3, l4, l5⟩ := lot_sho hL (lot_fit X)
  obtain ⟨x1, x2, x3, x4, x5, x6, x7, x8, x9, x10, x11, x12, x13⟩ := X
  have hp := hL.pb
  have hq := hL.qb
  have hc := hL.cp
  have hd := hL.dq
  have i1 := bd_nn (n := x.bit) (m := 1) (by omega) (by omega) (by omega)
  have i2 := bd_nn (n := x.heard) (m := L.q) (by omega) (by omega) (by omega)
  have i3 := bd_nn (n := x.own) (m := 1) (by omega) (by omega) (by omega)
  have i4 := bd_nn (n := x.n) (m := L.p) (by omega) (by omega) (by omega)
  have i5 := bd_nn (n := x.z) (m := L.p) (by omega) (by omega) (by omega)
  have i6 := bd_nn (n := x.o) (m := L.p) (by omega) (by omega) (by omega)
  have i7 := bd_nn (n := x.y) (m := L.q) (by omega) (by omega) (by omega)
  have i8 := bd_nn (n := x.x) (m := L.q) (by omega) (by omega) (by omega)
  refine sho_by (B := 601) ?_ ?_ ?_ ?_ (by decide) ?_
  · simp only [ctD, PyData.showable, PyData.showableAll, decide_eq_true (log_in i1), decide_eq_true (log_in i2), decide_eq_true (log_in i3), decide_eq_true (log_in i4), decide_eq_true (log_in i5), decide_eq_true (log_in i6), decide_eq_true (log_in i7), decide_eq_true (log_in i8), l1, Bool.and_self]
  · simp only [ctD, PyData.hasDict, PyData.hasDictAll, l2, Bool.or_self]
  · simp only [ctD, PyData.depth, PyData.depthAll]; omega
  · simp only [ctD, PyData.leavesShort, PyData.leavesShortAll, decide_eq_true (int_short i1), decide_eq_true (int_short i2), decide_eq_true (int_short i3), decide_eq_true (int_short i4), decide_eq_true (int_short i5), decide_eq_true (int_short i6), decide_eq_true (int_short i7), decide_eq_true (int_short i8), l4, Bool.and_self]
  · have w1 := wt_in i1
    have w2 := wt_in i2
    have w3 := wt_in i3
    have w4 := wt_in i4
    have w5 := wt_in i5
    have w6 := wt_in i6
    have w7 := wt_in i7
    have w8 := wt_in i8
    have e : (ctD L x).weight ≤ 20000 := by
      have eb : (PyData.bool x.done).weight = 0 := by simp only [PyData.weight]
      have et : ∀ xs, (PyData.tuple xs).weight = PyData.weightAll xs := fun xs => by simp only [PyData.weight]
      simp only [ctD, et, PyData.weightAll, eb]
      omega
    omega
end
end HW
/-! part D2 -/
namespace HW
open PySem PySem.Spec PyProof.Rows L2 NdefX LamX
open HM (Lk Ct Lot)
local macro_rules | `(tactic| walk_at "ga") => `(tactic| first | with_reducible assumption | (with_reducible apply GenA.up; assumption; walk_at "ga") | (with_reducible apply GenA.S; assumption; walk_at "ga") | (with_reducible apply GenA.N; assumption; walk_at "ga"))
local macro_rules | `(tactic| walk_at "mg") => `(tactic| first | with_reducible assumption | (with_reducible apply Mg.refl; assumption) | (with_reducible apply Mg.up; assumption; walk_at "mg") | (with_reducible apply Mg.S; assumption; walk_at "mg") | (with_reducible apply mg_T; assumption; walk_at "mg"))
local macro_rules | `(tactic| walk_at "in") => `(tactic| first | assumption | (constructor <;> omega))
local macro_rules | `(tactic| walk_at "en") => `(tactic| first | with_reducible assumption | exact ExtN.refl _ | (with_reducible apply extN_up2; assumption; walk_at "en") | (with_reducible apply extN_S2; assumption; walk_at "en") | (with_reducible apply extN_N2; assumption; walk_at "en"))
local macro_rules | `(tactic| walk_at "tb") => `(tactic| first | with_reducible assumption | (with_reducible apply Tabs.up2; assumption; walk_at "tb") | (with_reducible apply Tabs.S2; assumption; walk_at "tb") | (with_reducible apply Tabs.M; assumption; walk_at "tb"))
local macro_rules | `(tactic| walk_at "nf") => `(tactic| dsimp only [L2.cxOf, L2.Cx.nox, NdefX.startF, NdefX.slotAt, L2.start, List.set, List.getElem?_cons_zero, List.getElem?_cons_succ, Option.join, Option.bind, List.length, List.replicate, List.map, HAppend.hAppend, Append.append, List.append, Nat.reduceAdd, Nat.reduceSub, Nat.zero_add])
local macro_rules | `(tactic| walk_at "nm") => `(tactic| dsimp only [L2.cxOf, L2.Cx.nox, L2.start, List.set, List.length, List.replicate, List.map, HAppend.hAppend, Append.append, List.append, Nat.reduceAdd, Nat.reduceSub, Nat.zero_add])
local macro_rules | `(tactic| walk_at "sq0") => `(tactic| first | assumption | exact SqT.of upd_same | (apply sqT_up; assumption; walk_at "sq0") | (apply sqT_S; assumption; walk_at "sq0") | (apply sqT_N; assumption; walk_at "sq0") | (apply sqT_M; assumption; walk_at "sq0"))
local macro_rules | `(tactic| walk_at "sq1") => `(tactic| first | assumption | exact SqT.of upd_same | (apply sqT_up; assumption; walk_at "sq1") | (apply sqT_S; assumption; walk_at "sq1") | (apply sqT_N; assumption; walk_at "sq1") | (apply sqT_M; assumption; walk_at "sq1"))
local macro_rules | `(tactic| walk_at "sq") => `(tactic| first | with_reducible walk_at "sq0" | walk_at "sq1")
local macro_rules | `(tactic| walk_at "sl0") => `(tactic| first | assumption | exact SqL.of upd_same | exact SqL.of (by assumption) | (apply sqL_up; assumption; walk_at "sl0") | (apply sqL_S; assumption; walk_at "sl0") | (apply sqL_N; assumption; walk_at "sl0") | (apply sqL_M; assumption; assumption; walk_at "sl0"))
local macro_rules | `(tactic| walk_at "sl1") => `(tactic| first | assumption | exact SqL.of upd_same | exact SqL.of (by assumption) | (apply sqL_up; assumption; walk_at "sl1") | (apply sqL_S; assumption; walk_at "sl1") | (apply sqL_N; assumption; walk_at "sl1") | (apply sqL_M; assumption; assumption; walk_at "sl1"))
local macro_rules | `(tactic| walk_at "sl") => `(tactic| first | with_reducible walk_at "sl0" | walk_at "sl1")
local macro_rules | `(tactic| walk_at "lt0") => `(tactic| first | assumption | (apply LotV.up; assumption; walk_at "lt0") | (apply LotV.S; assumption; walk_at "lt0") | (apply LotV.N; assumption; walk_at "lt0") | (apply LotV.M; assumption; walk_at "lt0"))
local macro_rules | `(tactic| walk_at "lt1") => `(tactic| first | assumption | (apply LotV.up; assumption; walk_at "lt1") | (apply LotV.S; assumption; walk_at "lt1") | (apply LotV.N; assumption; walk_at "lt1") | (apply LotV.M; assumption; walk_at "lt1"))
local macro_rules | `(tactic| walk_at "lt") => `(tactic| first | with_reducible walk_at "lt0" | walk_at "lt1")
local macro_rules | `(tactic| walk_at "ct0") => `(tactic| first | assumption | (apply CtA.up; assumption; walk_at "ct0") | (apply CtA.S; assumption; walk_at "ct0") | (apply CtA.N; assumption; walk_at "ct0") | (apply CtA.M; assumption; walk_at "ct0"))
local macro_rules | `(tactic| walk_at "ct1") => `(tactic| first | assumption | (apply CtA.up; assumption; walk_at "ct1") | (apply CtA.S; assumption; walk_at "ct1") | (apply CtA.N; assumption; walk_at "ct1") | (apply CtA.M; assumption; walk_at "ct1"))
local macro_rules | `(tactic| walk_at "ct") => `(tactic| first | with_reducible walk_at "ct0" | walk_at "ct1")
local macro_rules | `(tactic| walk_at "ho0") => `(tactic| first | assumption | (apply HoA.up; assumption; walk_at "ho0") | (apply HoA.S; assumption; walk_at "ho0") | (apply HoA.N; assumption; walk_at "ho0"))
local macro_rules | `(tactic| walk_at "ho1") => `(tactic| first | assumption | (apply HoA.up; assumption; walk_at "ho1") | (apply HoA.S; assumption; walk_at "ho1") | (apply HoA.N; assumption; walk_at "ho1"))
local macro_rules | `(tactic| walk_at "ho") => `(tactic| first | with_reducible walk_at "ho0" | walk_at "ho1")
local macro_rules | `(tactic| walk_at "sm0") => `(tactic| first | assumption | exact Same.refl _ | (refine same_up ?_ (by assumption); walk_at "sm0") | (refine Same.trans ?_ (by assumption); walk_at "sm0") | exact same_new (by assumption) _)
local macro_rules | `(tactic| walk_at "sm1") => `(tactic| first | assumption | exact Same.refl _ | (refine same_up ?_ (by assumption); walk_at "sm1") | (refine Same.trans ?_ (by assumption); walk_at "sm1") | exact same_new (by assumption) _)
local macro_rules | `(tactic| walk_at "sm") => `(tactic| first | with_reducible walk_at "sm0" | walk_at "sm1")
local macro_rules | `(tactic| walk_at "pre") => `(tactic| first | assumption | omega | decide)
section
variable {P : Program} {w : World} {K : PySem.W.Frag} {mg : Str → Option Value} {base : Heap}
def lotK : Lot → PyData
  | .no => .list []
  | .new m => .list [.str "new", .int m]
  | .old m => .list [.str "old", .int m]
def keyD (L : Lk) (x : Ct) : PyData := .list [.int x.bit, .int x.heard, .int x.own, lotK (x.lot L), .int (HM.b2 x.done), .list [.int x.n, .int x.z, .int x.o], .list [.int x.y, .int x.x]]
theorem key_alike (L : Lk) (x y : Ct) : PySem.W.alike (keyD L x) (keyD L y) = true := by
  unfold keyD
  cases x.lot L <;> cases y.lot L <;> simp [lotK, PySem.W.alike, PySem.W.alikeAll]
theorem key_none (L : Lk) (x : Ct) : keyD L x ≠ .none := by unfold keyD; simp
theorem key_depth (L : Lk) (x : Ct) : (keyD L x).depth ≤ 60 := by
  unfold keyD
  cases x.lot L <;> simp [lotK, PyData.depth, PyData.depthAll]
abbrev Tk : Type := Int ⊕ List Nat
abbrev lx (a b : List Tk) : Bool := PyProof.Rows.lexLt PyProof.Rows.itemOrd a b
theorem lx_int {a b : Int} (h : a ≠ b) (s t : List Tk) : lx (.inl a :: s) (.inl b :: t) = decide (a < b) := (PyProof.Rows.lex_diff (O := PyProof.Rows.itemOrd) fun z => h (Sum.inl.inj z)).trans rfl
/-- a place more -/
theorem lx_step {a b : Int} {s t : List Tk} {ds es : List Int} (h : a = b → lx s t = HM.lexB ds es) : lx (.inl 1 :: .inl a :: s) (.inl 1 :: .inl b :: t) = HM.lexB (a :: ds) (b :: es) := by
  refine (PyProof.Rows.lex_self (O := PyProof.Rows.itemOrd) _ _ _).trans ?_
  unfold HM.lexB
  by_cases e : a = b
  · rw [if_pos e]
    subst e
    exact (PyProof.Rows.lex_self (O := PyProof.Rows.itemOrd) _ _ _).trans (h rfl)
  · rw [if_neg e]; exact lx_int e s t
theorem lx_same (a : Tk) (s t : List Tk) : lx (a :: s) (a :: t) = lx s t := PyProof.Rows.lex_self (O := PyProof.Rows.itemOrd) _ _ _
def lotT : Lot → List Tk
  | .no => [.inl 0]
  | .new m => [.inl 1, .inr (("new" : Str).cps.toList), .inl 1, .inl m, .inl 0]
  | .old m => [.inl 1, .inr (("old" : Str).cps.toList), .inl 1, .inl m, .inl 0]
theorem lotT_eq (l : Lot) : PySem.W.keyToks (lotK l) = lotT l := by cases l <;> rfl
/-- the lots' rows are in the order of their numbers -/
theorem lot_step {L : Lk} {e : Bool} {a b : Int} (ha : 0 ≤ a ∧ a < HM.lotsIn L e) (hb : 0 ≤ b ∧ b < HM.lotsIn L e) {s t : List Tk} {ds es : List Int} (h : a = b → lx s t = HM.lexB ds es) :
    lx (.inl 1 :: (lotT (HM.lotOf L e a) ++ s)) (.inl 1 :: (lotT (HM.lotOf L e b) ++ t)) = HM.lexB (a :: ds) (b :: es) := by
  rw [lx_same]
  unfold HM.lexB
  by_cases eq : a = b
  · subst eq
    rw [if_pos rfl]
    refine Eq.trans ?_ (h rfl)
    exact PySem.W.lex_pre _ _ _
  · rw [if_neg eq]
    have in1 : ∀ (z : List Nat) (i j : Int), i ≠ j → lx (.inl 1 :: .inr z :: .inl 1 :: .inl i :: .inl 0 :: s) (.inl 1 :: .inr z :: .inl 1 :: .inl j :: .inl 0 :: t) = decide (i < j) := fun z i j ne => by
      rw [lx_same, lx_same, lx_same]; exact lx_int ne _ _
    have nw : ∀ (i j : Int), lx (.inl 1 :: .inr (("new" : Str).cps.toList) :: .inl 1 :: .inl i :: .inl 0 :: s) (.inl 1 :: .inr (("old" : Str).cps.toList) :: .inl 1 :: .inl j :: .inl 0 :: t) = true := fun i j => by
      rw [lx_same]
      exact (PyProof.Rows.lex_diff (O := PyProof.Rows.itemOrd) (by decide)).trans (by decide)
    have wn : ∀ (i j : Int), lx (.inl 1 :: .inr (("old" : Str).cps.toList) :: .inl 1 :: .inl i :: .inl 0 :: s) (.inl 1 :: .inr (("new" : Str).cps.toList) :: .inl 1 :: .inl j :: .inl 0 :: t) = false := fun i j => by
      rw [lx_same]
      exact (PyProof.Rows.lex_diff (O := PyProof.Rows.itemOrd) (by decide)).trans (by decide)
    by_cases a0 : a = 0
    · subst a0
      rw [show HM.lotOf L e 0 = .no from if_pos rfl]
      have b0 : b ≠ 0 := fun z => eq z.symm
      rw [decide_eq_true (by omega : (0 : Int) < b)]
      unfold HM.lotOf
      rw [if_neg b0]
      (repeat' split) <;> exact (lx_int (by decide) _ _).trans (by decide)
    · by_cases b0 : b = 0
      · subst b0
        rw [show HM.lotOf L e 0 = .no from if_pos rfl]
        rw [decide_eq_false (by omega : ¬ a < 0)]
        unfold HM.lotOf
        rw [if_neg a0]
        (repeat' split) <;> exact (lx_int (by decide) _ _).trans (by decide)
      · unfold HM.lotOf
        rw [if_neg a0, if_neg b0]
        cases e with
        | true =>
          rw [if_pos rfl, if_pos rfl]
          exact in1 _ a b eq
        | false =>
          rw [if_neg Bool.false_ne_true, if_neg Bool.false_ne_true]
          by_cases a1 : L.p ≤ a
          · by_cases b1 : L.p ≤ b
            · rw [if_pos a1, if_pos b1]
              refine (in1 _ (a - L.p + 1) (b - L.p + 1) (by omega)).trans ?_
              by_cases l : a < b
              · rw [decide_eq_true l, decide_eq_true (by omega)]
              · rw [decide_eq_false l, decide_eq_false (by omega)]
            · rw [if_pos a1, if_neg b1, decide_eq_false (by omega)]
              exact wn _ _
          · by_cases b1 : L.p ≤ b
            · rw [if_neg a1, if_pos b1, decide_eq_true (by omega)]
              exact nw _ _
            · rw [if_neg a1, if_neg b1]
              exact in1 _ a b eq
theorem key_lt {L : Lk} {x y : Ct} (X : x.Ok L) (Y : y.Ok L) : PySem.W.dataLt (keyD L x) (keyD L y) = HM.lexB x.digits y.digits := by
  have q : ∀ z : Ct, PySem.W.keyToks (keyD L z) = .inl 1 :: .inl z.bit :: .inl 1 :: .inl z.heard :: .inl 1 :: .inl z.own :: .inl 1 :: (lotT (z.lot L) ++ (.inl 1 :: .inl (HM.b2 z.done) :: .inl 1 :: .inl 1 :: .inl z.n :: .inl 1 :: .inl z.z :: .inl 1 :: .inl z.o :: .inl 0 :: .inl 1 :: .inl 1 :: .inl z.y :: .inl 1 :: .inl z.x :: .inl 0 :: .inl 0 :: [])) := fun z => by
    unfold keyD
    simp only [PySem.W.keyToks, PySem.W.keyToksAll, lotT_eq, List.cons_append, List.nil_append]
  unfold PySem.W.dataLt
  rw [q x, q y]
  refine lx_step fun e1 => lx_step fun e2 => lx_step fun e3 => ?_
  have ev : y.even = x.even := by unfold Ct.even; rw [e1, e3]
  have hx := And.intro X.lots0 X.lots1
  have hy := And.intro Y.lots0 Y.lots1
  unfold Ct.lot
  rw [ev] at hy ⊢
  refine lot_step hx hy fun e4 => lx_step fun e5 => ?_
  rw [lx_same]
  refine lx_step fun e6 => lx_step fun e7 => lx_step fun e8 => ?_
  rw [lx_same, lx_same]
  refine lx_step fun e9 => lx_step fun e10 => ?_
  rw [lx_same]
  exact lx_same _ _ _
end
end HW
/-! part W13 -/
namespace HW
open PySem PySem.Spec PyProof.Rows L2 NdefX LamX
open HM (Lk Ct Lot)
local macro_rules | `(tactic| walk_at "ga") => `(tactic| first | with_reducible assumption | (with_reducible apply GenA.up; assumption; walk_at "ga") | (with_reducible apply GenA.S; assumption; walk_at "ga") | (with_reducible apply GenA.N; assumption; walk_at "ga"))
local macro_rules | `(tactic| walk_at "mg") => `(tactic| first | with_reducible assumption | (with_reducible apply Mg.refl; assumption) | (with_reducible apply Mg.up; assumption; walk_at "mg") | (with_reducible apply Mg.S; assumption; walk_at "mg") | (with_reducible apply mg_T; assumption; walk_at "mg"))
local macro_rules | `(tactic| walk_at "in") => `(tactic| first | assumption | (constructor <;> omega))
local macro_rules | `(tactic| walk_at "en") => `(tactic| first | with_reducible assumption | exact ExtN.refl _ | (with_reducible apply extN_up2; assumption; walk_at "en") | (with_reducible apply extN_S2; assumption; walk_at "en") | (with_reducible apply extN_N2; assumption; walk_at "en"))
local macro_rules | `(tactic| walk_at "tb") => `(tactic| first | with_reducible assumption | (with_reducible apply Tabs.up2; assumption; walk_at "tb") | (with_reducible apply Tabs.S2; assumption; walk_at "tb") | (with_reducible apply Tabs.M; assumption; walk_at "tb"))
local macro_rules | `(tactic| walk_at "nf") => `(tactic| dsimp only [L2.cxOf, L2.Cx.nox, NdefX.startF, NdefX.slotAt, L2.start, List.set, List.getElem?_cons_zero, List.getElem?_cons_succ, Option.join, Option.bind, List.length, List.replicate, List.map, HAppend.hAppend, Append.append, List.append, Nat.reduceAdd, Nat.reduceSub, Nat.zero_add])
local macro_rules | `(tactic| walk_at "nm") => `(tactic| dsimp only [L2.cxOf, L2.Cx.nox, L2.start, List.set, List.length, List.replicate, List.map, HAppend.hAppend, Append.append, List.append, Nat.reduceAdd, Nat.reduceSub, Nat.zero_add])
local macro_rules | `(tactic| walk_at "sq0") => `(tactic| first | assumption | exact SqT.of upd_same | (apply sqT_up; assumption; walk_at "sq0") | (apply sqT_S; assumption; walk_at "sq0") | (apply sqT_N; assumption; walk_at "sq0") | (apply sqT_M; assumption; walk_at "sq0"))
local macro_rules | `(tactic| walk_at "sq1") => `(tactic| first | assumption | exact SqT.of upd_same | (apply sqT_up; assumption; walk_at "sq1") | (apply sqT_S; assumption; walk_at "sq1") | (apply sqT_N; assumption; walk_at "sq1") | (apply sqT_M; assumption; walk_at "sq1"))
local macro_rules | `(tactic| walk_at "sq") => `(tactic| first | with_reducible walk_at "sq0" | walk_at "sq1")
local macro_rules | `(tactic| walk_at "sl0") => `(tactic| first | assumption | exact SqL.of upd_same | exact SqL.of (by assumption) | (apply sqL_up; assumption; walk_at "sl0") | (apply sqL_S; assumption; walk_at "sl0") | (apply sqL_N; assumption; walk_at "sl0") | (apply sqL_M; assumption; assumption; walk_at "sl0"))
local macro_rules | `(tactic| walk_at "sl1") => `(tactic| first | assumption | exact SqL.of upd_same | exact SqL.of (by assumption) | (apply sqL_up; assumption; walk_at "sl1") | (apply sqL_S; assumption; walk_at "sl1") | (apply sqL_N; assumption; walk_at "sl1") | (apply sqL_M; assumption; assumption; walk_at "sl1"))
local macro_rules | `(tactic| walk_at "sl") => `(tactic| first | with_reducible walk_at "sl0" | walk_at "sl1")
local macro_rules | `(tactic| walk_at "lt0") => `(tactic| first | assumption | (apply LotV.up; assumption; walk_at "lt0") | (apply LotV.S; assumption; walk_at "lt0") | (apply LotV.N; assumption; walk_at "lt0") | (apply LotV.M; assumption; walk_at "lt0"))
local macro_rules | `(tactic| walk_at "lt1") => `(tactic| first | assumption | (apply LotV.up; assumption; walk_at "lt1") | (apply LotV.S; assumption; walk_at "lt1") | (apply LotV.N; assumption; walk_at "lt1") | (apply LotV.M; assumption; walk_at "lt1"))
local macro_rules | `(tactic| walk_at "lt") => `(tactic| first | with_reducible walk_at "lt0" | walk_at "lt1")
local macro_rules | `(tactic| walk_at "ct0") => `(tactic| first | assumption | (apply CtA.up; assumption; walk_at "ct0") | (apply CtA.S; assumption; walk_at "ct0") | (apply CtA.N; assumption; walk_at "ct0") | (apply CtA.M; assumption; walk_at "ct0"))
local macro_rules | `(tactic| walk_at "ct1") => `(tactic| first | assumption | (apply CtA.up; assumption; walk_at "ct1") | (apply CtA.S; assumption; walk_at "ct1") | (apply CtA.N; assumption; walk_at "ct1") | (apply CtA.M; assumption; walk_at "ct1"))
local macro_rules | `(tactic| walk_at "ct") => `(tactic| first | with_reducible walk_at "ct0" | walk_at "ct1")
local macro_rules | `(tactic| walk_at "ho0") => `(tactic| first | assumption | (apply HoA.up; assumption; walk_at "ho0") | (apply HoA.S; assumption; walk_at "ho0") | (apply HoA.N; assumption; walk_at "ho0"))
local macro_rules | `(tactic| walk_at "ho1") => `(tactic| first | assumption | (apply HoA.up; assumption; walk_at "ho1") | (apply HoA.S; assumption; walk_at "ho1") | (apply HoA.N; assumption; walk_at "ho1"))
local macro_rules | `(tactic| walk_at "ho") => `(tactic| first | with_reducible walk_at "ho0" | walk_at "ho1")
local macro_rules | `(tactic| walk_at "sm0") => `(tactic| first | assumption | exact Same.refl _ | (refine same_up ?_ (by assumption); walk_at "sm0") | (refine Same.trans ?_ (by assumption); walk_at "sm0") | exact same_new (by assumption) _)
local macro_rules | `(tactic| walk_at "sm1") => `(tactic| first | assumption | exact Same.refl _ | (refine same_up ?_ (by assumption); walk_at "sm1") | (refine Same.trans ?_ (by assumption); walk_at "sm1") | exact same_new (by assumption) _)
local macro_rules | `(tactic| walk_at "sm") => `(tactic| first | with_reducible walk_at "sm0" | walk_at "sm1")
local macro_rules | `(tactic| walk_at "pre") => `(tactic| first | assumption | omega | decide)
section
variable {P : Program} {w : World} {K : PySem.W.Frag} {mg : Str → Option Value} {base : Heap}
theorem at_bit {y z b : Int} (h : b = 0 ∨ b = 1) : atI [V.int y, V.int z] b = some (V.int (if b = 0 then y else z)) := by
  rcases h with rfl | rfl <;> rfl
theorem at_own {n z o b : Int} (h : b = 0 ∨ b = 1) : atI [V.int n, V.int z, V.int o] (2 - b) = some (V.int (HM.ownCopies b z o)) := by
  rcases h with rfl | rfl <;> rfl
def sp_lsigns (K : PySem.W.Frag) : Sp := fun vs H Q _ => ∃ (a c : Addr) (L : Lk) (x : Ct), vs = [.ref a, .ref c] ∧ (LkA K H a L ∧ CtA K H L c x ∧ x.Ok L) ∧ ∀ p H', Same H H' → H' p = some (.lst [.bl x.even, .bl x.done, .bl (decide (L.q ≤ HM.answers x)), .bl (decide (L.p ≤ HM.oldIn L x))]) → Q (.ref p) H'
theorem signs_l {L : Lk} {x : Ct} {l : Lot} (e : x.lot L = l) : ([.bl (decide (V.int x.bit = V.int x.own)), .bl x.done, .bl (decide (L.q ≤ x.heard + (if x.bit = 0 then x.y else x.x))), .bl (decide (L.p ≤ HM.ownCopies x.own x.z x.o + HM.lotOld l))] : List V)
    = [.bl x.even, .bl x.done, .bl (decide (L.q ≤ HM.answers x)), .bl (decide (L.p ≤ HM.oldIn L x))] := by
  rw [int_eqv, ← e]; rfl
theorem sc__law_signs : FnScope ["_law_link", "_law_here_here", "_law_old", "_law_there", "_law_back", "_law_bit", "_law_heard_here", "_law_own", "_law_lot", "_law_done"] ["_law_link", "_law_here_here"] (defScope s__law_signs) := ⟨rfl, rfl, rfl, by decide +kernel, rfl, by decide +kernel, by decide +kernel⟩
theorem ok__law_signs (Fx : Facts K mg) : Fn P w K mg base 1 "_law_signs" ["_law_link", "_law_here_here"] (sp_lsigns K) := by
  refine fn_mk Fx 67 (st := s__law_signs) rfl sc__law_signs (fun _ _ _ _ _ _ us hl => match us, hl with | [_, _], _ => rfl) (fun vs H Q E h => ?_) (fun f cdv A outer s H vs Q E hr h => ?_)
  · obtain ⟨a, c, L, x, rfl, _⟩ := h
    rfl
  obtain ⟨a, c, L, x, rfl, ⟨hl, hc, hX⟩, q⟩ := h
  obtain ⟨s, r, t, b, v, h0, h1, h2, h3, h4, h5⟩ := hc.ex
  refine ⟨_, (pss_cons (ps_asg (pv 1) (pg_tup rfl (pgs_cons (pg_tup rfl (pgs_cons (pg_name (i := 5) sc__law_signs.nd rfl (.inl rfl)) (pgs_cons (pg_name (i := 6) sc__law_signs.nd rfl (.inl rfl)) pgs_nil))) (pgs_cons (pg_tup rfl (pgs_cons (pg_name (i := 7) sc__law_signs.nd rfl (.inl rfl)) (pgs_cons (pg_name (i := 8) sc__law_signs.nd rfl (.inl rfl)) (pgs_cons (pg_name (i := 9) sc__law_signs.nd rfl (.inl rfl)) pgs_nil)))) (pgs_cons (pg_name (i := 3) sc__law_signs.nd rfl (.inl rfl)) (pgs_cons (pg_name (i := 4) sc__law_signs.nd rfl (.inl rfl)) pgs_nil)))))) (pss_cons (ps_set (i := 2) sc__law_signs.nd rfl (.inl rfl) (pe_ifExp (PW.pt (pw_and (pt_cmpR op_notN (pv 8) pe_non (nomark _)) (pw_and1 (pt_cmpR op_eq (pe_ix ix_tup (pv 8) pe_int (fun _ _ => rfl)) pe_str (nomark _))))) (pe_ix ix_tup (pv 8) pe_int (fun _ _ => rfl)) pe_int)) (pss_one (ps_ret (pe_lst (pa_cons (pe_cmpR op_eq (pv 5) (pv 7) (nomark _)) (pa_cons (pv 9) (pa_cons (pe_cmpR op_ge (pe_op op_add (pv 6) (pe_ix ix_tup (pv 4) (pv 5) (fun _ _ => rfl))) (pe_ix ix_tup (pv 0) pe_int (fun _ _ => rfl)) (nomark _)) (pa_cons (pe_cmpR op_ge (pe_op op_add (pe_ix ix_tup (pv 3) (pe_op op_sub pe_int (pv 7)) (fun _ _ => rfl)) (pv 2)) (pe_ix ix_tup (pv 0) pe_int (fun _ _ => rfl)) (nomark _)) pa_nil))))))))), ?_⟩
  generalize el : x.lot L = l at h3
  cases h3 with
  | no =>
    refine ⟨_, rfl, _, _, rfl, (by walk_at "sq"), rfl, _, _, rfl, _, _, rfl, (by walk_at "sq"), rfl, _, _, rfl, _, _, rfl, rfl, _, _, rfl, _, _, rfl, (by walk_at "sq"), rfl, _, _, rfl, _, _, rfl, _, _, rfl, rfl, _, _, rfl, _, _, rfl, rfl, ?_⟩
    walk_at "nm"
    refine ⟨_, rfl, rfl, _, rfl, ?_⟩
    refine iteF ?_
    refine iteF ?_
    refine ⟨_, rfl, _, rfl, rfl, _, rfl, _, rfl, _, rfl, _, rfl, _, _, _, _, rfl, rfl, (by walk_at "sq"), (at_bit hX.bit), _, _, rfl, rfl, _, rfl, _, _, _, _, rfl, rfl, (by walk_at "sq"), rfl, _, _, rfl, rfl, _, rfl, _, rfl, _, _, rfl, rfl, _, _, _, _, rfl, rfl, (by walk_at "sq"), (at_own hX.own), _, rfl, _, _, rfl, rfl, _, rfl, _, _, _, _, rfl, rfl, (by walk_at "sq"), rfl, _, _, rfl, rfl, (by show 4 ≤ sizeLine; decide), fun p1 np1 => ?_⟩
    refine q p1 _ (by walk_at "sm") (upd_same.trans ?_)
    exact congrArg (fun t => some (HO.lst t)) (signs_l el)
  | new hm =>
    refine ⟨_, rfl, _, _, rfl, (by walk_at "sq"), rfl, _, _, rfl, _, _, rfl, (by walk_at "sq"), rfl, _, _, rfl, _, _, rfl, rfl, _, _, rfl, _, _, rfl, (by walk_at "sq"), rfl, _, _, rfl, _, _, rfl, _, _, rfl, rfl, _, _, rfl, _, _, rfl, rfl, ?_⟩
    walk_at "nm"
    refine ⟨_, rfl, rfl, _, rfl, ?_⟩
    refine iteT ?_
    refine ⟨_, rfl, _, _, _, _, rfl, rfl, (by walk_at "sq"), rfl, rfl, _, rfl, ?_⟩
    refine ite2 (fun c => absurd c (by decide)) (fun c => ?_)
    refine ⟨_, rfl, _, rfl, rfl, _, rfl, _, rfl, _, rfl, _, rfl, _, _, _, _, rfl, rfl, (by walk_at "sq"), (at_bit hX.bit), _, _, rfl, rfl, _, rfl, _, _, _, _, rfl, rfl, (by walk_at "sq"), rfl, _, _, rfl, rfl, _, rfl, _, rfl, _, _, rfl, rfl, _, _, _, _, rfl, rfl, (by walk_at "sq"), (at_own hX.own), _, rfl, _, _, rfl, rfl, _, rfl, _, _, _, _, rfl, rfl, (by walk_at "sq"), rfl, _, _, rfl, rfl, (by show 4 ≤ sizeLine; decide), fun p1 np1 => ?_⟩
    refine q p1 _ (by walk_at "sm") (upd_same.trans ?_)
    exact congrArg (fun t => some (HO.lst t)) (signs_l el)
  | old hm =>
    refine ⟨_, rfl, _, _, rfl, (by walk_at "sq"), rfl, _, _, rfl, _, _, rfl, (by walk_at "sq"), rfl, _, _, rfl, _, _, rfl, rfl, _, _, rfl, _, _, rfl, (by walk_at "sq"), rfl, _, _, rfl, _, _, rfl, _, _, rfl, rfl, _, _, rfl, _, _, rfl, rfl, ?_⟩
    walk_at "nm"
    refine ⟨_, rfl, rfl, _, rfl, ?_⟩
    refine iteT ?_
    refine ⟨_, rfl, _, _, _, _, rfl, rfl, (by walk_at "sq"), rfl, rfl, _, rfl, ?_⟩
    refine ite2 (fun c => ?_) (fun c => absurd (by decide) c)
    refine ⟨_, rfl, _, _, _, _, rfl, rfl, (by walk_at "sq"), rfl, _, rfl, _, rfl, rfl, _, rfl, _, rfl, _, rfl, _, rfl, _, _, _, _, rfl, rfl, (by walk_at "sq"), (at_bit hX.bit), _, _, rfl, rfl, _, rfl, _, _, _, _, rfl, rfl, (by walk_at "sq"), rfl, _, _, rfl, rfl, _, rfl, _, rfl, _, _, rfl, rfl, _, _, _, _, rfl, rfl, (by walk_at "sq"), (at_own hX.own), _, rfl, _, _, rfl, rfl, _, rfl, _, _, _, _, rfl, rfl, (by walk_at "sq"), rfl, _, _, rfl, rfl, (by show 4 ≤ sizeLine; decide), fun p1 np1 => ?_⟩
    refine q p1 _ (by walk_at "sm") (upd_same.trans ?_)
    exact congrArg (fun t => some (HO.lst t)) (signs_l el)
theorem sc__law_harm : FnScope ["_law_link", "_law_here_here", "_law_even", "_law_done", "_law_enough", "_law_old"] ["_law_link", "_law_here_here"] (defScope s__law_harm) := ⟨rfl, rfl, rfl, by decide +kernel, rfl, by decide +kernel, by decide +kernel⟩
theorem ok__law_harm (Fx : Facts K mg) : Fn P w K mg base 2 "_law_harm" ["_law_link", "_law_here_here"] (sp_harm K) := by
  have F__law_signs := ok__law_signs (P := P) (w := w) (base := base) Fx
  refine fn_mk Fx 68 (st := s__law_harm) rfl sc__law_harm (fun _ _ _ _ _ _ us hl => match us, hl with | [_, _], _ => rfl) (fun vs H Q E h => ?_) (fun f cdv A outer s H vs Q E hr h => ?_)
  · obtain ⟨a, c, L, x, rfl, _⟩ := h
    rfl
  obtain ⟨a, c, L, x, rfl, ⟨hl, hc, hX⟩, q⟩ := h
  refine ⟨_, (pss_cons (ps_asg (pe_fn F__law_signs hr (pa_cons (pv 0) (pa_cons (pv 1) pa_nil))) (pg_lst rfl (pgs_cons (pg_name (i := 2) sc__law_harm.nd rfl (.inl rfl)) (pgs_cons (pg_name (i := 3) sc__law_harm.nd rfl (.inl rfl)) (pgs_cons (pg_name (i := 4) sc__law_harm.nd rfl (.inl rfl)) (pgs_cons (pg_name (i := 5) sc__law_harm.nd rfl (.inl rfl)) pgs_nil)))))) (pss_cons (ps_if (PW.pt (pw_and (pt_val (pv 2)) (pw_and1 (pt_val (pv 3))))) (pss_one (ps_ret (pe_op op_mul pe_int (pe_callTy call_intB (by rfl) (Fx.bt 1 _ rfl) boot_int (pa_cons (pv 5) pa_nil))))) pss_nil) (pss_cons (ps_if (pt_val (pv 2)) (pss_one (ps_ret (pe_ifExp (PW.pt (pw_and (pt_val (pv 4)) (pw_and1 (pt_val (pv 5))))) pe_int pe_int))) pss_nil) (pss_one (ps_ret (pe_ifExp (pt_val (pv 3)) pe_int (pe_op op_mul pe_int (pe_callTy call_intB (by rfl) (Fx.bt 1 _ rfl) boot_int (pa_cons (pe_or (pv 4) (pe_one (pv 5))) pa_nil))))))))), ?_⟩
  refine ⟨_, rfl, _, rfl, _, _, _, _, rfl, ⟨(by walk_at "sq"), (by walk_at "ct"), hX⟩, fun p1 H1 e1 s1 => ?_⟩
  have q2 : ∀ H', Same H H' → Q (.int (HM.harmOf x.even x.done (decide (L.q ≤ HM.answers x)) (decide (L.p ≤ HM.oldIn L x)))) H' := q
  generalize x.even = e at s1 q2
  generalize x.done = d at s1 q2
  generalize decide (L.q ≤ HM.answers x) = an at s1 q2
  generalize decide (L.p ≤ HM.oldIn L x) = ol at s1 q2
  cases e <;> cases d <;> cases an <;> cases ol
  · refine ⟨_, _, rfl, (SqL.of s1), rfl, _, _, rfl, _, _, rfl, _, _, rfl, _, _, rfl, rfl, _, rfl, _, rfl, ?_⟩
    refine iteF ?_
    refine iteF ?_
    refine ⟨_, rfl, _, rfl, ?_⟩
    refine iteF ?_
    refine ⟨_, rfl, _, rfl, ?_⟩
    refine iteF ?_
    refine ⟨_, rfl, _, rfl, ?_⟩
    refine iteF ?_
    refine ⟨_, rfl, _, rfl, _, _, rfl, rfl, (.inl ⟨by decide, by decide⟩), ?_⟩
    exact q2 _ (by walk_at "sm")
  · refine ⟨_, _, rfl, (SqL.of s1), rfl, _, _, rfl, _, _, rfl, _, _, rfl, _, _, rfl, rfl, _, rfl, _, rfl, ?_⟩
    refine iteF ?_
    refine iteF ?_
    refine ⟨_, rfl, _, rfl, ?_⟩
    refine iteF ?_
    refine ⟨_, rfl, _, rfl, ?_⟩
    refine iteF ?_
    refine ⟨_, rfl, _, rfl, ?_⟩
    refine iteF ?_
    refine ⟨_, rfl, _, rfl, _, _, rfl, rfl, (.inl ⟨by decide, by decide⟩), ?_⟩
    exact q2 _ (by walk_at "sm")
  · refine ⟨_, _, rfl, (SqL.of s1), rfl, _, _, rfl, _, _, rfl, _, _, rfl, _, _, rfl, rfl, _, rfl, _, rfl, ?_⟩
    refine iteF ?_
    refine iteF ?_
    refine ⟨_, rfl, _, rfl, ?_⟩
    refine iteF ?_
    refine ⟨_, rfl, _, rfl, ?_⟩
    refine iteF ?_
    refine ⟨_, rfl, _, rfl, ?_⟩
    refine iteT ?_
    refine ⟨_, rfl, _, _, rfl, rfl, (.inl ⟨by decide, by decide⟩), ?_⟩
    exact q2 _ (by walk_at "sm")
  · refine ⟨_, _, rfl, (SqL.of s1), rfl, _, _, rfl, _, _, rfl, _, _, rfl, _, _, rfl, rfl, _, rfl, _, rfl, ?_⟩
    refine iteF ?_
    refine iteF ?_
    refine ⟨_, rfl, _, rfl, ?_⟩
    refine iteF ?_
    refine ⟨_, rfl, _, rfl, ?_⟩
    refine iteF ?_
    refine ⟨_, rfl, _, rfl, ?_⟩
    refine iteT ?_
    refine ⟨_, rfl, _, _, rfl, rfl, (.inl ⟨by decide, by decide⟩), ?_⟩
    exact q2 _ (by walk_at "sm")
  · refine ⟨_, _, rfl, (SqL.of s1), rfl, _, _, rfl, _, _, rfl, _, _, rfl, _, _, rfl, rfl, _, rfl, _, rfl, ?_⟩
    refine iteF ?_
    refine iteF ?_
    refine ⟨_, rfl, _, rfl, ?_⟩
    refine iteF ?_
    refine ⟨_, rfl, _, rfl, ?_⟩
    refine iteT ?_
    exact q2 _ (by walk_at "sm")
  · refine ⟨_, _, rfl, (SqL.of s1), rfl, _, _, rfl, _, _, rfl, _, _, rfl, _, _, rfl, rfl, _, rfl, _, rfl, ?_⟩
    refine iteF ?_
    refine iteF ?_
    refine ⟨_, rfl, _, rfl, ?_⟩
    refine iteF ?_
    refine ⟨_, rfl, _, rfl, ?_⟩
    refine iteT ?_
    exact q2 _ (by walk_at "sm")
  · refine ⟨_, _, rfl, (SqL.of s1), rfl, _, _, rfl, _, _, rfl, _, _, rfl, _, _, rfl, rfl, _, rfl, _, rfl, ?_⟩
    refine iteF ?_
    refine iteF ?_
    refine ⟨_, rfl, _, rfl, ?_⟩
    refine iteF ?_
    refine ⟨_, rfl, _, rfl, ?_⟩
    refine iteT ?_
    exact q2 _ (by walk_at "sm")
  · refine ⟨_, _, rfl, (SqL.of s1), rfl, _, _, rfl, _, _, rfl, _, _, rfl, _, _, rfl, rfl, _, rfl, _, rfl, ?_⟩
    refine iteF ?_
    refine iteF ?_
    refine ⟨_, rfl, _, rfl, ?_⟩
    refine iteF ?_
    refine ⟨_, rfl, _, rfl, ?_⟩
    refine iteT ?_
    exact q2 _ (by walk_at "sm")
  · refine ⟨_, _, rfl, (SqL.of s1), rfl, _, _, rfl, _, _, rfl, _, _, rfl, _, _, rfl, rfl, _, rfl, _, rfl, ?_⟩
    refine iteT ?_
    refine ⟨_, rfl, _, rfl, ?_⟩
    refine iteF ?_
    refine ⟨_, rfl, _, rfl, ?_⟩
    refine iteT ?_
    refine ⟨_, rfl, _, rfl, ?_⟩
    refine iteF ?_
    refine iteF ?_
    exact q2 _ (by walk_at "sm")
  · refine ⟨_, _, rfl, (SqL.of s1), rfl, _, _, rfl, _, _, rfl, _, _, rfl, _, _, rfl, rfl, _, rfl, _, rfl, ?_⟩
    refine iteT ?_
    refine ⟨_, rfl, _, rfl, ?_⟩
    refine iteF ?_
    refine ⟨_, rfl, _, rfl, ?_⟩
    refine iteT ?_
    refine ⟨_, rfl, _, rfl, ?_⟩
    refine iteF ?_
    refine iteF ?_
    exact q2 _ (by walk_at "sm")
  · refine ⟨_, _, rfl, (SqL.of s1), rfl, _, _, rfl, _, _, rfl, _, _, rfl, _, _, rfl, rfl, _, rfl, _, rfl, ?_⟩
    refine iteT ?_
    refine ⟨_, rfl, _, rfl, ?_⟩
    refine iteF ?_
    refine ⟨_, rfl, _, rfl, ?_⟩
    refine iteT ?_
    refine ⟨_, rfl, _, rfl, ?_⟩
    refine iteT ?_
    refine ⟨_, rfl, _, rfl, ?_⟩
    refine iteF ?_
    exact q2 _ (by walk_at "sm")
  · refine ⟨_, _, rfl, (SqL.of s1), rfl, _, _, rfl, _, _, rfl, _, _, rfl, _, _, rfl, rfl, _, rfl, _, rfl, ?_⟩
    refine iteT ?_
    refine ⟨_, rfl, _, rfl, ?_⟩
    refine iteF ?_
    refine ⟨_, rfl, _, rfl, ?_⟩
    refine iteT ?_
    refine ⟨_, rfl, _, rfl, ?_⟩
    refine iteT ?_
    refine ⟨_, rfl, _, rfl, ?_⟩
    refine iteT ?_
    exact q2 _ (by walk_at "sm")
  · refine ⟨_, _, rfl, (SqL.of s1), rfl, _, _, rfl, _, _, rfl, _, _, rfl, _, _, rfl, rfl, _, rfl, _, rfl, ?_⟩
    refine iteT ?_
    refine ⟨_, rfl, _, rfl, ?_⟩
    refine iteT ?_
    refine ⟨_, rfl, _, rfl, _, _, rfl, rfl, (.inl ⟨by decide, by decide⟩), ?_⟩
    exact q2 _ (by walk_at "sm")
  · refine ⟨_, _, rfl, (SqL.of s1), rfl, _, _, rfl, _, _, rfl, _, _, rfl, _, _, rfl, rfl, _, rfl, _, rfl, ?_⟩
    refine iteT ?_
    refine ⟨_, rfl, _, rfl, ?_⟩
    refine iteT ?_
    refine ⟨_, rfl, _, rfl, _, _, rfl, rfl, (.inl ⟨by decide, by decide⟩), ?_⟩
    exact q2 _ (by walk_at "sm")
  · refine ⟨_, _, rfl, (SqL.of s1), rfl, _, _, rfl, _, _, rfl, _, _, rfl, _, _, rfl, rfl, _, rfl, _, rfl, ?_⟩
    refine iteT ?_
    refine ⟨_, rfl, _, rfl, ?_⟩
    refine iteT ?_
    refine ⟨_, rfl, _, rfl, _, _, rfl, rfl, (.inl ⟨by decide, by decide⟩), ?_⟩
    exact q2 _ (by walk_at "sm")
  · refine ⟨_, _, rfl, (SqL.of s1), rfl, _, _, rfl, _, _, rfl, _, _, rfl, _, _, rfl, rfl, _, rfl, _, rfl, ?_⟩
    refine iteT ?_
    refine ⟨_, rfl, _, rfl, ?_⟩
    refine iteT ?_
    refine ⟨_, rfl, _, rfl, _, _, rfl, rfl, (.inl ⟨by decide, by decide⟩), ?_⟩
    exact q2 _ (by walk_at "sm")
end
end HW
/-! part W14 -/
namespace HW
open PySem PySem.Spec PyProof.Rows L2 NdefX LamX
open HM (Lk Ct Lot)
local macro_rules | `(tactic| walk_at "ga") => `(tactic| first | with_reducible assumption | (with_reducible apply GenA.up; assumption; walk_at "ga") | (with_reducible apply GenA.S; assumption; walk_at "ga") | (with_reducible apply GenA.N; assumption; walk_at "ga"))
local macro_rules | `(tactic| walk_at "mg") => `(tactic| first | with_reducible assumption | (with_reducible apply Mg.refl; assumption) | (with_reducible apply Mg.up; assumption; walk_at "mg") | (with_reducible apply Mg.S; assumption; walk_at "mg") | (with_reducible apply mg_T; assumption; walk_at "mg"))
local macro_rules | `(tactic| walk_at "in") => `(tactic| first | assumption | (constructor <;> omega))
local macro_rules | `(tactic| walk_at "en") => `(tactic| first | with_reducible assumption | exact ExtN.refl _ | (with_reducible apply extN_up2; assumption; walk_at "en") | (with_reducible apply extN_S2; assumption; walk_at "en") | (with_reducible apply extN_N2; assumption; walk_at "en"))
local macro_rules | `(tactic| walk_at "tb") => `(tactic| first | with_reducible assumption | (with_reducible apply Tabs.up2; assumption; walk_at "tb") | (with_reducible apply Tabs.S2; assumption; walk_at "tb") | (with_reducible apply Tabs.M; assumption; walk_at "tb"))
local macro_rules | `(tactic| walk_at "nf") => `(tactic| dsimp only [L2.cxOf, L2.Cx.nox, NdefX.startF, NdefX.slotAt, L2.start, List.set, List.getElem?_cons_zero, List.getElem?_cons_succ, Option.join, Option.bind, List.length, List.replicate, List.map, HAppend.hAppend, Append.append, List.append, Nat.reduceAdd, Nat.reduceSub, Nat.zero_add])
local macro_rules | `(tactic| walk_at "nm") => `(tactic| dsimp only [L2.cxOf, L2.Cx.nox, L2.start, List.set, List.length, List.replicate, List.map, HAppend.hAppend, Append.append, List.append, Nat.reduceAdd, Nat.reduceSub, Nat.zero_add])
local macro_rules | `(tactic| walk_at "sq0") => `(tactic| first | assumption | exact SqT.of upd_same | (apply sqT_up; assumption; walk_at "sq0") | (apply sqT_S; assumption; walk_at "sq0") | (apply sqT_N; assumption; walk_at "sq0") | (apply sqT_M; assumption; walk_at "sq0"))
local macro_rules | `(tactic| walk_at "sq1") => `(tactic| first | assumption | exact SqT.of upd_same | (apply sqT_up; assumption; walk_at "sq1") | (apply sqT_S; assumption; walk_at "sq1") | (apply sqT_N; assumption; walk_at "sq1") | (apply sqT_M; assumption; walk_at "sq1"))
local macro_rules | `(tactic| walk_at "sq") => `(tactic| first | with_reducible walk_at "sq0" | walk_at "sq1")
local macro_rules | `(tactic| walk_at "sl0") => `(tactic| first | assumption | exact SqL.of upd_same | exact SqL.of (by assumption) | (apply sqL_up; assumption; walk_at "sl0") | (apply sqL_S; assumption; walk_at "sl0") | (apply sqL_N; assumption; walk_at "sl0") | (apply sqL_M; assumption; assumption; walk_at "sl0"))
local macro_rules | `(tactic| walk_at "sl1") => `(tactic| first | assumption | exact SqL.of upd_same | exact SqL.of (by assumption) | (apply sqL_up; assumption; walk_at "sl1") | (apply sqL_S; assumption; walk_at "sl1") | (apply sqL_N; assumption; walk_at "sl1") | (apply sqL_M; assumption; assumption; walk_at "sl1"))
local macro_rules | `(tactic| walk_at "sl") => `(tactic| first | with_reducible walk_at "sl0" | walk_at "sl1")
local macro_rules | `(tactic| walk_at "lt0") => `(tactic| first | assumption | (apply LotV.up; assumption; walk_at "lt0") | (apply LotV.S; assumption; walk_at "lt0") | (apply LotV.N; assumption; walk_at "lt0") | (apply LotV.M; assumption; walk_at "lt0"))
local macro_rules | `(tactic| walk_at "lt1") => `(tactic| first | assumption | (apply LotV.up; assumption; walk_at "lt1") | (apply LotV.S; assumption; walk_at "lt1") | (apply LotV.N; assumption; walk_at "lt1") | (apply LotV.M; assumption; walk_at "lt1"))
local macro_rules | `(tactic| walk_at "lt") => `(tactic| first | with_reducible walk_at "lt0" | walk_at "lt1")
local macro_rules | `(tactic| walk_at "ct0") => `(tactic| first | assumption | (apply CtA.up; assumption; walk_at "ct0") | (apply CtA.S; assumption; walk_at "ct0") | (apply CtA.N; assumption; walk_at "ct0") | (apply CtA.M; assumption; walk_at "ct0"))
local macro_rules | `(tactic| walk_at "ct1") => `(tactic| first | assumption | (apply CtA.up; assumption; walk_at "ct1") | (apply CtA.S; assumption; walk_at "ct1") | (apply CtA.N; assumption; walk_at "ct1") | (apply CtA.M; assumption; walk_at "ct1"))
local macro_rules | `(tactic| walk_at "ct") => `(tactic| first | with_reducible walk_at "ct0" | walk_at "ct1")
local macro_rules | `(tactic| walk_at "ho0") => `(tactic| first | assumption | (apply HoA.up; assumption; walk_at "ho0") | (apply HoA.S; assumption; walk_at "ho0") | (apply HoA.N; assumption; walk_at "ho0"))
local macro_rules | `(tactic| walk_at "ho1") => `(tactic| first | assumption | (apply HoA.up; assumption; walk_at "ho1") | (apply HoA.S; assumption; walk_at "ho1") | (apply HoA.N; assumption; walk_at "ho1"))
local macro_rules | `(tactic| walk_at "ho") => `(tactic| first | with_reducible walk_at "ho0" | walk_at "ho1")
local macro_rules | `(tactic| walk_at "sm0") => `(tactic| first | assumption | exact Same.refl _ | (refine same_up ?_ (by assumption); walk_at "sm0") | (refine Same.trans ?_ (by assumption); walk_at "sm0") | exact same_new (by assumption) _)
local macro_rules | `(tactic| walk_at "sm1") => `(tactic| first | assumption | exact Same.refl _ | (refine same_up ?_ (by assumption); walk_at "sm1") | (refine Same.trans ?_ (by assumption); walk_at "sm1") | exact same_new (by assumption) _)
local macro_rules | `(tactic| walk_at "sm") => `(tactic| first | with_reducible walk_at "sm0" | walk_at "sm1")
local macro_rules | `(tactic| walk_at "pre") => `(tactic| first | assumption | omega | decide)
section
variable {P : Program} {w : World} {K : PySem.W.Frag} {mg : Str → Option Value} {base : Heap}
inductive WnV (K : PySem.W.Frag) (H : Hp) (L : Lk) (x : Ct) : V → Prop where
  | no (e : HM.wiresNext L x = none) : WnV K H L x .non
  | at_ {p t b : Addr} {y : Ct} (e : HM.wiresNext L x = some y) (hp : H p = some (.lst [.ref t, .ref b])) (ht : ThA K H t y.n y.z y.o) (hb : BkA K H b y.y y.x) : WnV K H L x (.ref p)
def sp_nextw (K : PySem.W.Frag) : Sp := fun vs H Q _ => ∃ (a t b : Addr) (L : Lk) (x : Ct), vs = [.ref a, .ref t, .ref b] ∧ (LkA K H a L ∧ ThA K H t x.n x.z x.o ∧ BkA K H b x.y x.x) ∧ ∀ v H', Same H H' → WnV K H' L x v → Q v H'
/-- the lot behind the lot of number m -/
inductive LnV (K : PySem.W.Frag) (H : Hp) (L : Lk) (e : Bool) (m : Int) : V → Prop where
  | no (h : ¬ m + 1 < HM.lotsIn L e) : LnV K H L e m .non
  | at_ {p : Addr} (h : m + 1 < HM.lotsIn L e) (hp : LotV K H (.ref p) (HM.lotOf L e (m + 1))) : LnV K H L e m (.ref p)
def sp_nextlot (K : PySem.W.Frag) : Sp := fun vs H Q _ => ∃ (a : Addr) (L : Lk) (e : Bool) (m : Int) (v : V), vs = [.ref a, .bl e, v] ∧ (LkA K H a L ∧ L.Ok ∧ LotV K H v (HM.lotOf L e m) ∧ 0 ≤ m ∧ m < HM.lotsIn L e) ∧ ∀ u H', Same H H' → LnV K H' L e m u → Q u H'
def sp_lawnext (K : PySem.W.Frag) : Sp := fun vs H Q _ => ∃ (a c : Addr) (L : Lk) (x : Ct), vs = [.ref a, .ref c] ∧ (LkA K H a L ∧ CtA K H L c x ∧ L.Ok ∧ x.Ok L) ∧
  ∀ v H', Same H H' → ((HM.nextC L x = none ∧ v = .non) ∨ ∃ y p, HM.nextC L x = some y ∧ v = .ref p ∧ CtA K H' L p y) → Q v H'
theorem sc__law_next_wires : FnScope ["_law_link", "_law_there", "_law_back", "_law_new", "_law_zeros", "_law_ones", "_law_nil", "_law_one"] ["_law_link", "_law_there", "_law_back"] (defScope s__law_next_wires) := ⟨rfl, rfl, rfl, by decide +kernel, rfl, by decide +kernel, by decide +kernel⟩
theorem ok__law_next_wires (Fx : Facts K mg) : Fn P w K mg base 1 "_law_next_wires" ["_law_link", "_law_there", "_law_back"] (sp_nextw K) := by
  refine fn_mk Fx 64 (st := s__law_next_wires) rfl sc__law_next_wires (fun _ _ _ _ _ _ us hl => match us, hl with | [_, _, _], _ => rfl) (fun vs H Q E h => ?_) (fun f cdv A outer s H vs Q E hr h => ?_)
  · obtain ⟨a, t, b, L, x, rfl, _⟩ := h
    rfl
  obtain ⟨a, t, b, L, x, rfl, ⟨hl, ht, hb⟩, q⟩ := h
  refine ⟨_, (pss_cons (ps_asg (pv 1) (pg_tup rfl (pgs_cons (pg_name (i := 3) sc__law_next_wires.nd rfl (.inl rfl)) (pgs_cons (pg_name (i := 4) sc__law_next_wires.nd rfl (.inl rfl)) (pgs_cons (pg_name (i := 5) sc__law_next_wires.nd rfl (.inl rfl)) pgs_nil))))) (pss_cons (ps_asg (pv 2) (pg_tup rfl (pgs_cons (pg_name (i := 6) sc__law_next_wires.nd rfl (.inl rfl)) (pgs_cons (pg_name (i := 7) sc__law_next_wires.nd rfl (.inl rfl)) pgs_nil)))) (pss_cons (ps_if (pt_cmpR op_lt (pe_op op_add (pv 6) (pv 7)) (pe_ix ix_tup (pv 0) pe_int (fun _ _ => rfl)) (nomark _)) (pss_one (ps_ret (pe_lst (pa_cons (pv 1) (pa_cons (pe_tup (pa_cons (pv 6) (pa_cons (pe_op op_add (pv 7) pe_int) pa_nil))) pa_nil))))) pss_nil) (pss_cons (ps_if (pt_cmpR op_lt (pv 6) (pe_ix ix_tup (pv 0) pe_int (fun _ _ => rfl)) (nomark _)) (pss_one (ps_ret (pe_lst (pa_cons (pv 1) (pa_cons (pe_tup (pa_cons (pe_op op_add (pv 6) pe_int) (pa_cons pe_int pa_nil))) pa_nil))))) pss_nil) (pss_cons (ps_if (pt_cmpR op_lt (pe_op op_add (pe_op op_add (pv 3) (pv 4)) (pv 5)) (pe_ix ix_tup (pv 0) pe_int (fun _ _ => rfl)) (nomark _)) (pss_one (ps_ret (pe_lst (pa_cons (pe_tup (pa_cons (pv 3) (pa_cons (pv 4) (pa_cons (pe_op op_add (pv 5) pe_int) pa_nil)))) (pa_cons (pe_tup (pa_cons pe_int (pa_cons pe_int pa_nil))) pa_nil))))) pss_nil) (pss_cons (ps_if (pt_cmpR op_lt (pe_op op_add (pv 3) (pv 4)) (pe_ix ix_tup (pv 0) pe_int (fun _ _ => rfl)) (nomark _)) (pss_one (ps_ret (pe_lst (pa_cons (pe_tup (pa_cons (pv 3) (pa_cons (pe_op op_add (pv 4) pe_int) (pa_cons pe_int pa_nil)))) (pa_cons (pe_tup (pa_cons pe_int (pa_cons pe_int pa_nil))) pa_nil))))) pss_nil) (pss_one (ps_ret (pe_ifExp (pt_cmpR op_lt (pv 3) (pe_ix ix_tup (pv 0) pe_int (fun _ _ => rfl)) (nomark _)) (pe_lst (pa_cons (pe_tup (pa_cons (pe_op op_add (pv 3) pe_int) (pa_cons pe_int (pa_cons pe_int pa_nil)))) (pa_cons (pe_tup (pa_cons pe_int (pa_cons pe_int pa_nil))) pa_nil))) pe_non))))))))), ?_⟩
  refine ⟨_, rfl, _, _, rfl, (by walk_at "sq"), rfl, _, _, rfl, _, _, rfl, _, _, rfl, rfl, ?_⟩
  walk_at "nm"
  refine ⟨_, rfl, _, _, rfl, (by walk_at "sq"), rfl, _, _, rfl, _, _, rfl, rfl, _, rfl, _, rfl, _, _, rfl, rfl, _, rfl, _, _, _, _, rfl, rfl, (by walk_at "sq"), rfl, _, _, rfl, rfl, _, rfl, ?_⟩
  refine ite2 (fun c1 => ?_) (fun c1 => ?_)
  · replace c1 := dT c1
    refine ⟨_, rfl, _, rfl, _, rfl, _, _, rfl, rfl, (by show 2 ≤ sizeLine; decide), fun p1 np1 => ?_⟩
    refine ⟨(by show 2 ≤ sizeLine; decide), fun p2 np2 => ?_⟩
    exact q _ _ (by walk_at "sm") (.at_ (by unfold HM.wiresNext; rw [if_pos c1]) upd_same (by walk_at "sq") (by walk_at "sq"))
  · replace c1 := dF c1
    refine ⟨_, rfl, _, rfl, _, _, _, _, rfl, rfl, (by walk_at "sq"), rfl, _, _, rfl, rfl, _, rfl, ?_⟩
    refine ite2 (fun c2 => ?_) (fun c2 => ?_)
    · replace c2 := dT c2
      refine ⟨_, rfl, _, rfl, _, _, rfl, rfl, (by show 2 ≤ sizeLine; decide), fun p3 np3 => ?_⟩
      refine ⟨(by show 2 ≤ sizeLine; decide), fun p4 np4 => ?_⟩
      exact q _ _ (by walk_at "sm") (.at_ (by unfold HM.wiresNext; rw [if_neg c1, if_pos c2]) upd_same (by walk_at "sq") (by walk_at "sq"))
    · replace c2 := dF c2
      refine ⟨_, rfl, _, rfl, _, _, rfl, rfl, _, rfl, _, _, rfl, rfl, _, rfl, _, _, _, _, rfl, rfl, (by walk_at "sq"), rfl, _, _, rfl, rfl, _, rfl, ?_⟩
      refine ite2 (fun c3 => ?_) (fun c3 => ?_)
      · replace c3 := dT c3
        refine ⟨_, rfl, _, rfl, _, rfl, _, _, rfl, rfl, (by show 3 ≤ sizeLine; decide), fun p5 np5 => ?_⟩
        refine ⟨(by show 2 ≤ sizeLine; decide), fun p6 np6 => ?_⟩
        refine ⟨(by show 2 ≤ sizeLine; decide), fun p7 np7 => ?_⟩
        exact q _ _ (by walk_at "sm") (.at_ (by unfold HM.wiresNext; rw [if_neg c1, if_neg c2, if_pos c3]) upd_same (by walk_at "sq") (by walk_at "sq"))
      · replace c3 := dF c3
        refine ⟨_, rfl, _, rfl, _, _, rfl, rfl, _, rfl, _, _, _, _, rfl, rfl, (by walk_at "sq"), rfl, _, _, rfl, rfl, _, rfl, ?_⟩
        refine ite2 (fun c4 => ?_) (fun c4 => ?_)
        · replace c4 := dT c4
          refine ⟨_, rfl, _, rfl, _, _, rfl, rfl, (by show 3 ≤ sizeLine; decide), fun p8 np8 => ?_⟩
          refine ⟨(by show 2 ≤ sizeLine; decide), fun p9 np9 => ?_⟩
          refine ⟨(by show 2 ≤ sizeLine; decide), fun p10 np10 => ?_⟩
          exact q _ _ (by walk_at "sm") (.at_ (by unfold HM.wiresNext; rw [if_neg c1, if_neg c2, if_neg c3, if_pos c4]) upd_same (by walk_at "sq") (by walk_at "sq"))
        · replace c4 := dF c4
          refine ⟨_, rfl, _, rfl, _, _, _, _, rfl, rfl, (by walk_at "sq"), rfl, _, _, rfl, rfl, _, rfl, ?_⟩
          refine ite2 (fun c5 => ?_) (fun c5 => ?_)
          · replace c5 := dT c5
            refine ⟨_, rfl, _, _, rfl, rfl, (by show 3 ≤ sizeLine; decide), fun p11 np11 => ?_⟩
            refine ⟨(by show 2 ≤ sizeLine; decide), fun p12 np12 => ?_⟩
            refine ⟨(by show 2 ≤ sizeLine; decide), fun p13 np13 => ?_⟩
            exact q _ _ (by walk_at "sm") (.at_ (by unfold HM.wiresNext; rw [if_neg c1, if_neg c2, if_neg c3, if_neg c4, if_pos c5]) upd_same (by walk_at "sq") (by walk_at "sq"))
          · replace c5 := dF c5
            exact q _ _ (by walk_at "sm") (.no (by unfold HM.wiresNext; rw [if_neg c1, if_neg c2, if_neg c3, if_neg c4, if_neg c5]))
def LotEnd (L : Lk) (e : Bool) (m : Int) : Lot → Prop
  | .no => m = 0
  | .new k => e = false ∧ k = m ∧ m < L.p ∧ 1 ≤ m
  | .old k => (e = true ∧ k = m ∧ 1 ≤ m) ∨ (e = false ∧ k = m - L.p + 1 ∧ L.p ≤ m ∧ 1 ≤ m)
theorem lot_end {L : Lk} {e : Bool} {m : Int} {l : Lot} (el : HM.lotOf L e m = l) (hm : 0 ≤ m ∧ m < HM.lotsIn L e) : LotEnd L e m l := by
  subst el
  unfold HM.lotOf
  by_cases c : m = 0
  · rw [if_pos c]; exact c
  · rw [if_neg c]
    cases e with
    | true => rw [if_pos rfl]; exact .inl ⟨rfl, rfl, by omega⟩
    | false =>
      rw [if_neg Bool.false_ne_true]
      by_cases c2 : L.p ≤ m
      · rw [if_pos c2]; exact .inr ⟨rfl, rfl, c2, by omega⟩
      · rw [if_neg c2]; exact ⟨rfl, rfl, by omega, by omega⟩
theorem lot_old_t {L : Lk} {n : Int} (h : n ≠ 0) : HM.lotOf L true n = .old n := (if_neg h).trans (if_pos rfl)
theorem lot_old_f {L : Lk} {n : Int} (h : n ≠ 0) (h2 : L.p ≤ n) : HM.lotOf L false n = .old (n - L.p + 1) := (if_neg h).trans ((if_neg Bool.false_ne_true).trans (if_pos h2))
theorem lot_new_f {L : Lk} {n : Int} (h : n ≠ 0) (h2 : ¬ L.p ≤ n) : HM.lotOf L false n = .new n := (if_neg h).trans ((if_neg Bool.false_ne_true).trans (if_neg h2))
theorem sc__law_next_lot : FnScope ["_law_link", "_law_even", "_law_lot"] ["_law_link", "_law_even", "_law_lot"] (defScope s__law_next_lot) := ⟨rfl, rfl, rfl, by decide +kernel, rfl, by decide +kernel, by decide +kernel⟩
theorem ok__law_next_lot (Fx : Facts K mg) : Fn P w K mg base 1 "_law_next_lot" ["_law_link", "_law_even", "_law_lot"] (sp_nextlot K) := by
  refine fn_mk Fx 65 (st := s__law_next_lot) rfl sc__law_next_lot (fun _ _ _ _ _ _ us hl => match us, hl with | [_, _, _], _ => rfl) (fun vs H Q E h => ?_) (fun f cdv A outer s H vs Q E hr h => ?_)
  · obtain ⟨a, L, e, m, v, rfl, _⟩ := h
    rfl
  obtain ⟨a, L, e, m, v, rfl, ⟨hl, hL, hv, h0, h1⟩, q⟩ := h
  have hp := hL.c1
  have hp2 := hL.cp
  have h1' := h1
  unfold HM.lotsIn at h1
  refine ⟨_, (pss_cons (ps_if (pt_cmpR op_isN (pv 2) pe_non (nomark _)) (pss_one (ps_ret (pe_ifExp (pt_cmpR op_eq (pe_ix ix_tup (pv 0) pe_int (fun _ _ => rfl)) pe_int (nomark _)) pe_non (pe_tup (pa_cons (pe_ifExp (pt_val (pv 1)) pe_str pe_str) (pa_cons pe_int pa_nil)))))) pss_nil) (pss_cons (ps_if (pt_cmpR op_lt (pe_ix ix_tup (pv 2) pe_int (fun _ _ => rfl)) (pe_op op_sub (pe_ix ix_tup (pv 0) pe_int (fun _ _ => rfl)) pe_int) (nomark _)) (pss_one (ps_ret (pe_tup (pa_cons (pe_ix ix_tup (pv 2) pe_int (fun _ _ => rfl)) (pa_cons (pe_op op_add (pe_ix ix_tup (pv 2) pe_int (fun _ _ => rfl)) pe_int) pa_nil))))) pss_nil) (pss_one (ps_ret (pe_ifExp (pt_cmpR op_eq (pe_ix ix_tup (pv 2) pe_int (fun _ _ => rfl)) pe_str (nomark _)) (pe_tup (pa_cons pe_str (pa_cons pe_int pa_nil))) pe_non))))), ?_⟩
  generalize el : HM.lotOf L e m = l at hv
  have f := lot_end el ⟨h0, h1'⟩
  cases hv with
  | no =>
    obtain rfl : m = 0 := f
    cases e with
    | true =>
      rw [if_pos rfl] at h1
      refine ⟨_, rfl, rfl, _, rfl, ?_⟩
      refine iteT ?_
      refine ⟨_, rfl, _, _, _, _, rfl, rfl, (by walk_at "sq"), rfl, rfl, _, rfl, ?_⟩
      refine ite2 (fun c1 => ?_) (fun c1 => ?_)
      · replace c1 := eqT c1
        exact q _ _ (by walk_at "sm") (.no (by show ¬ _ < HM.lotsIn L _; unfold HM.lotsIn; first | (rw [if_pos rfl]; omega) | (rw [if_neg Bool.false_ne_true]; omega)))
      · replace c1 := eqF c1
        refine ⟨_, rfl, _, rfl, ?_⟩
        refine iteT ?_
        refine ⟨(by show 2 ≤ sizeLine; decide), fun p1 np1 => ?_⟩
        exact q _ _ (by walk_at "sm") (.at_ (by show _ < HM.lotsIn L _; unfold HM.lotsIn; first | (rw [if_pos rfl]; omega) | (rw [if_neg Bool.false_ne_true]; omega)) (by rw [lot_old_t (by omega)]; exact .old (SqT.of upd_same)))
    | false =>
      rw [if_neg Bool.false_ne_true] at h1
      refine ⟨_, rfl, rfl, _, rfl, ?_⟩
      refine iteT ?_
      refine ⟨_, rfl, _, _, _, _, rfl, rfl, (by walk_at "sq"), rfl, rfl, _, rfl, ?_⟩
      refine ite2 (fun c1 => ?_) (fun c1 => ?_)
      · replace c1 := eqT c1
        exact q _ _ (by walk_at "sm") (.no (by show ¬ _ < HM.lotsIn L _; unfold HM.lotsIn; first | (rw [if_pos rfl]; omega) | (rw [if_neg Bool.false_ne_true]; omega)))
      · replace c1 := eqF c1
        refine ⟨_, rfl, _, rfl, ?_⟩
        refine iteF ?_
        refine ⟨(by show 2 ≤ sizeLine; decide), fun p1 np1 => ?_⟩
        exact q _ _ (by walk_at "sm") (.at_ (by show _ < HM.lotsIn L _; unfold HM.lotsIn; first | (rw [if_pos rfl]; omega) | (rw [if_neg Bool.false_ne_true]; omega)) (by rw [lot_new_f (by omega) (by omega)]; exact .new (SqT.of upd_same)))
  | new hm =>
    obtain ⟨rfl, ek, f2, f3⟩ := f
    obtain rfl := ek.symm
    rw [if_neg Bool.false_ne_true] at h1
    refine ⟨_, rfl, rfl, _, rfl, ?_⟩
    refine iteF ?_
    refine ⟨_, rfl, _, _, _, _, rfl, rfl, (by walk_at "sq"), rfl, _, rfl, _, _, _, _, rfl, rfl, (by walk_at "sq"), rfl, _, _, rfl, rfl, _, _, rfl, rfl, _, rfl, ?_⟩
    refine ite2 (fun c1 => ?_) (fun c1 => ?_)
    · replace c1 := dT c1
      refine ⟨_, rfl, _, _, _, _, rfl, rfl, (by walk_at "sq"), rfl, _, rfl, _, _, _, _, rfl, rfl, (by walk_at "sq"), rfl, _, _, rfl, rfl, (by show 2 ≤ sizeLine; decide), fun p1 np1 => ?_⟩
      exact q _ _ (by walk_at "sm") (.at_ (by show _ < HM.lotsIn L _; unfold HM.lotsIn; first | (rw [if_pos rfl]; omega) | (rw [if_neg Bool.false_ne_true]; omega)) (by rw [lot_new_f (by omega) (by omega), show m + 1 = m + 1 from rfl]; exact .new (SqT.of upd_same)))
    · replace c1 := dF c1
      refine ⟨_, rfl, _, _, _, _, rfl, rfl, (by walk_at "sq"), rfl, rfl, _, rfl, ?_⟩
      refine ite2 (fun c => ?_) (fun c => absurd (by decide) c)
      refine ⟨(by show 2 ≤ sizeLine; decide), fun p2 np2 => ?_⟩
      exact q _ _ (by walk_at "sm") (.at_ (by show _ < HM.lotsIn L _; unfold HM.lotsIn; first | (rw [if_pos rfl]; omega) | (rw [if_neg Bool.false_ne_true]; omega)) (by rw [lot_old_f (by omega) (by omega), show m + 1 - L.p + 1 = 1 by omega]; exact .old (SqT.of upd_same)))
  | old hm =>
    rcases f with ⟨rfl, rfl, f2⟩ | ⟨rfl, rfl, f2, f3⟩
    · rw [if_pos rfl] at h1
      refine ⟨_, rfl, rfl, _, rfl, ?_⟩
      refine iteF ?_
      refine ⟨_, rfl, _, _, _, _, rfl, rfl, (by walk_at "sq"), rfl, _, rfl, _, _, _, _, rfl, rfl, (by walk_at "sq"), rfl, _, _, rfl, rfl, _, _, rfl, rfl, _, rfl, ?_⟩
      refine ite2 (fun c1 => ?_) (fun c1 => ?_)
      · replace c1 := dT c1
        refine ⟨_, rfl, _, _, _, _, rfl, rfl, (by walk_at "sq"), rfl, _, rfl, _, _, _, _, rfl, rfl, (by walk_at "sq"), rfl, _, _, rfl, rfl, (by show 2 ≤ sizeLine; decide), fun p1 np1 => ?_⟩
        exact q _ _ (by walk_at "sm") (.at_ (by show _ < HM.lotsIn L _; unfold HM.lotsIn; first | (rw [if_pos rfl]; omega) | (rw [if_neg Bool.false_ne_true]; omega)) (by rw [lot_old_t (by omega)]; exact .old (SqT.of upd_same)))
      · replace c1 := dF c1
        refine ⟨_, rfl, _, _, _, _, rfl, rfl, (by walk_at "sq"), rfl, rfl, _, rfl, ?_⟩
        refine ite2 (fun c => absurd c (by decide)) (fun c => ?_)
        exact q _ _ (by walk_at "sm") (.no (by show ¬ _ < HM.lotsIn L _; unfold HM.lotsIn; first | (rw [if_pos rfl]; omega) | (rw [if_neg Bool.false_ne_true]; omega)))
    · rw [if_neg Bool.false_ne_true] at h1
      refine ⟨_, rfl, rfl, _, rfl, ?_⟩
      refine iteF ?_
      refine ⟨_, rfl, _, _, _, _, rfl, rfl, (by walk_at "sq"), rfl, _, rfl, _, _, _, _, rfl, rfl, (by walk_at "sq"), rfl, _, _, rfl, rfl, _, _, rfl, rfl, _, rfl, ?_⟩
      refine ite2 (fun c1 => ?_) (fun c1 => ?_)
      · replace c1 := dT c1
        refine ⟨_, rfl, _, _, _, _, rfl, rfl, (by walk_at "sq"), rfl, _, rfl, _, _, _, _, rfl, rfl, (by walk_at "sq"), rfl, _, _, rfl, rfl, (by show 2 ≤ sizeLine; decide), fun p1 np1 => ?_⟩
        exact q _ _ (by walk_at "sm") (.at_ (by show _ < HM.lotsIn L _; unfold HM.lotsIn; first | (rw [if_pos rfl]; omega) | (rw [if_neg Bool.false_ne_true]; omega)) (by rw [lot_old_f (by omega) (by omega), show m + 1 - L.p + 1 = m - L.p + 1 + 1 by omega]; exact .old (SqT.of upd_same)))
      · replace c1 := dF c1
        refine ⟨_, rfl, _, _, _, _, rfl, rfl, (by walk_at "sq"), rfl, rfl, _, rfl, ?_⟩
        refine ite2 (fun c => absurd c (by decide)) (fun c => ?_)
        exact q _ _ (by walk_at "sm") (.no (by show ¬ _ < HM.lotsIn L _; unfold HM.lotsIn; first | (rw [if_pos rfl]; omega) | (rw [if_neg Bool.false_ne_true]; omega)))
end
end HW
/-! part W15 -/
namespace HW
open PySem PySem.Spec PyProof.Rows L2 NdefX LamX
open HM (Lk Ct Lot)
local macro_rules | `(tactic| walk_at "ga") => `(tactic| first | with_reducible assumption | (with_reducible apply GenA.up; assumption; walk_at "ga") | (with_reducible apply GenA.S; assumption; walk_at "ga") | (with_reducible apply GenA.N; assumption; walk_at "ga"))
local macro_rules | `(tactic| walk_at "mg") => `(tactic| first | with_reducible assumption | (with_reducible apply Mg.refl; assumption) | (with_reducible apply Mg.up; assumption; walk_at "mg") | (with_reducible apply Mg.S; assumption; walk_at "mg") | (with_reducible apply mg_T; assumption; walk_at "mg"))
local macro_rules | `(tactic| walk_at "in") => `(tactic| first | assumption | (constructor <;> omega))
local macro_rules | `(tactic| walk_at "en") => `(tactic| first | with_reducible assumption | exact ExtN.refl _ | (with_reducible apply extN_up2; assumption; walk_at "en") | (with_reducible apply extN_S2; assumption; walk_at "en") | (with_reducible apply extN_N2; assumption; walk_at "en"))
local macro_rules | `(tactic| walk_at "tb") => `(tactic| first | with_reducible assumption | (with_reducible apply Tabs.up2; assumption; walk_at "tb") | (with_reducible apply Tabs.S2; assumption; walk_at "tb") | (with_reducible apply Tabs.M; assumption; walk_at "tb"))
local macro_rules | `(tactic| walk_at "nf") => `(tactic| dsimp only [L2.cxOf, L2.Cx.nox, NdefX.startF, NdefX.slotAt, L2.start, List.set, List.getElem?_cons_zero, List.getElem?_cons_succ, Option.join, Option.bind, List.length, List.replicate, List.map, HAppend.hAppend, Append.append, List.append, Nat.reduceAdd, Nat.reduceSub, Nat.zero_add])
local macro_rules | `(tactic| walk_at "nm") => `(tactic| dsimp only [L2.cxOf, L2.Cx.nox, L2.start, List.set, List.length, List.replicate, List.map, HAppend.hAppend, Append.append, List.append, Nat.reduceAdd, Nat.reduceSub, Nat.zero_add])
local macro_rules | `(tactic| walk_at "sq0") => `(tactic| first | assumption | exact SqT.of upd_same | (apply sqT_up; assumption; walk_at "sq0") | (apply sqT_S; assumption; walk_at "sq0") | (apply sqT_N; assumption; walk_at "sq0") | (apply sqT_M; assumption; walk_at "sq0"))
local macro_rules | `(tactic| walk_at "sq1") => `(tactic| first | assumption | exact SqT.of upd_same | (apply sqT_up; assumption; walk_at "sq1") | (apply sqT_S; assumption; walk_at "sq1") | (apply sqT_N; assumption; walk_at "sq1") | (apply sqT_M; assumption; walk_at "sq1"))
local macro_rules | `(tactic| walk_at "sq") => `(tactic| first | with_reducible walk_at "sq0" | walk_at "sq1")
local macro_rules | `(tactic| walk_at "sl0") => `(tactic| first | assumption | exact SqL.of upd_same | exact SqL.of (by assumption) | (apply sqL_up; assumption; walk_at "sl0") | (apply sqL_S; assumption; walk_at "sl0") | (apply sqL_N; assumption; walk_at "sl0") | (apply sqL_M; assumption; assumption; walk_at "sl0"))
local macro_rules | `(tactic| walk_at "sl1") => `(tactic| first | assumption | exact SqL.of upd_same | exact SqL.of (by assumption) | (apply sqL_up; assumption; walk_at "sl1") | (apply sqL_S; assumption; walk_at "sl1") | (apply sqL_N; assumption; walk_at "sl1") | (apply sqL_M; assumption; assumption; walk_at "sl1"))
local macro_rules | `(tactic| walk_at "sl") => `(tactic| first | with_reducible walk_at "sl0" | walk_at "sl1")
local macro_rules | `(tactic| walk_at "lt0") => `(tactic| first | assumption | (apply LotV.up; assumption; walk_at "lt0") | (apply LotV.S; assumption; walk_at "lt0") | (apply LotV.N; assumption; walk_at "lt0") | (apply LotV.M; assumption; walk_at "lt0"))
local macro_rules | `(tactic| walk_at "lt1") => `(tactic| first | assumption | (apply LotV.up; assumption; walk_at "lt1") | (apply LotV.S; assumption; walk_at "lt1") | (apply LotV.N; assumption; walk_at "lt1") | (apply LotV.M; assumption; walk_at "lt1"))
local macro_rules | `(tactic| walk_at "lt") => `(tactic| first | with_reducible walk_at "lt0" | walk_at "lt1")
local macro_rules | `(tactic| walk_at "ct0") => `(tactic| first | assumption | (apply CtA.up; assumption; walk_at "ct0") | (apply CtA.S; assumption; walk_at "ct0") | (apply CtA.N; assumption; walk_at "ct0") | (apply CtA.M; assumption; walk_at "ct0"))
local macro_rules | `(tactic| walk_at "ct1") => `(tactic| first | assumption | (apply CtA.up; assumption; walk_at "ct1") | (apply CtA.S; assumption; walk_at "ct1") | (apply CtA.N; assumption; walk_at "ct1") | (apply CtA.M; assumption; walk_at "ct1"))
local macro_rules | `(tactic| walk_at "ct") => `(tactic| first | with_reducible walk_at "ct0" | walk_at "ct1")
local macro_rules | `(tactic| walk_at "ho0") => `(tactic| first | assumption | (apply HoA.up; assumption; walk_at "ho0") | (apply HoA.S; assumption; walk_at "ho0") | (apply HoA.N; assumption; walk_at "ho0"))
local macro_rules | `(tactic| walk_at "ho1") => `(tactic| first | assumption | (apply HoA.up; assumption; walk_at "ho1") | (apply HoA.S; assumption; walk_at "ho1") | (apply HoA.N; assumption; walk_at "ho1"))
local macro_rules | `(tactic| walk_at "ho") => `(tactic| first | with_reducible walk_at "ho0" | walk_at "ho1")
local macro_rules | `(tactic| walk_at "sm0") => `(tactic| first | assumption | exact Same.refl _ | (refine same_up ?_ (by assumption); walk_at "sm0") | (refine Same.trans ?_ (by assumption); walk_at "sm0") | exact same_new (by assumption) _)
local macro_rules | `(tactic| walk_at "sm1") => `(tactic| first | assumption | exact Same.refl _ | (refine same_up ?_ (by assumption); walk_at "sm1") | (refine Same.trans ?_ (by assumption); walk_at "sm1") | exact same_new (by assumption) _)
local macro_rules | `(tactic| walk_at "sm") => `(tactic| first | with_reducible walk_at "sm0" | walk_at "sm1")
local macro_rules | `(tactic| walk_at "pre") => `(tactic| first | assumption | omega | decide)
section
variable {P : Program} {w : World} {K : PySem.W.Frag} {mg : Str → Option Value} {base : Heap}
section
variable {L : Lk} {x y : Ct}
theorem nextC_w (h : HM.wiresNext L x = some y) : HM.nextC L x = some y := by unfold HM.nextC; rw [h]
theorem nextC_d (h : HM.wiresNext L x = none) (hd : x.done = false) : HM.nextC L x = some { x with done := true, n := 0, z := 0, o := 0, y := 0, x := 0 } := by unfold HM.nextC; rw [h]; exact if_pos hd
theorem nextC_l (h : HM.wiresNext L x = none) (hd : x.done = true) (hl : x.lots + 1 < HM.lotsIn L x.even) : HM.nextC L x = some { x with lots := x.lots + 1, done := false, n := 0, z := 0, o := 0, y := 0, x := 0 } := by
  have e : HM.lotsNext L x = some (x.lots + 1) := if_pos hl
  unfold HM.nextC; rw [h, e]; exact if_neg (by rw [hd]; decide)
theorem nextC_e (h : HM.wiresNext L x = none) (hd : x.done = true) (hl : ¬ x.lots + 1 < HM.lotsIn L x.even) : HM.nextC L x = if x.own = 0 then some ⟨x.bit, x.heard, 1, 0, false, 0, 0, 0, 0, 0⟩
        else if x.heard + 1 < L.q then some ⟨x.bit, x.heard + 1, 0, 0, false, 0, 0, 0, 0, 0⟩
        else if x.bit = 0 then some ⟨1, 0, 0, 0, false, 0, 0, 0, 0, 0⟩ else none := by
  have e : HM.lotsNext L x = none := if_neg hl
  unfold HM.nextC; rw [h, e]; exact if_neg (by rw [hd]; decide)
end
theorem ct_wires {L : Lk} {x y : Ct} {H : Hp} {p s r t b : Addr} {v : V} (e : HM.wiresNext L x = some y) (h0 : SqT K H p [.ref s, .ref r, .ref t, .ref b]) (h1 : SqT K H s [.int x.bit, .int x.heard]) (h2 : SqT K H r [.int x.own, v, .bl x.done]) (h3 : LotV K H v (x.lot L))
    (h4 : ThA K H t y.n y.z y.o) (h5 : BkA K H b y.y y.x) : CtA K H L p y := by
  obtain ⟨s1, s2, s3, s4, s5⟩ := HM.wiresNext_same e
  refine ⟨s, r, t, b, v, h0, ?_, ?_, ?_, h4, h5⟩
  · rw [s1, s2]; exact h1
  · rw [s3, s5]; exact h2
  · have el : y.lot L = x.lot L := by unfold Ct.lot Ct.even; rw [s1, s3, s4]
    rw [el]; exact h3
theorem even_v {x : Ct} : decide (V.int x.bit = V.int x.own) = x.even := int_eqv
theorem sc__law_next : FnScope ["_law_link", "_law_here_here", "_law_wires", "_law_later", "_law_there", "_law_back", "_law_bit", "_law_heard_here", "_law_own", "_law_lot", "_law_done"] ["_law_link", "_law_here_here"] (defScope s__law_next) := ⟨rfl, rfl, rfl, by decide +kernel, rfl, by decide +kernel, by decide +kernel⟩
theorem ok__law_next (Fx : Facts K mg) : Fn P w K mg base 2 "_law_next" ["_law_link", "_law_here_here"] (sp_lawnext K) := by
  have F__law_next_wires := ok__law_next_wires (P := P) (w := w) (base := base) Fx
  have F__law_next_lot := ok__law_next_lot (P := P) (w := w) (base := base) Fx
  refine fn_mk Fx 66 (st := s__law_next) rfl sc__law_next (fun _ _ _ _ _ _ us hl => match us, hl with | [_, _], _ => rfl) (fun vs H Q E h => ?_) (fun f cdv A outer s H vs Q E hr h => ?_)
  · obtain ⟨a, c, L, x, rfl, _⟩ := h
    rfl
  obtain ⟨a, c, L, x, rfl, ⟨hl, hc, hL, hX⟩, q⟩ := h
  obtain ⟨s, r, t, b, v, h0, h1, h2, h3, h4, h5⟩ := hc.ex
  have h3' : LotV K H v (HM.lotOf L (decide (V.int x.bit = V.int x.own)) x.lots) := by rw [even_v]; exact h3
  refine ⟨_, (pss_cons (ps_asg (pv 1) (pg_tup rfl (pgs_cons (pg_tup rfl (pgs_cons (pg_name (i := 6) sc__law_next.nd rfl (.inl rfl)) (pgs_cons (pg_name (i := 7) sc__law_next.nd rfl (.inl rfl)) pgs_nil))) (pgs_cons (pg_tup rfl (pgs_cons (pg_name (i := 8) sc__law_next.nd rfl (.inl rfl)) (pgs_cons (pg_name (i := 9) sc__law_next.nd rfl (.inl rfl)) (pgs_cons (pg_name (i := 10) sc__law_next.nd rfl (.inl rfl)) pgs_nil)))) (pgs_cons (pg_name (i := 4) sc__law_next.nd rfl (.inl rfl)) (pgs_cons (pg_name (i := 5) sc__law_next.nd rfl (.inl rfl)) pgs_nil)))))) (pss_cons (ps_set (i := 2) sc__law_next.nd rfl (.inl rfl) (pe_fn F__law_next_wires hr (pa_cons (pv 0) (pa_cons (pv 4) (pa_cons (pv 5) pa_nil))))) (pss_cons (ps_if (pt_cmpR op_notN (pv 2) pe_non (nomark _)) (pss_one (ps_ret (pe_tup (pa_cons (pe_tup (pa_cons (pv 6) (pa_cons (pv 7) pa_nil))) (pa_cons (pe_tup (pa_cons (pv 8) (pa_cons (pv 9) (pa_cons (pv 10) pa_nil)))) (pa_cons (pe_ix ix_list (pv 2) pe_int (fun _ _ => rfl)) (pa_cons (pe_ix ix_list (pv 2) pe_int (fun _ _ => rfl)) pa_nil))))))) pss_nil) (pss_cons (ps_if (pt_not (pt_val (pv 10))) (pss_one (ps_ret (pe_tup (pa_cons (pe_tup (pa_cons (pv 6) (pa_cons (pv 7) pa_nil))) (pa_cons (pe_tup (pa_cons (pv 8) (pa_cons (pv 9) (pa_cons pe_bl pa_nil)))) (pa_cons (pe_tup (pa_cons pe_int (pa_cons pe_int (pa_cons pe_int pa_nil)))) (pa_cons (pe_tup (pa_cons pe_int (pa_cons pe_int pa_nil))) pa_nil))))))) pss_nil) (pss_cons (ps_set (i := 3) sc__law_next.nd rfl (.inl rfl) (pe_fn F__law_next_lot hr (pa_cons (pv 0) (pa_cons (pe_cmpR op_eq (pv 6) (pv 8) (nomark _)) (pa_cons (pv 9) pa_nil))))) (pss_cons (ps_if (pt_cmpR op_notN (pv 3) pe_non (nomark _)) (pss_one (ps_ret (pe_tup (pa_cons (pe_tup (pa_cons (pv 6) (pa_cons (pv 7) pa_nil))) (pa_cons (pe_tup (pa_cons (pv 8) (pa_cons (pv 3) (pa_cons pe_bl pa_nil)))) (pa_cons (pe_tup (pa_cons pe_int (pa_cons pe_int (pa_cons pe_int pa_nil)))) (pa_cons (pe_tup (pa_cons pe_int (pa_cons pe_int pa_nil))) pa_nil))))))) pss_nil) (pss_cons (ps_if (pt_cmpR op_eq (pv 8) pe_int (nomark _)) (pss_one (ps_ret (pe_tup (pa_cons (pe_tup (pa_cons (pv 6) (pa_cons (pv 7) pa_nil))) (pa_cons (pe_tup (pa_cons pe_int (pa_cons pe_non (pa_cons pe_bl pa_nil)))) (pa_cons (pe_tup (pa_cons pe_int (pa_cons pe_int (pa_cons pe_int pa_nil)))) (pa_cons (pe_tup (pa_cons pe_int (pa_cons pe_int pa_nil))) pa_nil))))))) pss_nil) (pss_cons (ps_if (pt_cmpR op_lt (pe_op op_add (pv 7) pe_int) (pe_ix ix_tup (pv 0) pe_int (fun _ _ => rfl)) (nomark _)) (pss_one (ps_ret (pe_tup (pa_cons (pe_tup (pa_cons (pv 6) (pa_cons (pe_op op_add (pv 7) pe_int) pa_nil))) (pa_cons (pe_tup (pa_cons pe_int (pa_cons pe_non (pa_cons pe_bl pa_nil)))) (pa_cons (pe_tup (pa_cons pe_int (pa_cons pe_int (pa_cons pe_int pa_nil)))) (pa_cons (pe_tup (pa_cons pe_int (pa_cons pe_int pa_nil))) pa_nil))))))) pss_nil) (pss_one (ps_ret (pe_ifExp (pt_cmpR op_eq (pv 6) pe_int (nomark _)) (pe_tup (pa_cons (pe_tup (pa_cons pe_int (pa_cons pe_int pa_nil))) (pa_cons (pe_tup (pa_cons pe_int (pa_cons pe_non (pa_cons pe_bl pa_nil)))) (pa_cons (pe_tup (pa_cons pe_int (pa_cons pe_int (pa_cons pe_int pa_nil)))) (pa_cons (pe_tup (pa_cons pe_int (pa_cons pe_int pa_nil))) pa_nil))))) pe_non))))))))))), ?_⟩
  refine ⟨_, rfl, _, _, rfl, (by walk_at "sq"), rfl, _, _, rfl, _, _, rfl, (by walk_at "sq"), rfl, _, _, rfl, _, _, rfl, rfl, _, _, rfl, _, _, rfl, (by walk_at "sq"), rfl, _, _, rfl, _, _, rfl, _, _, rfl, rfl, _, _, rfl, _, _, rfl, rfl, ?_⟩
  walk_at "nm"
  refine ⟨_, rfl, _, rfl, _, rfl, _, _, _, _, x, rfl, ⟨(by walk_at "sq"), (by walk_at "sq"), (by walk_at "sq")⟩, fun v1 H1 e1 w1 => ?_⟩
  cases w1 with
  | at_ ew hp ht hb =>
    walk_at "nm"
    refine ⟨_, rfl, rfl, _, rfl, ?_⟩
    refine iteT ?_
    refine ⟨_, rfl, _, rfl, (by show 2 ≤ sizeLine; decide), fun p2 np2 => ?_⟩
    refine ⟨_, rfl, _, rfl, _, rfl, (by show 3 ≤ sizeLine; decide), fun p3 np3 => ?_⟩
    refine ⟨_, rfl, _, _, _, _, rfl, rfl, (by walk_at "sl"), rfl, _, rfl, _, _, _, _, rfl, rfl, (by walk_at "sl"), rfl, (by show 4 ≤ sizeLine; decide), fun p4 np4 => ?_⟩
    exact q _ _ (by walk_at "sm") (.inr ⟨_, _, nextC_w ew, rfl, ct_wires ew (SqT.of upd_same) (by walk_at "sq") (by walk_at "sq") (by walk_at "lt") (by walk_at "sq") (by walk_at "sq")⟩)
  | no ew =>
    cases hd : x.done with
    | false =>
      rw [hd] at h2
      walk_at "nm"
      refine ⟨_, rfl, rfl, _, rfl, ?_⟩
      refine iteF ?_
      refine ⟨_, rfl, _, rfl, ?_⟩
      refine iteT ?_
      refine ⟨_, rfl, _, rfl, (by show 2 ≤ sizeLine; decide), fun p2 np2 => ?_⟩
      refine ⟨_, rfl, _, rfl, (by show 3 ≤ sizeLine; decide), fun p3 np3 => ?_⟩
      refine ⟨(by show 3 ≤ sizeLine; decide), fun p4 np4 => ?_⟩
      refine ⟨(by show 2 ≤ sizeLine; decide), fun p5 np5 => ?_⟩
      refine ⟨(by show 4 ≤ sizeLine; decide), fun p6 np6 => ?_⟩
      exact q _ _ (by walk_at "sm") (.inr ⟨_, _, nextC_d ew hd, rfl, ⟨⟨_, _, _, _, _, SqT.of upd_same, (by walk_at "sq"), (by walk_at "sq"), (by walk_at "lt"), (by walk_at "sq"), (by walk_at "sq")⟩⟩⟩)
    | true =>
      rw [hd] at h2
      walk_at "nm"
      refine ⟨_, rfl, rfl, _, rfl, ?_⟩
      refine iteF ?_
      refine ⟨_, rfl, _, rfl, ?_⟩
      refine iteF ?_
      refine ⟨_, rfl, _, rfl, _, rfl, rfl, _, rfl, _, _, _, x.lots, _, rfl, ⟨(by walk_at "sq"), hL, (by walk_at "lt"), hX.lots0, by rw [even_v]; exact hX.lots1⟩, fun v2 H2 e2 w2 => ?_⟩
      cases w2 with
      | at_ hlt hlv =>
        rw [even_v] at hlv
        walk_at "nm"
        refine ⟨_, rfl, rfl, _, rfl, ?_⟩
        refine iteT ?_
        refine ⟨_, rfl, _, rfl, (by show 2 ≤ sizeLine; decide), fun p3 np3 => ?_⟩
        refine ⟨_, rfl, _, rfl, (by show 3 ≤ sizeLine; decide), fun p4 np4 => ?_⟩
        refine ⟨(by show 3 ≤ sizeLine; decide), fun p5 np5 => ?_⟩
        refine ⟨(by show 2 ≤ sizeLine; decide), fun p6 np6 => ?_⟩
        refine ⟨(by show 4 ≤ sizeLine; decide), fun p7 np7 => ?_⟩
        exact q _ _ (by walk_at "sm") (.inr ⟨_, _, nextC_l ew hd (by rw [← even_v]; exact hlt), rfl, ⟨⟨_, _, _, _, _, SqT.of upd_same, (by walk_at "sq"), (by walk_at "sq"), (by walk_at "lt"), (by walk_at "sq"), (by walk_at "sq")⟩⟩⟩)
      | no hlt =>
        walk_at "nm"
        refine ⟨_, rfl, rfl, _, rfl, ?_⟩
        refine iteF ?_
        refine ⟨_, rfl, rfl, _, rfl, ?_⟩
        refine ite2 (fun c1 => ?_) (fun c1 => ?_)
        · replace c1 := eqT c1
          refine ⟨_, rfl, _, rfl, (by show 2 ≤ sizeLine; decide), fun p3 np3 => ?_⟩
          refine ⟨(by show 3 ≤ sizeLine; decide), fun p4 np4 => ?_⟩
          refine ⟨(by show 3 ≤ sizeLine; decide), fun p5 np5 => ?_⟩
          refine ⟨(by show 2 ≤ sizeLine; decide), fun p6 np6 => ?_⟩
          refine ⟨(by show 4 ≤ sizeLine; decide), fun p7 np7 => ?_⟩
          exact q _ _ (by walk_at "sm") (.inr ⟨_, _, (nextC_e ew hd (by rw [← even_v]; exact hlt)).trans (by rw [if_pos c1]), rfl, ⟨⟨_, _, _, _, _, SqT.of upd_same, (by walk_at "sq"), (by walk_at "sq"), .no, (by walk_at "sq"), (by walk_at "sq")⟩⟩⟩)
        · replace c1 := eqF c1
          refine ⟨_, rfl, _, _, rfl, rfl, _, rfl, _, _, _, _, rfl, rfl, (by walk_at "sq"), rfl, _, _, rfl, rfl, _, rfl, ?_⟩
          refine ite2 (fun c2 => ?_) (fun c2 => ?_)
          · replace c2 := dT c2
            refine ⟨_, rfl, _, rfl, _, _, rfl, rfl, (by show 2 ≤ sizeLine; decide), fun p8 np8 => ?_⟩
            refine ⟨(by show 3 ≤ sizeLine; decide), fun p9 np9 => ?_⟩
            refine ⟨(by show 3 ≤ sizeLine; decide), fun p10 np10 => ?_⟩
            refine ⟨(by show 2 ≤ sizeLine; decide), fun p11 np11 => ?_⟩
            refine ⟨(by show 4 ≤ sizeLine; decide), fun p12 np12 => ?_⟩
            exact q _ _ (by walk_at "sm") (.inr ⟨_, _, (nextC_e ew hd (by rw [← even_v]; exact hlt)).trans (by rw [if_neg c1, if_pos c2]), rfl, ⟨⟨_, _, _, _, _, SqT.of upd_same, (by walk_at "sq"), (by walk_at "sq"), .no, (by walk_at "sq"), (by walk_at "sq")⟩⟩⟩)
          · replace c2 := dF c2
            refine ⟨_, rfl, rfl, _, rfl, ?_⟩
            refine ite2 (fun c3 => ?_) (fun c3 => ?_)
            · replace c3 := eqT c3
              refine ⟨(by show 2 ≤ sizeLine; decide), fun p13 np13 => ?_⟩
              refine ⟨(by show 3 ≤ sizeLine; decide), fun p14 np14 => ?_⟩
              refine ⟨(by show 3 ≤ sizeLine; decide), fun p15 np15 => ?_⟩
              refine ⟨(by show 2 ≤ sizeLine; decide), fun p16 np16 => ?_⟩
              refine ⟨(by show 4 ≤ sizeLine; decide), fun p17 np17 => ?_⟩
              exact q _ _ (by walk_at "sm") (.inr ⟨_, _, (nextC_e ew hd (by rw [← even_v]; exact hlt)).trans (by rw [if_neg c1, if_neg c2, if_pos c3]), rfl, ⟨⟨_, _, _, _, _, SqT.of upd_same, (by walk_at "sq"), (by walk_at "sq"), .no, (by walk_at "sq"), (by walk_at "sq")⟩⟩⟩)
            · replace c3 := eqF c3
              exact q _ _ (by walk_at "sm") (.inl ⟨(nextC_e ew hd (by rw [← even_v]; exact hlt)).trans (by rw [if_neg c1, if_neg c2, if_neg c3]), rfl⟩)
def sp_key (K : PySem.W.Frag) : Sp := fun vs H Q _ => ∃ (c : Addr) (L : Lk) (x : Ct), vs = [.ref c] ∧ CtA K H L c x ∧ ∀ p H', Same H H' → Dp K H' (.ref p) (keyD L x) → Q (.ref p) H'
theorem b2_v {b : Bool} : HM.b2 b = if b = true then 1 else 0 := by cases b <;> rfl
theorem sc__law_key : FnScope ["_law_here_here", "_law_there", "_law_back", "_law_bit", "_law_heard_here", "_law_own", "_law_lot", "_law_done"] ["_law_here_here"] (defScope s__law_key) := ⟨rfl, rfl, rfl, by decide +kernel, rfl, by decide +kernel, by decide +kernel⟩
theorem ok__law_key (Fx : Facts K mg) : Fn P w K mg base 1 "_law_key" ["_law_here_here"] (sp_key K) := by
  refine fn_mk Fx 63 (st := s__law_key) rfl sc__law_key (fun _ _ _ _ _ _ us hl => match us, hl with | [_], _ => rfl) (fun vs H Q E h => ?_) (fun f cdv A outer s H vs Q E hr h => ?_)
  · obtain ⟨c, L, x, rfl, _⟩ := h
    rfl
  obtain ⟨c, L, x, rfl, hc, q⟩ := h
  obtain ⟨s, r, t, b, v, h0, h1, h2, h3, h4, h5⟩ := hc.ex
  refine ⟨_, (pss_cons (ps_asg (pv 0) (pg_tup rfl (pgs_cons (pg_tup rfl (pgs_cons (pg_name (i := 3) sc__law_key.nd rfl (.inl rfl)) (pgs_cons (pg_name (i := 4) sc__law_key.nd rfl (.inl rfl)) pgs_nil))) (pgs_cons (pg_tup rfl (pgs_cons (pg_name (i := 5) sc__law_key.nd rfl (.inl rfl)) (pgs_cons (pg_name (i := 6) sc__law_key.nd rfl (.inl rfl)) (pgs_cons (pg_name (i := 7) sc__law_key.nd rfl (.inl rfl)) pgs_nil)))) (pgs_cons (pg_name (i := 1) sc__law_key.nd rfl (.inl rfl)) (pgs_cons (pg_name (i := 2) sc__law_key.nd rfl (.inl rfl)) pgs_nil)))))) (pss_one (ps_ret (pe_lst (pa_cons (pv 3) (pa_cons (pv 4) (pa_cons (pv 5) (pa_cons (pe_ifExp (pt_cmpR op_isN (pv 6) pe_non (nomark _)) (pe_lst pa_nil) (pe_lst (pa_cons (pe_ix ix_tup (pv 6) pe_int (fun _ _ => rfl)) (pa_cons (pe_ix ix_tup (pv 6) pe_int (fun _ _ => rfl)) pa_nil)))) (pa_cons (pe_callTy call_intB (by rfl) (Fx.bt 1 _ rfl) boot_int (pa_cons (pv 7) pa_nil)) (pa_cons (pe_callTy call_list_of (by rfl) (Fx.bt 11 _ rfl) boot_list (pa_cons (pv 1) pa_nil)) (pa_cons (pe_callTy call_list_of (by rfl) (Fx.bt 11 _ rfl) boot_list (pa_cons (pv 2) pa_nil)) pa_nil))))))))))), ?_⟩
  generalize el : x.lot L = l at h3
  cases h3 with
  | no =>
    refine ⟨_, rfl, _, _, rfl, (by walk_at "sq"), rfl, _, _, rfl, _, _, rfl, (by walk_at "sq"), rfl, _, _, rfl, _, _, rfl, rfl, _, _, rfl, _, _, rfl, (by walk_at "sq"), rfl, _, _, rfl, _, _, rfl, _, _, rfl, rfl, _, _, rfl, _, _, rfl, rfl, ?_⟩
    walk_at "nm"
    refine ⟨_, rfl, _, rfl, _, rfl, _, rfl, rfl, _, rfl, ?_⟩
    refine iteT ?_
    refine ⟨(by show 0 ≤ sizeLine; decide), fun p1 np1 => ?_⟩
    refine ⟨_, rfl, _, rfl, _, rfl, _, _, rfl, (.inr (by walk_at "sq")), fun pl2 nl2 => ?_⟩
    refine ⟨_, rfl, _, _, rfl, (.inr (by walk_at "sq")), fun pl3 nl3 => ?_⟩
    refine ⟨(by show 7 ≤ sizeLine; decide), fun p4 np4 => ?_⟩
    refine q _ _ (by walk_at "sm") ?_
    unfold keyD
    rw [el, b2_v]
    exact .lst (SqL.of upd_same) (.cons (.int _) (.cons (.int _) (.cons (.int _) (.cons (.lst (by walk_at "sl") .nil) (.cons (.int _) (dp2 (.lst (by walk_at "sl") (dp3 (.int _) (.int _) (.int _))) (.lst (by walk_at "sl") (dp2 (.int _) (.int _)))))))))
  | new hm =>
    refine ⟨_, rfl, _, _, rfl, (by walk_at "sq"), rfl, _, _, rfl, _, _, rfl, (by walk_at "sq"), rfl, _, _, rfl, _, _, rfl, rfl, _, _, rfl, _, _, rfl, (by walk_at "sq"), rfl, _, _, rfl, _, _, rfl, _, _, rfl, rfl, _, _, rfl, _, _, rfl, rfl, ?_⟩
    walk_at "nm"
    refine ⟨_, rfl, _, rfl, _, rfl, _, rfl, rfl, _, rfl, ?_⟩
    refine iteF ?_
    refine ⟨_, rfl, _, _, _, _, rfl, rfl, (by walk_at "sq"), rfl, _, rfl, _, _, _, _, rfl, rfl, (by walk_at "sq"), rfl, (by show 2 ≤ sizeLine; decide), fun p1 np1 => ?_⟩
    refine ⟨_, rfl, _, rfl, _, rfl, _, _, rfl, (.inr (by walk_at "sq")), fun pl2 nl2 => ?_⟩
    refine ⟨_, rfl, _, _, rfl, (.inr (by walk_at "sq")), fun pl3 nl3 => ?_⟩
    refine ⟨(by show 7 ≤ sizeLine; decide), fun p4 np4 => ?_⟩
    refine q _ _ (by walk_at "sm") ?_
    unfold keyD
    rw [el, b2_v]
    exact .lst (SqL.of upd_same) (.cons (.int _) (.cons (.int _) (.cons (.int _) (.cons (.lst (by walk_at "sl") (dp2 (.str _) (.int _))) (.cons (.int _) (dp2 (.lst (by walk_at "sl") (dp3 (.int _) (.int _) (.int _))) (.lst (by walk_at "sl") (dp2 (.int _) (.int _)))))))))
  | old hm =>
    refine ⟨_, rfl, _, _, rfl, (by walk_at "sq"), rfl, _, _, rfl, _, _, rfl, (by walk_at "sq"), rfl, _, _, rfl, _, _, rfl, rfl, _, _, rfl, _, _, rfl, (by walk_at "sq"), rfl, _, _, rfl, _, _, rfl, _, _, rfl, rfl, _, _, rfl, _, _, rfl, rfl, ?_⟩
    walk_at "nm"
    refine ⟨_, rfl, _, rfl, _, rfl, _, rfl, rfl, _, rfl, ?_⟩
    refine iteF ?_
    refine ⟨_, rfl, _, _, _, _, rfl, rfl, (by walk_at "sq"), rfl, _, rfl, _, _, _, _, rfl, rfl, (by walk_at "sq"), rfl, (by show 2 ≤ sizeLine; decide), fun p1 np1 => ?_⟩
    refine ⟨_, rfl, _, rfl, _, rfl, _, _, rfl, (.inr (by walk_at "sq")), fun pl2 nl2 => ?_⟩
    refine ⟨_, rfl, _, _, rfl, (.inr (by walk_at "sq")), fun pl3 nl3 => ?_⟩
    refine ⟨(by show 7 ≤ sizeLine; decide), fun p4 np4 => ?_⟩
    refine q _ _ (by walk_at "sm") ?_
    unfold keyD
    rw [el, b2_v]
    exact .lst (SqL.of upd_same) (.cons (.int _) (.cons (.int _) (.cons (.int _) (.cons (.lst (by walk_at "sl") (dp2 (.str _) (.int _))) (.cons (.int _) (dp2 (.lst (by walk_at "sl") (dp3 (.int _) (.int _) (.int _))) (.lst (by walk_at "sl") (dp2 (.int _) (.int _)))))))))
end
end HW
/-! part W16 -/
namespace HW
open PySem PySem.Spec PyProof.Rows L2 NdefX LamX
open HM (Lk Ct Lot)
local macro_rules | `(tactic| walk_at "ga") => `(tactic| first | with_reducible assumption | (with_reducible apply GenA.up; assumption; walk_at "ga") | (with_reducible apply GenA.S; assumption; walk_at "ga") | (with_reducible apply GenA.N; assumption; walk_at "ga"))
local macro_rules | `(tactic| walk_at "mg") => `(tactic| first | with_reducible assumption | (with_reducible apply Mg.refl; assumption) | (with_reducible apply Mg.up; assumption; walk_at "mg") | (with_reducible apply Mg.S; assumption; walk_at "mg") | (with_reducible apply mg_T; assumption; walk_at "mg"))
local macro_rules | `(tactic| walk_at "in") => `(tactic| first | assumption | (constructor <;> omega))
local macro_rules | `(tactic| walk_at "en") => `(tactic| first | with_reducible assumption | exact ExtN.refl _ | (with_reducible apply extN_up2; assumption; walk_at "en") | (with_reducible apply extN_S2; assumption; walk_at "en") | (with_reducible apply extN_N2; assumption; walk_at "en"))
local macro_rules | `(tactic| walk_at "tb") => `(tactic| first | with_reducible assumption | (with_reducible apply Tabs.up2; assumption; walk_at "tb") | (with_reducible apply Tabs.S2; assumption; walk_at "tb") | (with_reducible apply Tabs.M; assumption; walk_at "tb"))
local macro_rules | `(tactic| walk_at "nf") => `(tactic| dsimp only [L2.cxOf, L2.Cx.nox, NdefX.startF, NdefX.slotAt, L2.start, List.set, List.getElem?_cons_zero, List.getElem?_cons_succ, Option.join, Option.bind, List.length, List.replicate, List.map, HAppend.hAppend, Append.append, List.append, Nat.reduceAdd, Nat.reduceSub, Nat.zero_add])
local macro_rules | `(tactic| walk_at "nm") => `(tactic| dsimp only [L2.cxOf, L2.Cx.nox, L2.start, List.set, List.length, List.replicate, List.map, HAppend.hAppend, Append.append, List.append, Nat.reduceAdd, Nat.reduceSub, Nat.zero_add])
local macro_rules | `(tactic| walk_at "sq0") => `(tactic| first | assumption | exact SqT.of upd_same | (apply sqT_up; assumption; walk_at "sq0") | (apply sqT_S; assumption; walk_at "sq0") | (apply sqT_N; assumption; walk_at "sq0") | (apply sqT_M; assumption; walk_at "sq0"))
local macro_rules | `(tactic| walk_at "sq1") => `(tactic| first | assumption | exact SqT.of upd_same | (apply sqT_up; assumption; walk_at "sq1") | (apply sqT_S; assumption; walk_at "sq1") | (apply sqT_N; assumption; walk_at "sq1") | (apply sqT_M; assumption; walk_at "sq1"))
local macro_rules | `(tactic| walk_at "sq") => `(tactic| first | with_reducible walk_at "sq0" | walk_at "sq1")
local macro_rules | `(tactic| walk_at "sl0") => `(tactic| first | assumption | exact SqL.of upd_same | exact SqL.of (by assumption) | (apply sqL_up; assumption; walk_at "sl0") | (apply sqL_S; assumption; walk_at "sl0") | (apply sqL_N; assumption; walk_at "sl0") | (apply sqL_M; assumption; assumption; walk_at "sl0"))
local macro_rules | `(tactic| walk_at "sl1") => `(tactic| first | assumption | exact SqL.of upd_same | exact SqL.of (by assumption) | (apply sqL_up; assumption; walk_at "sl1") | (apply sqL_S; assumption; walk_at "sl1") | (apply sqL_N; assumption; walk_at "sl1") | (apply sqL_M; assumption; assumption; walk_at "sl1"))
local macro_rules | `(tactic| walk_at "sl") => `(tactic| first | with_reducible walk_at "sl0" | walk_at "sl1")
local macro_rules | `(tactic| walk_at "lt0") => `(tactic| first | assumption | (apply LotV.up; assumption; walk_at "lt0") | (apply LotV.S; assumption; walk_at "lt0") | (apply LotV.N; assumption; walk_at "lt0") | (apply LotV.M; assumption; walk_at "lt0"))
local macro_rules | `(tactic| walk_at "lt1") => `(tactic| first | assumption | (apply LotV.up; assumption; walk_at "lt1") | (apply LotV.S; assumption; walk_at "lt1") | (apply LotV.N; assumption; walk_at "lt1") | (apply LotV.M; assumption; walk_at "lt1"))
local macro_rules | `(tactic| walk_at "lt") => `(tactic| first | with_reducible walk_at "lt0" | walk_at "lt1")
local macro_rules | `(tactic| walk_at "ct0") => `(tactic| first | assumption | (apply CtA.up; assumption; walk_at "ct0") | (apply CtA.S; assumption; walk_at "ct0") | (apply CtA.N; assumption; walk_at "ct0") | (apply CtA.M; assumption; walk_at "ct0"))
local macro_rules | `(tactic| walk_at "ct1") => `(tactic| first | assumption | (apply CtA.up; assumption; walk_at "ct1") | (apply CtA.S; assumption; walk_at "ct1") | (apply CtA.N; assumption; walk_at "ct1") | (apply CtA.M; assumption; walk_at "ct1"))
local macro_rules | `(tactic| walk_at "ct") => `(tactic| first | with_reducible walk_at "ct0" | walk_at "ct1")
local macro_rules | `(tactic| walk_at "ho0") => `(tactic| first | assumption | (apply HoA.up; assumption; walk_at "ho0") | (apply HoA.S; assumption; walk_at "ho0") | (apply HoA.N; assumption; walk_at "ho0"))
local macro_rules | `(tactic| walk_at "ho1") => `(tactic| first | assumption | (apply HoA.up; assumption; walk_at "ho1") | (apply HoA.S; assumption; walk_at "ho1") | (apply HoA.N; assumption; walk_at "ho1"))
local macro_rules | `(tactic| walk_at "ho") => `(tactic| first | with_reducible walk_at "ho0" | walk_at "ho1")
local macro_rules | `(tactic| walk_at "sm0") => `(tactic| first | assumption | exact Same.refl _ | (refine same_up ?_ (by assumption); walk_at "sm0") | (refine Same.trans ?_ (by assumption); walk_at "sm0") | exact same_new (by assumption) _)
local macro_rules | `(tactic| walk_at "sm1") => `(tactic| first | assumption | exact Same.refl _ | (refine same_up ?_ (by assumption); walk_at "sm1") | (refine Same.trans ?_ (by assumption); walk_at "sm1") | exact same_new (by assumption) _)
local macro_rules | `(tactic| walk_at "sm") => `(tactic| first | with_reducible walk_at "sm0" | walk_at "sm1")
local macro_rules | `(tactic| walk_at "pre") => `(tactic| first | assumption | omega | decide)
section
variable {P : Program} {w : World} {K : PySem.W.Frag} {mg : Str → Option Value} {base : Heap}
/-- a def by its name that is kept where no repr is under way -/
structure FnR (P : Program) (w : World) (K : PySem.W.Frag) (mg : Str → Option Value) (base : Heap) (k : Nat) (x : Str) (ps : List Str) (sp : Sp) : Prop where
  ex : ∃ fd, FnG P w K mg base k (He.ga K x) fd ps sp ∧ Binds K fd ps []
  gl : mg x = some (.ref (He.ga K x))
  kp : PySem.W.keepIn K (.ref (He.ga K x)) = true
theorem fnr_mk {k : Nat} {sp : Sp} (Fx : Facts K mg) (i : Nat) {x : Str} {st : Stmt} {N ps : List Str} (hi : fnAll[i]? = some ⟨(x, none), x, x, defArgs st, defBody st, defScope st, [], []⟩) (S : FnScope N ps (defScope st))
    (hb : ∀ (kV doc pm : Value) (an : Option Addr) (cdv ct : Value) (us : List Value), us.length = ps.length → bindArgs (PySem.W.fnOf x x (defArgs st) (defBody st) (defScope st) .none kV doc pm an cdv ct) ⟨us, []⟩ = pure (ps.zip us))
    (len : ∀ vs H Q E, sp vs H Q E → vs.length = ps.length)
    (body : ∀ (f : Addr) (cdv : Value) (A : Around) (outer : List Env) (s : Shared) (H : Hp) (vs : List V) (Q : VK) (E : XK), Room k (A.deeper (envOfC x (defScope st) s.heap.objs.size f cdv)) → (A.deeper (envOfC x (defScope st) s.heap.objs.size f cdv)).guards = some [] → sp vs H Q E →
      ∃ t, PSs (cxOf L2.CX0 P w K mg base N x (defScope st) f cdv A outer s H E).nox (defBody st) t ∧ t { nx := fun _ H' => Q .non H', rt := Q } (L2.start N vs) H) : FnR P w K mg base (k + 1) x ps sp := by
  obtain ⟨fd, F⟩ := Fx.def_ i hi
  refine ⟨⟨fd, fng_of F S len fun cdv A outer s H vs Q E hr hg h => ?_, F.bindsN hb⟩, Fx.gl i _ hi, F.kp⟩
  obtain ⟨t, h1, h2⟩ := body _ cdv A outer s H vs Q E hr hg h
  exact ⟨t, h1.nox, h2⟩
theorem Room.guards {A : Around} {e : Env} (h : A.guards = some []) : (A.deeper e).guards = some [] := h
section
variable {X : Cx} {k j : Nat} {sp : Sp} {x : Str} {ps : List Str} {p pos : Pos} {e : Expr} {es : List Expr} {t : TA}
theorem pe_fng (F : FnR X.prog X.w X.K X.mg X.base k x ps sp) (hr : Room j X.A) (hg : X.A.guards = some []) (ha : PA X (e :: es) t) (hk : k ≤ j := by decide) (hgl : Gl X x := by rfl) (hdb : (x == ("__debug__" : Str)) = false := by decide)
    (he : starEach (e :: es) X.env = (false, eval e X.env) :: starEach es X.env := by rfl) (hpl : (backTo pos (starEach es X.env)).any (·.1) = false := by rfl) : PE X (.Call (.Name x p) (e :: es) [] pos) (fun σ H Q => t σ H fun vs H1 => sp vs H1 Q L2.E0) := by
  obtain ⟨fd, G, hb⟩ := F.ex
  exact pe_callG G (hr.mono hk) hg hgl F.gl F.kp hb ha hdb he hpl
end
/-- the data of a number's answer -/
theorem NumV.dp {L : Lk} {h k : Int} {v : V} {H : Hp} (hL : L.Ok) (n : NumV K H L h k v) : ∃ d, Dp K H v d ∧ Sho d := by
  cases n with
  | no c => exact ⟨.none, .non, none_sho⟩
  | at_ X e1 e2 hc => exact ⟨_, hc.dp, ct_sho hL X⟩
theorem NumV.N {L : Lk} {h k : Int} {v : V} {H H' : Hp} (e : ExtN H H') (n : NumV K H L h k v) : NumV K H' L h k v := by
  cases n with
  | no c => exact .no c
  | at_ X e1 e2 hc => exact .at_ X e1 e2 (hc.N e)
theorem NumV.S {L : Lk} {h k : Int} {v : V} {H H' : Hp} (e : Same H H') (n : NumV K H L h k v) : NumV K H' L h k v := n.N (Same.extN e)
theorem NumV.up {L : Lk} {h k : Int} {v : V} {H : Hp} {p : Addr} {o : HO} (np : H p = none) (n : NumV K H L h k v) : NumV K (upd H p o) L h k v := n.S (same_new np o)
theorem NumV.M {L : Lk} {h k : Int} {v : V} {g : Addr} {H H' : Hp} (m : Mg g H H') (n : NumV K H L h k v) : NumV K H' L h k v := by
  cases n with
  | no c => exact .no c
  | at_ X e1 e2 hc => exact .at_ X e1 e2 (hc.M m)
/-- two answers of one number have the same data -/
theorem NumV.dp2 {L : Lk} {h k : Int} {v u : V} {H H' : Hp} (hL : L.Ok) (h4 : h = 0 ∨ h = 1 ∨ h = 2 ∨ h = 3) (n : NumV K H L h k v) (m : NumV K H' L h k u) : ∃ d, Dp K H v d ∧ Dp K H' u d ∧ Sho d := by
  cases n with
  | no c =>
    cases m with
    | no c2 => exact ⟨.none, .non, .non, none_sho⟩
    | at_ X e1 e2 hc => have q := (HM.num_in hL X h4).2; rw [decide_eq_true e1] at q; have : HM.b2 true = 1 := rfl; omega
  | at_ X e1 e2 hc =>
    cases m with
    | no c2 => have q := (HM.num_in hL X h4).2; rw [decide_eq_true e1] at q; have : HM.b2 true = 1 := rfl; omega
    | at_ Y f1 f2 hd =>
      obtain rfl := HM.num_inj hL X Y h4 e1 f1 (e2.trans f2.symm)
      exact ⟨_, hc.dp, hd.dp, ct_sho hL X⟩
def sp_near (K : PySem.W.Frag) : Sp := fun vs H Q _ => ∃ (a c : Addr) (v : V) (L : Lk) (x : Ct), vs = [.ref a, .ref c, v] ∧ (LkA K H a L ∧ CtA K H L c x ∧ L.Ok ∧ x.Ok L ∧ NumV K H L (x.harm L) (HM.numIn L (x.harm L) x + 1) v) ∧ ∀ H', Same H H' → Q (.bl true) H'
theorem str_same {Q : VK} {H : Hp} {s : Str} (q : Q (.bl true) H) : Q (.bl (decide (V.str s = V.str s))) H := by rw [decide_eq_true rfl]; exact q
mutual
theorem Dp.S {K : PySem.W.Frag} {H H' : Hp} (e : Same H H') : ∀ (d : PyData) (v : V), Dp K H v d → Dp K H' v d
  | .none, _, h => by cases h; exact .non
  | .bool b, _, h => by cases h; exact .bl b
  | .int i, _, h => by cases h; exact .int i
  | .str x, _, h => by cases h; exact .str x
  | .list ds, _, h => by
    cases h with
    | lst hs ha => exact .lst (sqL_S e hs) (DpAll.S e ds _ ha)
  | .tuple ds, _, h => by
    cases h with
    | tup hs ha => exact .tup (sqT_S e hs) (DpAll.S e ds _ ha)
  | .dict _, _, h => by cases h
theorem DpAll.S {K : PySem.W.Frag} {H H' : Hp} (e : Same H H') : ∀ (ds : List PyData) (vs : List V), DpAll K H vs ds → DpAll K H' vs ds
  | [], _, h => by cases h; exact .nil
  | d :: ds, _, h => by
    cases h with
    | cons a b => exact .cons (Dp.S e d _ a) (DpAll.S e ds _ b)
end
theorem dpS {K : PySem.W.Frag} {H H' : Hp} {v : V} {d : PyData} (h : Dp K H v d) (e : Same H H') : Dp K H' v d := Dp.S e d v h
theorem sc__law_near_right : FnScope ["_law_link", "_law_here_here", "_law_later", "_law_turn", "_law_many", "_law_step"] ["_law_link", "_law_here_here", "_law_later"] (defScope s__law_near_right) := ⟨rfl, rfl, rfl, by decide +kernel, rfl, by decide +kernel, by decide +kernel⟩
theorem ok__law_near_right (Fx : Facts K mg) : FnR P w K mg base 3 "_law_near_right" ["_law_link", "_law_here_here", "_law_later"] (sp_near K) := by
  have F__law_harm := ok__law_harm (P := P) (w := w) (base := base) Fx
  have F__law_next := ok__law_next (P := P) (w := w) (base := base) Fx
  have F__law_key := ok__law_key (P := P) (w := w) (base := base) Fx
  refine fnr_mk Fx 70 (st := s__law_near_right) rfl sc__law_near_right (fun _ _ _ _ _ _ us hl => match us, hl with | [_, _, _], _ => rfl) (fun vs H Q E h => ?_) (fun f cdv A outer s H vs Q E hr hg h => ?_)
  · obtain ⟨a, c, v, L, x, rfl, _⟩ := h
    rfl
  obtain ⟨a, c, v, L, x, rfl, ⟨hl, hc, hL, hX, hv⟩, q⟩ := h
  have h4 := HM.harm_range (L := L) x
  refine ⟨_, (pss_cons (ps_par (i := 4) (j := 5) rfl sc__law_near_right.nd rfl rfl (by decide) rfl rfl (pa_cons (pe_fn F__law_harm hr (pa_cons (pv 0) (pa_cons (pv 1) pa_nil))) (pa_cons (pv 1) pa_nil)) (by rfl)) (pss_cons (ps_for PassesOwn.never rfl (pi_range1 (by rfl) (Fx.bt 7 _ rfl) (pa_cons pe_int pa_nil)) (pg_name (i := 3) sc__law_near_right.nd rfl (.inl rfl)) (pss_cons (ps_set (i := 5) sc__law_near_right.nd rfl (.inl rfl) (pe_fn F__law_next hr (pa_cons (pv 0) (pa_cons (pv 5) pa_nil)))) (pss_one (ps_if (PW.pt (pw_or (pt_cmpR op_isN (pv 5) pe_non (nomark _)) (pw_or1 (pt_cmpR op_eq (pe_fn F__law_harm hr (pa_cons (pv 0) (pa_cons (pv 5) pa_nil))) (pv 4) (nomark _))))) (pss_one (ps_ret (pe_cmpR op_eq (pe_callB (call_reprD hg hr.units) (by rfl) (Fx.bt 10 _ rfl) boot_repr (pa_cons (pv 5) pa_nil)) (pe_callB (call_reprD hg hr.units) (by rfl) (Fx.bt 10 _ rfl) boot_repr (pa_cons (pv 2) pa_nil)) (nomark _)))) pss_nil)))) (pss_one (ps_ret (pe_or (pe_cmpR op_isN (pv 2) pe_non (nomark _)) (pe_one (pe_cmpR (op_gtD hr.units) (pe_fn F__law_key hr (pa_cons (pv 2) pa_nil)) (pe_fn F__law_key hr (pa_cons (pv 5) pa_nil)) (nomark _)))))))), ?_⟩
  refine ⟨_, rfl, _, rfl, _, _, _, _, rfl, ⟨(by walk_at "sq"), (by walk_at "ct"), hX⟩, fun H1 e1 => ?_⟩
  refine ⟨_, rfl, _, _, rfl, _, rfl, (by omega), (by omega), ?_⟩
  refine for_range (lo := 0) (n := (40 : Int).toNat) (fun i σ H' => ∃ (y : Ct) (s : Addr) (z : Option V), σ = [some (.ref a), some (.ref c), some v, z, some (.int (x.harm L)), some (.ref s)] ∧ Same H H' ∧ CtA K H' L s y ∧ y.Ok L ∧ HM.numIn L (x.harm L) y + HM.b2 (decide (y.harm L = x.harm L)) = HM.numIn L (x.harm L) x + 1 ∧ (i = 0 ∨ y.harm L ≠ x.harm L))
    ⟨x, c, none, rfl, e1, hc.S e1, hX, by rw [decide_eq_true rfl]; rfl, .inl rfl⟩ (fun i σ H' hi hp => ?_) (fun σ H' hp => ?_)
  · obtain ⟨y, s, z, rfl, es, hcs, hY, hn, _⟩ := hp
    refine ⟨_, rfl, _, rfl, _, _, _, _, rfl, ⟨(by walk_at "sq"), hcs, hL, hY⟩, fun v2 H2 e2 w2 => ?_⟩
    rcases w2 with ⟨en, rfl⟩ | ⟨y2, p2, en, rfl, hc2⟩
    · have hk := HM.next_none hL hY h4 en
      have hv2 : v = .non := by
        cases hv with
        | no c => rfl
        | at_ Z f1 f2 hz =>
          have q2 := (HM.num_in hL Z h4).2
          rw [decide_eq_true f1] at q2
          have : HM.b2 true = 1 := rfl
          omega
      subst hv2
      refine ⟨_, rfl, rfl, _, rfl, ?_⟩
      refine iteT ?_
      refine iteT ?_
      refine ⟨_, rfl, _, .none, rfl, .non, none_sho.h, _, rfl, _, .none, rfl, .non, none_sho.h, rfl, ?_⟩
      exact str_same (Q := Q) (q _ (by walk_at "sm"))
    · obtain ⟨Y2, hn2, _⟩ := HM.next_some hL hY h4 en
      rw [hn] at hn2
      refine ⟨_, rfl, rfl, _, rfl, ?_⟩
      refine iteF ?_
      refine ⟨_, rfl, _, rfl, _, _, _, _, rfl, ⟨(by walk_at "sq"), hc2, Y2⟩, fun H3 e3 => ?_⟩
      refine ⟨_, rfl, rfl, _, rfl, ?_⟩
      refine ite2 (fun c2 => ?_) (fun c2 => ?_)
      · replace c2 := eqT c2
        have n2 : NumV K H2 L (x.harm L) (HM.numIn L (x.harm L) x + 1) (.ref p2) := .at_ Y2 c2 hn2 hc2
        obtain ⟨d, d1, d2, ds⟩ := NumV.dp2 hL h4 (n2.S e3) ((hv.S es).S (Same.trans e2 e3))
        refine ⟨_, rfl, _, d, rfl, d1, ds.h, _, rfl, _, d, rfl, d2, ds.h, rfl, ?_⟩
        exact str_same (Q := Q) (q _ (by walk_at "sm"))
      · replace c2 := eqF c2
        exact ⟨y2, p2, _, rfl, by walk_at "sm", hc2.S e3, Y2, by rw [decide_eq_false c2, hn2]; show _ + 0 = _; omega, .inr c2⟩
  · obtain ⟨y, s, z, rfl, es, hcs, hY, hn, hi⟩ := hp
    have ne : y.harm L ≠ x.harm L := hi.resolve_left (by decide)
    rw [decide_eq_false ne] at hn
    have hn0 : HM.numIn L (x.harm L) y = HM.numIn L (x.harm L) x + 1 := by have : HM.b2 false = 0 := rfl; omega
    cases hv with
    | no c =>
      refine ⟨_, rfl, rfl, _, rfl, ?_⟩
      refine iteT ?_
      exact q _ (by walk_at "sm")
    | at_ Z f1 f2 hz =>
      refine ⟨_, rfl, rfl, _, rfl, ?_⟩
      refine iteF ?_
      refine ⟨_, rfl, _, _, _, rfl, hz.S es, fun p4 H4 e4 d4 => ?_⟩
      refine ⟨_, rfl, _, _, _, rfl, hcs.S e4, fun p5 H5 e5 d5 => ?_⟩
      refine ⟨_, _, dpS d4 e5, d5, ⟨key_alike L _ _, key_none L _, key_depth L _⟩, ?_⟩
      rw [key_lt hY Z, HM.later_lex hL hY Z h4 ne f1 (f2.trans hn0.symm)]
      exact q _ (by walk_at "sm")
end
end HW
/-! part W17 -/
namespace HW
open PySem PySem.Spec PyProof.Rows L2 NdefX LamX
open HM (Lk Ct Lot)
local macro_rules | `(tactic| walk_at "ga") => `(tactic| first | with_reducible assumption | (with_reducible apply GenA.up; assumption; walk_at "ga") | (with_reducible apply GenA.S; assumption; walk_at "ga") | (with_reducible apply GenA.N; assumption; walk_at "ga"))
local macro_rules | `(tactic| walk_at "mg") => `(tactic| first | with_reducible assumption | (with_reducible apply Mg.refl; assumption) | (with_reducible apply Mg.up; assumption; walk_at "mg") | (with_reducible apply Mg.S; assumption; walk_at "mg") | (with_reducible apply mg_T; assumption; walk_at "mg"))
local macro_rules | `(tactic| walk_at "in") => `(tactic| first | assumption | (constructor <;> omega))
local macro_rules | `(tactic| walk_at "en") => `(tactic| first | with_reducible assumption | exact ExtN.refl _ | (with_reducible apply extN_up2; assumption; walk_at "en") | (with_reducible apply extN_S2; assumption; walk_at "en") | (with_reducible apply extN_N2; assumption; walk_at "en"))
local macro_rules | `(tactic| walk_at "tb") => `(tactic| first | with_reducible assumption | (with_reducible apply Tabs.up2; assumption; walk_at "tb") | (with_reducible apply Tabs.S2; assumption; walk_at "tb") | (with_reducible apply Tabs.M; assumption; walk_at "tb"))
local macro_rules | `(tactic| walk_at "nf") => `(tactic| dsimp only [L2.cxOf, L2.Cx.nox, NdefX.startF, NdefX.slotAt, L2.start, List.set, List.getElem?_cons_zero, List.getElem?_cons_succ, Option.join, Option.bind, List.length, List.replicate, List.map, HAppend.hAppend, Append.append, List.append, Nat.reduceAdd, Nat.reduceSub, Nat.zero_add])
local macro_rules | `(tactic| walk_at "nm") => `(tactic| dsimp only [L2.cxOf, L2.Cx.nox, L2.start, List.set, List.length, List.replicate, List.map, HAppend.hAppend, Append.append, List.append, Nat.reduceAdd, Nat.reduceSub, Nat.zero_add])
local macro_rules | `(tactic| walk_at "sq0") => `(tactic| first | assumption | exact SqT.of upd_same | (apply sqT_up; assumption; walk_at "sq0") | (apply sqT_S; assumption; walk_at "sq0") | (apply sqT_N; assumption; walk_at "sq0") | (apply sqT_M; assumption; walk_at "sq0"))
local macro_rules | `(tactic| walk_at "sq1") => `(tactic| first | assumption | exact SqT.of upd_same | (apply sqT_up; assumption; walk_at "sq1") | (apply sqT_S; assumption; walk_at "sq1") | (apply sqT_N; assumption; walk_at "sq1") | (apply sqT_M; assumption; walk_at "sq1"))
local macro_rules | `(tactic| walk_at "sq") => `(tactic| first | with_reducible walk_at "sq0" | walk_at "sq1")
local macro_rules | `(tactic| walk_at "sl0") => `(tactic| first | assumption | exact SqL.of upd_same | exact SqL.of (by assumption) | (apply sqL_up; assumption; walk_at "sl0") | (apply sqL_S; assumption; walk_at "sl0") | (apply sqL_N; assumption; walk_at "sl0") | (apply sqL_M; assumption; assumption; walk_at "sl0"))
local macro_rules | `(tactic| walk_at "sl1") => `(tactic| first | assumption | exact SqL.of upd_same | exact SqL.of (by assumption) | (apply sqL_up; assumption; walk_at "sl1") | (apply sqL_S; assumption; walk_at "sl1") | (apply sqL_N; assumption; walk_at "sl1") | (apply sqL_M; assumption; assumption; walk_at "sl1"))
local macro_rules | `(tactic| walk_at "sl") => `(tactic| first | with_reducible walk_at "sl0" | walk_at "sl1")
local macro_rules | `(tactic| walk_at "lt0") => `(tactic| first | assumption | (apply LotV.up; assumption; walk_at "lt0") | (apply LotV.S; assumption; walk_at "lt0") | (apply LotV.N; assumption; walk_at "lt0") | (apply LotV.M; assumption; walk_at "lt0"))
local macro_rules | `(tactic| walk_at "lt1") => `(tactic| first | assumption | (apply LotV.up; assumption; walk_at "lt1") | (apply LotV.S; assumption; walk_at "lt1") | (apply LotV.N; assumption; walk_at "lt1") | (apply LotV.M; assumption; walk_at "lt1"))
local macro_rules | `(tactic| walk_at "lt") => `(tactic| first | with_reducible walk_at "lt0" | walk_at "lt1")
local macro_rules | `(tactic| walk_at "ct0") => `(tactic| first | assumption | (apply CtA.up; assumption; walk_at "ct0") | (apply CtA.S; assumption; walk_at "ct0") | (apply CtA.N; assumption; walk_at "ct0") | (apply CtA.M; assumption; walk_at "ct0"))
local macro_rules | `(tactic| walk_at "ct1") => `(tactic| first | assumption | (apply CtA.up; assumption; walk_at "ct1") | (apply CtA.S; assumption; walk_at "ct1") | (apply CtA.N; assumption; walk_at "ct1") | (apply CtA.M; assumption; walk_at "ct1"))
local macro_rules | `(tactic| walk_at "ct") => `(tactic| first | with_reducible walk_at "ct0" | walk_at "ct1")
local macro_rules | `(tactic| walk_at "ho0") => `(tactic| first | assumption | (apply HoA.up; assumption; walk_at "ho0") | (apply HoA.S; assumption; walk_at "ho0") | (apply HoA.N; assumption; walk_at "ho0"))
local macro_rules | `(tactic| walk_at "ho1") => `(tactic| first | assumption | (apply HoA.up; assumption; walk_at "ho1") | (apply HoA.S; assumption; walk_at "ho1") | (apply HoA.N; assumption; walk_at "ho1"))
local macro_rules | `(tactic| walk_at "ho") => `(tactic| first | with_reducible walk_at "ho0" | walk_at "ho1")
local macro_rules | `(tactic| walk_at "sm0") => `(tactic| first | assumption | exact Same.refl _ | (refine same_up ?_ (by assumption); walk_at "sm0") | (refine Same.trans ?_ (by assumption); walk_at "sm0") | exact same_new (by assumption) _)
local macro_rules | `(tactic| walk_at "sm1") => `(tactic| first | assumption | exact Same.refl _ | (refine same_up ?_ (by assumption); walk_at "sm1") | (refine Same.trans ?_ (by assumption); walk_at "sm1") | exact same_new (by assumption) _)
local macro_rules | `(tactic| walk_at "sm") => `(tactic| first | with_reducible walk_at "sm0" | walk_at "sm1")
local macro_rules | `(tactic| walk_at "pre") => `(tactic| first | assumption | omega | decide)
section
variable {P : Program} {w : World} {K : PySem.W.Frag} {mg : Str → Option Value} {base : Heap}
theorem vals_rev : ∀ {zs : List V} {ws : List Value}, Vals zs ws → Vals zs.reverse ws.reverse
  | _, _, .nil => .nil
  | _, _, .cons a b => by
    rw [List.reverse_cons, List.reverse_cons]
    exact (vals_rev b).append (.cons a .nil)
/-- a def by its name, called by keywords that stand the other way round -/
structure FnKw (P : Program) (w : World) (K : PySem.W.Frag) (mg : Str → Option Value) (base : Heap) (k : Nat) (x : Str) (ps ks : List Str) (sp : Sp) : Prop where
  ex : ∃ fd, FnOk P w K mg base L2.CX0 k (He.ga K x) fd ps sp ∧ KwAll K fd ps ks (fun {_} l => l.reverse)
  gl : mg x = some (.ref (He.ga K x))
  kp : PySem.W.keepIn K (.ref (He.ga K x)) = true
theorem kw_of {x qual : Str} {ar : Arguments} {bd : List Stmt} {sc : Scope} {f : Addr} {fd : FuncData} {ps ks : List Str} (F : FunD K x qual ar bd sc [] [] f fd)
    (h : ∀ (kV doc pm : Value) (an : Option Addr) (cdv ct : Value) (ws : List Value), ws.length = ks.length → bindArgs (PySem.W.fnOf x qual ar bd sc .none kV doc pm an cdv ct) ⟨[], ks.zip ws⟩ = pure (ps.zip ws.reverse)) : KwAll K fd ps ks (fun {_} l => l.reverse) := by
  obtain ⟨oc, od, dV, kV, doc, pm, an, cdv, ct, osl, rfl, lk, hcd, hD, hK⟩ := F.ex
  refine ⟨fun s ws _ hl => ?_, fun r => vals_rev r⟩
  rcases hD with ⟨_, rfl⟩ | ⟨e, _⟩
  · exact .of_eq (h kV doc pm an cdv ct ws hl)
  · exact absurd rfl e
theorem fnkw_mk {k : Nat} {sp : Sp} (Fx : Facts K mg) (i : Nat) {x : Str} {st : Stmt} {N ps ks : List Str} (hi : fnAll[i]? = some ⟨(x, none), x, x, defArgs st, defBody st, defScope st, [], []⟩) (S : FnScope N ps (defScope st))
    (hb : ∀ (kV doc pm : Value) (an : Option Addr) (cdv ct : Value) (ws : List Value), ws.length = ks.length → bindArgs (PySem.W.fnOf x x (defArgs st) (defBody st) (defScope st) .none kV doc pm an cdv ct) ⟨[], ks.zip ws⟩ = pure (ps.zip ws.reverse))
    (len : ∀ vs H Q E, sp vs H Q E → vs.length = ps.length)
    (body : ∀ (f : Addr) (cdv : Value) (A : Around) (outer : List Env) (s : Shared) (H : Hp) (vs : List V) (Q : VK) (E : XK), Room k (A.deeper (envOfC x (defScope st) s.heap.objs.size f cdv)) → sp vs H Q E →
      ∃ t, PSs (cxOf L2.CX0 P w K mg base N x (defScope st) f cdv A outer s H E).nox (defBody st) t ∧ t { nx := fun _ H' => Q .non H', rt := Q } (L2.start N vs) H) : FnKw P w K mg base (k + 1) x ps ks sp := by
  obtain ⟨fd, F⟩ := Fx.def_ i hi
  refine ⟨⟨fd, F.ok S len fun cdv A outer s H vs Q E hr h => ?_, kw_of F hb⟩, Fx.gl i _ hi, F.kp⟩
  obtain ⟨t, h1, h2⟩ := body _ cdv A outer s H vs Q E hr h
  exact ⟨t, h1.nox, h2⟩
section
variable {X : Cx} {k j : Nat} {sp : Sp} {x : Str} {ps ks : List Str} {p pos : Pos} {kws : List Keyword} {tk : TA}
theorem pe_kw (F : FnKw X.prog X.w X.K X.mg X.base k x ps ks sp) (hr : Room j X.A) (hkw : PK X kws tk) (hk : k ≤ j := by decide) (hg : Gl X x := by rfl)
    (hall : (backToKw pos (keywordEach kws X.env)).all (·.1.isSome) = true := by rfl) (hks : (backToKw pos (keywordEach kws X.env)).filterMap (·.1) = ks := by rfl) (hdb : (x == ("__debug__" : Str)) = false := by decide)
    (hpl : ((backTo pos (starEach [] X.env)).any (·.1) || (backToKw pos (keywordEach kws X.env)).any (·.1.isNone)) = false := by rfl) :
    PE X (.Call (.Name x p) [] kws pos) (fun σ H Q => tk σ H fun zs H1 => zs.length = ks.length ∧ sp zs.reverse H1 Q L2.E0) := by
  obtain ⟨fd, G, hb⟩ := F.ex
  exact pe_callKw G (hr.mono hk) hg F.gl F.kp hb hkw hall hks hdb hpl
end
theorem ok_of_harm_numbered_kw (Fx : Facts K mg) (TB : Tb K mg base) : FnKw P w K mg base 9 "of_harm_numbered" ["link", "many", "number"] ["number", "many", "link"] (sp_ofnum K) := by
  have F_check_harm := ok_check_harm (P := P) (w := w) (base := base) Fx
  have F_check_number := ok_check_number (P := P) (w := w) (base := base) Fx
  have F_check_sound := ok_check_sound (P := P) (w := w) (base := base) Fx
  have F_counted := ok_counted (P := P) (w := w) (base := base) Fx
  have F_harm_numbered_in := ok_harm_numbered_in (P := P) (w := w) (base := base) Fx TB
  obtain ⟨fdL, FL⟩ := Fx.def_ 17 (st := s_least_with) rfl
  refine fnkw_mk Fx 51 (st := s_of_harm_numbered) rfl sc_of_harm_numbered (fun _ _ _ _ _ _ us hl => match us, hl with | [_, _, _], _ => rfl) (fun vs H Q E h => ?_) (fun f cdv A outer s H vs Q E hr h => ?_)
  · obtain ⟨a, L, h, k, rfl, _⟩ := h
    rfl
  obtain ⟨a, L, h, k, rfl, ⟨hl, hT, hL, h4, k0⟩, q⟩ := h
  refine ⟨_, (pss_cons (ps_expr (pe_fn F_check_harm hr (pa_cons (pv 0) (pa_cons (pv 1) pa_nil)))) (pss_cons (ps_expr (pe_fn F_check_number hr (pa_cons (pv 2) (pa_cons pe_int (pa_cons pe_non pa_nil))))) (pss_cons (ps_expr (pe_fn F_check_sound hr (pa_cons (pv 0) pa_nil))) (pss_one (ps_ret (pe_ifExp (pt_cmpR op_lt (pv 2) (pe_fn F_counted hr (pa_cons (pv 0) (pa_cons (pv 1) pa_nil))) (nomark _)) (pe_fn F_harm_numbered_in hr (pa_cons (pv 0) (pa_cons (pv 1) (pa_cons (pv 2) pa_nil)))) pe_non)))))), ?_⟩
  refine ⟨_, rfl, _, rfl, _, _, _, rfl, ⟨(by walk_at "sq"), hL, h4⟩, fun H1 e1 => ?_⟩
  refine ⟨_, rfl, _, _, _, rfl, ⟨k0, .no _⟩, _, rfl, _, _, rfl, ⟨(by walk_at "sq"), hL⟩, fun H2 e2 => ?_⟩
  refine ⟨_, rfl, _, rfl, _, rfl, _, _, _, rfl, ⟨(by walk_at "sq"), hL⟩, fun H3 e3 => ?_⟩
  refine ⟨_, _, rfl, rfl, _, rfl, ?_⟩
  refine ite2 (fun c1 => ?_) (fun c1 => ?_)
  · replace c1 := dT c1
    refine ⟨_, rfl, _, rfl, _, rfl, _, _, _, _, rfl, ⟨(by walk_at "sq"), (by walk_at "tb"), hL, h4, k0, c1⟩, fun y p4 H4 e4 T4 y1 y2 y3 ct4 => ?_⟩
    exact q _ _ (by walk_at "en") (by walk_at "tb") (.at_ y1 y2 y3 (by walk_at "ct"))
  · replace c1 := dF c1
    exact q _ _ (by walk_at "en") (by walk_at "tb") (.no (Int.not_lt.mp c1))
theorem ok_number_of_its_harm_kw (Fx : Facts K mg) : FnKw P w K mg base 7 "number_of_its_harm" ["link", "contents"] ["contents", "link"] (sp_numin K) := by
  have F_check_contents := ok_check_contents (P := P) (w := w) (base := base) Fx
  have F_check_sound := ok_check_sound (P := P) (w := w) (base := base) Fx
  have F_number_of_harm_in := ok_number_of_harm_in (P := P) (w := w) (base := base) Fx
  refine fnkw_mk Fx 52 (st := s_number_of_its_harm) rfl sc_number_of_its_harm (fun _ _ _ _ _ _ us hl => match us, hl with | [_, _], _ => rfl) (fun vs H Q E h => ?_) (fun f cdv A outer s H vs Q E hr h => ?_)
  · obtain ⟨a, c, L, x, rfl, _⟩ := h
    rfl
  obtain ⟨a, c, L, x, rfl, ⟨hl, hc, hL, hX⟩, q⟩ := h
  refine ⟨_, (pss_cons (ps_expr (pe_fn F_check_contents hr (pa_cons (pv 0) (pa_cons (pv 1) pa_nil)))) (pss_cons (ps_expr (pe_fn F_check_sound hr (pa_cons (pv 0) pa_nil))) (pss_one (ps_ret (pe_fn F_number_of_harm_in hr (pa_cons (pv 0) (pa_cons (pv 1) pa_nil))))))), ?_⟩
  refine ⟨_, rfl, _, rfl, _, _, _, _, rfl, ⟨(by walk_at "sq"), (by walk_at "ct"), hL, hX⟩, fun H1 e1 => ?_⟩
  refine ⟨_, rfl, _, _, rfl, ⟨(by walk_at "sq"), hL⟩, fun H2 e2 => ?_⟩
  refine ⟨_, rfl, _, rfl, _, _, _, _, rfl, ⟨(by walk_at "sq"), (by walk_at "ct"), hL, hX⟩, fun H3 e3 => ?_⟩
  exact q _ (by walk_at "sm")
theorem ok_next_of_harm_kw (Fx : Facts K mg) (TB : Tb K mg base) : FnKw P w K mg base 9 "next_of_harm" ["link", "contents"] ["contents", "link"] (sp_next K) := by
  have F_check_contents := ok_check_contents (P := P) (w := w) (base := base) Fx
  have F_check_sound := ok_check_sound (P := P) (w := w) (base := base) Fx
  have F_number_of_harm_in := ok_number_of_harm_in (P := P) (w := w) (base := base) Fx
  have F_harm_in := ok_harm_in (P := P) (w := w) (base := base) Fx
  have F_counted := ok_counted (P := P) (w := w) (base := base) Fx
  have F_harm_numbered_in := ok_harm_numbered_in (P := P) (w := w) (base := base) Fx TB
  obtain ⟨fdL, FL⟩ := Fx.def_ 17 (st := s_least_with) rfl
  refine fnkw_mk Fx 53 (st := s_next_of_harm) rfl sc_next_of_harm (fun _ _ _ _ _ _ us hl => match us, hl with | [_, _], _ => rfl) (fun vs H Q E h => ?_) (fun f cdv A outer s H vs Q E hr h => ?_)
  · obtain ⟨a, c, L, x, rfl, _⟩ := h
    rfl
  obtain ⟨a, c, L, x, rfl, ⟨hl, hc, hL, hX, hT⟩, q⟩ := h
  have h4 := HM.harm_range (L := L) x
  have k0 : 0 ≤ HM.numIn L (x.harm L) x + 1 := by have := (HM.num_in hL hX h4).1; omega
  refine ⟨_, (pss_cons (ps_expr (pe_fn F_check_contents hr (pa_cons (pv 0) (pa_cons (pv 1) pa_nil)))) (pss_cons (ps_expr (pe_fn F_check_sound hr (pa_cons (pv 0) pa_nil))) (pss_cons (ps_par (i := 2) (j := 3) rfl sc_next_of_harm.nd rfl rfl (by decide) rfl rfl (pa_cons (pe_op op_add (pe_fn F_number_of_harm_in hr (pa_cons (pv 0) (pa_cons (pv 1) pa_nil))) pe_int) (pa_cons (pe_fn F_harm_in hr (pa_cons (pv 0) (pa_cons (pv 1) pa_nil))) pa_nil)) (by rfl)) (pss_one (ps_ret (pe_ifExp (pt_cmpR op_lt (pv 2) (pe_fn F_counted hr (pa_cons (pv 0) (pa_cons (pv 3) pa_nil))) (nomark _)) (pe_fn F_harm_numbered_in hr (pa_cons (pv 0) (pa_cons (pv 3) (pa_cons (pv 2) pa_nil)))) pe_non)))))), ?_⟩
  refine ⟨_, rfl, _, rfl, _, _, _, _, rfl, ⟨(by walk_at "sq"), (by walk_at "ct"), hL, hX⟩, fun H1 e1 => ?_⟩
  refine ⟨_, rfl, _, _, rfl, ⟨(by walk_at "sq"), hL⟩, fun H2 e2 => ?_⟩
  refine ⟨_, rfl, _, rfl, _, _, _, _, rfl, ⟨(by walk_at "sq"), (by walk_at "ct"), hL, hX⟩, fun H3 e3 => ?_⟩
  refine ⟨_, _, rfl, rfl, _, rfl, _, rfl, _, _, _, _, rfl, ⟨(by walk_at "sq"), (by walk_at "ct"), hX⟩, fun H4 e4 => ?_⟩
  refine ⟨_, _, rfl, _, rfl, _, rfl, _, rfl, _, _, _, rfl, ⟨(by walk_at "sq"), hL⟩, fun H5 e5 => ?_⟩
  refine ⟨_, _, rfl, rfl, _, rfl, ?_⟩
  refine ite2 (fun c1 => ?_) (fun c1 => ?_)
  · replace c1 := dT c1
    refine ⟨_, rfl, _, rfl, _, rfl, _, _, _, _, rfl, ⟨(by walk_at "sq"), (by walk_at "tb"), hL, h4, k0, c1⟩, fun y p6 H6 e6 T6 y1 y2 y3 ct6 => ?_⟩
    exact q _ _ (by walk_at "en") (by walk_at "tb") (.at_ y1 y2 y3 (by walk_at "ct"))
  · replace c1 := dF c1
    exact q _ _ (by walk_at "en") (by walk_at "tb") (.no (Int.not_lt.mp c1))
end
end HW
/-! part W18 -/
namespace HW
open PySem PySem.Spec PyProof.Rows L2 NdefX LamX
open HM (Lk Ct Lot)
local macro_rules | `(tactic| walk_at "ga") => `(tactic| first | with_reducible assumption | (with_reducible apply GenA.up; assumption; walk_at "ga") | (with_reducible apply GenA.S; assumption; walk_at "ga") | (with_reducible apply GenA.N; assumption; walk_at "ga"))
local macro_rules | `(tactic| walk_at "mg") => `(tactic| first | with_reducible assumption | (with_reducible apply Mg.refl; assumption) | (with_reducible apply Mg.up; assumption; walk_at "mg") | (with_reducible apply Mg.S; assumption; walk_at "mg") | (with_reducible apply mg_T; assumption; walk_at "mg"))
local macro_rules | `(tactic| walk_at "in") => `(tactic| first | assumption | (constructor <;> omega))
local macro_rules | `(tactic| walk_at "en") => `(tactic| first | with_reducible assumption | exact ExtN.refl _ | (with_reducible apply extN_up2; assumption; walk_at "en") | (with_reducible apply extN_S2; assumption; walk_at "en") | (with_reducible apply extN_N2; assumption; walk_at "en"))
local macro_rules | `(tactic| walk_at "tb") => `(tactic| first | with_reducible assumption | (with_reducible apply Tabs.up2; assumption; walk_at "tb") | (with_reducible apply Tabs.S2; assumption; walk_at "tb") | (with_reducible apply Tabs.M; assumption; walk_at "tb"))
local macro_rules | `(tactic| walk_at "nf") => `(tactic| dsimp only [L2.cxOf, L2.Cx.nox, NdefX.startF, NdefX.slotAt, L2.start, List.set, List.getElem?_cons_zero, List.getElem?_cons_succ, Option.join, Option.bind, List.length, List.replicate, List.map, HAppend.hAppend, Append.append, List.append, Nat.reduceAdd, Nat.reduceSub, Nat.zero_add])
local macro_rules | `(tactic| walk_at "nm") => `(tactic| dsimp only [L2.cxOf, L2.Cx.nox, L2.start, List.set, List.length, List.replicate, List.map, HAppend.hAppend, Append.append, List.append, Nat.reduceAdd, Nat.reduceSub, Nat.zero_add])
local macro_rules | `(tactic| walk_at "sq0") => `(tactic| first | assumption | exact SqT.of upd_same | (apply sqT_up; assumption; walk_at "sq0") | (apply sqT_S; assumption; walk_at "sq0") | (apply sqT_N; assumption; walk_at "sq0") | (apply sqT_M; assumption; walk_at "sq0"))
local macro_rules | `(tactic| walk_at "sq1") => `(tactic| first | assumption | exact SqT.of upd_same | (apply sqT_up; assumption; walk_at "sq1") | (apply sqT_S; assumption; walk_at "sq1") | (apply sqT_N; assumption; walk_at "sq1") | (apply sqT_M; assumption; walk_at "sq1"))
local macro_rules | `(tactic| walk_at "sq") => `(tactic| first | with_reducible walk_at "sq0" | walk_at "sq1")
local macro_rules | `(tactic| walk_at "sl0") => `(tactic| first | assumption | exact SqL.of upd_same | exact SqL.of (by assumption) | (apply sqL_up; assumption; walk_at "sl0") | (apply sqL_S; assumption; walk_at "sl0") | (apply sqL_N; assumption; walk_at "sl0") | (apply sqL_M; assumption; assumption; walk_at "sl0"))
local macro_rules | `(tactic| walk_at "sl1") => `(tactic| first | assumption | exact SqL.of upd_same | exact SqL.of (by assumption) | (apply sqL_up; assumption; walk_at "sl1") | (apply sqL_S; assumption; walk_at "sl1") | (apply sqL_N; assumption; walk_at "sl1") | (apply sqL_M; assumption; assumption; walk_at "sl1"))
local macro_rules | `(tactic| walk_at "sl") => `(tactic| first | with_reducible walk_at "sl0" | walk_at "sl1")
local macro_rules | `(tactic| walk_at "lt0") => `(tactic| first | assumption | (apply LotV.up; assumption; walk_at "lt0") | (apply LotV.S; assumption; walk_at "lt0") | (apply LotV.N; assumption; walk_at "lt0") | (apply LotV.M; assumption; walk_at "lt0"))
local macro_rules | `(tactic| walk_at "lt1") => `(tactic| first | assumption | (apply LotV.up; assumption; walk_at "lt1") | (apply LotV.S; assumption; walk_at "lt1") | (apply LotV.N; assumption; walk_at "lt1") | (apply LotV.M; assumption; walk_at "lt1"))
local macro_rules | `(tactic| walk_at "lt") => `(tactic| first | with_reducible walk_at "lt0" | walk_at "lt1")
local macro_rules | `(tactic| walk_at "ct0") => `(tactic| first | assumption | (apply CtA.up; assumption; walk_at "ct0") | (apply CtA.S; assumption; walk_at "ct0") | (apply CtA.N; assumption; walk_at "ct0") | (apply CtA.M; assumption; walk_at "ct0"))
local macro_rules | `(tactic| walk_at "ct1") => `(tactic| first | assumption | (apply CtA.up; assumption; walk_at "ct1") | (apply CtA.S; assumption; walk_at "ct1") | (apply CtA.N; assumption; walk_at "ct1") | (apply CtA.M; assumption; walk_at "ct1"))
local macro_rules | `(tactic| walk_at "ct") => `(tactic| first | with_reducible walk_at "ct0" | walk_at "ct1")
local macro_rules | `(tactic| walk_at "ho0") => `(tactic| first | assumption | (apply HoA.up; assumption; walk_at "ho0") | (apply HoA.S; assumption; walk_at "ho0") | (apply HoA.N; assumption; walk_at "ho0"))
local macro_rules | `(tactic| walk_at "ho1") => `(tactic| first | assumption | (apply HoA.up; assumption; walk_at "ho1") | (apply HoA.S; assumption; walk_at "ho1") | (apply HoA.N; assumption; walk_at "ho1"))
local macro_rules | `(tactic| walk_at "ho") => `(tactic| first | with_reducible walk_at "ho0" | walk_at "ho1")
local macro_rules | `(tactic| walk_at "sm0") => `(tactic| first | assumption | exact Same.refl _ | (refine same_up ?_ (by assumption); walk_at "sm0") | (refine Same.trans ?_ (by assumption); walk_at "sm0") | exact same_new (by assumption) _)
local macro_rules | `(tactic| walk_at "sm1") => `(tactic| first | assumption | exact Same.refl _ | (refine same_up ?_ (by assumption); walk_at "sm1") | (refine Same.trans ?_ (by assumption); walk_at "sm1") | exact same_new (by assumption) _)
local macro_rules | `(tactic| walk_at "sm") => `(tactic| first | with_reducible walk_at "sm0" | walk_at "sm1")
local macro_rules | `(tactic| walk_at "pre") => `(tactic| first | assumption | omega | decide)
section
variable {P : Program} {w : World} {K : PySem.W.Frag} {mg : Str → Option Value} {base : Heap}
/-- H' is H but for the list at g and the code tables -/
def MuN (g : Addr) (H H' : Hp) : Prop := ∀ b o, b ≠ g → H b = some o → (∀ ps, o ≠ .tbl ps) → H' b = some o
theorem MuN.refl (g : Addr) (H : Hp) : MuN g H H := fun _ _ _ e _ => e
theorem MuN.S {g : Addr} {H H1 H2 : Hp} (b : Same H1 H2) (a : MuN g H H1) : MuN g H H2 := fun c o n e t => b c o (a c o n e t)
theorem MuN.N {g : Addr} {H H1 H2 : Hp} (b : ExtN H1 H2) (a : MuN g H H1) : MuN g H H2 := fun c o n e t => b c o (a c o n e t) t
theorem MuN.M {g : Addr} {H H1 H2 : Hp} (b : Mg g H1 H2) (a : MuN g H H1) : MuN g H H2 := fun c o n e t => b.to c o n (a c o n e t)
theorem MuN.up {g p : Addr} {o : HO} {H H1 : Hp} (np : H1 p = none) (a : MuN g H H1) : MuN g H (upd H1 p o) := MuN.S (same_new np o) a
local macro_rules | `(tactic| walk_at "mu") => `(tactic| first | with_reducible assumption | exact MuN.refl _ _ | (with_reducible apply MuN.up; assumption; walk_at "mu") | (with_reducible apply MuN.S; assumption; walk_at "mu") | (with_reducible apply MuN.N; assumption; walk_at "mu") | (with_reducible apply MuN.M; assumption; walk_at "mu"))
theorem NumV.get {L : Lk} {h k : Int} {v : V} {H : Hp} (n : NumV K H L h k v) (lt : k < HM.counted L h) : ∃ p x, v = .ref p ∧ x.Ok L ∧ x.harm L = h ∧ HM.numIn L h x = k ∧ CtA K H L p x := by
  cases n with
  | no c => omega
  | at_ X e1 e2 hc => exact ⟨_, _, rfl, X, e1, e2, hc⟩
theorem NumV.dpD {L : Lk} {h k : Int} {v : V} {H : Hp} (hL : L.Ok) (h4 : h = 0 ∨ h = 1 ∨ h = 2 ∨ h = 3) (n : NumV K H L h k v) : ∃ d, Dp K H v d ∧ Sho d ∧ ∀ (H' : Hp) (u : V), NumV K H' L h k u → Dp K H' u d := by
  cases n with
  | no c =>
    refine ⟨.none, .non, none_sho, fun H' u m => ?_⟩
    cases m with
    | no c2 => exact .non
    | at_ X e1 e2 hc => have q := (HM.num_in hL X h4).2; rw [decide_eq_true e1] at q; have : HM.b2 true = 1 := rfl; omega
  | at_ X e1 e2 hc =>
    refine ⟨_, hc.dp, ct_sho hL X, fun H' u m => ?_⟩
    cases m with
    | no c2 => have q := (HM.num_in hL X h4).2; rw [decide_eq_true e1] at q; have : HM.b2 true = 1 := rfl; omega
    | at_ Y f1 f2 hd =>
      obtain rfl := HM.num_inj hL X Y h4 e1 f1 (e2.trans f2.symm)
      exact hd.dp
theorem NumV.isN {L : Lk} {h k : Int} {v : V} {H : Hp} (hL : L.Ok) (h4 : h = 0 ∨ h = 1 ∨ h = 2 ∨ h = 3) (hk : k ≤ HM.counted L h) (n : NumV K H L h k v) : decide (v = .non) = decide (V.int k = V.int (HM.counted L h)) := by
  rw [int_eqv]
  cases n with
  | no c => rw [decide_eq_true rfl, decide_eq_true (by omega)]
  | at_ X e1 e2 hc =>
    have q := (HM.num_in hL X h4).2
    rw [decide_eq_true e1] at q
    have : HM.b2 true = 1 := rfl
    rw [decide_eq_false (by simp), decide_eq_false (by omega)]
theorem NumV.none {L : Lk} {h k : Int} {v : V} {H : Hp} (hL : L.Ok) (h4 : h = 0 ∨ h = 1 ∨ h = 2 ∨ h = 3) (hk : HM.counted L h ≤ k) (n : NumV K H L h k v) : v = .non := by
  cases n with
  | no c => rfl
  | at_ X e1 e2 hc =>
    have q := (HM.num_in hL X h4).2
    rw [decide_eq_true e1] at q
    have : HM.b2 true = 1 := rfl
    omega
theorem ne_strs {s : Str} : ¬ (!decide (V.str s = V.str s)) = true := by rw [decide_eq_true rfl]; decide
theorem ne_ints {a b : Int} (h : a = b) : ¬ (!decide (V.int a = V.int b)) = true := by rw [h, decide_eq_true rfl]; decide
theorem ne_bls {a b : Bool} (h : a = b) : ¬ (!decide (V.bl a = V.bl b)) = true := by rw [h, decide_eq_true rfl]; decide
theorem eq_bls {a b : Bool} (h : a = b) : decide (V.bl a = V.bl b) = true := by rw [h, decide_eq_true rfl]
theorem at_harms {L : Lk} {r : Int} (h : r = 0 ∨ r = 1 ∨ r = 2 ∨ r = 3) : atI (harmsV L 4) r = some (V.int (HM.counted L r)) := by
  rcases h with rfl | rfl | rfl | rfl <;> rfl
theorem ne_D {H : Hp} {g D : Addr} {n : Int} {L : Lk} (hG : GenA H g n) (d : H D = some (.lst (harmsV L 4))) : D ≠ g := fun z => by
  obtain ⟨a, b, c, h1, _⟩ := hG.ex
  rw [z, h1] at d
  have q := congrArg List.length (HO.lst.inj (Option.some.inj d))
  unfold harmsV at q
  simp at q
theorem amt_bd {cs : HM.Code × HM.Code} {o m s w : Int} (ho : HM.Bd 600 o) (hm : HM.Bd 600 m) (hs : HM.Bd 700 s) (hw : HM.Bd 700 w) : HM.Bd 1303 (HM.amt cs o m s w) := by
  unfold HM.amt
  exact ((ho.mul (HM.coded_bd hs hw)).mono (by decide : _ ≤ 1302)).add (((hm.sub ho).mul (HM.coded_bd hs hw)).mono (by decide))
theorem lotsAmt_bd {L : Lk} (hL : L.Ok) {h i s w : Int} {e : Bool} (hi : HM.In i) (hs : HM.Bd 700 s) (hw : HM.Bd 700 w) : HM.Bd 1304 (HM.lotsAmt L h e i s w) :=
  (amt_bd (HM.oldBef_bd hL hi) (HM.lotsMany_bd hL hi) hs hw).add (amt_bd (HM.oldBef_bd hL hi) (HM.lotsMany_bd hL hi) hs hw)
theorem counted_bd {L : Lk} (hL : L.Ok) (h : Int) : HM.Bd 1306 (HM.counted L h) := by
  have hs := (HM.sufBef_bd hL (HM.q_in hL)).mono (by decide : 442 ≤ 700)
  have hw := (HM.heardMany_bd hL (HM.q_in hL)).mono (by decide : 600 ≤ 700)
  have b := (lotsAmt_bd hL (h := h) (e := true) (HM.lotsIn_in hL true) hs hw).add (lotsAmt_bd hL (h := h) (e := false) (HM.lotsIn_in hL false) hs hw)
  have e : HM.counted L h = HM.heardBef L h L.q + HM.heardBef L h L.q := by unfold HM.counted; omega
  rw [e]
  exact HM.Bd.add (a := 1305) b b
def sp_gr (K : PySem.W.Frag) : Sp := fun vs H Q _ => ∃ (g : Addr) (n : Int), vs = [.ref g] ∧ (GenA H g n ∧ n ≤ 2 ^ 40 ∧ Tabs (lamT K) H) ∧ ∀ H', MuN g H H' → Tabs (lamT K) H' → Q (.bl true) H'
theorem sc__law_great_right : FnScope ["_law_generator_here", "_law_link", "_law_here_here", "_law_many", "_law_number", "_law_wanted", "_law_counts", "_law_at", "_law_made", "_law_later", "_law_other", "_law_further"] ["_law_generator_here"] (defScope s__law_great_right) := ⟨rfl, rfl, rfl, by decide +kernel, rfl, by decide +kernel, by decide +kernel⟩
theorem ok__law_great_right (Fx : Facts K mg) (TB : Tb K mg base) : FnR P w K mg base 10 "_law_great_right" ["_law_generator_here"] (sp_gr K) := by
  have F__law_great := ok__law_great (P := P) (w := w) (base := base) Fx
  have F__law_here := ok__law_here (P := P) (w := w) (base := base) Fx
  have F__law_harm := ok__law_harm (P := P) (w := w) (base := base) Fx
  have F_number_of_its_harm := ok_number_of_its_harm (P := P) (w := w) (base := base) Fx
  have F__law_near_right := ok__law_near_right (P := P) (w := w) (base := base) Fx
  have F_next_of_harm := ok_next_of_harm (P := P) (w := w) (base := base) Fx TB
  have F_of_harm_numbered := ok_of_harm_numbered (P := P) (w := w) (base := base) Fx TB
  have F__law_random := ok__law_random (P := P) (w := w) (base := base) Fx
  have F_of_harms := ok_of_harms (P := P) (w := w) (base := base) Fx
  have F_of_harm_numbered_kw := ok_of_harm_numbered_kw (P := P) (w := w) (base := base) Fx TB
  have F_next_of_harm_kw := ok_next_of_harm_kw (P := P) (w := w) (base := base) Fx TB
  have F_number_of_its_harm_kw := ok_number_of_its_harm_kw (P := P) (w := w) (base := base) Fx
  have F__law_key := ok__law_key (P := P) (w := w) (base := base) Fx
  refine fnr_mk Fx 71 (st := s__law_great_right) rfl sc__law_great_right (fun _ _ _ _ _ _ us hl => match us, hl with | [_], _ => rfl) (fun vs H Q E h => ?_) (fun f cdv A outer s H vs Q E hr hg h => ?_)
  · obtain ⟨g, n, rfl, _⟩ := h
    rfl
  obtain ⟨g, n, rfl, ⟨hG, hn, hT⟩, q⟩ := h
  refine ⟨_, (pss_cons (ps_set (i := 1) sc__law_great_right.nd rfl (.inl rfl) (pe_fn F__law_great hr (pa_cons (pv 0) (pa_cons pe_bl pa_nil)))) (pss_cons (ps_set (i := 2) sc__law_great_right.nd rfl (.inl rfl) (pe_fn F__law_here hr (pa_cons (pv 0) (pa_cons (pv 1) pa_nil)))) (pss_cons (ps_set (i := 3) sc__law_great_right.nd rfl (.inl rfl) (pe_fn F__law_harm hr (pa_cons (pv 1) (pa_cons (pv 2) pa_nil)))) (pss_cons (ps_set (i := 4) sc__law_great_right.nd rfl (.inl rfl) (pe_fn F_number_of_its_harm hr (pa_cons (pv 1) (pa_cons (pv 2) pa_nil)))) (pss_cons (ps_if (PW.pt (pw_or (pt_cmpR op_ne (pe_callB (call_reprD hg hr.units) (by rfl) (Fx.bt 10 _ rfl) boot_repr (pa_cons (pe_fn F_of_harm_numbered hr (pa_cons (pv 1) (pa_cons (pv 3) (pa_cons (pv 4) pa_nil)))) pa_nil)) (pe_callB (call_reprD hg hr.units) (by rfl) (Fx.bt 10 _ rfl) boot_repr (pa_cons (pv 2) pa_nil)) (nomark _)) (pw_or1 (pt_not (pt_val (pe_fng F__law_near_right hr hg (pa_cons (pv 1) (pa_cons (pv 2) (pa_cons (pe_fn F_next_of_harm hr (pa_cons (pv 1) (pa_cons (pv 2) pa_nil))) pa_nil))))))))) (pss_one (ps_ret pe_bl)) pss_nil) (pss_cons (ps_set (i := 5) sc__law_great_right.nd rfl (.inl rfl) (pe_fn F__law_random hr (pa_cons (pv 0) (pa_cons pe_int pa_nil)))) (pss_cons (ps_set (i := 6) sc__law_great_right.nd rfl (.inl rfl) (pe_fn F_of_harms hr (pa_cons (pv 1) pa_nil))) (pss_cons (ps_set (i := 7) sc__law_great_right.nd rfl (.inl rfl) (pe_fn F__law_random hr (pa_cons (pv 0) (pa_cons (pe_ix ix_list (pv 6) (pv 5) (fun _ _ => rfl)) pa_nil)))) (pss_cons (ps_set (i := 8) sc__law_great_right.nd rfl (.inl rfl) (pe_kw F_of_harm_numbered_kw hr (pk_cons (pv 7) (pk_cons (pv 5) (pk_cons (pv 1) pk_nil))))) (pss_cons (ps_if (PW.pt (pw_or (pt_cmpR op_ne (pe_fn F__law_harm hr (pa_cons (pv 1) (pa_cons (pv 8) pa_nil))) (pv 5) (nomark _)) (pw_or (pt_cmpR op_ne (pe_kw F_number_of_its_harm_kw hr (pk_cons (pv 8) (pk_cons (pv 1) pk_nil))) (pv 7) (nomark _)) (pw_or1 (pt_not (pt_val (pe_fng F__law_near_right hr hg (pa_cons (pv 1) (pa_cons (pv 8) (pa_cons (pe_kw F_next_of_harm_kw hr (pk_cons (pv 8) (pk_cons (pv 1) pk_nil))) pa_nil)))))))))) (pss_one (ps_ret pe_bl)) pss_nil) (pss_cons (ps_set (i := 9) sc__law_great_right.nd rfl (.inl rfl) (pe_fn F_of_harm_numbered hr (pa_cons (pv 1) (pa_cons (pv 5) (pa_cons (pe_op op_add (pv 7) pe_int) pa_nil))))) (pss_cons (ps_if (PW.pt (pw_or (pt_cmpR op_ne (pe_callB (call_reprD hg hr.units) (by rfl) (Fx.bt 10 _ rfl) boot_repr (pa_cons (pv 9) pa_nil)) (pe_callB (call_reprD hg hr.units) (by rfl) (Fx.bt 10 _ rfl) boot_repr (pa_cons (pe_fn F_next_of_harm hr (pa_cons (pv 1) (pa_cons (pv 8) pa_nil))) pa_nil)) (nomark _)) (pw_or1 (pt_cmpR op_ne (pe_cmpR op_isN (pv 9) pe_non (nomark _)) (pe_cmpR op_eq (pe_op op_add (pv 7) pe_int) (pe_ix ix_list (pv 6) (pv 5) (fun _ _ => rfl)) (nomark _)) (nomark _))))) (pss_one (ps_ret pe_bl)) pss_nil) (pss_cons (ps_set (i := 10) sc__law_great_right.nd rfl (.inl rfl) (pe_fn F__law_random hr (pa_cons (pv 0) (pa_cons (pe_ix ix_list (pv 6) (pv 5) (fun _ _ => rfl)) pa_nil)))) (pss_cons (ps_set (i := 11) sc__law_great_right.nd rfl (.inl rfl) (pe_fn F_of_harm_numbered hr (pa_cons (pv 1) (pa_cons (pv 5) (pa_cons (pv 10) pa_nil))))) (pss_one (ps_ret (pe_and (pe_cmpR op_eq (pe_cmpR op_gt (pv 10) (pv 7) (nomark _)) (pe_cmpR (op_gtD hr.units) (pe_fn F__law_key hr (pa_cons (pv 11) pa_nil)) (pe_fn F__law_key hr (pa_cons (pv 8) pa_nil)) (nomark _)) (nomark _)) (pe_one (pe_cmpR op_isN (pe_fn F_of_harm_numbered hr (pa_cons (pv 1) (pa_cons (pv 5) (pa_cons (pe_op op_add (pe_ix ix_list (pv 6) (pv 5) (fun _ _ => rfl)) (pe_fn F__law_random hr (pa_cons (pv 0) (pa_cons (pe_op op_pow pe_int pe_int) pa_nil)))) pa_nil)))) pe_non (nomark _)))))))))))))))))))), ?_⟩
  refine ⟨_, rfl, _, _, rfl, ⟨hG, by omega⟩, fun L p1 H1 m1 a1 hL hl => ?_⟩
  refine ⟨_, rfl, _, rfl, _, _, _, _, rfl, ⟨a1, by omega, hl, hL⟩, fun x p2 H2 m2 a2 hX hc => ?_⟩
  have h4 := HM.harm_range (L := L) x
  refine ⟨_, rfl, _, rfl, _, _, _, _, rfl, ⟨(by walk_at "sq"), hc, hX⟩, fun H3 e3 => ?_⟩
  refine ⟨_, rfl, _, rfl, _, _, _, _, rfl, ⟨(by walk_at "sq"), (by walk_at "ct"), hL, hX⟩, fun H4 e4 => ?_⟩
  walk_at "nm"
  have a4 : GenA H4 g _ := (by walk_at "ga")
  have hl4 : LkA K H4 p1 L := (by walk_at "sq")
  have hc4 : CtA K H4 L p2 x := (by walk_at "ct")
  refine ⟨_, rfl, _, rfl, _, rfl, _, _, _, _, rfl, ⟨hl4, (by walk_at "tb"), hL, h4, (HM.num_in hL hX h4).1⟩, fun v5 H5 e5 T5 n5 => ?_⟩
  have n5x : NumV K H4 L (x.harm L) (HM.numIn L (x.harm L) x) (.ref p2) := .at_ hX rfl rfl hc4
  obtain ⟨d5, dp5, ds5, dd5⟩ := n5.dpD hL h4
  refine ⟨_, _, rfl, dp5, ds5.h, _, rfl, _, _, rfl, dd5 _ _ (n5x.N e5), ds5.h, rfl, _, rfl, ?_⟩
  refine ite2 (fun c => absurd c ne_strs) (fun c => ?_)
  have hl5 : LkA K H5 p1 L := (by walk_at "sq")
  have hc5 : CtA K H5 L p2 x := (by walk_at "ct")
  refine ⟨_, rfl, _, rfl, _, rfl, _, rfl, _, _, _, _, rfl, ⟨hl5, hc5, hL, hX, T5⟩, fun v6 H6 e6 T6 n6 => ?_⟩
  refine ⟨_, _, _, _, _, rfl, ⟨(by walk_at "sq"), (by walk_at "ct"), hL, hX, n6⟩, fun H7 e7 => ?_⟩
  refine ⟨_, rfl, ?_⟩
  refine iteF ?_
  have T7 : Tabs (lamT K) H7 := (by walk_at "tb")
  have a7 : GenA H7 g _ := (by walk_at "ga")
  have hl7 : LkA K H7 p1 L := (by walk_at "sq")
  have u7 : MuN g H H7 := (by walk_at "mu")
  refine ⟨_, rfl, _, _, _, rfl, ⟨a7, by omega, by decide, bd_of (by decide) (by decide)⟩, fun r8 H8 b8 t8 m8 a8 => ?_⟩
  have h4r : r8 = 0 ∨ r8 = 1 ∨ r8 = 2 ∨ r8 = 3 := by omega
  have cp := HM.counted_pos hL h4r
  have cb := (counted_bd hL r8).mono (by decide : 1306 ≤ 2000)
  refine ⟨_, rfl, _, _, rfl, ⟨(by walk_at "sq"), hL⟩, fun D9 H9 e9 d9 => ?_⟩
  have a9 : GenA H9 g _ := (by walk_at "ga")
  have nD := ne_D a9 d9
  walk_at "nm"
  refine ⟨_, rfl, _, rfl, _, rfl, _, _, _, _, rfl, rfl, SqL.of d9, at_harms h4r, _, _, _, rfl, ⟨a9, by omega, by omega, cb⟩, fun r10 H10 b10 t10 m10 a10 => ?_⟩
  have d10 := m10.to _ _ nD d9
  have hl10 : LkA K H10 p1 L := (by walk_at "sq")
  walk_at "nm"
  refine ⟨_, rfl, _, rfl, _, rfl, rfl, _, _, _, _, rfl, ⟨hl10, (by walk_at "tb"), hL, h4r, b10⟩, fun v11 H11 e11 T11 n11 => ?_⟩
  obtain ⟨p11, y, rfl, Y, fy, ky, hy⟩ := n11.get t10
  have a11 : GenA H11 g _ := (by walk_at "ga")
  have hl11 : LkA K H11 p1 L := (by walk_at "sq")
  have d11 := e11 _ _ d10 (fun ps z => by cases z)
  walk_at "nm"
  refine ⟨_, rfl, _, rfl, _, _, _, _, rfl, ⟨hl11, hy, Y⟩, fun H12 e12 => ?_⟩
  refine ⟨_, rfl, rfl, _, rfl, ?_⟩
  refine ite2 (fun c => absurd c (ne_ints fy)) (fun c => ?_)
  refine ⟨_, rfl, _, rfl, rfl, _, _, _, _, rfl, ⟨(by walk_at "sq"), (by walk_at "ct"), hL, Y⟩, fun H13 e13 => ?_⟩
  refine ⟨_, rfl, rfl, _, rfl, ?_⟩
  refine ite2 (fun c => absurd c (ne_ints (by rw [fy]; exact ky))) (fun c => ?_)
  have hl13 : LkA K H13 p1 L := (by walk_at "sq")
  have hy13 : CtA K H13 L p11 y := (by walk_at "ct")
  refine ⟨_, rfl, _, rfl, _, rfl, _, rfl, rfl, _, _, _, _, rfl, ⟨hl13, hy13, hL, Y, (by walk_at "tb")⟩, fun v14 H14 e14 T14 n14 => ?_⟩
  refine ⟨_, _, _, _, _, rfl, ⟨(by walk_at "sq"), (by walk_at "ct"), hL, Y, n14⟩, fun H15 e15 => ?_⟩
  refine ⟨_, rfl, ?_⟩
  refine iteF ?_
  have a15 : GenA H15 g _ := (by walk_at "ga")
  have hl15 : LkA K H15 p1 L := (by walk_at "sq")
  have hy15 : CtA K H15 L p11 y := (by walk_at "ct")
  have T15 : Tabs (lamT K) H15 := (by walk_at "tb")
  have d13 := e13 _ _ (e12 _ _ d11)
  have d15 := e15 _ _ (e14 _ _ d13 (fun ps z => by cases z))
  have u15 : MuN g H H15 := (by walk_at "mu")
  refine ⟨_, rfl, _, rfl, _, rfl, _, _, rfl, rfl, _, _, _, _, rfl, ⟨hl15, T15, hL, h4r, by omega⟩, fun v16 H16 e16 T16 n16 => ?_⟩
  obtain ⟨d, dp, ds, dd⟩ := n16.dpD hL h4r
  walk_at "nm"
  refine ⟨_, rfl, _, _, rfl, dp, ds.h, _, rfl, _, rfl, _, _, _, _, rfl, ⟨(by walk_at "sq"), (by walk_at "ct"), hL, Y, T16⟩, fun v17 H17 e17 T17 n17 => ?_⟩
  rw [fy, ky] at n17
  refine ⟨_, _, rfl, dd _ _ n17, ds.h, rfl, _, rfl, ?_⟩
  refine ite2 (fun c => absurd c ne_strs) (fun c => ?_)
  have d17 := e17 _ _ (e16 _ _ d15 (fun ps z => by cases z)) (fun ps z => by cases z)
  have a17 : GenA H17 g _ := (by walk_at "ga")
  have hl17 : LkA K H17 p1 L := (by walk_at "sq")
  have hy17 : CtA K H17 L p11 y := (by walk_at "ct")
  have u17 : MuN g H H17 := (by walk_at "mu")
  refine ⟨_, rfl, rfl, _, rfl, _, _, rfl, rfl, _, rfl, _, rfl, _, _, _, _, rfl, rfl, SqL.of d17, at_harms h4r, rfl, rfl, _, rfl, ?_⟩
  refine ite2 (fun c => absurd c (ne_bls (n16.isN hL h4r (by omega)))) (fun c => ?_)
  refine ⟨_, rfl, _, rfl, _, rfl, _, _, _, _, rfl, rfl, SqL.of d17, at_harms h4r, _, _, _, rfl, ⟨a17, by omega, by omega, cb⟩, fun r18 H18 b18 t18 m18 a18 => ?_⟩
  have d18 := m18.to _ _ nD d17
  have hl18 : LkA K H18 p1 L := (by walk_at "sq")
  have hy18 : CtA K H18 L p11 y := (by walk_at "ct")
  walk_at "nm"
  refine ⟨_, rfl, _, rfl, _, rfl, _, _, _, _, rfl, ⟨hl18, (by walk_at "tb"), hL, h4r, b18⟩, fun v19 H19 e19 T19 n19 => ?_⟩
  obtain ⟨p19, z, rfl, Z, fz, kz, hz⟩ := n19.get t18
  walk_at "nm"
  refine ⟨_, rfl, _, rfl, _, _, rfl, rfl, _, rfl, _, _, _, rfl, hz, fun p20 H20 e20 d20 => ?_⟩
  refine ⟨_, rfl, _, _, _, rfl, ((by walk_at "ct") : CtA K H20 L p11 y), fun p21 H21 e21 d21 => ?_⟩
  refine ⟨_, _, dpS d20 e21, d21, ⟨key_alike L _ _, key_none L _, key_depth L _⟩, rfl, _, rfl, ?_⟩
  have ek : decide (r10 < r18) = PySem.W.dataLt (keyD L y) (keyD L z) := by
    rw [key_lt Y Z]
    have o := HM.num_ord hL Y Z h4r fy fz
    rw [ky, kz] at o
    cases hb : HM.lexB y.digits z.digits with
    | true => exact decide_eq_true (o.mp hb)
    | false => exact decide_eq_false fun w => by rw [o.mpr w] at hb; cases hb
  refine ite2 (fun c => ?_) (fun c => absurd (eq_bls ek) c)
  have d21' := e21 _ _ (e20 _ _ (e19 _ _ d18 (fun ps z => by cases z)))
  have a21 : GenA H21 g _ := (by walk_at "ga")
  have hl21 : LkA K H21 p1 L := (by walk_at "sq")
  have T21 : Tabs (lamT K) H21 := (by walk_at "tb")
  have u21 : MuN g H H21 := (by walk_at "mu")
  refine ⟨_, rfl, _, rfl, _, rfl, _, rfl, _, _, _, _, rfl, rfl, SqL.of d21', at_harms h4r, _, rfl, _, _, rfl, rfl, ⟨by decide, by decide, by decide⟩, _, _, _, rfl, ⟨a21, by omega, by decide, bd_of (by decide) (by decide)⟩, fun r22 H22 b22 t22 m22 a22 => ?_⟩
  refine ⟨_, _, rfl, rfl, _, _, _, _, rfl, ⟨(by walk_at "sq"), (by walk_at "tb"), hL, h4r, by omega⟩, fun v23 H23 e23 T23 n23 => ?_⟩
  obtain rfl := n23.none hL h4r (by omega)
  refine ⟨rfl, ?_⟩
  exact q _ (by walk_at "mu") T23
end
end HW
/-! part W19 -/
namespace HW
open PySem PySem.Spec PyProof.Rows L2 NdefX LamX
open HM (Lk Ct Lot)
local macro_rules | `(tactic| walk_at "ga") => `(tactic| first | with_reducible assumption | (with_reducible apply GenA.up; assumption; walk_at "ga") | (with_reducible apply GenA.S; assumption; walk_at "ga") | (with_reducible apply GenA.N; assumption; walk_at "ga"))
local macro_rules | `(tactic| walk_at "mg") => `(tactic| first | with_reducible assumption | (with_reducible apply Mg.refl; assumption) | (with_reducible apply Mg.up; assumption; walk_at "mg") | (with_reducible apply Mg.S; assumption; walk_at "mg") | (with_reducible apply mg_T; assumption; walk_at "mg"))
local macro_rules | `(tactic| walk_at "in") => `(tactic| first | assumption | (constructor <;> omega))
local macro_rules | `(tactic| walk_at "en") => `(tactic| first | with_reducible assumption | exact ExtN.refl _ | (with_reducible apply extN_up2; assumption; walk_at "en") | (with_reducible apply extN_S2; assumption; walk_at "en") | (with_reducible apply extN_N2; assumption; walk_at "en"))
local macro_rules | `(tactic| walk_at "tb") => `(tactic| first | with_reducible assumption | (with_reducible apply Tabs.up2; assumption; walk_at "tb") | (with_reducible apply Tabs.S2; assumption; walk_at "tb") | (with_reducible apply Tabs.M; assumption; walk_at "tb"))
local macro_rules | `(tactic| walk_at "nf") => `(tactic| dsimp only [L2.cxOf, L2.Cx.nox, NdefX.startF, NdefX.slotAt, L2.start, List.set, List.getElem?_cons_zero, List.getElem?_cons_succ, Option.join, Option.bind, List.length, List.replicate, List.map, HAppend.hAppend, Append.append, List.append, Nat.reduceAdd, Nat.reduceSub, Nat.zero_add])
local macro_rules | `(tactic| walk_at "nm") => `(tactic| dsimp only [L2.cxOf, L2.Cx.nox, L2.start, List.set, List.length, List.replicate, List.map, HAppend.hAppend, Append.append, List.append, Nat.reduceAdd, Nat.reduceSub, Nat.zero_add])
local macro_rules | `(tactic| walk_at "sq0") => `(tactic| first | assumption | exact SqT.of upd_same | (apply sqT_up; assumption; walk_at "sq0") | (apply sqT_S; assumption; walk_at "sq0") | (apply sqT_N; assumption; walk_at "sq0") | (apply sqT_M; assumption; walk_at "sq0"))
local macro_rules | `(tactic| walk_at "sq1") => `(tactic| first | assumption | exact SqT.of upd_same | (apply sqT_up; assumption; walk_at "sq1") | (apply sqT_S; assumption; walk_at "sq1") | (apply sqT_N; assumption; walk_at "sq1") | (apply sqT_M; assumption; walk_at "sq1"))
local macro_rules | `(tactic| walk_at "sq") => `(tactic| first | with_reducible walk_at "sq0" | walk_at "sq1")
local macro_rules | `(tactic| walk_at "sl0") => `(tactic| first | assumption | exact SqL.of upd_same | exact SqL.of (by assumption) | (apply sqL_up; assumption; walk_at "sl0") | (apply sqL_S; assumption; walk_at "sl0") | (apply sqL_N; assumption; walk_at "sl0") | (apply sqL_M; assumption; assumption; walk_at "sl0"))
local macro_rules | `(tactic| walk_at "sl1") => `(tactic| first | assumption | exact SqL.of upd_same | exact SqL.of (by assumption) | (apply sqL_up; assumption; walk_at "sl1") | (apply sqL_S; assumption; walk_at "sl1") | (apply sqL_N; assumption; walk_at "sl1") | (apply sqL_M; assumption; assumption; walk_at "sl1"))
local macro_rules | `(tactic| walk_at "sl") => `(tactic| first | with_reducible walk_at "sl0" | walk_at "sl1")
local macro_rules | `(tactic| walk_at "lt0") => `(tactic| first | assumption | (apply LotV.up; assumption; walk_at "lt0") | (apply LotV.S; assumption; walk_at "lt0") | (apply LotV.N; assumption; walk_at "lt0") | (apply LotV.M; assumption; walk_at "lt0"))
local macro_rules | `(tactic| walk_at "lt1") => `(tactic| first | assumption | (apply LotV.up; assumption; walk_at "lt1") | (apply LotV.S; assumption; walk_at "lt1") | (apply LotV.N; assumption; walk_at "lt1") | (apply LotV.M; assumption; walk_at "lt1"))
local macro_rules | `(tactic| walk_at "lt") => `(tactic| first | with_reducible walk_at "lt0" | walk_at "lt1")
local macro_rules | `(tactic| walk_at "ct0") => `(tactic| first | assumption | (apply CtA.up; assumption; walk_at "ct0") | (apply CtA.S; assumption; walk_at "ct0") | (apply CtA.N; assumption; walk_at "ct0") | (apply CtA.M; assumption; walk_at "ct0"))
local macro_rules | `(tactic| walk_at "ct1") => `(tactic| first | assumption | (apply CtA.up; assumption; walk_at "ct1") | (apply CtA.S; assumption; walk_at "ct1") | (apply CtA.N; assumption; walk_at "ct1") | (apply CtA.M; assumption; walk_at "ct1"))
local macro_rules | `(tactic| walk_at "ct") => `(tactic| first | with_reducible walk_at "ct0" | walk_at "ct1")
local macro_rules | `(tactic| walk_at "ho0") => `(tactic| first | assumption | (apply HoA.up; assumption; walk_at "ho0") | (apply HoA.S; assumption; walk_at "ho0") | (apply HoA.N; assumption; walk_at "ho0"))
local macro_rules | `(tactic| walk_at "ho1") => `(tactic| first | assumption | (apply HoA.up; assumption; walk_at "ho1") | (apply HoA.S; assumption; walk_at "ho1") | (apply HoA.N; assumption; walk_at "ho1"))
local macro_rules | `(tactic| walk_at "ho") => `(tactic| first | with_reducible walk_at "ho0" | walk_at "ho1")
local macro_rules | `(tactic| walk_at "sm0") => `(tactic| first | assumption | exact Same.refl _ | (refine same_up ?_ (by assumption); walk_at "sm0") | (refine Same.trans ?_ (by assumption); walk_at "sm0") | exact same_new (by assumption) _)
local macro_rules | `(tactic| walk_at "sm1") => `(tactic| first | assumption | exact Same.refl _ | (refine same_up ?_ (by assumption); walk_at "sm1") | (refine Same.trans ?_ (by assumption); walk_at "sm1") | exact same_new (by assumption) _)
local macro_rules | `(tactic| walk_at "sm") => `(tactic| first | with_reducible walk_at "sm0" | walk_at "sm1")
local macro_rules | `(tactic| walk_at "pre") => `(tactic| first | assumption | omega | decide)
section
variable {P : Program} {w : World} {K : PySem.W.Frag} {mg : Str → Option Value} {base : Heap}
/-- values and what they stand for, one by one -/
inductive All2 {α : Type} (R : V → α → Prop) : List V → List α → Prop where
  | nil : All2 R [] []
  | cons {v : V} {a : α} {vs : List V} {as : List α} (h : R v a) (t : All2 R vs as) : All2 R (v :: vs) (a :: as)
section
variable {α : Type} {R S : V → α → Prop}
theorem All2.mono (f : ∀ v a, R v a → S v a) : ∀ {vs : List V} {as : List α}, All2 R vs as → All2 S vs as
  | _, _, .nil => .nil
  | _, _, .cons h t => .cons (f _ _ h) (All2.mono f t)
theorem All2.append : ∀ {vs ws : List V} {as bs : List α}, All2 R vs as → All2 R ws bs → All2 R (vs ++ ws) (as ++ bs)
  | _, _, _, _, .nil, h => h
  | _, _, _, _, .cons a t, h => .cons a (All2.append t h)
theorem All2.length : ∀ {vs : List V} {as : List α}, All2 R vs as → vs.length = as.length
  | _, _, .nil => rfl
  | _, _, .cons _ t => by rw [List.length_cons, List.length_cons, All2.length t]
theorem All2.at_ : ∀ {vs : List V} {as : List α} {i : Nat} {v : V}, All2 R vs as → vs[i]? = some v → ∃ a, as[i]? = some a ∧ R v a
  | _, _, i, _, .nil, h => by simp at h
  | _, _, 0, _, .cons r t, h => ⟨_, rfl, by rw [← Option.some.inj h]; exact r⟩
  | _, _, i + 1, _, .cons r t, h => All2.at_ (i := i) t (by simpa using h)
theorem All2.atR : ∀ {vs : List V} {as : List α} {i : Nat} {a : α}, All2 R vs as → as[i]? = some a → ∃ v, vs[i]? = some v ∧ R v a
  | _, _, i, _, .nil, h => by simp at h
  | _, _, 0, _, .cons r t, h => ⟨_, rfl, by rw [← Option.some.inj h]; exact r⟩
  | _, _, i + 1, _, .cons r t, h => All2.atR (i := i) t (by simpa using h)
end
def lotsL (L : Lk) (e : Bool) : List Lot := (HM.rng (HM.lotsIn L e)).map (HM.lotOf L e)
def oldsL (n : Nat) : List Lot := (List.range n).map fun (i : Nat) => Lot.old (1 + (i : Int))
def newsL (n : Nat) : List Lot := (List.range n).map fun (i : Nat) => Lot.new (1 + (i : Int))
theorem oldsL_succ (n : Nat) : oldsL (n + 1) = oldsL n ++ [.old (1 + (n : Int))] := by unfold oldsL; rw [List.range_succ, List.map_append]; rfl
theorem newsL_succ (n : Nat) : newsL (n + 1) = newsL n ++ [.new (1 + (n : Int))] := by unfold newsL; rw [List.range_succ, List.map_append]; rfl
theorem lotsL_t {L : Lk} (h0 : 1 ≤ L.p) (h : L.p ≤ 3) : lotsL L true = [.no] ++ [] ++ oldsL (L.p - 1).toNat := by
  rcases (by omega : L.p = 1 ∨ L.p = 2 ∨ L.p = 3) with h | h | h
  all_goals
    unfold lotsL HM.lotsIn
    have e : HM.lotOf L true = fun n => if n = 0 then Lot.no else .old n := by funext n; unfold HM.lotOf; simp
    rw [e, h]
    decide
theorem lotsL_f {L : Lk} (h0 : 1 ≤ L.p) (h : L.p ≤ 3) : lotsL L false = [.no] ++ newsL (L.p - 1).toNat ++ oldsL (L.p - 1).toNat := by
  rcases (by omega : L.p = 1 ∨ L.p = 2 ∨ L.p = 3) with h | h | h
  all_goals
    unfold lotsL HM.lotsIn
    have e : HM.lotOf L false = fun n => if n = 0 then Lot.no else if L.p ≤ n then .old (n - L.p + 1) else .new n := by funext n; unfold HM.lotOf; simp
    rw [e, h]
    decide
def sp_lawlots (K : PySem.W.Frag) : Sp := fun vs H Q _ => ∃ (a : Addr) (L : Lk) (e : Bool), vs = [.ref a, .bl e] ∧ (LkA K H a L ∧ 1 ≤ L.p ∧ L.p ≤ 3) ∧ ∀ p ws H', Same H H' → H' p = some (.lst ws) → All2 (LotV K H') ws (lotsL L e) → Q (.ref p) H'
theorem mg_set {D : Addr} {H : Hp} {ws : List V} {o : HO} (h : H D = some (.lst ws)) : Mg D H (upd H D o) := (⟨⟨_, h⟩, fun _ _ _ e => e⟩ : Mg D H H).setg
theorem sc__law_lots : FnScope ["_law_link", "_law_even", "_law_old", "_law_many"] ["_law_link", "_law_even"] (defScope s__law_lots) := ⟨rfl, rfl, rfl, by decide +kernel, rfl, by decide +kernel, by decide +kernel⟩
theorem ok__law_lots (Fx : Facts K mg) : Fn P w K mg base 1 "_law_lots" ["_law_link", "_law_even"] (sp_lawlots K) := by
  refine fn_mk Fx 58 (st := s__law_lots) rfl sc__law_lots (fun _ _ _ _ _ _ us hl => match us, hl with | [_, _], _ => rfl) (fun vs H Q E h => ?_) (fun f cdv A outer s H vs Q E hr h => ?_)
  · obtain ⟨a, L, e, rfl, _⟩ := h
    rfl
  obtain ⟨a, L, e, rfl, ⟨hl, hp0, hp⟩, q⟩ := h
  refine ⟨_, (pss_cons (ps_setLc (i := 2) (own := [("_law_many", 3)]) rfl sc__law_lots.nd rfl rfl (by rfl) (pi_range2 (by rfl) (Fx.bt 7 _ rfl) (pa_cons pe_int (pa_cons (pe_ix ix_tup (pv 0) pe_int (fun _ _ => rfl)) pa_nil))) (blkOk_by (N := ["_law_link", "_law_even", "_law_old", "_law_many"]) (sc := defScope s__law_lots) (by decide +kernel)) (fun _ _ _ _ _ => (pg_name (i := 3) sc__law_lots.nd rfl (.inl rfl))) (fun _ _ _ _ _ => pts_nil) (fun _ _ _ _ _ => (pe_tup (pa_cons pe_str (pa_cons (pv 3) pa_nil))))) (pss_one (ps_ret (pe_op op_cat (pe_op op_cat (pe_lst (pa_cons pe_non pa_nil)) (pe_ifExp (pt_val (pv 1)) (pe_lst pa_nil) (pe_lc (own := [("_law_many", 3)]) rfl sc__law_lots.nd (pi_range2 (by rfl) (Fx.bt 7 _ rfl) (pa_cons pe_int (pa_cons (pe_ix ix_tup (pv 0) pe_int (fun _ _ => rfl)) pa_nil))) (blkOk_by (N := ["_law_link", "_law_even", "_law_old", "_law_many"]) (sc := defScope s__law_lots) (by decide +kernel)) (fun _ _ _ _ _ => (pg_name (i := 3) sc__law_lots.nd rfl (.inl rfl))) (fun _ _ _ _ _ => pts_nil) (fun _ _ _ _ _ => (pe_tup (pa_cons pe_str (pa_cons (pv 3) pa_nil))))))) (pv 2))))), ?_⟩
  refine ⟨_, rfl, _, _, _, _, rfl, rfl, (by walk_at "sq"), rfl, _, _, rfl, ⟨by decide, by decide, by omega, by omega⟩, fun D nD => ?_⟩
  refine lc_range (lo := 1) (n := (L.p - 1).toNat) (g := gName 3) (tt := tYes) (te := tTup (tCons (tC (.str "old")) (tCons (tVar 3) tNil))) (vs := [3]) (fun i H' => Same H H' ∧ ∃ ws, H' D = some (.lst ws) ∧ All2 (LotV K H') ws (oldsL i)) ⟨(by walk_at "sm"), [], upd_same, .nil⟩ (fun i H' hi hP => ?_) (fun H' hP => ?_)
  · obtain ⟨e0, ws, hD, ha⟩ := hP
    refine ⟨rfl, ?_⟩
    dsimp only [tYes]
    refine iteT ?_
    refine ⟨_, rfl, (by show 2 ≤ sizeLine; decide), fun p1 np1 => ?_⟩
    have hD1 := (upd_ne (o := HO.tup [.str "old", .int (1 + (i : Int))]) (ne_of_none hD np1)).trans hD
    have hlen : ws.length < sizeLine := by rw [ha.length]; unfold oldsL; rw [List.length_map, List.length_range]; exact Nat.lt_of_lt_of_le (by omega : i < 3) (by decide)
    refine ⟨ws, hD1, hlen, same_updN (none_of (by walk_at "sm") nD) (same_up e0 np1), ws ++ [.ref p1], upd_same, ?_⟩
    rw [oldsL_succ]
    exact (ha.mono fun v l h => (h.up np1).M (mg_set hD1)).append (.cons ((LotV.old (SqT.of upd_same)).M (mg_set hD1)) .nil)
  · obtain ⟨e0, os, hD, ha⟩ := hP
    have hol := ha.length
    unfold oldsL at hol
    rw [List.length_map, List.length_range] at hol
    refine ⟨(by show 1 ≤ sizeLine; decide), fun p2 np2 => ?_⟩
    refine ⟨_, rfl, _, rfl, ?_⟩
    cases e with
    | true =>
      refine iteT ?_
      refine ⟨(by show 0 ≤ sizeLine; decide), fun p3 np3 => ?_⟩
      have h2 : upd (upd H' p2 (.lst [.non])) p3 (.lst []) p2 = some (.lst [.non]) := (upd_ne (ne_of_none upd_same np3)).trans upd_same
      refine ⟨_, _, _, _, rfl, rfl, h2, upd_same, (by show 1 + 0 ≤ sizeLine; decide), fun p4 np4 => ?_⟩
      have hD' : upd (upd (upd H' p2 (.lst [.non])) p3 (.lst [])) p4 (.lst ([.non] ++ [])) D = some (.lst os) := by
        have z1 := (upd_ne (o := HO.lst [.non]) (ne_of_none hD np2)).trans hD
        have z2 := (upd_ne (o := HO.lst []) (ne_of_none z1 np3)).trans z1
        exact (upd_ne (ne_of_none z2 np4)).trans z2
      refine ⟨_, rfl, _, _, _, _, rfl, rfl, upd_same, hD', (by show 1 + os.length ≤ sizeLine; rw [hol]; exact Nat.le_trans (by omega : 1 + (L.p - 1).toNat ≤ 3) (by decide)), fun p5 np5 => ?_⟩
      refine q _ _ _ (by walk_at "sm") upd_same ?_
      rw [lotsL_t hp0 hp]
      exact (All2.append (.cons .no .nil) .nil).append (ha.mono fun v l h => (((h.up np2).up np3).up np4).up np5)
    | false =>
      refine iteF ?_
      refine ⟨_, rfl, _, _, _, _, rfl, rfl, (by walk_at "sq"), rfl, _, _, rfl, ⟨by decide, by decide, by omega, by omega⟩, fun E nE => ?_⟩
      refine lc_range (lo := 1) (n := (L.p - 1).toNat) (g := gName 3) (tt := tYes) (te := tTup (tCons (tC (.str "new")) (tCons (tVar 3) tNil))) (vs := [3]) (fun i H2 => Same (upd H' p2 (.lst [.non])) H2 ∧ ∃ ws, H2 E = some (.lst ws) ∧ All2 (LotV K H2) ws (newsL i)) ⟨(by walk_at "sm"), [], upd_same, .nil⟩ (fun i H2 hi hP => ?_) (fun H2 hP => ?_)
      · obtain ⟨e0, ws, hD, ha⟩ := hP
        refine ⟨rfl, ?_⟩
        dsimp only [tYes]
        refine iteT ?_
        refine ⟨_, rfl, (by show 2 ≤ sizeLine; decide), fun p1 np1 => ?_⟩
        have hD1 := (upd_ne (o := HO.tup [.str "new", .int (1 + (i : Int))]) (ne_of_none hD np1)).trans hD
        have hlen : ws.length < sizeLine := by rw [ha.length]; unfold newsL; rw [List.length_map, List.length_range]; exact Nat.lt_of_lt_of_le (by omega : i < 3) (by decide)
        refine ⟨ws, hD1, hlen, same_updN (none_of (by walk_at "sm") nE) (same_up e0 np1), ws ++ [.ref p1], upd_same, ?_⟩
        rw [newsL_succ]
        exact (ha.mono fun v l h => (h.up np1).M (mg_set hD1)).append (.cons ((LotV.new (SqT.of upd_same)).M (mg_set hD1)) .nil)
      · obtain ⟨e2, ns, hE, hb⟩ := hP
        have hnl := hb.length
        unfold newsL at hnl
        rw [List.length_map, List.length_range] at hnl
        have h2 : H2 p2 = some (.lst [.non]) := e2 _ _ upd_same
        have hD2 : H2 D = some (.lst os) := e2 _ _ ((upd_ne (ne_of_none hD np2)).trans hD)
        refine ⟨_, _, _, _, rfl, rfl, h2, hE, (by show 1 + ns.length ≤ sizeLine; rw [hnl]; exact Nat.le_trans (by omega : 1 + (L.p - 1).toNat ≤ 3) (by decide)), fun p4 np4 => ?_⟩
        refine ⟨_, rfl, _, _, _, _, rfl, rfl, upd_same, (upd_ne (ne_of_none hD2 np4)).trans hD2, (by rw [List.length_append, hnl, hol]; exact Nat.le_trans (by show 1 + (L.p - 1).toNat + (L.p - 1).toNat ≤ 5; omega) (by decide)), fun p5 np5 => ?_⟩
        refine q _ _ _ (by walk_at "sm") upd_same ?_
        rw [lotsL_f hp0 hp]
        exact (All2.append (.cons .no .nil) (hb.mono fun v l h => (h.up np4).up np5)).append (ha.mono fun v l h => (((h.up np2).S e2).up np4).up np5)
end
end HW
/-! part W20 -/
namespace HW
open PySem PySem.Spec PyProof.Rows L2 NdefX LamX
open HM (Lk Ct Lot)
local macro_rules | `(tactic| walk_at "ga") => `(tactic| first | with_reducible assumption | (with_reducible apply GenA.up; assumption; walk_at "ga") | (with_reducible apply GenA.S; assumption; walk_at "ga") | (with_reducible apply GenA.N; assumption; walk_at "ga"))
local macro_rules | `(tactic| walk_at "mg") => `(tactic| first | with_reducible assumption | (with_reducible apply Mg.refl; assumption) | (with_reducible apply Mg.up; assumption; walk_at "mg") | (with_reducible apply Mg.S; assumption; walk_at "mg") | (with_reducible apply mg_T; assumption; walk_at "mg"))
local macro_rules | `(tactic| walk_at "in") => `(tactic| first | assumption | (constructor <;> omega))
local macro_rules | `(tactic| walk_at "en") => `(tactic| first | with_reducible assumption | exact ExtN.refl _ | (with_reducible apply extN_up2; assumption; walk_at "en") | (with_reducible apply extN_S2; assumption; walk_at "en") | (with_reducible apply extN_N2; assumption; walk_at "en"))
local macro_rules | `(tactic| walk_at "tb") => `(tactic| first | with_reducible assumption | (with_reducible apply Tabs.up2; assumption; walk_at "tb") | (with_reducible apply Tabs.S2; assumption; walk_at "tb") | (with_reducible apply Tabs.M; assumption; walk_at "tb"))
local macro_rules | `(tactic| walk_at "nf") => `(tactic| dsimp only [L2.cxOf, L2.Cx.nox, NdefX.startF, NdefX.slotAt, L2.start, List.set, List.getElem?_cons_zero, List.getElem?_cons_succ, Option.join, Option.bind, List.length, List.replicate, List.map, HAppend.hAppend, Append.append, List.append, Nat.reduceAdd, Nat.reduceSub, Nat.zero_add])
local macro_rules | `(tactic| walk_at "nm") => `(tactic| dsimp only [L2.cxOf, L2.Cx.nox, L2.start, List.set, List.length, List.replicate, List.map, HAppend.hAppend, Append.append, List.append, Nat.reduceAdd, Nat.reduceSub, Nat.zero_add])
local macro_rules | `(tactic| walk_at "sq0") => `(tactic| first | assumption | exact SqT.of upd_same | (apply sqT_up; assumption; walk_at "sq0") | (apply sqT_S; assumption; walk_at "sq0") | (apply sqT_N; assumption; walk_at "sq0") | (apply sqT_M; assumption; walk_at "sq0"))
local macro_rules | `(tactic| walk_at "sq1") => `(tactic| first | assumption | exact SqT.of upd_same | (apply sqT_up; assumption; walk_at "sq1") | (apply sqT_S; assumption; walk_at "sq1") | (apply sqT_N; assumption; walk_at "sq1") | (apply sqT_M; assumption; walk_at "sq1"))
local macro_rules | `(tactic| walk_at "sq") => `(tactic| first | with_reducible walk_at "sq0" | walk_at "sq1")
local macro_rules | `(tactic| walk_at "sl0") => `(tactic| first | assumption | exact SqL.of upd_same | exact SqL.of (by assumption) | (apply sqL_up; assumption; walk_at "sl0") | (apply sqL_S; assumption; walk_at "sl0") | (apply sqL_N; assumption; walk_at "sl0") | (apply sqL_M; assumption; assumption; walk_at "sl0"))
local macro_rules | `(tactic| walk_at "sl1") => `(tactic| first | assumption | exact SqL.of upd_same | exact SqL.of (by assumption) | (apply sqL_up; assumption; walk_at "sl1") | (apply sqL_S; assumption; walk_at "sl1") | (apply sqL_N; assumption; walk_at "sl1") | (apply sqL_M; assumption; assumption; walk_at "sl1"))
local macro_rules | `(tactic| walk_at "sl") => `(tactic| first | with_reducible walk_at "sl0" | walk_at "sl1")
local macro_rules | `(tactic| walk_at "lt0") => `(tactic| first | assumption | (apply LotV.up; assumption; walk_at "lt0") | (apply LotV.S; assumption; walk_at "lt0") | (apply LotV.N; assumption; walk_at "lt0") | (apply LotV.M; assumption; walk_at "lt0"))
local macro_rules | `(tactic| walk_at "lt1") => `(tactic| first | assumption | (apply LotV.up; assumption; walk_at "lt1") | (apply LotV.S; assumption; walk_at "lt1") | (apply LotV.N; assumption; walk_at "lt1") | (apply LotV.M; assumption; walk_at "lt1"))
local macro_rules | `(tactic| walk_at "lt") => `(tactic| first | with_reducible walk_at "lt0" | walk_at "lt1")
local macro_rules | `(tactic| walk_at "ct0") => `(tactic| first | assumption | (apply CtA.up; assumption; walk_at "ct0") | (apply CtA.S; assumption; walk_at "ct0") | (apply CtA.N; assumption; walk_at "ct0") | (apply CtA.M; assumption; walk_at "ct0"))
local macro_rules | `(tactic| walk_at "ct1") => `(tactic| first | assumption | (apply CtA.up; assumption; walk_at "ct1") | (apply CtA.S; assumption; walk_at "ct1") | (apply CtA.N; assumption; walk_at "ct1") | (apply CtA.M; assumption; walk_at "ct1"))
local macro_rules | `(tactic| walk_at "ct") => `(tactic| first | with_reducible walk_at "ct0" | walk_at "ct1")
local macro_rules | `(tactic| walk_at "ho0") => `(tactic| first | assumption | (apply HoA.up; assumption; walk_at "ho0") | (apply HoA.S; assumption; walk_at "ho0") | (apply HoA.N; assumption; walk_at "ho0"))
local macro_rules | `(tactic| walk_at "ho1") => `(tactic| first | assumption | (apply HoA.up; assumption; walk_at "ho1") | (apply HoA.S; assumption; walk_at "ho1") | (apply HoA.N; assumption; walk_at "ho1"))
local macro_rules | `(tactic| walk_at "ho") => `(tactic| first | with_reducible walk_at "ho0" | walk_at "ho1")
local macro_rules | `(tactic| walk_at "sm0") => `(tactic| first | assumption | exact Same.refl _ | (refine same_up ?_ (by assumption); walk_at "sm0") | (refine Same.trans ?_ (by assumption); walk_at "sm0") | exact same_new (by assumption) _)
local macro_rules | `(tactic| walk_at "sm1") => `(tactic| first | assumption | exact Same.refl _ | (refine same_up ?_ (by assumption); walk_at "sm1") | (refine Same.trans ?_ (by assumption); walk_at "sm1") | exact same_new (by assumption) _)
local macro_rules | `(tactic| walk_at "sm") => `(tactic| first | with_reducible walk_at "sm0" | walk_at "sm1")
local macro_rules | `(tactic| walk_at "pre") => `(tactic| first | assumption | omega | decide)
section
variable {P : Program} {w : World} {K : PySem.W.Frag} {mg : Str → Option Value} {base : Heap}
section
variable {α : Type}
def fl (n : Nat) (f : Int → List α) : List α := (List.range n).flatMap fun (i : Nat) => f (i : Int)
def mpR (n : Nat) (f : Int → α) : List α := (List.range n).map fun (i : Nat) => f (i : Int)
theorem fl_succ (n : Nat) (f : Int → List α) : fl (n + 1) f = fl n f ++ f (n : Int) := by unfold fl; rw [List.range_succ, List.flatMap_append]; simp
theorem mpR_succ (n : Nat) (f : Int → α) : mpR (n + 1) f = mpR n f ++ [f (n : Int)] := by unfold mpR; rw [List.range_succ, List.map_append]; rfl
theorem mpR_len (n : Nat) (f : Int → α) : (mpR n f).length = n := by unfold mpR; rw [List.length_map, List.length_range]
theorem rng_fl (N : Int) (f : Int → List α) : (HM.rng N).flatMap f = fl N.toNat f := by unfold HM.rng fl; rw [List.flatMap_map]
theorem rng_mp (N : Int) (f : Int → α) : (HM.rng N).map f = mpR N.toNat f := by unfold HM.rng mpR; rw [List.map_map]; rfl
theorem fl_len {B : Nat} {f : Int → List α} : ∀ {n : Nat}, (∀ i : Nat, i < n → (f (i : Int)).length ≤ B) → (fl n f).length ≤ n * B
  | 0, _ => by simp [fl]
  | n + 1, h => by
    rw [fl_succ, List.length_append, Nat.succ_mul]
    have h1 := fl_len (n := n) fun i hi => h i (by omega)
    have h2 := h n (by omega)
    omega
theorem fl_len4 {B : Nat} {f : Int → List α} {n : Nat} (hn : n ≤ 4) (h : ∀ i : Nat, (f (i : Int)).length ≤ B) : (fl n f).length ≤ 4 * B := Nat.le_trans (fl_len fun i _ => h i) (Nat.mul_le_mul_right _ hn)
end
structure SmL (L : Lk) : Prop where
  c0 : 1 ≤ L.c
  c1 : L.c ≤ 3
  d0 : 1 ≤ L.d
  d1 : L.d ≤ 3
  p0 : 1 ≤ L.p
  p1 : L.p ≤ 3
  q0 : 1 ≤ L.q
  q1 : L.q ≤ 3
def wY (L : Lk) (n z o y : Int) : List HM.Wi := mpR (L.d + 1 - y).toNat fun x => ⟨n, z, o, y, x⟩
def wO (L : Lk) (n z o : Int) : List HM.Wi := fl (L.d + 1).toNat (wY L n z o)
def wZ (L : Lk) (n z : Int) : List HM.Wi := fl (L.c + 1 - n - z).toNat (wO L n z)
def wN (L : Lk) (n : Int) : List HM.Wi := fl (L.c + 1 - n).toNat (wZ L n)
theorem wiresC_fl (L : Lk) : HM.wiresC L = fl (L.c + 1).toNat (wN L) := by
  unfold HM.wiresC
  simp only [rng_fl, rng_mp]
  rfl
theorem wY_len {L : Lk} (h : SmL L) (n z o : Int) (y : Nat) : (wY L n z o (y : Int)).length ≤ 4 := by
  unfold wY; rw [mpR_len]; have := h.d1; omega
theorem wO_len {L : Lk} (h : SmL L) (n z : Int) (o : Nat) : (wO L n z (o : Int)).length ≤ 16 := fl_len4 (by have := h.d1; omega) fun i => wY_len h n z o i
theorem wZ_len {L : Lk} (h : SmL L) (n : Nat) (z : Nat) : (wZ L (n : Int) (z : Int)).length ≤ 64 := fl_len4 (by have := h.c1; omega) fun i => wO_len h (n : Int) (z : Int) i
theorem wN_len {L : Lk} (h : SmL L) (n : Nat) : (wN L (n : Int)).length ≤ 256 := fl_len4 (by have := h.c1; omega) fun i => wZ_len h n i
theorem wires_len {L : Lk} (h : SmL L) : (HM.wiresC L).length ≤ 1024 := by rw [wiresC_fl]; exact fl_len4 (by have := h.c1; omega) fun i => wN_len h i
/-- a pair of wires -/
def WiV (K : PySem.W.Frag) (H : Hp) (v : V) (w : HM.Wi) : Prop := ∃ p t b : Addr, v = .ref p ∧ SqT K H p [.ref t, .ref b] ∧ ThA K H t w.n w.z w.o ∧ BkA K H b w.y w.x
theorem WiV.S {K : PySem.W.Frag} {H H' : Hp} {v : V} {w : HM.Wi} (e : Same H H') (h : WiV K H v w) : WiV K H' v w := by
  obtain ⟨p, t, b, r, h1, h2, h3⟩ := h
  exact ⟨p, t, b, r, sqT_S e h1, sqT_S e h2, sqT_S e h3⟩
theorem WiV.M {K : PySem.W.Frag} {H H' : Hp} {g : Addr} {v : V} {w : HM.Wi} (e : Mg g H H') (h : WiV K H v w) : WiV K H' v w := by
  obtain ⟨p, t, b, r, h1, h2, h3⟩ := h
  exact ⟨p, t, b, r, sqT_M e h1, sqT_M e h2, sqT_M e h3⟩
def CtV (K : PySem.W.Frag) (H : Hp) (L : Lk) (v : V) (x : Ct) : Prop := ∃ p : Addr, v = .ref p ∧ CtA K H L p x
theorem CtV.S {K : PySem.W.Frag} {H H' : Hp} {L : Lk} {v : V} {x : Ct} (e : Same H H') (h : CtV K H L v x) : CtV K H' L v x := h.imp fun p q => ⟨q.1, q.2.S e⟩
theorem CtV.M {K : PySem.W.Frag} {H H' : Hp} {g : Addr} {L : Lk} {v : V} {x : Ct} (e : Mg g H H') (h : CtV K H L v x) : CtV K H' L v x := h.imp fun p q => ⟨q.1, q.2.M e⟩
def cD (L : Lk) (k l : Int) (dn : Bool) : List Ct := (HM.wiresC L).map fun w => ⟨(HM.hostsAt L k).1, (HM.hostsAt L k).2.1, (HM.hostsAt L k).2.2, l, dn, w.n, w.z, w.o, w.y, w.x⟩
def cL (L : Lk) (k l : Int) : List Ct := cD L k l false ++ cD L k l true
def cK (L : Lk) (k : Int) : List Ct := fl (HM.lotsIn L (decide ((HM.hostsAt L k).1 = (HM.hostsAt L k).2.2))).toNat (cL L k)
theorem allC_fl (L : Lk) : HM.allC L = fl (4 * L.q).toNat (cK L) := by
  unfold HM.allC
  simp only [rng_fl]
  unfold cK cL cD
  simp only [List.flatMap_cons, List.flatMap_nil, List.append_nil]
theorem cD_len {L : Lk} (h : SmL L) (k l : Int) (dn : Bool) : (cD L k l dn).length ≤ 1024 := by unfold cD; rw [List.length_map]; exact wires_len h
theorem cL_len {L : Lk} (h : SmL L) (k l : Int) : (cL L k l).length ≤ 2048 := by
  unfold cL; rw [List.length_append]
  have := cD_len h k l false
  have := cD_len h k l true
  omega
theorem lotsN {L : Lk} (h : SmL L) (e : Bool) : (HM.lotsIn L e).toNat ≤ 5 := by
  have := h.p1
  unfold HM.lotsIn
  split <;> omega
theorem cK_len {L : Lk} (h : SmL L) (k : Int) : (cK L k).length ≤ 5 * 2048 := Nat.le_trans (fl_len fun i _ => cL_len h k i) (Nat.mul_le_mul_right _ (lotsN h _))
def dnL (L : Lk) (k l : Int) : Nat → List Ct
  | 0 => []
  | 1 => cD L k l false
  | _ => cL L k l
theorem dn_at {L : Lk} (h : SmL L) {k l : Int} {d : Nat} {y : V} (hy : ([.bl false, .bl true] : List V)[d]? = some y) : ∃ bd, y = .bl bd ∧ dnL L k l (d + 1) = dnL L k l d ++ cD L k l bd ∧ (dnL L k l d).length ≤ 1024 := by
  match d, hy with
  | 0, hy => exact ⟨false, (Option.some.inj hy).symm, rfl, Nat.zero_le _⟩
  | 1, hy => exact ⟨true, (Option.some.inj hy).symm, rfl, cD_len h k l false⟩
theorem lotsL_at {L : Lk} {e : Bool} {l : Nat} {lot : Lot} (h : (lotsL L e)[l]? = some lot) : lot = HM.lotOf L e l := by
  unfold lotsL HM.rng at h
  rw [List.map_map, List.getElem?_map] at h
  cases e2 : (List.range (HM.lotsIn L e).toNat)[l]? with
  | none => rw [e2] at h; cases h
  | some j =>
    rw [e2] at h
    have q := List.getElem?_eq_some_iff.mp e2
    obtain ⟨q1, q2⟩ := q
    rw [List.getElem_range] at q2
    subst q2
    exact (Option.some.inj h).symm
def sp_all (K : PySem.W.Frag) : Sp := fun vs H Q _ => ∃ (a : Addr) (L : Lk), vs = [.ref a] ∧ (LkA K H a L ∧ SmL L) ∧ ∀ p ws H', Same H H' → H' p = some (.lst ws) → All2 (CtV K H' L) ws (HM.allC L) → Q (.ref p) H'
theorem sc__law_all : FnScope ["_law_link", "_law_new", "_law_number", "_law_found", "_law_wires", "_law_zeros", "_law_lot", "_law_ones", "_law_sender", "_law_own", "_law_done", "_law_nil", "_law_pair", "_law_one"] ["_law_link"] (defScope s__law_all) := ⟨rfl, rfl, rfl, by decide +kernel, rfl, by decide +kernel, by decide +kernel⟩
theorem ok__law_all (Fx : Facts K mg) : Fn P w K mg base 2 "_law_all" ["_law_link"] (sp_all K) := by
  have F__law_lots := ok__law_lots (P := P) (w := w) (base := base) Fx
  refine fn_mk Fx 59 (st := s__law_all) rfl sc__law_all (fun _ _ _ _ _ _ us hl => match us, hl with | [_], _ => rfl) (fun vs H Q E h => ?_) (fun f cdv A outer s H vs Q E hr h => ?_)
  · obtain ⟨a, L, rfl, _⟩ := h
    rfl
  obtain ⟨a, L, rfl, ⟨hl, hs⟩, q⟩ := h
  obtain ⟨s1, s2, s3, s4, s5, s6, s7, s8⟩ := hs
  have hs : SmL L := ⟨s1, s2, s3, s4, s5, s6, s7, s8⟩
  refine ⟨_, (pss_cons (ps_par (i := 3) (j := 4) rfl sc__law_all.nd rfl rfl (by decide) rfl rfl (pa_cons (pe_lst pa_nil) (pa_cons (pe_lst pa_nil) pa_nil)) (by rfl)) (pss_cons (ps_for PassesOwn.never rfl (pi_range1 (by rfl) (Fx.bt 7 _ rfl) (pa_cons (pe_op op_add (pe_ix ix_tup (pv 0) pe_int (fun _ _ => rfl)) pe_int) pa_nil)) (pg_name (i := 1) sc__law_all.nd rfl (.inr rfl)) (pss_one (ps_for PassesOwn.never rfl (pi_range1 (by rfl) (Fx.bt 7 _ rfl) (pa_cons (pe_op op_sub (pe_op op_add (pe_ix ix_tup (pv 0) pe_int (fun _ _ => rfl)) pe_int) (pv 1)) pa_nil)) (pg_name (i := 5) sc__law_all.nd rfl (.inr rfl)) (pss_one (ps_for PassesOwn.never rfl (pi_range1 (by rfl) (Fx.bt 7 _ rfl) (pa_cons (pe_op op_sub (pe_op op_sub (pe_op op_add (pe_ix ix_tup (pv 0) pe_int (fun _ _ => rfl)) pe_int) (pv 1)) (pv 5)) pa_nil)) (pg_name (i := 7) sc__law_all.nd rfl (.inr rfl)) (pss_one (ps_for PassesOwn.never rfl (pi_range1 (by rfl) (Fx.bt 7 _ rfl) (pa_cons (pe_op op_add (pe_ix ix_tup (pv 0) pe_int (fun _ _ => rfl)) pe_int) pa_nil)) (pg_name (i := 11) sc__law_all.nd rfl (.inr rfl)) (pss_one (ps_set (i := 4) sc__law_all.nd rfl (.inl rfl) (pe_op op_cat (pv 4) (pe_lc (own := [("_law_one", 13)]) rfl sc__law_all.nd (pi_range1 (by rfl) (Fx.bt 7 _ rfl) (pa_cons (pe_op op_sub (pe_op op_add (pe_ix ix_tup (pv 0) pe_int (fun _ _ => rfl)) pe_int) (pv 11)) pa_nil)) (blkOk_by (N := ["_law_link", "_law_new", "_law_number", "_law_found", "_law_wires", "_law_zeros", "_law_lot", "_law_ones", "_law_sender", "_law_own", "_law_done", "_law_nil", "_law_pair", "_law_one"]) (sc := defScope s__law_all) (by decide +kernel)) (fun _ _ _ _ _ => (pg_name (i := 13) sc__law_all.nd rfl (.inl rfl))) (fun _ _ _ _ _ => pts_nil) (fun _ _ _ _ _ => (pe_tup (pa_cons (pe_tup (pa_cons (pv 1) (pa_cons (pv 5) (pa_cons (pv 7) pa_nil)))) (pa_cons (pe_tup (pa_cons (pv 11) (pa_cons (pv 13) pa_nil))) pa_nil))))))))))))))) (pss_cons (ps_for PassesOwn.never rfl (pi_range1 (by rfl) (Fx.bt 7 _ rfl) (pa_cons (pe_op op_mul pe_int (pe_ix ix_tup (pv 0) pe_int (fun _ _ => rfl))) pa_nil)) (pg_name (i := 2) sc__law_all.nd rfl (.inl rfl)) (pss_cons (ps_asg (pe_tup (pa_cons (pe_tup (pa_cons (pe_op op_fdiv (pv 2) (pe_op op_mul pe_int (pe_ix ix_tup (pv 0) pe_int (fun _ _ => rfl)))) (pa_cons (pe_op op_mod (pe_callTy call_intI (by rfl) (Fx.bt 1 _ rfl) boot_int (pa_cons (pe_op op_fdiv (pv 2) pe_int) pa_nil)) (pe_ix ix_tup (pv 0) pe_int (fun _ _ => rfl))) pa_nil))) (pa_cons (pe_op op_mod (pe_callTy call_intI (by rfl) (Fx.bt 1 _ rfl) boot_int (pa_cons (pv 2) pa_nil)) pe_int) pa_nil))) (pg_tup rfl (pgs_cons (pg_name (i := 8) sc__law_all.nd rfl (.inr rfl)) (pgs_cons (pg_name (i := 9) sc__law_all.nd rfl (.inr rfl)) pgs_nil)))) (pss_one (ps_for PassesOwn.never rfl (pi_list (pe_fn F__law_lots hr (pa_cons (pv 0) (pa_cons (pe_cmpR op_eq (pe_ix ix_tup (pv 8) pe_int (fun _ _ => rfl)) (pv 9) (nomark _)) pa_nil)))) (pg_name (i := 6) sc__law_all.nd rfl (.inr rfl)) (pss_one (ps_for PassesOwn.never rfl (pi_list (pe_lst (pa_cons pe_bl (pa_cons pe_bl pa_nil)))) (pg_name (i := 10) sc__law_all.nd rfl (.inr rfl)) (pss_one (ps_set (i := 3) sc__law_all.nd rfl (.inl rfl) (pe_op op_cat (pv 3) (pe_lc (own := [("_law_pair", 12)]) rfl sc__law_all.nd (pi_list (pv 4)) (blkOk_by (N := ["_law_link", "_law_new", "_law_number", "_law_found", "_law_wires", "_law_zeros", "_law_lot", "_law_ones", "_law_sender", "_law_own", "_law_done", "_law_nil", "_law_pair", "_law_one"]) (sc := defScope s__law_all) (by decide +kernel)) (fun _ _ _ _ _ => (pg_name (i := 12) sc__law_all.nd rfl (.inl rfl))) (fun _ _ _ _ _ => pts_nil) (fun _ _ _ _ _ => (pe_op (show OpR _ _ (rCatT K) from op_catT) (pe_tup (pa_cons (pv 8) (pa_cons (pe_tup (pa_cons (pv 9) (pa_cons (pv 6) (pa_cons (pv 10) pa_nil)))) pa_nil))) (pv 12))))))))))))) (pss_one (ps_ret (pv 3)))))), ?_⟩
  refine ⟨(by show 0 ≤ sizeLine; decide), fun p1 np1 => ?_⟩
  refine ⟨(by show 0 ≤ sizeLine; decide), fun p2 np2 => ?_⟩
  have hF0 : upd (upd H p1 (.lst [])) p2 (.lst []) p1 = some (.lst []) := (upd_ne (ne_of_none upd_same np2)).trans upd_same
  refine ⟨_, _, rfl, _, rfl, _, _, _, _, rfl, rfl, (by walk_at "sq"), rfl, _, _, rfl, rfl, _, rfl, (by omega), (by omega), ?_⟩
  refine for_range (lo := 0) (n := (L.c + 1).toNat) (fun i σ H' => ∃ W ws z1 z5 z7 z11 z13, σ = [some (.ref a), z1, none, some (.ref p1), some (.ref W), z5, none, z7, none, none, none, z11, none, z13] ∧ Same H H' ∧ H' p1 = some (.lst []) ∧ H' W = some (.lst ws) ∧ All2 (WiV K H') ws (fl i (wN L)))
    ⟨p2, [], none, none, none, none, none, rfl, (by walk_at "sm"), hF0, upd_same, .nil⟩ (fun i σ H' hi hp => ?_) (fun σ H' hp => ?_)
  · obtain ⟨W, ws, z1, z5, z7, z11, z13, rfl, e0, hF, hW, ha⟩ := hp
    have hi4 : i ≤ 4 := by omega
    refine ⟨_, rfl, _, _, _, _, rfl, rfl, (by walk_at "sq"), rfl, _, _, rfl, rfl, _, rfl, _, _, rfl, rfl, _, rfl, (by omega), (by omega), ?_⟩
    refine for_range (lo := 0) (n := (L.c + 1 - (0 + (i : Int))).toNat) (fun j σ H' => ∃ W ws z5 z7 z11 z13, σ = [some (.ref a), some (.int (0 + (i : Int))), none, some (.ref p1), some (.ref W), z5, none, z7, none, none, none, z11, none, z13] ∧ Same H H' ∧ H' p1 = some (.lst []) ∧ H' W = some (.lst ws) ∧ All2 (WiV K H') ws (fl i (wN L) ++ fl j (wZ L i)))
      ⟨W, ws, z5, z7, z11, z13, rfl, e0, hF, hW, by show All2 _ ws (fl i (wN L) ++ []); rw [List.append_nil]; exact ha⟩ (fun j σ H' hj hp => ?_) (fun σ H' hp => ?_)
    · obtain ⟨W, ws, z5, z7, z11, z13, rfl, e0, hF, hW, ha⟩ := hp
      have hj4 : j ≤ 4 := by omega
      refine ⟨_, rfl, _, _, _, _, rfl, rfl, (by walk_at "sq"), rfl, _, _, rfl, rfl, _, rfl, _, _, rfl, rfl, _, rfl, _, _, rfl, rfl, _, rfl, (by omega), (by omega), ?_⟩
      refine for_range (lo := 0) (n := (L.c + 1 - (0 + (i : Int)) - (0 + (j : Int))).toNat) (fun k σ H' => ∃ W ws z7 z11 z13, σ = [some (.ref a), some (.int (0 + (i : Int))), none, some (.ref p1), some (.ref W), some (.int (0 + (j : Int))), none, z7, none, none, none, z11, none, z13] ∧ Same H H' ∧ H' p1 = some (.lst []) ∧ H' W = some (.lst ws) ∧ All2 (WiV K H') ws (fl i (wN L) ++ fl j (wZ L i) ++ fl k (wO L i j)))
        ⟨W, ws, z7, z11, z13, rfl, e0, hF, hW, by show All2 _ ws (fl i (wN L) ++ fl j (wZ L i) ++ []); rw [List.append_nil]; exact ha⟩ (fun k σ H' hk hp => ?_) (fun σ H' hp => ?_)
      · obtain ⟨W, ws, z7, z11, z13, rfl, e0, hF, hW, ha⟩ := hp
        have hk4 : k ≤ 4 := by omega
        refine ⟨_, rfl, _, _, _, _, rfl, rfl, (by walk_at "sq"), rfl, _, _, rfl, rfl, _, rfl, (by omega), (by omega), ?_⟩
        refine for_range (lo := 0) (n := (L.d + 1).toNat) (fun l σ H' => ∃ W ws z11 z13, σ = [some (.ref a), some (.int (0 + (i : Int))), none, some (.ref p1), some (.ref W), some (.int (0 + (j : Int))), none, some (.int (0 + (k : Int))), none, none, none, z11, none, z13] ∧ Same H H' ∧ H' p1 = some (.lst []) ∧ H' W = some (.lst ws) ∧ All2 (WiV K H') ws (fl i (wN L) ++ fl j (wZ L i) ++ fl k (wO L i j) ++ fl l (wY L i j k)))
          ⟨W, ws, z11, z13, rfl, e0, hF, hW, by show All2 _ ws (fl i (wN L) ++ fl j (wZ L i) ++ fl k (wO L i j) ++ []); rw [List.append_nil]; exact ha⟩ (fun l σ H' hl4 hp => ?_) (fun σ H' hp => ?_)
        · obtain ⟨W, ws, z11, z13, rfl, e0, hF, hW, ha⟩ := hp
          have hl5 : l ≤ 4 := by omega
          refine ⟨_, rfl, _, rfl, _, _, _, _, rfl, rfl, (by walk_at "sq"), rfl, _, _, rfl, rfl, _, rfl, _, _, rfl, rfl, _, rfl, (by omega), (by omega), fun D nD => ?_⟩
          have hWD : W ≠ D := ne_of_none hW nD
          refine lc_range (lo := 0) (n := (L.d + 1 - (0 + (l : Int))).toNat) (g := gName 13) (tt := tYes) (te := tTup (tCons (tTup (tCons (tVar 1) (tCons (tVar 5) (tCons (tVar 7) tNil)))) (tCons (tTup (tCons (tVar 11) (tCons (tVar 13) tNil))) tNil))) (vs := [13])
            (fun m H2 => Same H' H2 ∧ ∃ os, H2 D = some (.lst os) ∧ All2 (WiV K H2) os (mpR m fun x => ⟨i, j, k, l, x⟩)) ⟨(by walk_at "sm"), [], upd_same, .nil⟩ (fun m H2 hm hP => ?_) (fun H2 hP => ?_)
          · obtain ⟨e2, os, hD, hb⟩ := hP
            refine ⟨rfl, ?_⟩
            dsimp only [tYes]
            refine iteT ?_
            refine ⟨_, rfl, _, rfl, _, rfl, (by show 3 ≤ sizeLine; decide), fun p3 np3 => ?_⟩
            refine ⟨_, rfl, _, rfl, (by show 2 ≤ sizeLine; decide), fun p4 np4 => ?_⟩
            refine ⟨(by show 2 ≤ sizeLine; decide), fun p5 np5 => ?_⟩
            generalize eT : upd (upd (upd H2 p3 _) p4 _) p5 _ = H3
            have s3 : Same H2 H3 := by rw [← eT]; exact same_up (same_up (same_new np3 _) np4) np5
            have w3 : WiV K H3 (.ref p5) ⟨i, j, k, l, m⟩ := by
              have q : WiV K H3 (.ref p5) ⟨0 + (i : Int), 0 + (j : Int), 0 + (k : Int), 0 + (l : Int), 0 + (m : Int)⟩ := ⟨p5, p3, p4, rfl, by rw [← eT]; exact SqT.of upd_same, by rw [← eT]; exact sqT_up np5 (sqT_up np4 (SqT.of upd_same)), by rw [← eT]; exact sqT_up np5 (SqT.of upd_same)⟩
              simpa only [Int.zero_add] using q
            have hD3 := s3 _ _ hD
            have hol := hb.length
            rw [mpR_len] at hol
            refine ⟨os, hD3, by rw [hol]; exact Nat.lt_of_lt_of_le (by omega : m < 4) (by decide), same_updN nD (e2.trans s3), os ++ [.ref p5], upd_same, ?_⟩
            rw [mpR_succ]
            exact (hb.mono fun v w h => (h.S s3).M (mg_set hD3)).append (.cons (w3.M (mg_set hD3)) .nil)
          · obtain ⟨e2, os, hD, hb⟩ := hP
            have hol := hb.length
            rw [mpR_len] at hol
            have hwl := ha.length
            simp only [List.length_append] at hwl
            have b1 := fl_len4 hi4 (wN_len hs)
            have b2 := fl_len4 hj4 (wZ_len hs i)
            have b3 := fl_len4 hk4 (wO_len hs (i : Int) (j : Int))
            have b4 := fl_len4 hl5 (wY_len hs (i : Int) (j : Int) (k : Int))
            refine ⟨_, _, _, _, rfl, rfl, e2 _ _ hW, hD, Nat.le_trans (by rw [hol]; omega : ws.length + os.length ≤ 2000) (by decide), fun p6 np6 => ?_⟩
            refine ⟨p6, ws ++ os, _, _, rfl, ((e0.trans e2).trans (same_new np6 _)), (upd_ne (ne_of_none (e2 _ _ hF) np6)).trans (e2 _ _ hF), upd_same, ?_⟩
            rw [fl_succ, ← List.append_assoc]
            refine (ha.mono fun v w h => (h.S e2).S (same_new np6 _)).append ?_
            unfold wY
            rw [Int.zero_add] at hb
            exact hb.mono fun v w h => h.S (same_new np6 _)
        · obtain ⟨W, ws, z11, z13, rfl, e0, hF, hW, ha⟩ := hp
          refine ⟨W, ws, _, z11, z13, rfl, e0, hF, hW, ?_⟩
          rw [fl_succ, ← List.append_assoc]
          exact ha
      · obtain ⟨W, ws, z7, z11, z13, rfl, e0, hF, hW, ha⟩ := hp
        refine ⟨W, ws, _, z7, z11, z13, rfl, e0, hF, hW, ?_⟩
        rw [Int.zero_add, Int.zero_add] at ha
        rw [fl_succ, ← List.append_assoc]
        exact ha
    · obtain ⟨W, ws, z5, z7, z11, z13, rfl, e0, hF, hW, ha⟩ := hp
      refine ⟨W, ws, _, z5, z7, z11, z13, rfl, e0, hF, hW, ?_⟩
      rw [Int.zero_add] at ha
      rw [fl_succ]
      exact ha
  · obtain ⟨W, wws, z1, z5, z7, z11, z13, rfl, e0, hF, hW, hwa⟩ := hp
    rw [← wiresC_fl] at hwa
    refine ⟨_, rfl, _, _, _, _, rfl, rfl, (by walk_at "sq"), rfl, _, _, rfl, rfl, (.inl ⟨by decide, by decide⟩), _, rfl, (by omega), (by omega), ?_⟩
    have hk0 : (4 * L.q).toNat ≤ 12 := by omega
    refine for_range (lo := 0) (n := (4 * L.q).toNat) (fun k σ H' => ∃ F fs z1 z2 z5 z6 z7 z8 z9 z10 z11 z12 z13, σ = [some (.ref a), z1, z2, some (.ref F), some (.ref W), z5, z6, z7, z8, z9, z10, z11, z12, z13] ∧ Same H H' ∧ H' W = some (.lst wws) ∧ All2 (WiV K H') wws (HM.wiresC L) ∧ H' F = some (.lst fs) ∧ All2 (CtV K H' L) fs (fl k (cK L)))
      ⟨p1, [], z1, none, z5, none, z7, none, none, none, z11, none, z13, rfl, e0, hW, hwa, hF, .nil⟩ (fun k σ H' hk hp => ?_) (fun σ H' hp => ?_)
    · obtain ⟨F, fs, z1, z2, z5, z6, z7, z8, z9, z10, z11, z12, z13, rfl, e0, hW, hwa, hF, hfa⟩ := hp
      rw [Int.zero_add]
      have lW := hwa.length
      have lW2 := wires_len hs
      have hk12 : k ≤ 12 := by omega
      have bF : (fl k (cK L)).length ≤ 12 * (5 * 2048) := Nat.le_trans (fl_len fun i _ => cK_len hs i) (Nat.mul_le_mul_right _ hk12)
      refine ⟨_, rfl, _, rfl, _, _, _, _, rfl, rfl, (by walk_at "sq"), rfl, _, _, rfl, rfl, (.inl ⟨by decide, by decide⟩), _, _, rfl, rfl, ⟨by omega, by omega⟩, _, rfl, _, _, rfl, rfl, ⟨by decide, by decide⟩, _, rfl, _, rfl, _, _, _, _, rfl, rfl, (by walk_at "sq"), rfl, _, _, rfl, rfl, (by show (0 : Int) < L.q; omega), (by show 2 ≤ sizeLine; decide), fun p6 np6 => ?_⟩
      refine ⟨_, rfl, _, rfl, _, _, rfl, rfl, (by show (0 : Int) < _; decide), (by show 2 ≤ sizeLine; decide), fun p7 np7 => ?_⟩
      refine ⟨_, _, rfl, (by walk_at "sq"), rfl, _, _, rfl, _, _, rfl, rfl, ?_⟩
      walk_at "nm"
      refine ⟨_, rfl, _, rfl, _, _, _, _, rfl, rfl, (by walk_at "sq"), rfl, _, rfl, rfl, _, _, _, rfl, ⟨(by walk_at "sq"), s5, s6⟩, fun p8 ls H8 e8 d8 lv8 => ?_⟩
      rw [int_eqv] at lv8
      have s8 : Same H' H8 := ((same_up (same_new np6 _) np7).trans e8)
      have hS8 : SqT K H8 p6 [.int ((k : Int) / (2 * L.q)), .int (((k : Int) / 2) % L.q)] := sqT_S e8 (sqT_up np7 (SqT.of upd_same))
      have hW8 := s8 _ _ hW
      have hF8 := s8 _ _ hF
      have hwa8 := hwa.mono fun v w h => WiV.S s8 h
      have hfa8 := hfa.mono fun v w h => CtV.S s8 h
      have lls := lv8.length
      have ell : (lotsL L (decide ((k : Int) / (2 * L.q) = (k : Int) % 2))).length = (HM.lotsIn L (decide ((k : Int) / (2 * L.q) = (k : Int) % 2))).toNat := by unfold lotsL HM.rng; rw [List.length_map, List.length_map, List.length_range]
      refine ⟨_, rfl, ⟨_, SqL.of d8⟩, ?_⟩
      refine for_list (K := K) (a := p8) (xs := ls) (fun l σ H' => ∃ F fs z6 z10 z12, σ = [some (.ref a), z1, some (.int (k : Int)), some (.ref F), some (.ref W), z5, z6, z7, some (.ref p6), some (.int ((k : Int) % 2)), z10, z11, z12, z13] ∧ Same H8 H' ∧ H' F = some (.lst fs) ∧ All2 (CtV K H' L) fs (fl k (cK L) ++ fl l (cL L k)))
        ⟨F, fs, z6, z10, z12, rfl, Same.refl _, hF8, by show All2 _ fs (fl k (cK L) ++ []); rw [List.append_nil]; exact hfa8⟩ (fun l σ H' hl hp => ?_) (fun l x σ H' hx hp => ?_) (fun σ H' hp => ?_)
      · obtain ⟨F, fs, z6, z10, z12, rfl, e1, hF1, hf1⟩ := hp
        exact SqL.of (e1 _ _ d8)
      · obtain ⟨F, fs, z6, z10, z12, rfl, e1, hF1, hf1⟩ := hp
        obtain ⟨lot, elot, hlot⟩ := lv8.at_ hx
        have hl5 : l < 5 := by
          have q1 := (List.getElem?_eq_some_iff.mp hx).1
          have q2 := lotsN hs (decide ((k : Int) / (2 * L.q) = (k : Int) % 2))
          omega
        have elot2 : lot = HM.lotOf L (decide ((k : Int) / (2 * L.q) = (k : Int) % 2)) l := lotsL_at elot
        subst elot2
        have bL : (fl l (cL L k)).length ≤ 5 * 2048 := Nat.le_trans (fl_len fun i _ => cL_len hs k i) (Nat.mul_le_mul_right _ (by omega))
        refine ⟨(by show 2 ≤ sizeLine; decide), fun p9 np9 => ?_⟩
        have s9 : Same H' (upd H' p9 (.lst [.bl false, .bl true])) := same_new np9 _
        refine ⟨_, rfl, ⟨_, SqL.of upd_same⟩, ?_⟩
        refine for_list (K := K) (a := p9) (xs := [.bl false, .bl true]) (fun d σ H2 => ∃ F fs z10 z12, σ = [some (.ref a), z1, some (.int (k : Int)), some (.ref F), some (.ref W), z5, some x, z7, some (.ref p6), some (.int ((k : Int) % 2)), z10, z11, z12, z13] ∧ Same (upd H' p9 (.lst [.bl false, .bl true])) H2 ∧ H2 F = some (.lst fs) ∧ All2 (CtV K H2 L) fs (fl k (cK L) ++ fl l (cL L k) ++ dnL L k l d))
          ⟨F, fs, z10, z12, rfl, Same.refl _, s9 _ _ hF1, by show All2 _ fs (_ ++ []); rw [List.append_nil]; exact hf1.mono fun v w h => CtV.S s9 h⟩ (fun d σ H2 hd hp => ?_) (fun d y σ H2 hy hp => ?_) (fun σ H2 hp => ?_)
        · obtain ⟨F, fs, z10, z12, rfl, e2, hF2, hf2⟩ := hp
          exact SqL.of (e2 _ _ upd_same)
        · obtain ⟨F, fs, z10, z12, rfl, e2, hF2, hf2⟩ := hp
          obtain ⟨bd, rfl, hdn⟩ : ∃ bd, y = .bl bd ∧ dnL L k l (d + 1) = dnL L k l d ++ cD L k l bd ∧ (dnL L k l d).length ≤ 1024 := dn_at hs hy
          have s2 : Same H8 H2 := (e1.trans s9).trans e2
          have hW2 := s2 _ _ hW8
          refine ⟨_, rfl, _, rfl, _, rfl, ⟨_, SqL.of hW2⟩, fun D nD => ?_⟩
          have sE : Same H2 (upd H2 D (.lst [])) := same_new nD _
          refine lc_list (K := K) (a := W) (xs := wws) (g := gName 12) (tt := tYes) (te := tOp (rCatT K) (tTup (tCons (tVar 8) (tCons (tTup (tCons (tVar 9) (tCons (tVar 6) (tCons (tVar 10) tNil)))) tNil))) (tVar 12)) (vs := [12])
            (fun m H3 => Same H2 H3 ∧ ∃ os, H3 D = some (.lst os) ∧ All2 (CtV K H3 L) os (((HM.wiresC L).take m).map fun w => ⟨(HM.hostsAt L k).1, (HM.hostsAt L k).2.1, (HM.hostsAt L k).2.2, l, bd, w.n, w.z, w.o, w.y, w.x⟩)) ⟨sE, [], upd_same, .nil⟩ (fun m H3 hm hP => SqL.of (hP.1 _ _ hW2)) (fun m v H3 hv hP => ?_) (fun H3 hP => ?_)
          · obtain ⟨e3, os, hD, hb⟩ := hP
            obtain ⟨w, ew, pp, t, b, rfl, g1, g2, g3⟩ := hwa8.at_ hv
            refine ⟨rfl, ?_⟩
            dsimp only [tYes]
            refine iteT ?_
            refine ⟨_, rfl, _, rfl, _, rfl, _, rfl, (by show 3 ≤ sizeLine; decide), fun p3 np3 => ?_⟩
            refine ⟨(by show 2 ≤ sizeLine; decide), fun p4 np4 => ?_⟩
            have s3 : Same H8 H3 := s2.trans e3
            refine ⟨_, rfl, _, _, _, _, rfl, rfl, SqT.of upd_same, sqT_up np4 (sqT_up np3 (sqT_S s3 g1)), (by simp), (by show 2 + 2 ≤ sizeLine; decide), fun z => absurd z (by simp), fun _ p5 np5 => ?_⟩
            generalize eT : upd (upd (upd H3 p3 _) p4 _) p5 _ = H4
            have s4 : Same H3 H4 := by rw [← eT]; exact same_up (same_up (same_new np3 _) np4) np5
            have s84 := s3.trans s4
            have c4 : CtV K H4 L (.ref p5) ⟨(HM.hostsAt L k).1, (HM.hostsAt L k).2.1, (HM.hostsAt L k).2.2, l, bd, w.n, w.z, w.o, w.y, w.x⟩ :=
              ⟨p5, rfl, ⟨⟨p6, p3, t, b, x, by rw [← eT]; exact SqT.of upd_same, sqT_S s84 hS8, by rw [← eT]; exact sqT_up np5 (sqT_up np4 (SqT.of upd_same)), hlot.S s84, sqT_S s84 g2, sqT_S s84 g3⟩⟩⟩
            have hD4 := s4 _ _ hD
            have hol := hb.length
            rw [List.length_map, List.length_take] at hol
            refine ⟨os, hD4, Nat.lt_of_le_of_lt (by omega : os.length ≤ 1024) (by decide), same_updN nD (e3.trans s4), os ++ [.ref p5], upd_same, ?_⟩
            rw [List.take_succ, ew, List.map_append]
            exact (hb.mono fun v w h => (CtV.S s4 h).M (mg_set hD4)).append (.cons (c4.M (mg_set hD4)) .nil)
          · obtain ⟨e3, os, hD, hb⟩ := hP
            rw [lW, List.take_length] at hb
            have hol := hb.length
            rw [List.length_map] at hol
            have hfl := hf2.length
            simp only [List.length_append] at hfl
            refine ⟨_, _, _, _, rfl, rfl, e3 _ _ hF2, hD, Nat.le_trans (by omega : fs.length + os.length ≤ 200000) (by decide), fun p6' np6' => ?_⟩
            refine ⟨p6', fs ++ os, _, _, rfl, ((e2.trans e3).trans (same_new np6' _)), upd_same, ?_⟩
            rw [hdn.1, ← List.append_assoc]
            exact (hf2.mono fun v w h => CtV.S (same_new np6' _) (CtV.S e3 h)).append (hb.mono fun v w h => CtV.S (same_new np6' _) h)
        · obtain ⟨F, fs, z10, z12, rfl, e2, hF2, hf2⟩ := hp
          refine ⟨F, fs, _, z10, z12, rfl, (e1.trans s9).trans e2, hF2, ?_⟩
          rw [fl_succ, ← List.append_assoc]
          exact hf2
      · obtain ⟨F, fs, z6, z10, z12, rfl, e1, hF1, hf1⟩ := hp
        refine ⟨F, fs, _, _, _, _, _, _, _, _, _, _, _, rfl, e0.trans (s8.trans e1), e1 _ _ hW8, hwa8.mono fun v w h => WiV.S e1 h, hF1, ?_⟩
        rw [fl_succ]
        have e : cK L k = fl ls.length (cL L k) := by rw [lls, ell]; rfl
        rw [e]
        exact hf1
    · obtain ⟨F, fs, z1, z2, z5, z6, z7, z8, z9, z10, z11, z12, z13, rfl, e0, hW, hwa, hF, hfa⟩ := hp
      refine ⟨_, rfl, ?_⟩
      rw [← allC_fl] at hfa
      exact q F fs H' e0 hF hfa
end
end HW
/-! part W21 -/
namespace HW
open PySem PySem.Spec PyProof.Rows L2 NdefX LamX
open HM (Lk Ct Lot)
local macro_rules | `(tactic| walk_at "ga") => `(tactic| first | with_reducible assumption | (with_reducible apply GenA.up; assumption; walk_at "ga") | (with_reducible apply GenA.S; assumption; walk_at "ga") | (with_reducible apply GenA.N; assumption; walk_at "ga"))
local macro_rules | `(tactic| walk_at "mg") => `(tactic| first | with_reducible assumption | (with_reducible apply Mg.refl; assumption) | (with_reducible apply Mg.up; assumption; walk_at "mg") | (with_reducible apply Mg.S; assumption; walk_at "mg") | (with_reducible apply mg_T; assumption; walk_at "mg"))
local macro_rules | `(tactic| walk_at "in") => `(tactic| first | assumption | (constructor <;> omega))
local macro_rules | `(tactic| walk_at "en") => `(tactic| first | with_reducible assumption | exact ExtN.refl _ | (with_reducible apply extN_up2; assumption; walk_at "en") | (with_reducible apply extN_S2; assumption; walk_at "en") | (with_reducible apply extN_N2; assumption; walk_at "en"))
local macro_rules | `(tactic| walk_at "tb") => `(tactic| first | with_reducible assumption | (with_reducible apply Tabs.up2; assumption; walk_at "tb") | (with_reducible apply Tabs.S2; assumption; walk_at "tb") | (with_reducible apply Tabs.M; assumption; walk_at "tb"))
local macro_rules | `(tactic| walk_at "nf") => `(tactic| dsimp only [L2.cxOf, L2.Cx.nox, NdefX.startF, NdefX.slotAt, L2.start, List.set, List.getElem?_cons_zero, List.getElem?_cons_succ, Option.join, Option.bind, List.length, List.replicate, List.map, HAppend.hAppend, Append.append, List.append, Nat.reduceAdd, Nat.reduceSub, Nat.zero_add])
local macro_rules | `(tactic| walk_at "nm") => `(tactic| dsimp only [L2.cxOf, L2.Cx.nox, L2.start, List.set, List.length, List.replicate, List.map, HAppend.hAppend, Append.append, List.append, Nat.reduceAdd, Nat.reduceSub, Nat.zero_add])
local macro_rules | `(tactic| walk_at "sq0") => `(tactic| first | assumption | exact SqT.of upd_same | (apply sqT_up; assumption; walk_at "sq0") | (apply sqT_S; assumption; walk_at "sq0") | (apply sqT_N; assumption; walk_at "sq0") | (apply sqT_M; assumption; walk_at "sq0"))
local macro_rules | `(tactic| walk_at "sq1") => `(tactic| first | assumption | exact SqT.of upd_same | (apply sqT_up; assumption; walk_at "sq1") | (apply sqT_S; assumption; walk_at "sq1") | (apply sqT_N; assumption; walk_at "sq1") | (apply sqT_M; assumption; walk_at "sq1"))
local macro_rules | `(tactic| walk_at "sq") => `(tactic| first | with_reducible walk_at "sq0" | walk_at "sq1")
local macro_rules | `(tactic| walk_at "sl0") => `(tactic| first | assumption | exact SqL.of upd_same | exact SqL.of (by assumption) | (apply sqL_up; assumption; walk_at "sl0") | (apply sqL_S; assumption; walk_at "sl0") | (apply sqL_N; assumption; walk_at "sl0") | (apply sqL_M; assumption; assumption; walk_at "sl0"))
local macro_rules | `(tactic| walk_at "sl1") => `(tactic| first | assumption | exact SqL.of upd_same | exact SqL.of (by assumption) | (apply sqL_up; assumption; walk_at "sl1") | (apply sqL_S; assumption; walk_at "sl1") | (apply sqL_N; assumption; walk_at "sl1") | (apply sqL_M; assumption; assumption; walk_at "sl1"))
local macro_rules | `(tactic| walk_at "sl") => `(tactic| first | with_reducible walk_at "sl0" | walk_at "sl1")
local macro_rules | `(tactic| walk_at "lt0") => `(tactic| first | assumption | (apply LotV.up; assumption; walk_at "lt0") | (apply LotV.S; assumption; walk_at "lt0") | (apply LotV.N; assumption; walk_at "lt0") | (apply LotV.M; assumption; walk_at "lt0"))
local macro_rules | `(tactic| walk_at "lt1") => `(tactic| first | assumption | (apply LotV.up; assumption; walk_at "lt1") | (apply LotV.S; assumption; walk_at "lt1") | (apply LotV.N; assumption; walk_at "lt1") | (apply LotV.M; assumption; walk_at "lt1"))
local macro_rules | `(tactic| walk_at "lt") => `(tactic| first | with_reducible walk_at "lt0" | walk_at "lt1")
local macro_rules | `(tactic| walk_at "ct0") => `(tactic| first | assumption | (apply CtA.up; assumption; walk_at "ct0") | (apply CtA.S; assumption; walk_at "ct0") | (apply CtA.N; assumption; walk_at "ct0") | (apply CtA.M; assumption; walk_at "ct0"))
local macro_rules | `(tactic| walk_at "ct1") => `(tactic| first | assumption | (apply CtA.up; assumption; walk_at "ct1") | (apply CtA.S; assumption; walk_at "ct1") | (apply CtA.N; assumption; walk_at "ct1") | (apply CtA.M; assumption; walk_at "ct1"))
local macro_rules | `(tactic| walk_at "ct") => `(tactic| first | with_reducible walk_at "ct0" | walk_at "ct1")
local macro_rules | `(tactic| walk_at "ho0") => `(tactic| first | assumption | (apply HoA.up; assumption; walk_at "ho0") | (apply HoA.S; assumption; walk_at "ho0") | (apply HoA.N; assumption; walk_at "ho0"))
local macro_rules | `(tactic| walk_at "ho1") => `(tactic| first | assumption | (apply HoA.up; assumption; walk_at "ho1") | (apply HoA.S; assumption; walk_at "ho1") | (apply HoA.N; assumption; walk_at "ho1"))
local macro_rules | `(tactic| walk_at "ho") => `(tactic| first | with_reducible walk_at "ho0" | walk_at "ho1")
local macro_rules | `(tactic| walk_at "sm0") => `(tactic| first | assumption | exact Same.refl _ | (refine same_up ?_ (by assumption); walk_at "sm0") | (refine Same.trans ?_ (by assumption); walk_at "sm0") | exact same_new (by assumption) _)
local macro_rules | `(tactic| walk_at "sm1") => `(tactic| first | assumption | exact Same.refl _ | (refine same_up ?_ (by assumption); walk_at "sm1") | (refine Same.trans ?_ (by assumption); walk_at "sm1") | exact same_new (by assumption) _)
local macro_rules | `(tactic| walk_at "sm") => `(tactic| first | with_reducible walk_at "sm0" | walk_at "sm1")
local macro_rules | `(tactic| walk_at "pre") => `(tactic| first | assumption | omega | decide)
section
variable {P : Program} {w : World} {K : PySem.W.Frag} {mg : Str → Option Value} {base : Heap}
local macro_rules | `(tactic| walk_at "mu") => `(tactic| first | with_reducible assumption | exact MuN.refl _ _ | (with_reducible apply MuN.up; assumption; walk_at "mu") | (with_reducible apply MuN.S; assumption; walk_at "mu") | (with_reducible apply MuN.N; assumption; walk_at "mu") | (with_reducible apply MuN.M; assumption; walk_at "mu"))
abbrev H4 (h : Int) : Prop := h = 0 ∨ h = 1 ∨ h = 2 ∨ h = 3
/-- the list of the contents of a harm -/
structure Du (K : PySem.W.Frag) (H : Hp) (L : Lk) (h : Int) (q : Addr) (ws : List V) (xs : List Ct) : Prop where
  at_ : H q = some (.lst ws)
  al : All2 (CtV K H L) ws (xs.filter fun z => decide (z.harm L = h))
section
variable {K : PySem.W.Frag} {H H' : Hp} {L : Lk} {h : Int} {q g p : Addr} {ws : List V} {xs : List Ct} {o : HO}
theorem CtV.N {v : V} {x : Ct} (e : ExtN H H') (h : CtV K H L v x) : CtV K H' L v x := h.imp fun p q => ⟨q.1, q.2.N e⟩
theorem Du.N (e : ExtN H H') (d : Du K H L h q ws xs) : Du K H' L h q ws xs := ⟨e _ _ d.at_ (fun ps z => by cases z), d.al.mono fun v x c => CtV.N e c⟩
theorem Du.S (e : Same H H') (d : Du K H L h q ws xs) : Du K H' L h q ws xs := d.N (Same.extN e)
theorem Du.up (np : H p = none) (d : Du K H L h q ws xs) : Du K (upd H p o) L h q ws xs := d.S (same_new np o)
theorem Du.M (m : Mg g H H') (ne : q ≠ g) (d : Du K H L h q ws xs) : Du K H' L h q ws xs := ⟨m.to _ _ ne d.at_, d.al.mono fun v x c => CtV.M m c⟩
theorem Du.len (hL : L.Ok) (hb : HM.listB L = true) (h4 : H4 h) (d : Du K H L h q ws (HM.allC L)) : (ws.length : Int) = HM.counted L h := by
  rw [d.al.length]; exact (HM.due_at hL hb h4).2
theorem Du.get (hL : L.Ok) (hb : HM.listB L = true) (h4 : H4 h) (d : Du K H L h q ws (HM.allC L)) {i : Int} (i0 : 0 ≤ i) (i1 : i < HM.counted L h) : ∃ p y, atI ws i = some (.ref p) ∧ CtA K H L p y ∧ y.Ok L ∧ y.harm L = h ∧ HM.numIn L h y = i := by
  have hl := d.len hL hb h4
  have hd := (HM.due_at hL hb h4)
  have hlt : i.toNat < (HM.dueC L h).length := by have := hd.2; omega
  obtain ⟨v, hv, p, rfl, hc⟩ := d.al.atR (List.getElem?_eq_getElem hlt)
  obtain ⟨a1, a2, a3⟩ := hd.1 _ _ (List.getElem?_eq_getElem hlt)
  refine ⟨p, _, ?_, hc, a1, a2, by rw [a3]; omega⟩
  unfold atI ixN
  rw [if_pos i0, if_pos (by omega)]
  exact hv
end
/-- what stands while the lists are gone through -/
structure Fc (K : PySem.W.Frag) (H0 H : Hp) (L : Lk) (g : Addr) (n : Int) (pl la : Addr) (qs : Int → Addr) (xs : List Ct) : Prop where
  lk : LkA K H pl L
  ga : GenA H g n
  tb : Tabs (lamT K) H
  mu : MuN g H0 H
  la_ : H la = some (.lst [.ref (qs 0), .ref (qs 1), .ref (qs 2), .ref (qs 3)])
  ex : ∀ h, H4 h → ∃ ws, Du K H L h (qs h) ws xs
/-- the lists' addresses -/
structure Qs (qs : Int → Addr) (a0 g0 : Addr) : Prop where
  inj : ∀ a b, H4 a → H4 b → qs a = qs b → a = b
  la : ∀ a, H4 a → qs a ≠ a0
  g : ∀ a, H4 a → qs a ≠ g0
  lg : a0 ≠ g0
section
variable {K : PySem.W.Frag} {H0 H H' : Hp} {L : Lk} {g pl la p : Addr} {n n' : Int} {qs : Int → Addr} {xs : List Ct} {o : HO}
theorem Fc.N (e : ExtN H H') (T : Tabs (lamT K) H') (f : Fc K H0 H L g n pl la qs xs) : Fc K H0 H' L g n pl la qs xs :=
  ⟨sqT_N e f.lk, f.ga.N e, T, MuN.N e f.mu, e _ _ f.la_ (fun ps z => by cases z), fun h h4 => (f.ex h h4).imp fun ws d => d.N e⟩
theorem Fc.S (e : Same H H') (f : Fc K H0 H L g n pl la qs xs) : Fc K H0 H' L g n pl la qs xs := f.N (Same.extN e) (Tabs.S f.tb e)
theorem Fc.M (Q : Qs qs la g) (m : Mg g H H') (a : GenA H' g n') (f : Fc K H0 H L g n pl la qs xs) : Fc K H0 H' L g n' pl la qs xs :=
  ⟨sqT_M m f.lk, a, Tabs.M m f.tb, MuN.M m f.mu, m.to _ _ Q.lg f.la_, fun h h4 => (f.ex h h4).imp fun ws d => d.M m (Q.g h h4)⟩
theorem at_qs {a : Int} (h : H4 a) : atI [V.ref (qs 0), V.ref (qs 1), V.ref (qs 2), V.ref (qs 3)] a = some (V.ref (qs a)) := by
  rcases h with rfl | rfl | rfl | rfl <;> rfl
/-- a content more -/
theorem Fc.app (Q : Qs qs la g) (f : Fc K H0 H L g n pl la qs xs) {v : V} {x : Ct} {ws : List V} (hc : CtV K H L v x) (hw : Du K H L (x.harm L) (qs (x.harm L)) ws xs) (nq : H0 (qs (x.harm L)) = none) :
    Fc K H0 (upd H (qs (x.harm L)) (.lst (ws ++ [v]))) L g n pl la qs (xs ++ [x]) := by
  have h4 := HM.harm_range (L := L) x
  have m := mg_set (o := HO.lst (ws ++ [v])) hw.at_
  refine ⟨sqT_M m f.lk, f.ga.to (Q.g _ h4), Tabs.M m f.tb, fun b o ne e t => (upd_ne (ne_of_none e nq)).trans (f.mu b o ne e t), (upd_ne (Ne.symm (Q.la _ h4))).trans f.la_, fun h hh => ?_⟩
  by_cases e : h = x.harm L
  · subst e
    refine ⟨ws ++ [v], upd_same, ?_⟩
    rw [List.filter_append, List.filter_cons, if_pos (by simp), List.filter_nil]
    exact (hw.al.mono fun v x c => CtV.M m c).append (.cons (CtV.M m hc) .nil)
  · obtain ⟨us, d⟩ := f.ex h hh
    have ne : qs h ≠ qs (x.harm L) := fun z => e (Q.inj _ _ hh h4 z)
    refine ⟨us, (upd_ne ne).trans d.at_, ?_⟩
    rw [List.filter_append, List.filter_cons, if_neg (by rw [decide_eq_true_eq]; exact fun z => e z.symm), List.filter_nil, List.append_nil]
    exact d.al.mono fun v x c => CtV.M m c
end
theorem link_at {K : PySem.W.Frag} {H : Hp} {p1 p2 p3 p4 p5 p6 p7 : Addr} {r : Int} (h0 : 0 ≤ r) (h1 : r < 7) (l1 : LkA K H p1 ⟨1, 1, 1, 1⟩) (l2 : LkA K H p2 ⟨1, 1, 1, 2⟩) (l3 : LkA K H p3 ⟨1, 1, 2, 1⟩) (l4 : LkA K H p4 ⟨1, 2, 1, 2⟩)
    (l5 : LkA K H p5 ⟨1, 1, 1, 3⟩) (l6 : LkA K H p6 ⟨1, 1, 2, 2⟩) (l7 : LkA K H p7 ⟨1, 1, 3, 1⟩) : ∃ p L, atI [V.ref p1, V.ref p2, V.ref p3, V.ref p4, V.ref p5, V.ref p6, V.ref p7] r = some (V.ref p) ∧ L ∈ HM.smallL ∧ LkA K H p L := by
  rcases (by omega : r = 0 ∨ r = 1 ∨ r = 2 ∨ r = 3 ∨ r = 4 ∨ r = 5 ∨ r = 6) with rfl | rfl | rfl | rfl | rfl | rfl | rfl
  · exact ⟨p1, _, rfl, by simp [HM.smallL], l1⟩
  · exact ⟨p2, _, rfl, by simp [HM.smallL], l2⟩
  · exact ⟨p3, _, rfl, by simp [HM.smallL], l3⟩
  · exact ⟨p4, _, rfl, by simp [HM.smallL], l4⟩
  · exact ⟨p5, _, rfl, by simp [HM.smallL], l5⟩
  · exact ⟨p6, _, rfl, by simp [HM.smallL], l6⟩
  · exact ⟨p7, _, rfl, by simp [HM.smallL], l7⟩
theorem small_sm {L : Lk} (h : L ∈ HM.smallL) : SmL L := by
  simp only [HM.smallL, List.mem_cons, List.not_mem_nil, or_false] at h
  rcases h with rfl | rfl | rfl | rfl | rfl | rfl | rfl <;> exact ⟨by decide, by decide, by decide, by decide, by decide, by decide, by decide, by decide⟩
theorem small_b {L : Lk} (h : L ∈ HM.smallL) : HM.listB L = true := List.all_eq_true.mp HM.small_list L h
theorem all_ne {L : Lk} (h : HM.listB L = true) : HM.allC L ≠ [] := fun z => by unfold HM.listB at h; rw [z] at h; cases h
/-- a lot of the four lists' addresses -/
def qsOf (a b c d : Addr) (h : Int) : Addr := if h = 0 then a else if h = 1 then b else if h = 2 then c else d
theorem int_bd {n m : Int} (h0 : 0 ≤ n) (h1 : n ≤ m) (h : HM.Bd 1306 m) : HM.Bd 1900 n := by
  have e : n.natAbs < 2 ^ 1306 := Nat.lt_of_le_of_lt (by omega) h
  exact Nat.lt_of_lt_of_le e (Nat.pow_le_pow_right (by decide) (by decide))
theorem sc__law_small_right : FnScope ["_law_generator_here", "_law_link", "_law_lists", "_law_here_here", "_law_many", "_law_due", "_law_turn", "_law_at", "_law_later"] ["_law_generator_here"] (defScope s__law_small_right) := ⟨rfl, rfl, rfl, by decide +kernel, rfl, by decide +kernel, by decide +kernel⟩
theorem ok__law_small_right (Fx : Facts K mg) (TB : Tb K mg base) : FnR P w K mg base 10 "_law_small_right" ["_law_generator_here"] (sp_gr K) := by
  have F__law_random := ok__law_random (P := P) (w := w) (base := base) Fx
  have F__law_all := ok__law_all (P := P) (w := w) (base := base) Fx
  have F__law_harm := ok__law_harm (P := P) (w := w) (base := base) Fx
  have F_number_of_its_harm := ok_number_of_its_harm (P := P) (w := w) (base := base) Fx
  have F_of_harm_numbered := ok_of_harm_numbered (P := P) (w := w) (base := base) Fx TB
  have F_next_of_harm := ok_next_of_harm (P := P) (w := w) (base := base) Fx TB
  refine fnr_mk Fx 69 (st := s__law_small_right) rfl sc__law_small_right (fun _ _ _ _ _ _ us hl => match us, hl with | [_], _ => rfl) (fun vs H Q E h => ?_) (fun f cdv A outer s H vs Q E hr hg h => ?_)
  · obtain ⟨g, n, rfl, _⟩ := h
    rfl
  obtain ⟨g, n, rfl, ⟨hG, hn, hT⟩, q⟩ := h
  refine ⟨_, (pss_cons (ps_set (i := 1) sc__law_small_right.nd rfl (.inl rfl) (pe_ix ix_list (pe_lst (pa_cons (pe_tup (pa_cons pe_int (pa_cons pe_int (pa_cons pe_int (pa_cons pe_int pa_nil))))) (pa_cons (pe_tup (pa_cons pe_int (pa_cons pe_int (pa_cons pe_int (pa_cons pe_int pa_nil))))) (pa_cons (pe_tup (pa_cons pe_int (pa_cons pe_int (pa_cons pe_int (pa_cons pe_int pa_nil))))) (pa_cons (pe_tup (pa_cons pe_int (pa_cons pe_int (pa_cons pe_int (pa_cons pe_int pa_nil))))) (pa_cons (pe_tup (pa_cons pe_int (pa_cons pe_int (pa_cons pe_int (pa_cons pe_int pa_nil))))) (pa_cons (pe_tup (pa_cons pe_int (pa_cons pe_int (pa_cons pe_int (pa_cons pe_int pa_nil))))) (pa_cons (pe_tup (pa_cons pe_int (pa_cons pe_int (pa_cons pe_int (pa_cons pe_int pa_nil))))) pa_nil)))))))) (pe_fn F__law_random hr (pa_cons (pv 0) (pa_cons pe_int pa_nil))) (fun _ _ => rfl))) (pss_cons (ps_set (i := 2) sc__law_small_right.nd rfl (.inl rfl) (pe_lst (pa_cons (pe_lst pa_nil) (pa_cons (pe_lst pa_nil) (pa_cons (pe_lst pa_nil) (pa_cons (pe_lst pa_nil) pa_nil)))))) (pss_cons (ps_for PassesOwn.never rfl (pi_list (pe_fn F__law_all hr (pa_cons (pv 1) pa_nil))) (pg_name (i := 3) sc__law_small_right.nd rfl (.inl rfl)) (pss_one (ps_expr (pe_bm PySem.F.plainAttrs_list PySem.F.slot_list_append PySem.F.type_list_append mt_append (pe_ix ix_list (pv 2) (pe_fn F__law_harm hr (pa_cons (pv 1) (pa_cons (pv 3) pa_nil))) (fun _ _ => rfl)) (pa_cons (pv 3) pa_nil))))) (pss_cons (ps_for PassesOwn.never rfl (pi_range1 (by rfl) (Fx.bt 7 _ rfl) (pa_cons pe_int pa_nil)) (pg_name (i := 4) sc__law_small_right.nd rfl (.inl rfl)) (pss_cons (ps_set (i := 5) sc__law_small_right.nd rfl (.inl rfl) (pe_ix ix_list (pv 2) (pv 4) (fun _ _ => rfl))) (pss_cons (ps_for PassesOwn.never rfl (pi_range1 (by rfl) (Fx.bt 7 _ rfl) (pa_cons pe_int pa_nil)) (pg_name (i := 6) sc__law_small_right.nd rfl (.inl rfl)) (pss_cons (ps_set (i := 7) sc__law_small_right.nd rfl (.inl rfl) (pe_ix ix_list (pe_lst (pa_cons pe_int (pa_cons (pe_op op_sub (pe_callB call_len_seq (by rfl) (Fx.bt 5 _ rfl) boot_len (pa_cons (pv 5) pa_nil)) pe_int) (pa_cons (pe_fn F__law_random hr (pa_cons (pv 0) (pa_cons (pe_callB call_len_seq (by rfl) (Fx.bt 5 _ rfl) boot_len (pa_cons (pv 5) pa_nil)) pa_nil))) pa_nil)))) (pe_callB (call_min2 rfl) (by rfl) (Fx.bt 8 _ rfl) boot_min (pa_cons (pv 6) (pa_cons pe_int pa_nil))) (fun _ _ => rfl))) (pss_cons (ps_if (PW.pt (pw_or (pt_cmpR op_ne (pe_callB (call_reprD hg hr.units) (by rfl) (Fx.bt 10 _ rfl) boot_repr (pa_cons (pe_fn F_of_harm_numbered hr (pa_cons (pv 1) (pa_cons (pv 4) (pa_cons (pv 7) pa_nil)))) pa_nil)) (pe_callB (call_reprD hg hr.units) (by rfl) (Fx.bt 10 _ rfl) boot_repr (pa_cons (pe_ix ix_list (pv 5) (pv 7) (fun _ _ => rfl)) pa_nil)) (nomark _)) (pw_or1 (pt_cmpR op_ne (pe_callB (call_reprD hg hr.units) (by rfl) (Fx.bt 10 _ rfl) boot_repr (pa_cons (pe_fn F_number_of_its_harm hr (pa_cons (pv 1) (pa_cons (pe_ix ix_list (pv 5) (pv 7) (fun _ _ => rfl)) pa_nil))) pa_nil)) (pe_callB (call_reprD hg hr.units) (by rfl) (Fx.bt 10 _ rfl) boot_repr (pa_cons (pv 7) pa_nil)) (nomark _))))) (pss_one (ps_ret pe_bl)) pss_nil) (pss_cons (ps_set (i := 8) sc__law_small_right.nd rfl (.inl rfl) (pe_ifExp (pt_cmpR op_lt (pe_op op_add (pv 7) pe_int) (pe_callB call_len_seq (by rfl) (Fx.bt 5 _ rfl) boot_len (pa_cons (pv 5) pa_nil)) (nomark _)) (pe_ix ix_list (pv 5) (pe_op op_add (pv 7) pe_int) (fun _ _ => rfl)) pe_non)) (pss_one (ps_if (pt_cmpR op_ne (pe_callB (call_reprD hg hr.units) (by rfl) (Fx.bt 10 _ rfl) boot_repr (pa_cons (pe_fn F_next_of_harm hr (pa_cons (pv 1) (pa_cons (pe_ix ix_list (pv 5) (pv 7) (fun _ _ => rfl)) pa_nil))) pa_nil)) (pe_callB (call_reprD hg hr.units) (by rfl) (Fx.bt 10 _ rfl) boot_repr (pa_cons (pv 8) pa_nil)) (nomark _)) (pss_one (ps_ret pe_bl)) pss_nil)))))) (pss_one (ps_if (pt_cmpR op_notN (pe_fn F_of_harm_numbered hr (pa_cons (pv 1) (pa_cons (pv 4) (pa_cons (pe_callB call_len_seq (by rfl) (Fx.bt 5 _ rfl) boot_len (pa_cons (pv 5) pa_nil)) pa_nil)))) pe_non (nomark _)) (pss_one (ps_ret pe_bl)) pss_nil))))) (pss_one (ps_ret pe_bl)))))), ?_⟩
  refine ⟨(by show 4 ≤ sizeLine; decide), fun p1 np1 => ?_⟩
  refine ⟨(by show 4 ≤ sizeLine; decide), fun p2 np2 => ?_⟩
  refine ⟨(by show 4 ≤ sizeLine; decide), fun p3 np3 => ?_⟩
  refine ⟨(by show 4 ≤ sizeLine; decide), fun p4 np4 => ?_⟩
  refine ⟨(by show 4 ≤ sizeLine; decide), fun p5 np5 => ?_⟩
  refine ⟨(by show 4 ≤ sizeLine; decide), fun p6 np6 => ?_⟩
  refine ⟨(by show 4 ≤ sizeLine; decide), fun p7 np7 => ?_⟩
  refine ⟨(by show 7 ≤ sizeLine; decide), fun p8 np8 => ?_⟩
  have ng8 : p8 ≠ g := ne_g (by walk_at "ga") np8
  refine ⟨_, rfl, _, _, _, rfl, ⟨(by walk_at "ga"), by omega, by decide, bd_of (by decide) (by decide)⟩, fun r9 H9 b9 t9 m9 a9 => ?_⟩
  obtain ⟨pl, L, hat, hmem, hl9⟩ := link_at (K := K) (H := H9) b9 t9 (by walk_at "sq") (by walk_at "sq") (by walk_at "sq") (by walk_at "sq") (by walk_at "sq") (by walk_at "sq") (by walk_at "sq")
  have hL := HM.small_ok L hmem
  have hs := small_sm hmem
  have hb := small_b hmem
  have hne := all_ne hb
  have T9 : Tabs (lamT K) H9 := (by walk_at "tb")
  have M9 : Mg g H H9 := (by walk_at "mg")
  have u9 : MuN g H H9 := MuN.M M9 (MuN.refl _ _)
  refine ⟨_, _, _, _, rfl, rfl, sqL_M m9 ng8 (SqL.of upd_same), hat, (by show 0 ≤ sizeLine; decide), fun p10 np10 => ?_⟩
  refine ⟨(by show 0 ≤ sizeLine; decide), fun p11 np11 => ?_⟩
  refine ⟨(by show 0 ≤ sizeLine; decide), fun p12 np12 => ?_⟩
  refine ⟨(by show 0 ≤ sizeLine; decide), fun p13 np13 => ?_⟩
  refine ⟨(by show 4 ≤ sizeLine; decide), fun p14 np14 => ?_⟩
  generalize eH : upd (upd (upd (upd (upd H9 p10 (.lst [])) p11 (.lst [])) p12 (.lst [])) p13 (.lst [])) p14 _ = H14
  have g10 : p10 ≠ g := ne_g a9 np10
  have g11 : p11 ≠ g := ne_g (a9.up np10) np11
  have g12 : p12 ≠ g := ne_g ((a9.up np10).up np11) np12
  have g13 : p13 ≠ g := ne_g (((a9.up np10).up np11).up np12) np13
  have g14 : p14 ≠ g := ne_g ((((a9.up np10).up np11).up np12).up np13) np14
  have n01 : p10 ≠ p11 := ne_of_none upd_same np11
  have x10a := (upd_ne (o := HO.lst []) (n01)).trans (upd_same (H := H9) (a := p10) (o := HO.lst []))
  have n02 : p10 ≠ p12 := ne_of_none x10a np12
  have n12 : p11 ≠ p12 := ne_of_none upd_same np12
  have x10b := (upd_ne (o := HO.lst []) n02).trans x10a
  have x11b := (upd_ne (o := HO.lst []) n12).trans (upd_same (H := upd H9 p10 (.lst [])) (a := p11) (o := HO.lst []))
  have n03 : p10 ≠ p13 := ne_of_none x10b np13
  have n13 : p11 ≠ p13 := ne_of_none x11b np13
  have n23 : p12 ≠ p13 := ne_of_none upd_same np13
  have x10c := (upd_ne (o := HO.lst []) n03).trans x10b
  have x11c := (upd_ne (o := HO.lst []) n13).trans x11b
  have x12c := (upd_ne (o := HO.lst []) n23).trans (upd_same (H := upd (upd H9 p10 (.lst [])) p11 (.lst [])) (a := p12) (o := HO.lst []))
  have n04 : p10 ≠ p14 := ne_of_none x10c np14
  have n14 : p11 ≠ p14 := ne_of_none x11c np14
  have n24 : p12 ≠ p14 := ne_of_none x12c np14
  have n34 : p13 ≠ p14 := ne_of_none upd_same np14
  have s14 : Same H9 H14 := by rw [← eH]; exact same_up (same_up (same_up (same_up (same_new np10 _) np11) np12) np13) np14
  have l14 : H14 p14 = some (.lst [.ref p10, .ref p11, .ref p12, .ref p13]) := by rw [← eH]; exact upd_same
  have e10 : H14 p10 = some (.lst []) := by rw [← eH]; exact (upd_ne n04).trans x10c
  have e11 : H14 p11 = some (.lst []) := by rw [← eH]; exact (upd_ne n14).trans x11c
  have e12 : H14 p12 = some (.lst []) := by rw [← eH]; exact (upd_ne n24).trans x12c
  have e13 : H14 p13 = some (.lst []) := by rw [← eH]; exact (upd_ne n34).trans upd_same
  have z10 : H9 p10 = none := np10
  have z11 : H9 p11 = none := (upd_ne (Ne.symm n01)).symm.trans np11
  have z12 : H9 p12 = none := (upd_ne (Ne.symm n02)).symm.trans ((upd_ne (Ne.symm n12)).symm.trans np12)
  have z13 : H9 p13 = none := (upd_ne (Ne.symm n03)).symm.trans ((upd_ne (Ne.symm n13)).symm.trans ((upd_ne (Ne.symm n23)).symm.trans np13))
  obtain ⟨qs, hq0, hq1, hq2, hq3⟩ : ∃ qs : Int → Addr, qs 0 = p10 ∧ qs 1 = p11 ∧ qs 2 = p12 ∧ qs 3 = p13 := ⟨qsOf p10 p11 p12 p13, rfl, rfl, rfl, rfl⟩
  subst hq0 hq1 hq2 hq3
  have Q : Qs qs p14 g := by
    refine ⟨fun a b ha hb e => ?_, fun a ha => ?_, fun a ha => ?_, g14⟩
    · rcases ha with rfl | rfl | rfl | rfl <;> rcases hb with rfl | rfl | rfl | rfl <;> first | rfl | exact absurd e (by assumption) | exact absurd e.symm (by assumption)
    · rcases ha with rfl | rfl | rfl | rfl <;> assumption
    · rcases ha with rfl | rfl | rfl | rfl <;> assumption
  have nq : ∀ a, H4 a → H (qs a) = none := fun a ha => by
    refine Mg.none M9 ?_ (Q.g a ha)
    rcases ha with rfl | rfl | rfl | rfl <;> assumption
  have F14 : Fc K H H14 L g (n + 100) pl p14 qs [] := ⟨sqT_S s14 hl9, a9.S s14, Tabs.S T9 s14, MuN.S s14 u9, l14, fun a ha => by
    rcases ha with rfl | rfl | rfl | rfl
    · exact ⟨[], e10, .nil⟩
    · exact ⟨[], e11, .nil⟩
    · exact ⟨[], e12, .nil⟩
    · exact ⟨[], e13, .nil⟩⟩
  walk_at "nm"
  refine ⟨_, rfl, _, _, rfl, ⟨F14.lk, hs⟩, fun pa wa H15 e15 da al => ?_⟩
  have F15 := F14.S e15
  have pan : ∀ a, H4 a → pa ≠ qs a := fun a ha z => by
    obtain ⟨ws, d⟩ := F14.ex a ha
    have w0 := d.al.length
    have w1 := e15 _ _ d.at_
    rw [← z, da] at w1
    have w2 := HO.lst.inj (Option.some.inj w1)
    have w3 := al.length
    rw [w2, w0] at w3
    exact hne (List.length_eq_zero_iff.mp w3.symm)
  refine ⟨_, rfl, ⟨_, SqL.of da⟩, ?_⟩
  refine for_list (K := K) (a := pa) (xs := wa) (fun i σ H' => ∃ z3 z4 z5 z6 z7 z8, σ = [some (.ref g), some (.ref pl), some (.ref p14), z3, z4, z5, z6, z7, z8] ∧ H' pa = some (.lst wa) ∧ All2 (CtV K H' L) wa (HM.allC L) ∧ Fc K H H' L g (n + 100) pl p14 qs ((HM.allC L).take i))
    ⟨_, _, _, _, _, _, rfl, da, al, F15⟩ (fun i σ H' hi hp => ?_) (fun i v σ H' hv hp => ?_) (fun σ H' hp => ?_)
  · obtain ⟨z3, z4, z5, z6, z7, z8, rfl, ha, hal, F⟩ := hp
    exact SqL.of ha
  · obtain ⟨z3, z4, z5, z6, z7, z8, rfl, ha, hal, F⟩ := hp
    obtain ⟨x, ex, pc, rfl, hc⟩ := hal.at_ hv
    have hX : x.Ok L := by
      have hmx := List.mem_of_getElem? ex
      have hh := HM.harm_range (L := L) x
      have hd : x ∈ HM.dueC L (x.harm L) := List.mem_filter.mpr ⟨hmx, by simp⟩
      obtain ⟨j, hj⟩ := List.getElem?_of_mem hd
      exact ((HM.due_at hL hb hh).1 j x hj).1
    have h4 := HM.harm_range (L := L) x
    refine ⟨_, rfl, _, rfl, _, rfl, _, _, _, _, rfl, ⟨F.lk, hc, hX⟩, fun H16 e16 => ?_⟩
    have F16 := F.S e16
    obtain ⟨ws, dw⟩ := F16.ex _ h4
    have hwl : ws.length < sizeLine := by
      rw [dw.al.length]
      refine Nat.lt_of_le_of_lt (List.length_filter_le _ _) ?_
      rw [List.length_take]
      have b1 : (HM.allC L).length ≤ 12 * (5 * 2048) := by rw [allC_fl]; exact Nat.le_trans (fl_len fun i _ => cK_len hs i) (Nat.mul_le_mul_right _ (by have := hs.q1; omega))
      exact Nat.lt_of_le_of_lt (by omega : min i (HM.allC L).length ≤ 122880) (by decide)
    refine ⟨_, _, _, _, rfl, rfl, SqL.of F16.la_, at_qs h4, (.inl ⟨rfl, _, SqL.of dw.at_⟩), _, rfl, _, _, _, rfl, rfl, dw.at_, hwl, ?_⟩
    have F17 := F16.app Q ⟨pc, rfl, hc.S e16⟩ dw (nq _ h4)
    have m := mg_set (o := HO.lst (ws ++ [.ref pc])) dw.at_
    refine ⟨_, _, _, _, _, _, rfl, (upd_ne (pan _ h4)).trans (e16 _ _ ha), hal.mono fun v x c => CtV.M m (CtV.S e16 c), ?_⟩
    rw [List.take_succ, ex]
    exact F17
  · obtain ⟨z3, z4, z5, z6, z7, z8, rfl, ha, hal, F⟩ := hp
    rw [hal.length, List.take_length] at F
    clear F14 F15 al
    refine ⟨_, rfl, (by decide), (by decide), ?_⟩
    refine for_range (lo := 0) (n := (4 : Int).toNat) (fun i σ H' => ∃ z3 z4 z5 z6 z7 z8, σ = [some (.ref g), some (.ref pl), some (.ref p14), z3, z4, z5, z6, z7, z8] ∧ Fc K H H' L g (n + 100 + 700 * (i : Int)) pl p14 qs (HM.allC L))
      ⟨_, _, _, _, _, _, rfl, by simpa using F⟩ (fun i σ H' hi hp => ?_) (fun σ H' hp => ?_)
    · obtain ⟨z3, z4, z5, z6, z7, z8, rfl, F⟩ := hp
      rw [Int.zero_add]
      have h4 : H4 (i : Int) := by have : i < 4 := hi; show _ = _ ∨ _; omega
      obtain ⟨ws, d0⟩ := F.ex _ h4
      have hlen := d0.len hL hb h4
      have cp := HM.counted_pos hL h4
      have cb := counted_bd hL (i : Int)
      refine ⟨_, rfl, _, rfl, _, _, _, _, rfl, rfl, SqL.of F.la_, at_qs h4, _, rfl, (by decide), (by decide), ?_⟩
      refine for_range (lo := 0) (n := (6 : Int).toNat) (fun j σ H' => ∃ z6 z7 z8, σ = [some (.ref g), some (.ref pl), some (.ref p14), z3, some (.int (i : Int)), some (.ref (qs i)), z6, z7, z8] ∧ Fc K H H' L g (n + 100 + 700 * (i : Int) + 100 * (j : Int)) pl p14 qs (HM.allC L) ∧ Du K H' L i (qs i) ws (HM.allC L))
        ⟨_, _, _, rfl, by simpa using F, d0⟩ (fun j σ H' hj hp => ?_) (fun σ H' hp => ?_)
      · obtain ⟨z6, z7, z8, rfl, F, d0⟩ := hp
        refine ⟨_, rfl, _, _, rfl, (.inl (SqL.of d0.at_)), _, _, rfl, rfl, _, rfl, _, rfl, _, _, rfl, (.inl (SqL.of d0.at_)), _, _, _, rfl, ⟨F.ga, by omega, by omega, by rw [hlen]; exact cb.mono (by decide)⟩, fun r17 H17 b17 t17 m17 a17 => ?_⟩
        have F17 := F.M Q m17 a17
        have d17 := d0.M m17 (Q.g _ h4)
        refine ⟨(by show 3 ≤ sizeLine; decide), fun p18 np18 => ?_⟩
        obtain ⟨at1, hat1, k0, k1⟩ := at3i (a := 0) (b := (ws.length : Int) - 1) (c := r17) (i := if 2 < (0 + (j : Int)) then 2 else (0 + (j : Int))) (m := HM.counted L i - 1) (by split <;> omega) (by split <;> omega) ⟨by omega, by omega⟩ ⟨by omega, by omega⟩ ⟨b17, by omega⟩
        have F18 := F17.S (same_new np18 (.lst [.int 0, .int ((ws.length : Int) - 1), .int r17]))
        have d18 := d17.S (same_new np18 (.lst [.int 0, .int ((ws.length : Int) - 1), .int r17]))
        refine ⟨_, rfl, _, _, rfl, _, _, _, _, rfl, rfl, SqL.of upd_same, hat1, ?_⟩
        walk_at "nm"
        refine ⟨_, rfl, _, rfl, _, rfl, _, _, _, _, rfl, ⟨F18.lk, F18.tb, hL, h4, k0⟩, fun v19 H19 e19 T19 n19 => ?_⟩
        have F19 := F18.N e19 T19
        have d19 := d18.N e19
        obtain ⟨py, y, hat, hcy, Y, fy, ky⟩ := d19.get hL hb h4 k0 (by omega)
        obtain ⟨dd, dp, ds, df⟩ := n19.dpD hL h4
        refine ⟨_, _, rfl, dp, ds.h, _, rfl, _, rfl, _, _, _, _, rfl, rfl, SqL.of d19.at_, hat, _, _, rfl, df _ _ (.at_ Y fy ky hcy), ds.h, rfl, _, rfl, ?_⟩
        refine ite2 (fun c => absurd c ne_strs) (fun c => ?_)
        refine ⟨_, rfl, _, rfl, _, rfl, _, _, _, _, rfl, rfl, SqL.of d19.at_, hat, _, _, _, _, rfl, ⟨F19.lk, hcy, hL, Y⟩, fun H20 e20 => ?_⟩
        have F20 := F19.S e20
        have d20 := d19.S e20
        have hcy20 := hcy.S e20
        have isho := int_sho (int_bd k0 (by omega) cb)
        rw [fy, ky]
        refine ⟨_, _, rfl, .int _, isho.h, _, rfl, _, _, rfl, .int _, isho.h, rfl, _, rfl, ?_⟩
        refine ite2 (fun c => absurd c ne_strs) (fun c => ?_)
        refine ⟨_, rfl, _, _, rfl, rfl, _, rfl, _, _, rfl, (.inl (SqL.of d20.at_)), _, _, rfl, rfl, _, rfl, ?_⟩
        refine ite2 (fun c3 => ?_) (fun c3 => ?_)
        · replace c3 := dT c3
          obtain ⟨pz, z, hatz, hcz, Z, fz, kz⟩ := d20.get hL hb h4 (i := at1 + 1) (by omega) (by omega)
          have nl : NumV K H20 L i (at1 + 1) (.ref pz) := .at_ Z fz kz hcz
          refine ⟨_, rfl, _, rfl, _, _, rfl, rfl, _, _, _, _, rfl, rfl, SqL.of d20.at_, hatz, ?_⟩
          walk_at "nm"
          refine ⟨_, rfl, _, rfl, _, rfl, _, _, _, _, rfl, rfl, SqL.of d20.at_, hat, _, _, _, _, rfl, ⟨F20.lk, hcy20, hL, Y, F20.tb⟩, fun v22 H22 e22 T22 n22 => ?_⟩
          rw [fy, ky] at n22
          obtain ⟨dd, dp, ds, df⟩ := n22.dpD hL h4
          refine ⟨_, _, rfl, dp, ds.h, _, rfl, _, _, rfl, df _ _ (nl.N e22), ds.h, rfl, _, rfl, ?_⟩
          refine ite2 (fun c => absurd c ne_strs) (fun c => ?_)
          have F22 := F20.N e22 T22
          exact ⟨_, _, _, rfl, ⟨F22.lk, F22.ga.le (by omega), F22.tb, F22.mu, F22.la_, F22.ex⟩, d20.N e22⟩
        · replace c3 := dF c3
          have nl : NumV K H20 L i (at1 + 1) .non := .no (by omega)
          walk_at "nm"
          refine ⟨_, rfl, _, rfl, _, rfl, _, _, _, _, rfl, rfl, SqL.of d20.at_, hat, _, _, _, _, rfl, ⟨F20.lk, hcy20, hL, Y, F20.tb⟩, fun v22 H22 e22 T22 n22 => ?_⟩
          rw [fy, ky] at n22
          obtain ⟨dd, dp, ds, df⟩ := n22.dpD hL h4
          refine ⟨_, _, rfl, dp, ds.h, _, rfl, _, _, rfl, df _ _ (nl.N e22), ds.h, rfl, _, rfl, ?_⟩
          refine ite2 (fun c => absurd c ne_strs) (fun c => ?_)
          have F22 := F20.N e22 T22
          exact ⟨_, _, _, rfl, ⟨F22.lk, F22.ga.le (by omega), F22.tb, F22.mu, F22.la_, F22.ex⟩, d20.N e22⟩
      · obtain ⟨z6, z7, z8, rfl, F, d0⟩ := hp
        refine ⟨_, rfl, _, rfl, _, rfl, _, _, rfl, (.inl (SqL.of d0.at_)), _, _, _, _, rfl, ⟨F.lk, F.tb, hL, h4, by omega⟩, fun v23 H23 e23 T23 n23 => ?_⟩
        obtain rfl := n23.none hL h4 (by omega)
        refine ⟨rfl, _, rfl, ?_⟩
        refine iteF ?_
        have F23 := F.N e23 T23
        exact ⟨_, _, _, _, _, _, rfl, ⟨F23.lk, F23.ga.le (by omega), F23.tb, F23.mu, F23.la_, F23.ex⟩⟩
    · obtain ⟨z3, z4, z5, z6, z7, z8, rfl, F⟩ := hp
      exact q _ F.mu F.tb
end
end HW
/-! part W22 -/
namespace HW
open PySem PySem.Spec PyProof.Rows L2 NdefX LamX
open HM (Lk Ct Lot)
local macro_rules | `(tactic| walk_at "ga") => `(tactic| first | with_reducible assumption | (with_reducible apply GenA.up; assumption; walk_at "ga") | (with_reducible apply GenA.S; assumption; walk_at "ga") | (with_reducible apply GenA.N; assumption; walk_at "ga"))
local macro_rules | `(tactic| walk_at "mg") => `(tactic| first | with_reducible assumption | (with_reducible apply Mg.refl; assumption) | (with_reducible apply Mg.up; assumption; walk_at "mg") | (with_reducible apply Mg.S; assumption; walk_at "mg") | (with_reducible apply mg_T; assumption; walk_at "mg"))
local macro_rules | `(tactic| walk_at "in") => `(tactic| first | assumption | (constructor <;> omega))
local macro_rules | `(tactic| walk_at "en") => `(tactic| first | with_reducible assumption | exact ExtN.refl _ | (with_reducible apply extN_up2; assumption; walk_at "en") | (with_reducible apply extN_S2; assumption; walk_at "en") | (with_reducible apply extN_N2; assumption; walk_at "en"))
local macro_rules | `(tactic| walk_at "tb") => `(tactic| first | with_reducible assumption | (with_reducible apply Tabs.up2; assumption; walk_at "tb") | (with_reducible apply Tabs.S2; assumption; walk_at "tb") | (with_reducible apply Tabs.M; assumption; walk_at "tb"))
local macro_rules | `(tactic| walk_at "nf") => `(tactic| dsimp only [L2.cxOf, L2.Cx.nox, NdefX.startF, NdefX.slotAt, L2.start, List.set, List.getElem?_cons_zero, List.getElem?_cons_succ, Option.join, Option.bind, List.length, List.replicate, List.map, HAppend.hAppend, Append.append, List.append, Nat.reduceAdd, Nat.reduceSub, Nat.zero_add])
local macro_rules | `(tactic| walk_at "nm") => `(tactic| dsimp only [L2.cxOf, L2.Cx.nox, L2.start, List.set, List.length, List.replicate, List.map, HAppend.hAppend, Append.append, List.append, Nat.reduceAdd, Nat.reduceSub, Nat.zero_add])
local macro_rules | `(tactic| walk_at "sq0") => `(tactic| first | assumption | exact SqT.of upd_same | (apply sqT_up; assumption; walk_at "sq0") | (apply sqT_S; assumption; walk_at "sq0") | (apply sqT_N; assumption; walk_at "sq0") | (apply sqT_M; assumption; walk_at "sq0"))
local macro_rules | `(tactic| walk_at "sq1") => `(tactic| first | assumption | exact SqT.of upd_same | (apply sqT_up; assumption; walk_at "sq1") | (apply sqT_S; assumption; walk_at "sq1") | (apply sqT_N; assumption; walk_at "sq1") | (apply sqT_M; assumption; walk_at "sq1"))
local macro_rules | `(tactic| walk_at "sq") => `(tactic| first | with_reducible walk_at "sq0" | walk_at "sq1")
local macro_rules | `(tactic| walk_at "sl0") => `(tactic| first | assumption | exact SqL.of upd_same | exact SqL.of (by assumption) | (apply sqL_up; assumption; walk_at "sl0") | (apply sqL_S; assumption; walk_at "sl0") | (apply sqL_N; assumption; walk_at "sl0") | (apply sqL_M; assumption; assumption; walk_at "sl0"))
local macro_rules | `(tactic| walk_at "sl1") => `(tactic| first | assumption | exact SqL.of upd_same | exact SqL.of (by assumption) | (apply sqL_up; assumption; walk_at "sl1") | (apply sqL_S; assumption; walk_at "sl1") | (apply sqL_N; assumption; walk_at "sl1") | (apply sqL_M; assumption; assumption; walk_at "sl1"))
local macro_rules | `(tactic| walk_at "sl") => `(tactic| first | with_reducible walk_at "sl0" | walk_at "sl1")
local macro_rules | `(tactic| walk_at "lt0") => `(tactic| first | assumption | (apply LotV.up; assumption; walk_at "lt0") | (apply LotV.S; assumption; walk_at "lt0") | (apply LotV.N; assumption; walk_at "lt0") | (apply LotV.M; assumption; walk_at "lt0"))
local macro_rules | `(tactic| walk_at "lt1") => `(tactic| first | assumption | (apply LotV.up; assumption; walk_at "lt1") | (apply LotV.S; assumption; walk_at "lt1") | (apply LotV.N; assumption; walk_at "lt1") | (apply LotV.M; assumption; walk_at "lt1"))
local macro_rules | `(tactic| walk_at "lt") => `(tactic| first | with_reducible walk_at "lt0" | walk_at "lt1")
local macro_rules | `(tactic| walk_at "ct0") => `(tactic| first | assumption | (apply CtA.up; assumption; walk_at "ct0") | (apply CtA.S; assumption; walk_at "ct0") | (apply CtA.N; assumption; walk_at "ct0") | (apply CtA.M; assumption; walk_at "ct0"))
local macro_rules | `(tactic| walk_at "ct1") => `(tactic| first | assumption | (apply CtA.up; assumption; walk_at "ct1") | (apply CtA.S; assumption; walk_at "ct1") | (apply CtA.N; assumption; walk_at "ct1") | (apply CtA.M; assumption; walk_at "ct1"))
local macro_rules | `(tactic| walk_at "ct") => `(tactic| first | with_reducible walk_at "ct0" | walk_at "ct1")
local macro_rules | `(tactic| walk_at "ho0") => `(tactic| first | assumption | (apply HoA.up; assumption; walk_at "ho0") | (apply HoA.S; assumption; walk_at "ho0") | (apply HoA.N; assumption; walk_at "ho0"))
local macro_rules | `(tactic| walk_at "ho1") => `(tactic| first | assumption | (apply HoA.up; assumption; walk_at "ho1") | (apply HoA.S; assumption; walk_at "ho1") | (apply HoA.N; assumption; walk_at "ho1"))
local macro_rules | `(tactic| walk_at "ho") => `(tactic| first | with_reducible walk_at "ho0" | walk_at "ho1")
local macro_rules | `(tactic| walk_at "sm0") => `(tactic| first | assumption | exact Same.refl _ | (refine same_up ?_ (by assumption); walk_at "sm0") | (refine Same.trans ?_ (by assumption); walk_at "sm0") | exact same_new (by assumption) _)
local macro_rules | `(tactic| walk_at "sm1") => `(tactic| first | assumption | exact Same.refl _ | (refine same_up ?_ (by assumption); walk_at "sm1") | (refine Same.trans ?_ (by assumption); walk_at "sm1") | exact same_new (by assumption) _)
local macro_rules | `(tactic| walk_at "sm") => `(tactic| first | with_reducible walk_at "sm0" | walk_at "sm1")
local macro_rules | `(tactic| walk_at "pre") => `(tactic| first | assumption | omega | decide)
section
variable {P : Program} {w : World} {K : PySem.W.Frag} {mg : Str → Option Value} {base : Heap}
def L22 : Lk := ⟨2, 2, 2, 2⟩
def ctA0 : Ct := ⟨0, 0, 0, 0, false, 0, 0, 2, 2, 0⟩
def ctA4 : Ct := ⟨0, 0, 0, 1, false, 1, 0, 1, 2, 0⟩
def ctAz : Ct := ⟨1, 1, 1, 1, false, 1, 1, 0, 1, 1⟩
theorem ok22 : L22.Ok := ⟨by decide, by decide, by decide, by decide, by decide, by decide⟩
theorem ok0 : ctA0.Ok L22 := ⟨by decide, by decide, by decide, by decide, by decide, by decide, by decide, by decide, by decide, by decide, by decide, by decide, by decide⟩
theorem ok4 : ctA4.Ok L22 := ⟨by decide, by decide, by decide, by decide, by decide, by decide, by decide, by decide, by decide, by decide, by decide, by decide, by decide⟩
theorem okz : ctAz.Ok L22 := ⟨by decide, by decide, by decide, by decide, by decide, by decide, by decide, by decide, by decide, by decide, by decide, by decide, by decide⟩
theorem nums : ctA0.harm L22 = 3 ∧ HM.numIn L22 3 ctA0 = 0 ∧ ctA4.harm L22 = 3 ∧ HM.numIn L22 3 ctA4 = 4 ∧ ctAz.harm L22 = 3 ∧ HM.numIn L22 3 ctAz = 39 ∧ HM.counted L22 3 = 40 := by decide +kernel
def toldD : PyData := .list [ctD L22 ctA0, ctD L22 ctA4, .none, .int 39, .none]
theorem told_sho : Sho toldD := ⟨by decide +kernel, by decide +kernel, by decide +kernel, by decide +kernel⟩
def sp_law (K : PySem.W.Frag) : Sp := fun vs H Q _ => ∃ (a : Addr) (ns : List Int), vs = [.ref a] ∧ (SqL K H a (ns.map V.int) ∧ Tabs (lamT K) H) ∧ ∀ H', Q (.bl true) H'
theorem sqL_mu {K : PySem.W.Frag} {H H1 H2 : Hp} {a g : Addr} {xs : List V} (h : SqL K H a xs) (f : H g = none) (e : Same H H1) (u : MuN g H1 H2) : SqL K H2 a xs := by
  rcases h with (h | ⟨ob, h⟩) | h
  · exact .inl (.inl (u _ _ (fun z => by rw [z, f] at h; cases h) (e _ _ h) fun ps z => by cases z))
  · exact .inl (.inr ⟨ob, u _ _ (fun z => by rw [z, f] at h; cases h) (e _ _ h) fun ps z => by cases z⟩)
  · exact .inr h
theorem NumV.one {K : PySem.W.Frag} {L : Lk} {h k : Int} {v : V} {H : Hp} {x : Ct} (hL : L.Ok) (h4 : h = 0 ∨ h = 1 ∨ h = 2 ∨ h = 3) (n : NumV K H L h k v) (X : x.Ok L) (e1 : x.harm L = h) (e2 : HM.numIn L h x = k) : Dp K H v (ctD L x) := by
  have lt : k < HM.counted L h := by
    have q := (HM.num_in hL X h4).2
    rw [decide_eq_true e1] at q
    have : HM.b2 true = 1 := rfl
    omega
  obtain ⟨p, y, rfl, Y, fy, ky, hy⟩ := n.get lt
  obtain rfl := HM.num_inj hL Y X h4 fy e1 (ky.trans e2.symm)
  exact hy.dp
mutual
theorem Dp.N {K : PySem.W.Frag} {H H' : Hp} (e : ExtN H H') : ∀ (d : PyData) (v : V), Dp K H v d → Dp K H' v d
  | .none, _, h => by cases h; exact .non
  | .bool b, _, h => by cases h; exact .bl b
  | .int i, _, h => by cases h; exact .int i
  | .str x, _, h => by cases h; exact .str x
  | .list ds, _, h => by
    cases h with
    | lst hs ha => exact .lst (sqL_N e hs) (DpAll.N e ds _ ha)
  | .tuple ds, _, h => by
    cases h with
    | tup hs ha => exact .tup (sqT_N e hs) (DpAll.N e ds _ ha)
  | .dict _, _, h => by cases h
theorem DpAll.N {K : PySem.W.Frag} {H H' : Hp} (e : ExtN H H') : ∀ (ds : List PyData) (vs : List V), DpAll K H vs ds → DpAll K H' vs ds
  | [], _, h => by cases h; exact .nil
  | d :: ds, _, h => by
    cases h with
    | cons a b => exact .cons (Dp.N e d _ a) (DpAll.N e ds _ b)
end
theorem dpN {K : PySem.W.Frag} {H H' : Hp} {v : V} {d : PyData} (h : Dp K H v d) (e : ExtN H H') : Dp K H' v d := Dp.N e d v h
theorem fngD_mk {k : Nat} {sp : Sp} {x : Str} {st : Stmt} {N ps : List Str} {fd : FuncData} (F : FunD K x x (defArgs st) (defBody st) (defScope st) [] [] (He.ga K x) fd) (S : FnScope N ps (defScope st))
    (len : ∀ vs H Q E, sp vs H Q E → vs.length = ps.length)
    (body : ∀ (f : Addr) (cdv : Value) (A : Around) (outer : List Env) (s : Shared) (H : Hp) (vs : List V) (Q : VK) (E : XK), Room k (A.deeper (envOfC x (defScope st) s.heap.objs.size f cdv)) → (A.deeper (envOfC x (defScope st) s.heap.objs.size f cdv)).guards = some [] → sp vs H Q E →
      ∃ t, PSs (cxOf L2.CX0 P w K mg base N x (defScope st) f cdv A outer s H E).nox (defBody st) t ∧ t { nx := fun _ H' => Q .non H', rt := Q } (L2.start N vs) H) : FnG P w K mg base (k + 1) (He.ga K x) fd ps sp :=
  fng_of F S len fun cdv A outer s H vs Q E hr hg h => by
    obtain ⟨t, h1, h2⟩ := body _ cdv A outer s H vs Q E hr hg h
    exact ⟨t, h1.nox, h2⟩
theorem sc_law : FnScope ["_law_script", "_law_index", "_law_told", "_law_two", "_law_last"] ["_law_script"] (defScope s_law) := ⟨rfl, rfl, rfl, by decide +kernel, rfl, by decide +kernel, by decide +kernel⟩
theorem ok_law {fd : FuncData} (Fx : Facts K mg) (TB : Tb K mg base) (F : FunD K "law" "law" (defArgs s_law) (defBody s_law) (defScope s_law) [] [] (He.ga K "law") fd) : FnG P w K mg base 11 (He.ga K "law") fd ["_law_script"] (sp_law K) := by
  have F__law_small_right := ok__law_small_right (P := P) (w := w) (base := base) Fx TB
  have F__law_generator := ok__law_generator (P := P) (w := w) (base := base) Fx
  have F__law_great_right := ok__law_great_right (P := P) (w := w) (base := base) Fx TB
  have F_of_harm_numbered := ok_of_harm_numbered (P := P) (w := w) (base := base) Fx TB
  have F_number_of_its_harm := ok_number_of_its_harm (P := P) (w := w) (base := base) Fx
  have F_next_of_harm := ok_next_of_harm (P := P) (w := w) (base := base) Fx TB
  refine fngD_mk F sc_law (fun vs H Q E h => ?_) (fun f cdv A outer s H vs Q E hr hg h => ?_)
  · obtain ⟨a, ns, rfl, _⟩ := h
    rfl
  obtain ⟨a, ns, rfl, ⟨hS, hT⟩, q⟩ := h
  obtain ⟨h0, k0, h4, k4, hz, kz, hc⟩ := nums
  refine ⟨_, (pss_cons (ps_if (pt_not (pt_val (pe_fng F__law_small_right hr hg (pa_cons (pe_fn F__law_generator hr (pa_cons (pv 0) (pa_cons pe_int pa_nil))) pa_nil)))) (pss_one (ps_ret pe_bl)) pss_nil) (pss_cons (ps_for PassesOwn.never rfl (pi_range2 (by rfl) (Fx.bt 7 _ rfl) (pa_cons pe_int (pa_cons pe_int pa_nil))) (pg_name (i := 1) sc_law.nd rfl (.inl rfl)) (pss_one (ps_if (pt_not (pt_val (pe_fng F__law_great_right hr hg (pa_cons (pe_fn F__law_generator hr (pa_cons (pv 0) (pa_cons (pv 1) pa_nil))) pa_nil)))) (pss_one (ps_ret pe_bl)) pss_nil))) (pss_cons (ps_asg (pe_tup (pa_cons (pe_tup (pa_cons pe_int (pa_cons pe_int (pa_cons pe_int (pa_cons pe_int pa_nil))))) (pa_cons (pe_tup (pa_cons (pe_tup (pa_cons pe_int (pa_cons pe_int pa_nil))) (pa_cons (pe_tup (pa_cons pe_int (pa_cons (pe_tup (pa_cons pe_str (pa_cons pe_int pa_nil))) (pa_cons pe_bl pa_nil)))) (pa_cons (pe_tup (pa_cons pe_int (pa_cons pe_int (pa_cons pe_int pa_nil)))) (pa_cons (pe_tup (pa_cons pe_int (pa_cons pe_int pa_nil))) pa_nil))))) pa_nil))) (pg_tup rfl (pgs_cons (pg_name (i := 3) sc_law.nd rfl (.inl rfl)) (pgs_cons (pg_name (i := 4) sc_law.nd rfl (.inl rfl)) pgs_nil)))) (pss_cons (ps_set (i := 2) sc_law.nd rfl (.inl rfl) (pe_lst (pa_cons (pe_fn F_of_harm_numbered hr (pa_cons (pv 3) (pa_cons pe_int (pa_cons pe_int pa_nil)))) (pa_cons (pe_fn F_of_harm_numbered hr (pa_cons (pv 3) (pa_cons pe_int (pa_cons pe_int pa_nil)))) (pa_cons (pe_fn F_of_harm_numbered hr (pa_cons (pv 3) (pa_cons pe_int (pa_cons pe_int pa_nil)))) (pa_cons (pe_fn F_number_of_its_harm hr (pa_cons (pv 3) (pa_cons (pv 4) pa_nil))) (pa_cons (pe_fn F_next_of_harm hr (pa_cons (pv 3) (pa_cons (pv 4) pa_nil))) pa_nil))))))) (pss_one (ps_ret (pe_cmpR op_eq (pe_callB (call_reprD hg hr.units) (by rfl) (Fx.bt 10 _ rfl) boot_repr (pa_cons (pv 2) pa_nil)) (pe_callB (call_reprD hg hr.units) (by rfl) (Fx.bt 10 _ rfl) boot_repr (pa_cons (pe_lst (pa_cons (pe_tup (pa_cons (pe_tup (pa_cons pe_int (pa_cons pe_int pa_nil))) (pa_cons (pe_tup (pa_cons pe_int (pa_cons pe_non (pa_cons pe_bl pa_nil)))) (pa_cons (pe_tup (pa_cons pe_int (pa_cons pe_int (pa_cons pe_int pa_nil)))) (pa_cons (pe_tup (pa_cons pe_int (pa_cons pe_int pa_nil))) pa_nil))))) (pa_cons (pe_tup (pa_cons (pe_tup (pa_cons pe_int (pa_cons pe_int pa_nil))) (pa_cons (pe_tup (pa_cons pe_int (pa_cons (pe_tup (pa_cons pe_str (pa_cons pe_int pa_nil))) (pa_cons pe_bl pa_nil)))) (pa_cons (pe_tup (pa_cons pe_int (pa_cons pe_int (pa_cons pe_int pa_nil)))) (pa_cons (pe_tup (pa_cons pe_int (pa_cons pe_int pa_nil))) pa_nil))))) (pa_cons pe_non (pa_cons pe_int (pa_cons pe_non pa_nil)))))) pa_nil)) (nomark _)))))))), ?_⟩
  refine ⟨_, rfl, _, _, _, rfl, ⟨hS, by decide, by decide⟩, fun g1 H1 e1 f1 a1 => ?_⟩
  refine ⟨_, _, rfl, ⟨a1, by decide, Tabs.S hT e1⟩, fun H2 u2 T2 => ?_⟩
  refine ⟨_, rfl, ?_⟩
  refine iteF ?_
  refine ⟨_, _, rfl, ⟨by decide, by decide, by decide, by decide⟩, ?_⟩
  refine for_range (lo := 1) (n := ((5 : Int) - 1).toNat) (fun i σ H' => ∃ z1 z2 z3 z4, σ = [some (.ref a), z1, z2, z3, z4] ∧ SqL K H' a (ns.map V.int) ∧ Tabs (lamT K) H') ⟨_, _, _, _, rfl, sqL_mu hS f1 e1 u2, T2⟩ (fun i σ H' hi hp => ?_) (fun σ H' hp => ?_)
  · obtain ⟨z1, z2, z3, z4, rfl, hS, hT⟩ := hp
    have hi4 : i < 4 := hi
    refine ⟨_, rfl, _, rfl, _, _, _, rfl, ⟨hS, by omega, by omega⟩, fun g3 H3 e3 f3 a3 => ?_⟩
    refine ⟨_, _, rfl, ⟨a3, by decide, Tabs.S hT e3⟩, fun H4 u4 T4 => ?_⟩
    refine ⟨_, rfl, ?_⟩
    refine iteF ?_
    exact ⟨_, _, _, _, rfl, sqL_mu hS f3 e3 u4, T4⟩
  · obtain ⟨z1, z2, z3, z4, rfl, hS, hT⟩ := hp
    refine ⟨(by show 4 ≤ sizeLine; decide), fun p5 np5 => ?_⟩
    refine ⟨(by show 2 ≤ sizeLine; decide), fun p6 np6 => ?_⟩
    refine ⟨(by show 2 ≤ sizeLine; decide), fun p7 np7 => ?_⟩
    refine ⟨(by show 3 ≤ sizeLine; decide), fun p8 np8 => ?_⟩
    refine ⟨(by show 3 ≤ sizeLine; decide), fun p9 np9 => ?_⟩
    refine ⟨(by show 2 ≤ sizeLine; decide), fun p10 np10 => ?_⟩
    refine ⟨(by show 4 ≤ sizeLine; decide), fun p11 np11 => ?_⟩
    refine ⟨(by show 2 ≤ sizeLine; decide), fun pt npt => ?_⟩
    refine ⟨_, _, rfl, SqT.of upd_same, rfl, _, _, rfl, _, _, rfl, rfl, ?_⟩
    generalize eH : upd (upd (upd (upd (upd (upd (upd (upd H' p5 _) p6 _) p7 _) p8 _) p9 _) p10 _) p11 _) pt _ = H11
    have hT11 : Tabs (lamT K) H11 := by rw [← eH]; exact (by walk_at "tb")
    have hl11 : LkA K H11 p5 L22 := by rw [← eH]; exact (by walk_at "sq")
    have hz11 : CtA K H11 L22 p11 ctAz := by
      rw [← eH]
      exact ⟨⟨p6, p8, p9, p10, .ref p7, by walk_at "sq", by walk_at "sq", by walk_at "sq", .old (by walk_at "sq"), by walk_at "sq", by walk_at "sq"⟩⟩
    walk_at "nm"
    refine ⟨_, rfl, _, _, _, _, rfl, ⟨hl11, hT11, ok22, by decide, by decide⟩, fun v12 H12 e12 T12 n12 => ?_⟩
    refine ⟨_, rfl, _, _, _, _, rfl, ⟨sqT_N e12 hl11, T12, ok22, by decide, by decide⟩, fun v13 H13 e13 T13 n13 => ?_⟩
    have x13 := e12.trans e13
    refine ⟨_, rfl, _, _, _, _, rfl, ⟨sqT_N x13 hl11, T13, ok22, by decide, by decide⟩, fun v14 H14 e14 T14 n14 => ?_⟩
    have x14 := x13.trans e14
    obtain rfl := n14.none ok22 (by decide) (by rw [hc]; decide)
    refine ⟨_, rfl, _, rfl, _, _, _, _, rfl, ⟨sqT_N x14 hl11, hz11.N x14, ok22, okz⟩, fun H15 e15 => ?_⟩
    rw [hz, kz]
    have x15 := x14.trans (Same.extN e15)
    refine ⟨_, rfl, _, rfl, _, _, _, _, rfl, ⟨sqT_N x15 hl11, hz11.N x15, ok22, okz, Tabs.S T14 e15⟩, fun v16 H16 e16 T16 n16 => ?_⟩
    rw [hz, kz] at n16
    obtain rfl := n16.none ok22 (by decide) (by rw [hc]; decide)
    have d0 := dpN (n12.one ok22 (by decide) ok0 h0 k0) (((e13.trans e14).trans (Same.extN e15)).trans e16)
    have d4 := dpN (n13.one ok22 (by decide) ok4 h4 k4) ((e14.trans (Same.extN e15)).trans e16)
    refine ⟨(by show 5 ≤ sizeLine; decide), fun p17 np17 => ?_⟩
    have s17 := Same.extN (same_new np17 (.lst [v12, v13, .non, .int 39, .non]))
    have td : Dp K (upd H16 p17 (.lst [v12, v13, .non, .int 39, .non])) (.ref p17) toldD := .lst (SqL.of upd_same) (.cons (dpN d0 s17) (.cons (dpN d4 s17) (.cons .non (.cons (.int _) (.cons .non .nil)))))
    refine ⟨_, rfl, _, toldD, rfl, td, told_sho.h, (by show 2 ≤ sizeLine; decide), fun p18 np18 => ?_⟩
    refine ⟨(by show 3 ≤ sizeLine; decide), fun p19 np19 => ?_⟩
    refine ⟨(by show 3 ≤ sizeLine; decide), fun p20 np20 => ?_⟩
    refine ⟨(by show 2 ≤ sizeLine; decide), fun p21 np21 => ?_⟩
    refine ⟨(by show 4 ≤ sizeLine; decide), fun p22 np22 => ?_⟩
    refine ⟨(by show 2 ≤ sizeLine; decide), fun p23 np23 => ?_⟩
    refine ⟨(by show 2 ≤ sizeLine; decide), fun p24 np24 => ?_⟩
    refine ⟨(by show 3 ≤ sizeLine; decide), fun p25 np25 => ?_⟩
    refine ⟨(by show 3 ≤ sizeLine; decide), fun p26 np26 => ?_⟩
    refine ⟨(by show 2 ≤ sizeLine; decide), fun p27 np27 => ?_⟩
    refine ⟨(by show 4 ≤ sizeLine; decide), fun p28 np28 => ?_⟩
    refine ⟨(by show 5 ≤ sizeLine; decide), fun p29 np29 => ?_⟩
    refine ⟨_, toldD, rfl, .lst (SqL.of upd_same) (.cons (CtA.dp ⟨⟨p18, p19, p20, p21, .non, by walk_at "sq", by walk_at "sq", by walk_at "sq", .no, by walk_at "sq", by walk_at "sq"⟩⟩) (.cons (CtA.dp ⟨⟨p23, p25, p26, p27, .ref p24, by walk_at "sq", by walk_at "sq", by walk_at "sq", .old (by walk_at "sq"), by walk_at "sq", by walk_at "sq"⟩⟩) (.cons .non (.cons (.int _) (.cons .non .nil))))), told_sho.h, rfl, ?_⟩
    exact str_same (Q := Q) (q _)
end
end HW
/-! part HD -/
set_option maxHeartbeats 0
namespace HW
open PySem PySem.Spec PyProof.Rows L2
-- law index 93
abbrev R : PySem.W.OpenRow := PySem.W.OpenLaw.row PySem.Challenge.rw_healwires_k37_whole_contents_of_a_harm
def exB : PySem.W.Frag → Bool := fun K => decide ((He.cT K ("wires_numbered", none)).2 ≠ (He.cT K ("harm_numbered_in", none)).2)
abbrev hk : PySem.W.Hook := He.hookX 2 faAll fnAll [] tabs exB
def ob (s : PySem.W.SharedT) : He.AlX := He.obsX 2 faAll fnAll [] tabs exB (HandSHeadRun.getT s)
theorem ob_eq (s : PySem.W.SharedT) : ob s = hk.obs s.abs := He.obsX_eq (HandSHeadRun.getT_eq s)
theorem run (w : World) : HandSHeadRun.RunEq R (PySem.W.view R.prog [93]) hk ob 4000 looseNames w := by
  intro os
  kernel_rfl
end HW
/-! part E1 -/
namespace HW
open PySem PySem.Spec PyProof.Rows L2 NdefX LamX
open HM (Lk Ct Lot)
local macro_rules | `(tactic| walk_at "ga") => `(tactic| first | with_reducible assumption | (with_reducible apply GenA.up; assumption; walk_at "ga") | (with_reducible apply GenA.S; assumption; walk_at "ga") | (with_reducible apply GenA.N; assumption; walk_at "ga"))
local macro_rules | `(tactic| walk_at "mg") => `(tactic| first | with_reducible assumption | (with_reducible apply Mg.refl; assumption) | (with_reducible apply Mg.up; assumption; walk_at "mg") | (with_reducible apply Mg.S; assumption; walk_at "mg") | (with_reducible apply mg_T; assumption; walk_at "mg"))
local macro_rules | `(tactic| walk_at "in") => `(tactic| first | assumption | (constructor <;> omega))
local macro_rules | `(tactic| walk_at "en") => `(tactic| first | with_reducible assumption | exact ExtN.refl _ | (with_reducible apply extN_up2; assumption; walk_at "en") | (with_reducible apply extN_S2; assumption; walk_at "en") | (with_reducible apply extN_N2; assumption; walk_at "en"))
local macro_rules | `(tactic| walk_at "tb") => `(tactic| first | with_reducible assumption | (with_reducible apply Tabs.up2; assumption; walk_at "tb") | (with_reducible apply Tabs.S2; assumption; walk_at "tb") | (with_reducible apply Tabs.M; assumption; walk_at "tb"))
local macro_rules | `(tactic| walk_at "nf") => `(tactic| dsimp only [L2.cxOf, L2.Cx.nox, NdefX.startF, NdefX.slotAt, L2.start, List.set, List.getElem?_cons_zero, List.getElem?_cons_succ, Option.join, Option.bind, List.length, List.replicate, List.map, HAppend.hAppend, Append.append, List.append, Nat.reduceAdd, Nat.reduceSub, Nat.zero_add])
local macro_rules | `(tactic| walk_at "nm") => `(tactic| dsimp only [L2.cxOf, L2.Cx.nox, L2.start, List.set, List.length, List.replicate, List.map, HAppend.hAppend, Append.append, List.append, Nat.reduceAdd, Nat.reduceSub, Nat.zero_add])
local macro_rules | `(tactic| walk_at "sq0") => `(tactic| first | assumption | exact SqT.of upd_same | (apply sqT_up; assumption; walk_at "sq0") | (apply sqT_S; assumption; walk_at "sq0") | (apply sqT_N; assumption; walk_at "sq0") | (apply sqT_M; assumption; walk_at "sq0"))
local macro_rules | `(tactic| walk_at "sq1") => `(tactic| first | assumption | exact SqT.of upd_same | (apply sqT_up; assumption; walk_at "sq1") | (apply sqT_S; assumption; walk_at "sq1") | (apply sqT_N; assumption; walk_at "sq1") | (apply sqT_M; assumption; walk_at "sq1"))
local macro_rules | `(tactic| walk_at "sq") => `(tactic| first | with_reducible walk_at "sq0" | walk_at "sq1")
local macro_rules | `(tactic| walk_at "sl0") => `(tactic| first | assumption | exact SqL.of upd_same | exact SqL.of (by assumption) | (apply sqL_up; assumption; walk_at "sl0") | (apply sqL_S; assumption; walk_at "sl0") | (apply sqL_N; assumption; walk_at "sl0") | (apply sqL_M; assumption; assumption; walk_at "sl0"))
local macro_rules | `(tactic| walk_at "sl1") => `(tactic| first | assumption | exact SqL.of upd_same | exact SqL.of (by assumption) | (apply sqL_up; assumption; walk_at "sl1") | (apply sqL_S; assumption; walk_at "sl1") | (apply sqL_N; assumption; walk_at "sl1") | (apply sqL_M; assumption; assumption; walk_at "sl1"))
local macro_rules | `(tactic| walk_at "sl") => `(tactic| first | with_reducible walk_at "sl0" | walk_at "sl1")
local macro_rules | `(tactic| walk_at "lt0") => `(tactic| first | assumption | (apply LotV.up; assumption; walk_at "lt0") | (apply LotV.S; assumption; walk_at "lt0") | (apply LotV.N; assumption; walk_at "lt0") | (apply LotV.M; assumption; walk_at "lt0"))
local macro_rules | `(tactic| walk_at "lt1") => `(tactic| first | assumption | (apply LotV.up; assumption; walk_at "lt1") | (apply LotV.S; assumption; walk_at "lt1") | (apply LotV.N; assumption; walk_at "lt1") | (apply LotV.M; assumption; walk_at "lt1"))
local macro_rules | `(tactic| walk_at "lt") => `(tactic| first | with_reducible walk_at "lt0" | walk_at "lt1")
local macro_rules | `(tactic| walk_at "ct0") => `(tactic| first | assumption | (apply CtA.up; assumption; walk_at "ct0") | (apply CtA.S; assumption; walk_at "ct0") | (apply CtA.N; assumption; walk_at "ct0") | (apply CtA.M; assumption; walk_at "ct0"))
local macro_rules | `(tactic| walk_at "ct1") => `(tactic| first | assumption | (apply CtA.up; assumption; walk_at "ct1") | (apply CtA.S; assumption; walk_at "ct1") | (apply CtA.N; assumption; walk_at "ct1") | (apply CtA.M; assumption; walk_at "ct1"))
local macro_rules | `(tactic| walk_at "ct") => `(tactic| first | with_reducible walk_at "ct0" | walk_at "ct1")
local macro_rules | `(tactic| walk_at "ho0") => `(tactic| first | assumption | (apply HoA.up; assumption; walk_at "ho0") | (apply HoA.S; assumption; walk_at "ho0") | (apply HoA.N; assumption; walk_at "ho0"))
local macro_rules | `(tactic| walk_at "ho1") => `(tactic| first | assumption | (apply HoA.up; assumption; walk_at "ho1") | (apply HoA.S; assumption; walk_at "ho1") | (apply HoA.N; assumption; walk_at "ho1"))
local macro_rules | `(tactic| walk_at "ho") => `(tactic| first | with_reducible walk_at "ho0" | walk_at "ho1")
local macro_rules | `(tactic| walk_at "sm0") => `(tactic| first | assumption | exact Same.refl _ | (refine same_up ?_ (by assumption); walk_at "sm0") | (refine Same.trans ?_ (by assumption); walk_at "sm0") | exact same_new (by assumption) _)
local macro_rules | `(tactic| walk_at "sm1") => `(tactic| first | assumption | exact Same.refl _ | (refine same_up ?_ (by assumption); walk_at "sm1") | (refine Same.trans ?_ (by assumption); walk_at "sm1") | exact same_new (by assumption) _)
local macro_rules | `(tactic| walk_at "sm") => `(tactic| first | with_reducible walk_at "sm0" | walk_at "sm1")
local macro_rules | `(tactic| walk_at "pre") => `(tactic| first | assumption | omega | decide)
section
variable {P : Program} {w : World} {K : PySem.W.Frag} {mg : Str → Option Value} {base : Heap}
theorem fa_eq : faAll = (fnAll.map fun d => He.Fa.glo d.name) ++ (["isinstance", "int", "bool", "tuple", "str", "len", "sum", "range", "min", "max", "repr", "list"] : List Str).map He.Fa.free := rfl
theorem facts_of {h : Heap} (X : K.In h) (G : h.Ns mainGlobals mg) (c : He.SaysX faAll fnAll [] tabs exB w h K) : Facts K mg := by
  refine ⟨fun i d hi => c.t.d.def_ i hi, fun i d hi => He.glo_ok X G (c.t.d.facts ?_), fun i x hi => He.free_ok X G (c.t.d.facts ?_)⟩
  · rw [fa_eq]; exact List.mem_append_left _ (List.mem_map.mpr ⟨d, List.mem_of_getElem? hi, rfl⟩)
  · rw [fa_eq]; exact List.mem_append_right _ (List.mem_map.mpr ⟨x, List.mem_of_getElem? hi, rfl⟩)
theorem law_g {l : PySem.W.OpenLaw} {w : World} {h : Heap} {fa : Addr} (Y : ∃ K : PySem.W.Frag, K.In h ∧ He.SaysX faAll fnAll [] tabs exB w h K) (G : h.Ns mainGlobals mg) (hmg : mg ("law" : Str) = some (.ref fa)) :
    ∃ K : PySem.W.Frag, K.In h ∧ LawG l w K 11 63 "_law_script" mg fa h := by
  obtain ⟨K, X, c⟩ := Y
  have Fx := facts_of X G c
  obtain ⟨fd, F⟩ := Fx.def_ 72 (st := s_law) (x := "law") rfl
  have e := hmg.symm.trans (Fx.gl 72 d_law rfl)
  cases e
  have b := FunD.bindsA (ps := ["_law_script"]) F fun _ _ _ _ _ _ us hl => match us, hl with | [_], _ => rfl
  have mt : ∀ q ∈ tabs.map (He.cT K), ∃ p ∈ tabs, He.cT K p = q := fun q hq => List.mem_map.mp hq
  refine ⟨K, X, fd, tabs.map (He.cT K), sp_law K, ⟨fun q hq => ?_, fun q hq => ?_, fun q hq => ?_⟩, fun s u => b s [u] rfl, fun H a ns hl ht hs => ⟨a, ns, rfl, ⟨hs, fun p hp => ?_⟩, fun _ => rfl⟩, fun base KX Gb tb => ?_⟩
  · obtain ⟨p, hp, rfl⟩ := mt q hq
    exact c.empty p hp
  · obtain ⟨p, hp, rfl⟩ := mt q hq
    exact c.out p hp
  · obtain ⟨p, hp, rfl⟩ := mt q hq
    exact PySem.W.codeHd_of_K X (c.hd p hp)
  · rcases List.mem_cons.mp hp with rfl | hp
    · exact TabS.nil (ht (He.cT K ("wires_numbered", none)) (List.mem_map.mpr ⟨_, .head _, rfl⟩))
    · rcases List.mem_cons.mp hp with rfl | hp
      · exact TabS.nil (ht (He.cT K ("harm_numbered_in", none)) (List.mem_map.mpr ⟨_, .tail _ (.head _), rfl⟩))
      · exact absurd hp (by simp)
  · have TB : Tb K mg base := ⟨tb (He.cT K ("wires_numbered", none)) (List.mem_map.mpr ⟨_, .head _, rfl⟩), tb (He.cT K ("harm_numbered_in", none)) (List.mem_map.mpr ⟨_, .tail _ (.head _), rfl⟩), of_decide_eq_true c.more⟩
    exact ok_law Fx TB F
end
end HW
open PySem PySem.W PySem.Calls PyProof.Rows
theorem PySem.Challenge.cw_healwires_k37_whole_contents_of_a_harm_holds : PySem.Challenge.rw_healwires_k37_whole_contents_of_a_harm.Holds := by
  w_on; o_law
  refine HandSHeadRun.head_any (r := OpenLaw.row PySem.Challenge.rw_healwires_k37_whole_contents_of_a_harm) (q := view (OpenLaw.row PySem.Challenge.rw_healwires_k37_whole_contents_of_a_harm).prog [93]) (H := HW.hk) (ob := HW.ob) (M := 4000) (loose := HW.looseNames) (d := HandSHeadRun.topDef (OpenLaw.row PySem.Challenge.rw_healwires_k37_whole_contents_of_a_harm).prog 93) (kwd := []) HW.ob_eq
    (by kernel_rfl) (fun s => by kernel_rfl) HW.run (by kernel_rfl) (by kernel_rfl) (by kernel_rfl) (by rfl) (by first | assumption | decide +kernel) (by decide +kernel) ⟨rfl, rfl, rfl, rfl, rfl, by decide +kernel⟩ ?hw ?hc
  case hw => w_witness2
  case hc =>
    refine HW.walkG (l := PySem.Challenge.rw_healwires_k37_whole_contents_of_a_harm) (n := 63) (k := 11) (x := "_law_script") rfl (by decide) (by kernel_rfl) ⟨rfl, by decide, by decide⟩ ?F
    intro w mg fa h Y G hmg0
    have hmg : mg ("law" : PySem.Str) = some (.ref fa) := by
      have e : (HandSHeadRun.topDef (OpenLaw.row PySem.Challenge.rw_healwires_k37_whole_contents_of_a_harm).prog 93).name = ("law" : PySem.Str) := by kernel_rfl
      rw [← e]
      exact hmg0
    exact HW.law_g Y G hmg

