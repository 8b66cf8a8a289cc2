import PyProof.Rows.All
import Wide.All
import OpenK.AllK
import Wide.FinOn
import HandS.Base
import HandS.Call
import HandS.List
import HandS.Comp
import HandS.Ends
import HandS.Words
import HandS.WordsList
import HandS.Dict
import HandS.Iter
import HandS.Evl
import HandS.Style
import HandS.TupAny
import HandS.More
import PySem.Challenge.RW_tanglehouse_k70_whole_eased
set_option Elab.async false
set_option linter.all false
set_option maxRecDepth 100000
set_option maxHeartbeats 16000000
/-! #### MathEase -/
/-! Lists of twists: the steps, their row, its end; values; least lists. Plain Lean. -/
namespace Tw

inductive Wd where
  | one | less | nought | loose | split
  deriving DecidableEq

/-- the step's outcome: S is what stands ahead (backwards), a the number, b the next one, r the rest -/
def out : Wd → List Int → Int → Int → List Int → List Int × Int
  | .one, [], _, b, r => ((b - 1) :: r, 0)
  | .one, p :: T, _, b, r => (T.reverse ++ (p - 1) :: (b - 1) :: r, 1)
  | .less, [], _, b, r => ((b + 1) :: r, 0)
  | .less, p :: T, _, b, r => (T.reverse ++ (p + 1) :: (b + 1) :: r, -1)
  | .nought, [], _, _, r => (r, 0)
  | .nought, p :: T, _, b, r => (T.reverse ++ (p + b) :: r, 0)
  | .loose, _, _, b, r => ([0, 0] ++ r, b)
  | .split, S, a, b, r => (S.reverse ++ (a + 1) :: 1 :: (b + 1) :: r, -1)

/-- the next step's word at a place, if it is one -/
def wordAt (S : List Int) (a b : Int) (r : List Int) : Option Wd :=
  if a = 1 then some .one
  else if a = -1 then some .less
  else if a < -1 then some .split
  else if a = 0 then
    (if S = [] then (if b = 0 then (if r = [] then none else some .nought) else some .loose) else some .nought)
  else none

/-- the next step: its word, its place, what comes, the weight -/
def nxz : List Int → List Int → Option (Wd × Nat × List Int × Int)
  | S, a :: b :: r =>
    if 2 ≤ a then nxz (a :: S) (b :: r)
    else match wordAt S a b r with
      | some w => some (w, S.length, out w S a b r)
      | none => none
  | _, _ => none
def nx (l : List Int) : Option (Wd × Nat × List Int × Int) := nxz [] l

theorem nxz_some : ∀ (suf S : List Int) (w : Wd) (i : Nat) (l' : List Int) (h : Int), nxz S suf = some (w, i, l', h) →
    ∃ (T : List Int) (a b : Int) (r : List Int), S.reverse ++ suf = T.reverse ++ a :: b :: r ∧ i = T.length ∧ wordAt T a b r = some w ∧ (l', h) = out w T a b r := by
  intro suf
  induction suf with
  | nil => intro S w i l' h e; simp [nxz] at e
  | cons a t ih =>
    intro S w i l' h e
    cases t with
    | nil => simp [nxz] at e
    | cons b r =>
      unfold nxz at e
      by_cases h2 : 2 ≤ a
      · rw [if_pos h2] at e
        obtain ⟨T, a', b', r', e1, e2, e3, e4⟩ := ih (a :: S) w i l' h e
        refine ⟨T, a', b', r', ?_, e2, e3, e4⟩
        rw [← e1]; simp
      · rw [if_neg h2] at e
        cases hw : wordAt S a b r with
        | none => rw [hw] at e; cases e
        | some w' =>
          rw [hw] at e
          simp only [Option.some.injEq, Prod.mk.injEq] at e
          obtain ⟨rfl, rfl, e3⟩ := e
          refine ⟨S, a, b, r, rfl, rfl, hw, ?_⟩
          rw [e3]

theorem nxz_go {S : List Int} {a b : Int} {r : List Int} (h : 2 ≤ a) : nxz S (a :: b :: r) = nxz (a :: S) (b :: r) := by
  rw [nxz, if_pos h]
/-- all of a list are 2 or more -/
def All2 (S : List Int) : Prop := ∀ p ∈ S, 2 ≤ p
theorem nxz_skip : ∀ (P S suf : List Int), All2 P → suf ≠ [] → nxz S (P ++ suf) = nxz (P.reverse ++ S) suf := by
  intro P
  induction P with
  | nil => intro S suf _ _; simp
  | cons p t ih =>
    intro S suf h hs
    have hp : 2 ≤ p := h p (by simp)
    have ht : All2 t := fun q hq => h q (by simp [hq])
    have e : t ++ suf ≠ [] := by simp [hs]
    obtain ⟨b, r, hb⟩ : ∃ b r, t ++ suf = b :: r := by
      cases ht' : t ++ suf with
      | nil => exact absurd ht' e
      | cons b r => exact ⟨b, r, rfl⟩
    have := ih (p :: S) suf ht hs
    rw [List.cons_append]
    rw [hb] at this ⊢
    rw [nxz_go hp, this]
    simp

/-- the row of steps to the end, the weight, all lists at most L long -/
inductive Go (L : Nat) : List Int → List (Wd × Nat) → List Int → Int → Prop
  | nil {l : List Int} : nx l = none → l.length ≤ L → Go L l [] l 0
  | cons {l l1 e : List Int} {w : Wd} {i : Nat} {h k : Int} {ss : List (Wd × Nat)} : nx l = some (w, i, l1, h) → l.length ≤ L → Go L l1 ss e k → Go L l ((w, i) :: ss) e (h + k)

/-- a list's size: what stands ahead, what is left -/
def szS : List Int → Nat
  | [] => 0
  | p :: r => (p - 1).toNat + szS r
def szR : List Int → Nat
  | [] => 0
  | p :: r => p.natAbs + 1 + szR r
theorem len_szS : ∀ (S : List Int), All2 S → S.length ≤ szS S
  | [], _ => Nat.le_refl _
  | p :: r, h => by
    have := len_szS r fun q hq => h q (by simp [hq])
    have hp : 2 ≤ p := h p (by simp)
    simp only [List.length_cons, szS]; omega
theorem len_szR : ∀ (S : List Int), S.length ≤ szR S
  | [] => Nat.le_refl _
  | p :: r => by
    have := len_szR r
    simp only [List.length_cons, szR]; omega

theorem nx_at {S : List Int} {suf : List Int} (hS : All2 S) (hs : suf ≠ []) : nx (S.reverse ++ suf) = nxz S suf := by
  unfold nx
  rw [nxz_skip S.reverse [] suf (fun p hp => hS p (by simpa using hp)) hs]
  simp
theorem nx_word {S : List Int} {a b : Int} {r : List Int} {w : Wd} (hS : All2 S) (h2 : ¬ 2 ≤ a) (hw : wordAt S a b r = some w) :
    nx (S.reverse ++ a :: b :: r) = some (w, S.length, out w S a b r) := by
  rw [nx_at hS (by simp)]
  unfold nxz
  rw [if_neg h2, hw]
theorem go_word {L : Nat} {S : List Int} {a b : Int} {r : List Int} {w : Wd} {ss : List (Wd × Nat)} {e : List Int} {k : Int} (hS : All2 S) (h2 : ¬ 2 ≤ a) (hw : wordAt S a b r = some w)
    (hL : (S.reverse ++ a :: b :: r).length ≤ L) (hg : Go L (out w S a b r).1 ss e k) : Go L (S.reverse ++ a :: b :: r) ((w, S.length) :: ss) e ((out w S a b r).2 + k) :=
  Go.cons (nx_word hS h2 hw) hL hg

/-- there is a row of at most n steps -/
def EndsIn (L n : Nat) (B : Nat) (l : List Int) : Prop := ∃ ss e k, Go L l ss e k ∧ ss.length ≤ n ∧ ∀ x ∈ e, x.natAbs ≤ B
theorem EndsIn.step {L n B : Nat} {S : List Int} {a b : Int} {r : List Int} {w : Wd} (hS : All2 S) (h2 : ¬ 2 ≤ a) (hw : wordAt S a b r = some w)
    (hL : (S.reverse ++ a :: b :: r).length ≤ L) (hg : EndsIn L n B (out w S a b r).1) : EndsIn L (n + 1) B (S.reverse ++ a :: b :: r) := by
  obtain ⟨ss, e, k, g, hn, hb⟩ := hg
  exact ⟨_, e, _, go_word hS h2 hw hL g, by simp only [List.length_cons]; omega, hb⟩
theorem EndsIn.mono {L n m B : Nat} {l : List Int} (h : EndsIn L n B l) (hm : n ≤ m) : EndsIn L m B l := by
  obtain ⟨ss, e, k, g, hn, hb⟩ := h
  exact ⟨ss, e, k, g, by omega, hb⟩

/-- where a number ahead becomes greater by 1 -/
def up1 : List Int → List Int
  | [] => []
  | p :: T => (p + 1) :: T
theorem up1_all2 {S : List Int} (h : All2 S) : All2 (up1 S) := by
  cases S with
  | nil => exact h
  | cons p T =>
    intro q hq
    rcases List.mem_cons.mp hq with rfl | hq
    · have := h p (by simp); omega
    · exact h q (by simp [hq])
theorem up1_len (S : List Int) : (up1 S).length = S.length := by cases S <;> rfl
theorem up1_sz {S : List Int} (h : All2 S) : szS (up1 S) ≤ szS S + 1 := by
  cases S with
  | nil => simp [up1, szS]
  | cons p T =>
    have := h p (by simp)
    simp only [up1, szS]; omega
theorem rep_all2 {S : List Int} (h : All2 S) (j : Nat) : All2 (List.replicate j 2 ++ S) := by
  intro q hq
  rcases List.mem_append.mp hq with hq | hq
  · rw [(List.mem_replicate.mp hq).2]; decide
  · exact h q hq
theorem rep_sz (S : List Int) (j : Nat) : szS (List.replicate j 2 ++ S) = j + szS S := by
  induction j with
  | zero => simp
  | succ j ih =>
    rw [List.replicate_succ, List.cons_append]
    show (2 - 1 : Int).toNat + _ = _
    rw [ih]
    have : (2 - 1 : Int).toNat = 1 := rfl
    omega

/-- splits, and the -1 at last -/
theorem ends_splits {L B : Nat} : ∀ (m : Nat) (S : List Int) (j : Nat) (b : Int) (r : List Int) (n : Nat), All2 S →
    (S.length + (m + 1) + j + r.length + 2 ≤ L) →
    EndsIn L n B ((List.replicate (j + m + 1) 2 ++ up1 S).reverse ++ b :: r) →
    EndsIn L (n + m + 1) B (S.reverse ++ (-(m : Int) - 1) :: 1 :: (List.replicate j 2 ++ b :: r)) := by
  intro m
  induction m with
  | zero =>
    intro S j b r n hS hL hg
    have hw : wordAt S (-((0 : Nat) : Int) - 1) 1 (List.replicate j 2 ++ b :: r) = some .less := by simp [wordAt]
    refine EndsIn.step hS (by simp) hw (by simp; omega) ?_
    have e : (out .less S (-((0 : Nat) : Int) - 1) 1 (List.replicate j 2 ++ b :: r)).1 = (List.replicate (j + 0 + 1) 2 ++ up1 S).reverse ++ b :: r := by
      cases S with
      | nil => simp [out, up1, List.replicate_succ]; rw [← List.cons_append, ← List.replicate_succ, List.replicate_succ']; simp
      | cons p T => simp [out, up1, List.replicate_succ]; rw [← List.cons_append, ← List.replicate_succ, List.replicate_succ']; simp
    rw [e]
    exact hg
  | succ m ih =>
    intro S j b r n hS hL hg
    have hw : wordAt S (-((m + 1 : Nat) : Int) - 1) 1 (List.replicate j 2 ++ b :: r) = some .split := by
      unfold wordAt
      rw [if_neg (by omega), if_neg (by omega), if_pos (by omega)]
    refine EndsIn.step (n := n + m + 1) hS (by omega) hw (by simp; omega) ?_
    have e : (out .split S (-((m + 1 : Nat) : Int) - 1) 1 (List.replicate j 2 ++ b :: r)).1 = S.reverse ++ (-(m : Int) - 1) :: 1 :: (List.replicate (j + 1) 2 ++ b :: r) := by
      have e1 : -((m + 1 : Nat) : Int) - 1 + 1 = -(m : Int) - 1 := by omega
      simp only [out, e1, List.replicate_succ, List.cons_append]
      rfl
    rw [e]
    refine ih S (j + 1) b r n hS (by omega) ?_
    have : j + 1 + m + 1 = j + (m + 1) + 1 := by omega
    rw [this]
    exact hg

theorem mem_sz {S : List Int} (h : All2 S) : ∀ x ∈ S, x.natAbs ≤ szS S + 1 := by
  induction S with
  | nil => intro x hx; cases hx
  | cons p T ih =>
    intro x hx
    have hp := h p (by simp)
    rcases List.mem_cons.mp hx with rfl | hx
    · simp only [szS]; omega
    · have := ih (fun q hq => h q (by simp [hq])) x hx
      simp only [szS]; omega

theorem lenS {S suf : List Int} {B : Nat} (hS : All2 S) (h : szS S + szR suf ≤ B) : S.length + suf.length ≤ B := by
  have := len_szS S hS
  have := len_szR suf
  omega
theorem ends_none {L n B : Nat} {l : List Int} (h : nx l = none) (hl : l.length ≤ L) (hb : ∀ x ∈ l, x.natAbs ≤ B) : EndsIn L n B l := ⟨[], l, 0, Go.nil h hl, Nat.zero_le _, hb⟩
/-- THE ROW ENDS -/
theorem ends_z {L B : Nat} (hL : B + 3 ≤ L) : ∀ (k n : Nat) (S suf : List Int), suf.length = k → S.length = n → suf ≠ [] → All2 S → szS S + szR suf ≤ B →
    EndsIn L (k * (2 * B + 2) + n) (B + 1) (S.reverse ++ suf) := by
  intro k
  induction k using Nat.strongRecOn with
  | ind k ihk' =>
    intro n
    induction n using Nat.strongRecOn with
    | ind n ihn =>
    intro S suf h1 h2 h3 hS hB
    cases k with
    | zero => exact absurd (List.eq_nil_of_length_eq_zero h1) h3
    | succ k =>
    have ihk := ihk' k (Nat.lt_succ_self k)
    have hmul : (k + 1) * (2 * B + 2) = k * (2 * B + 2) + (2 * B + 2) := Nat.succ_mul _ _
    have hlen := lenS hS hB
    cases suf with
    | nil => exact absurd rfl h3
    | cons a t =>
      cases t with
      | nil =>
        refine ends_none (by rw [nx_at hS h3]; rfl) (by simp; simp at hlen; omega) fun x hx => ?_
        rcases List.mem_append.mp hx with hx | hx
        · have := mem_sz hS x (by simpa using hx)
          omega
        · have : x = a := by simpa using hx
          subst this
          simp only [szR] at hB; omega
      | cons b r =>
        have hr : (b :: r).length = k := by simpa using h1
        have hLl : (S.reverse ++ a :: b :: r).length ≤ L := by
          simp only [List.length_append, List.length_reverse, List.length_cons] at hlen ⊢; omega
        simp only [szR] at hB
        by_cases ha2 : 2 ≤ a
        · -- a stays
          have hS' : All2 (a :: S) := by
            intro q hq
            rcases List.mem_cons.mp hq with rfl | hq
            · exact ha2
            · exact hS q hq
          have := ihk (n + 1) (a :: S) (b :: r) hr (by simp [h2]) (by simp) hS' (by simp only [szS, szR]; omega)
          rw [List.reverse_cons, List.append_assoc] at this
          exact this.mono (by omega)
        by_cases h1' : a = 1
        · subst h1'
          have hw : wordAt S 1 b r = some .one := by simp [wordAt]
          cases S with
          | nil =>
            have := ihk 0 [] ((b - 1) :: r) (by simpa using hr) rfl (by simp) hS (by simp only [szS, szR] at hB ⊢; omega)
            exact (EndsIn.step hS ha2 hw hLl this).mono (by omega)
          | cons p T =>
            have hp := hS p (by simp)
            have hT : All2 T := fun q hq => hS q (by simp [hq])
            simp only [szS] at hB
            simp only [List.length_cons] at h2
            by_cases hp2 : p = 2
            · subst hp2
              have := ihn T.length (by omega) T (1 :: (b - 1) :: r) (by simpa using h1) rfl (by simp) hT (by simp only [szR]; omega)
              exact (EndsIn.step hS ha2 hw hLl this).mono (by omega)
            · have hS' : All2 ((p - 1) :: T) := by
                intro q hq
                rcases List.mem_cons.mp hq with rfl | hq
                · omega
                · exact hT q hq
              have := ihk n ((p - 1) :: T) ((b - 1) :: r) (by simpa using hr) (by simpa using h2) (by simp) hS' (by simp only [szS, szR]; omega)
              rw [List.reverse_cons, List.append_assoc] at this
              exact (EndsIn.step hS ha2 hw hLl this).mono (by omega)
        by_cases h1m : a = -1
        · subst h1m
          have hw : wordAt S (-1) b r = some .less := by simp [wordAt]
          cases S with
          | nil =>
            have := ihk 0 [] ((b + 1) :: r) (by simpa using hr) rfl (by simp) hS (by simp only [szS, szR] at hB ⊢; omega)
            exact (EndsIn.step hS ha2 hw hLl this).mono (by omega)
          | cons p T =>
            have hS' : All2 ((p + 1) :: T) := up1_all2 hS
            have hz : szS ((p + 1) :: T) ≤ szS (p :: T) + 1 := up1_sz hS
            have := ihk n ((p + 1) :: T) ((b + 1) :: r) (by simpa using hr) (by simpa using h2) (by simp) hS' (by simp only [szR]; omega)
            rw [List.reverse_cons, List.append_assoc] at this
            exact (EndsIn.step hS ha2 hw hLl this).mono (by omega)
        by_cases h0 : a = 0
        · subst h0
          cases S with
          | cons p T =>
            have hw : wordAt (p :: T) 0 b r = some .nought := by simp [wordAt]
            have hT : All2 T := fun q hq => hS q (by simp [hq])
            have hp := hS p (by simp)
            simp only [szS] at hB
            have := ihk T.length T ((p + b) :: r) (by simpa using hr) rfl (by simp) hT (by simp only [szR]; omega)
            simp only [List.length_cons] at h2
            exact (EndsIn.step hS ha2 hw hLl this).mono (by omega)
          | nil =>
            have main : ∀ b', b' = 0 → szS [] + szR (0 :: b' :: r) ≤ B → EndsIn L (k * (2 * B + 2) + 1) (B + 1) (0 :: b' :: r) := by
              intro b' hb0 hB'
              subst hb0
              simp only [szR, szS] at hB'
              cases r with
              | nil =>
                refine ends_none (by decide) (by simp; omega) fun x hx => ?_
                have : x = 0 := by simpa using hx
                subst this; simp
              | cons c r' =>
                have hk : k = (c :: r').length + 1 := by rw [← hr]; rfl
                have hw : wordAt [] 0 0 (c :: r') = some .nought := by simp [wordAt]
                have hm2 : k * (2 * B + 2) = (c :: r').length * (2 * B + 2) + (2 * B + 2) := by
                  rw [hk, Nat.succ_mul]
                have hg : EndsIn L (k * (2 * B + 2)) (B + 1) (c :: r') :=
                  (ihk' (c :: r').length (by omega) 0 [] (c :: r') rfl rfl (by simp) hS (by simp only [szR, szS] at hB' ⊢; omega)).mono (by omega)
                exact EndsIn.step (S := []) hS (by decide) hw (by simp at hlen ⊢; omega) hg
            by_cases hb0 : b = 0
            · exact (main b hb0 (by simp only [szR, szS] at hB ⊢; omega)).mono (by omega)
            · have hw : wordAt [] 0 b r = some .loose := by simp [wordAt, hb0]
              have := main 0 rfl (by simp only [szR, szS] at hB ⊢; omega)
              exact (EndsIn.step hS ha2 hw hLl this).mono (by omega)
        · -- below -1: splits
          have hw : wordAt S a b r = some .split := by
            unfold wordAt
            rw [if_neg h1', if_neg h1m, if_pos (by omega)]
          obtain ⟨m, hm⟩ : ∃ m : Nat, a = -(m : Int) - 2 := ⟨(-a - 2).toNat, by omega⟩
          have hS' := rep_all2 (up1_all2 hS) (0 + m + 1)
          have hz := up1_sz hS
          have := ihk (List.replicate (0 + m + 1) 2 ++ up1 S).length (List.replicate (0 + m + 1) 2 ++ up1 S) ((b + 1) :: r) (by simpa using hr) rfl (by simp) hS' (by
            rw [rep_sz]; simp only [szR]; omega)
          simp only [List.length_cons] at hlen
          have q1 := len_szS S hS
          have q2 := len_szR r
          have key := ends_splits (L := L) (B := B + 1) m S 0 (b + 1) r _ hS (by omega) this
          have e : (out .split S a b r).1 = S.reverse ++ (-(m : Int) - 1) :: 1 :: (List.replicate 0 2 ++ (b + 1) :: r) := by
            have e1 : a + 1 = -(m : Int) - 1 := by omega
            simp only [out, e1]
            rfl
          rw [← e] at key
          refine (EndsIn.step hS ha2 hw hLl key).mono ?_
          rw [List.length_append, List.length_replicate, up1_len]
          omega
end Tw
/-! #### MathVal -/
namespace Tw

/-! ### what holds along the row -/
theorem wordAt_facts {S : List Int} {a b : Int} {r : List Int} {w : Wd} (h : wordAt S a b r = some w) :
    (w = .one ∧ a = 1) ∨ (w = .less ∧ a = -1) ∨ (w = .split ∧ a < -1) ∨ (w = .nought ∧ a = 0 ∧ (S ≠ [] ∨ (S = [] ∧ b = 0 ∧ r ≠ []))) ∨ (w = .loose ∧ a = 0 ∧ S = [] ∧ b ≠ 0) := by
  unfold wordAt at h
  by_cases h1 : a = 1
  · rw [if_pos h1] at h; cases h; exact .inl ⟨rfl, h1⟩
  rw [if_neg h1] at h
  by_cases h2 : a = -1
  · rw [if_pos h2] at h; cases h; exact .inr (.inl ⟨rfl, h2⟩)
  rw [if_neg h2] at h
  by_cases h3 : a < -1
  · rw [if_pos h3] at h; cases h; exact .inr (.inr (.inl ⟨rfl, h3⟩))
  rw [if_neg h3] at h
  by_cases h4 : a = 0
  · rw [if_pos h4] at h
    by_cases h5 : S = []
    · rw [if_pos h5] at h
      by_cases h6 : b = 0
      · rw [if_pos h6] at h
        by_cases h7 : r = []
        · rw [if_pos h7] at h; cases h
        · rw [if_neg h7] at h; cases h; exact .inr (.inr (.inr (.inl ⟨rfl, h4, .inr ⟨h5, h6, h7⟩⟩)))
      · rw [if_neg h6] at h; cases h; exact .inr (.inr (.inr (.inr ⟨rfl, h4, h5, h6⟩)))
    · rw [if_neg h5] at h; cases h; exact .inr (.inr (.inr (.inl ⟨rfl, h4, .inl h5⟩)))
  · rw [if_neg h4] at h; cases h

/-- the steps by their equations -/
theorem nx_cases {l l' : List Int} {w : Wd} {i : Nat} {h : Int} (e : nx l = some (w, i, l', h)) {C : List Int → List Int → Int → Prop}
    (one : ∀ P p b r, C (P ++ p :: 1 :: b :: r) (P ++ (p - 1) :: (b - 1) :: r) 1) (one0 : ∀ b r, C (1 :: b :: r) ((b - 1) :: r) 0)
    (less : ∀ P p b r, C (P ++ p :: -1 :: b :: r) (P ++ (p + 1) :: (b + 1) :: r) (-1)) (less0 : ∀ b r, C (-1 :: b :: r) ((b + 1) :: r) 0)
    (nought : ∀ P p b r, C (P ++ p :: 0 :: b :: r) (P ++ (p + b) :: r) 0) (nought0 : ∀ r, r ≠ [] → C (0 :: 0 :: r) r 0)
    (loose : ∀ b r, C (0 :: b :: r) (0 :: 0 :: r) b)
    (split : ∀ P a b r, C (P ++ a :: b :: r) (P ++ (a + 1) :: 1 :: (b + 1) :: r) (-1)) : C l l' h := by
  obtain ⟨T, a, b, r, e1, _, hw, e2⟩ := nxz_some l [] w i l' h e
  have e1 : l = T.reverse ++ a :: b :: r := e1
  subst e1
  have e3 : l' = (out w T a b r).1 := congrArg Prod.fst e2
  have e4 : h = (out w T a b r).2 := congrArg Prod.snd e2
  subst e3; subst e4
  rcases wordAt_facts hw with ⟨rfl, rfl⟩ | ⟨rfl, rfl⟩ | ⟨rfl, ha⟩ | ⟨rfl, rfl, hc⟩ | ⟨rfl, rfl, rfl, hb⟩
  · cases T with
    | nil => exact one0 b r
    | cons p T => have := one T.reverse p b r; simpa [out] using this
  · cases T with
    | nil => exact less0 b r
    | cons p T => have := less T.reverse p b r; simpa [out] using this
  · exact split T.reverse a b r
  · rcases hc with hc | ⟨rfl, rfl, hr⟩
    · cases T with
      | nil => exact absurd rfl hc
      | cons p T => have := nought T.reverse p b r; simpa [out] using this
    · exact nought0 r hr
  · exact loose b r

theorem nx_ne {l l' : List Int} {w : Wd} {i : Nat} {h : Int} (e : nx l = some (w, i, l', h)) : l' ≠ [] :=
  nx_cases e (C := fun _ l' _ => l' ≠ []) (by simp) (by simp) (by simp) (by simp) (by simp) (fun r h => h) (by simp) (by simp)
theorem go_ne {L : Nat} {l e : List Int} {ss : List (Wd × Nat)} {k : Int} (g : Go L l ss e k) : l ≠ [] → e ≠ [] := by
  induction g with
  | nil _ _ => exact id
  | cons h _ _ ih => exact fun _ => ih (nx_ne h)
theorem go_end {L : Nat} {l e : List Int} {ss : List (Wd × Nat)} {k : Int} (g : Go L l ss e k) : nx e = none ∧ e.length ≤ L := by
  induction g with
  | nil h1 h2 => exact ⟨h1, h2⟩
  | cons _ _ _ ih => exact ih
theorem go_len {L : Nat} {l e : List Int} {ss : List (Wd × Nat)} {k : Int} (g : Go L l ss e k) : l.length ≤ L := by
  cases g with
  | nil _ h => exact h
  | cons _ h _ => exact h

/-- least: all but the last 2 or more, or two noughts -/
def Least (e : List Int) : Prop := e = [0, 0] ∨ All2 e.dropLast
theorem nxz_none : ∀ (suf S : List Int), nxz S suf = none → (S = [] ∧ suf = [0, 0]) ∨ All2 suf.dropLast := by
  intro suf
  induction suf with
  | nil => intro S _; exact .inr fun p hp => nomatch hp
  | cons a t ih =>
    intro S h
    cases t with
    | nil => exact .inr fun p hp => nomatch hp
    | cons b r =>
      by_cases h2 : 2 ≤ a
      · rw [nxz_go h2] at h
        rcases ih (a :: S) h with ⟨h, _⟩ | h
        · cases h
        · refine .inr fun p hp => ?_
          rw [List.dropLast_cons_cons] at hp
          rcases List.mem_cons.mp hp with rfl | hp
          · exact h2
          · exact h p hp
      · unfold nxz at h
        rw [if_neg h2] at h
        cases hw : wordAt S a b r with
        | some w => rw [hw] at h; cases h
        | none =>
          unfold wordAt at hw
          by_cases h1 : a = 1
          · rw [if_pos h1] at hw; cases hw
          rw [if_neg h1] at hw
          by_cases h1' : a = -1
          · rw [if_pos h1'] at hw; cases hw
          rw [if_neg h1'] at hw
          by_cases h3 : a < -1
          · rw [if_pos h3] at hw; cases hw
          rw [if_neg h3, if_pos (by omega)] at hw
          by_cases h5 : S = []
          · rw [if_pos h5] at hw
            by_cases h6 : b = 0
            · rw [if_pos h6] at hw
              by_cases h7 : r = []
              · refine .inl ⟨h5, ?_⟩
                rw [h6, h7, show a = 0 by omega]
              · rw [if_neg h7] at hw; cases hw
            · rw [if_neg h6] at hw; cases hw
          · rw [if_neg h5] at hw; cases hw
theorem nx_least {e : List Int} (h : nx e = none) : Least e := (nxz_none e [] h).elim (fun h => .inl h.2) .inr
theorem least_nx {e : List Int} (h : Least e) : nx e = none := by
  rcases h with rfl | h
  · decide
  · cases hn : nx e with
    | none => rfl
    | some q =>
      obtain ⟨w, i, l', k⟩ := q
      obtain ⟨T, a, b, r, e1, _, hw, _⟩ := nxz_some e [] w i l' k hn
      have e1 : e = T.reverse ++ a :: b :: r := e1
      have ha : 2 ≤ a := h a (by rw [e1, List.dropLast_append_cons, List.dropLast_cons_cons]; simp)
      rcases wordAt_facts hw with ⟨_, rfl⟩ | ⟨_, rfl⟩ | ⟨_, _⟩ | ⟨_, rfl, _⟩ | ⟨_, rfl, _⟩ <;> omega

/-! ### values -/
def vst (v : Int × Int) (m : Int) : Int × Int := (m * v.1 - v.2, v.1)
def vec (l : List Int) : Int × Int := l.foldl vst (1, 0)
def neg (v : Int × Int) : Int × Int := (-v.1, -v.2)
theorem vst_neg (v : Int × Int) (m : Int) : vst (neg v) m = neg (vst v m) := by
  simp only [vst, neg, Prod.mk.injEq, Int.mul_neg, and_true]; omega
theorem fold_neg : ∀ (l : List Int) (v : Int × Int), l.foldl vst (neg v) = neg (l.foldl vst v)
  | [], _ => rfl
  | m :: l, v => by rw [List.foldl_cons, List.foldl_cons, vst_neg, fold_neg l]
def Same1 (v u : Int × Int) : Prop := u = v ∨ u = neg v
theorem Same1.fold {v u : Int × Int} (h : Same1 v u) (l : List Int) : Same1 (l.foldl vst v) (l.foldl vst u) := by
  rcases h with rfl | rfl
  · exact .inl rfl
  · exact .inr (fold_neg l v)
theorem neg_neg (v : Int × Int) : neg (neg v) = v := by simp [neg]
theorem Same1.trans {v u x : Int × Int} (h : Same1 v u) (h' : Same1 u x) : Same1 v x := by
  rcases h with rfl | rfl
  · exact h'
  · rcases h' with rfl | rfl
    · exact .inr rfl
    · exact .inl (neg_neg v)
theorem vec_step {l l' : List Int} {w : Wd} {i : Nat} {h : Int} (e : nx l = some (w, i, l', h)) : Same1 (vec l) (vec l') := by
  refine nx_cases e (C := fun l l' _ => Same1 (vec l) (vec l')) ?_ ?_ ?_ ?_ ?_ ?_ ?_ ?_
  · intro P p b r
    unfold vec
    simp only [List.foldl_append, List.foldl_cons]
    generalize List.foldl vst (1, 0) P = v
    refine Same1.fold (.inl ?_) r
    simp only [vst, Prod.mk.injEq]
    constructor
    · simp only [Int.sub_mul, Int.mul_sub, Int.one_mul]; omega
    · simp only [Int.sub_mul, Int.one_mul]; omega
  · intro b r
    unfold vec
    simp only [List.foldl_cons]
    refine Same1.fold (.inl ?_) r
    simp only [vst, Prod.mk.injEq]
    constructor <;> omega
  · intro P p b r
    unfold vec
    simp only [List.foldl_append, List.foldl_cons]
    generalize List.foldl vst (1, 0) P = v
    refine Same1.fold (.inr ?_) r
    simp only [vst, neg, Prod.mk.injEq]
    constructor
    · simp only [Int.add_mul, Int.mul_add, Int.mul_sub, Int.mul_neg, Int.neg_mul, Int.one_mul]; omega
    · simp only [Int.add_mul, Int.one_mul]; omega
  · intro b r
    unfold vec
    simp only [List.foldl_cons]
    refine Same1.fold (.inr ?_) r
    simp only [vst, neg, Prod.mk.injEq]
    constructor <;> omega
  · intro P p b r
    unfold vec
    simp only [List.foldl_append, List.foldl_cons]
    generalize List.foldl vst (1, 0) P = v
    refine Same1.fold (.inr ?_) r
    simp only [vst, neg, Prod.mk.injEq]
    constructor
    · simp only [Int.add_mul, Int.mul_sub, Int.zero_mul]; omega
    · simp only [Int.zero_mul]; omega
  · intro r _
    unfold vec
    simp only [List.foldl_cons]
    exact Same1.fold (.inr (by simp [vst, neg])) r
  · intro b r
    unfold vec
    simp only [List.foldl_cons]
    refine Same1.fold (.inl ?_) r
    simp [vst]
  · intro P a b r
    unfold vec
    simp only [List.foldl_append, List.foldl_cons]
    generalize List.foldl vst (1, 0) P = v
    refine Same1.fold (.inl ?_) r
    simp only [vst, Prod.mk.injEq]
    constructor
    · simp only [Int.add_mul, Int.mul_add, Int.mul_sub, Int.one_mul]; omega
    · simp only [Int.add_mul, Int.one_mul]; omega
theorem vec_go {L : Nat} {l e : List Int} {ss : List (Wd × Nat)} {k : Int} (g : Go L l ss e k) : Same1 (vec l) (vec e) := by
  induction g with
  | nil _ _ => exact .inl rfl
  | cons h _ _ ih => exact (vec_step h).trans ih
def norm (v : Int × Int) : Int × Int := if v.2 = 0 then (1, 0) else if v.2 < 0 then (-v.1, -v.2) else v
def val (l : List Int) : Int × Int := norm (vec l)
theorem norm_same {v u : Int × Int} (h : Same1 v u) : norm u = norm v := by
  rcases h with rfl | rfl
  · rfl
  · obtain ⟨t, b⟩ := v
    show (if -b = 0 then ((1 : Int), (0 : Int)) else if -b < 0 then (- -t, - -b) else (-t, -b)) = if b = 0 then (1, 0) else if b < 0 then (-t, -b) else (t, b)
    by_cases h : b = 0
    · subst h; rfl
    · have h1 : ¬ -b = 0 := by omega
      rw [if_neg h, if_neg h1]
      by_cases h' : b < 0
      · have h2 : ¬ -b < 0 := by omega
        rw [if_pos h', if_neg h2]
      · have h2 : -b < 0 := by omega
        rw [if_neg h', if_pos h2, Int.neg_neg, Int.neg_neg]
theorem val_go {L : Nat} {l e : List Int} {ss : List (Wd × Nat)} {k : Int} (g : Go L l ss e k) : val e = val l := norm_same (vec_go g)
/-- along 2s and more the top is greater, the bottom not below 0 -/
theorem vec_all2 : ∀ (P : List Int) (v : Int × Int), All2 P → 0 ≤ v.2 → v.2 < v.1 → 0 ≤ (P.foldl vst v).2 ∧ (P.foldl vst v).2 < (P.foldl vst v).1
  | [], v, _, h0, h1 => ⟨h0, h1⟩
  | p :: P, v, h, h0, h1 => by
    rw [List.foldl_cons]
    have hp := h p (by simp)
    refine vec_all2 P _ (fun q hq => h q (by simp [hq])) (by simp only [vst]; omega) ?_
    simp only [vst]
    have h2 : 2 * v.1 ≤ p * v.1 := Int.mul_le_mul_of_nonneg_right hp (by omega)
    omega
/-- the vector of a least list, but the one of two noughts -/
theorem vec_least {P : List Int} {a : Int} (h : All2 P) : vec (P ++ [a]) = (a * (vec P).1 - (vec P).2, (vec P).1) ∧ 0 ≤ (vec P).2 ∧ (vec P).2 < (vec P).1 := by
  refine ⟨?_, vec_all2 P (1, 0) h (by decide) (by decide)⟩
  unfold vec
  rw [List.foldl_append]
  rfl
theorem val_least {P : List Int} {a : Int} (h : All2 P) : val (P ++ [a]) = vec (P ++ [a]) := by
  obtain ⟨e, h0, h1⟩ := vec_least (a := a) h
  unfold val norm
  rw [e]
  rw [if_neg (by show ¬ (vec P).1 = 0; omega), if_neg (by show ¬ (vec P).1 < 0; omega)]
theorem ceil_is {a t b : Int} (h0 : 0 ≤ b) (h1 : b < t) : -(-(a * t - b) / t) = a := by
  have e : -(a * t - b) = b + -a * t := by rw [Int.neg_mul]; omega
  rw [e, Int.add_mul_ediv_right _ _ (by omega), Int.ediv_eq_zero_of_lt h0 h1]
  omega
/-- the sum of a list, without signs -/
def absum : List Int → Nat
  | [] => 0
  | a :: r => a.natAbs + absum r
theorem absum_append : ∀ (xs ys : List Int), absum (xs ++ ys) = absum xs + absum ys
  | [], _ => by simp [absum]
  | x :: xs, ys => by rw [List.cons_append]; simp only [absum]; rw [absum_append xs ys]; omega
theorem szR_absum : ∀ (l : List Int), szR l = absum l + l.length
  | [] => rfl
  | a :: r => by simp only [szR, absum, List.length_cons]; rw [szR_absum r]; omega
theorem vec_bound : ∀ (l : List Int) (v : Int × Int) (M : Nat), v.1.natAbs ≤ M → v.2.natAbs ≤ M → (l.foldl vst v).1.natAbs ≤ M * 2 ^ absum l ∧ (l.foldl vst v).2.natAbs ≤ M * 2 ^ absum l
  | [], v, M, h1, h2 => by simpa [absum] using ⟨h1, h2⟩
  | a :: r, v, M, h1, h2 => by
    rw [List.foldl_cons]
    have hp : a.natAbs + 1 ≤ 2 ^ a.natAbs := Nat.lt_two_pow_self
    have q1 : (vst v a).1.natAbs ≤ M * 2 ^ a.natAbs := by
      simp only [vst]
      have e1 : (a * v.1).natAbs = a.natAbs * v.1.natAbs := Int.natAbs_mul _ _
      have e2 : a.natAbs * v.1.natAbs ≤ a.natAbs * M := Nat.mul_le_mul_left _ h1
      have e3 : (a.natAbs + 1) * M ≤ 2 ^ a.natAbs * M := Nat.mul_le_mul_right _ hp
      rw [Nat.succ_mul, Nat.mul_comm (2 ^ _)] at e3
      omega
    have q2 : (vst v a).2.natAbs ≤ M * 2 ^ a.natAbs := by
      simp only [vst]
      exact Nat.le_trans h1 (Nat.le_mul_of_pos_right _ (Nat.two_pow_pos _))
    have := vec_bound r _ _ q1 q2
    simp only [absum, Nat.pow_add, ← Nat.mul_assoc]
    exact this
theorem vec_small {l : List Int} {n : Nat} (h : absum l ≤ n) : (vec l).1.natAbs ≤ 2 ^ n ∧ (vec l).2.natAbs ≤ 2 ^ n := by
  have := vec_bound l (1, 0) 1 (by decide) (by decide)
  have hp : 2 ^ absum l ≤ 2 ^ n := Nat.pow_le_pow_right (by decide) h
  unfold vec
  omega
end Tw
/-! #### MathSum -/
namespace Tw

/-! ### sums of a list, as two functions of the power -/
abbrev F := Int → Int
abbrev Pr := F × F
theorem Pr.ext {s u : Pr} (h1 : ∀ k, s.1 k = u.1 k) (h2 : ∀ k, s.2 k = u.2 k) : s = u := by
  obtain ⟨a, b⟩ := s
  obtain ⟨c, d⟩ := u
  have e1 : a = c := funext h1
  have e2 : b = d := funext h2
  rw [e1, e2]
def swp (s : Pr) : Pr := (s.2, s.1)
def twP (s : Pr) : Pr := (fun k => s.1 (k + 1), fun k => s.1 (k - 1) - s.2 (k - 3))
def twM (s : Pr) : Pr := (fun k => s.1 (k - 1), fun k => s.1 (k + 1) - s.2 (k + 3))
theorem swp_swp (s : Pr) : swp (swp s) = s := rfl
theorem twP_twM (s : Pr) : twP (twM s) = s := by
  refine Pr.ext (fun k => ?_) fun k => ?_
  · show s.1 (k + 1 - 1) = _; rw [show k + 1 - 1 = k by omega]
  · show s.1 (k - 1 - 1) - (s.1 (k - 3 + 1) - s.2 (k - 3 + 3)) = _
    have e1 : k - 3 + 1 = k - 1 - 1 := by omega
    have e2 : k - 3 + 3 = k := by omega
    rw [e1, e2]; omega
theorem twM_twP (s : Pr) : twM (twP s) = s := by
  refine Pr.ext (fun k => ?_) fun k => ?_
  · show s.1 (k - 1 + 1) = _; rw [show k - 1 + 1 = k by omega]
  · show s.1 (k + 1 + 1) - (s.1 (k + 3 - 1) - s.2 (k + 3 - 3)) = _
    have e1 : k + 3 - 1 = k + 1 + 1 := by omega
    have e2 : k + 3 - 3 = k := by omega
    rw [e1, e2]; omega
def itr (f : Pr → Pr) : Nat → Pr → Pr
  | 0, s => s
  | n + 1, s => itr f n (f s)
theorem itr_out (f : Pr → Pr) : ∀ (n : Nat) (s : Pr), itr f (n + 1) s = f (itr f n s)
  | 0, _ => rfl
  | n + 1, s => by
    show itr f (n + 1) (f s) = f (itr f n (f s))
    exact itr_out f n (f s)
/-- n half twists; below 0 back -/
def pw (n : Int) (s : Pr) : Pr := if 0 < n then itr twP n.natAbs s else itr twM n.natAbs s
theorem pw_zero (s : Pr) : pw 0 s = s := rfl
theorem pw_succ_in (n : Int) (s : Pr) : pw (n + 1) s = pw n (twP s) := by
  unfold pw
  by_cases h : 0 < n
  · rw [if_pos h, if_pos (by omega), show (n + 1).natAbs = n.natAbs + 1 by omega]; rfl
  · rw [if_neg h]
    by_cases h0 : n = 0
    · subst h0; rfl
    · rw [if_neg (by omega), show n.natAbs = (n + 1).natAbs + 1 by omega]
      show _ = itr twM _ (twM (twP s))
      rw [twM_twP]
theorem pw_succ_out (n : Int) (s : Pr) : pw (n + 1) s = twP (pw n s) := by
  unfold pw
  by_cases h : 0 < n
  · rw [if_pos h, if_pos (by omega), show (n + 1).natAbs = n.natAbs + 1 by omega, itr_out]
  · rw [if_neg h]
    by_cases h0 : n = 0
    · subst h0; rfl
    · rw [if_neg (by omega), show n.natAbs = (n + 1).natAbs + 1 by omega, itr_out, twP_twM]
theorem pw_pred_in (n : Int) (s : Pr) : pw (n - 1) s = pw n (twM s) := by
  have := pw_succ_in (n - 1) (twM s)
  rw [twP_twM, show n - 1 + 1 = n by omega] at this
  exact this.symm
theorem pw_pred_out (n : Int) (s : Pr) : pw (n - 1) s = twM (pw n s) := by
  have := pw_succ_out (n - 1) s
  rw [show n - 1 + 1 = n by omega] at this
  rw [this, twM_twP]
theorem pw_add (m n : Int) (s : Pr) : pw m (pw n s) = pw (n + m) s := by
  have hn : ∀ k : Nat, ∀ m : Int, m.natAbs = k → pw m (pw n s) = pw (n + m) s := by
    intro k
    induction k with
    | zero =>
      intro m h
      have : m = 0 := by omega
      subst this
      rw [pw_zero, Int.add_zero]
    | succ k ih =>
      intro m h
      by_cases hm : 0 < m
      · have := ih (m - 1) (by omega)
        have e1 := pw_succ_out (m - 1) (pw n s)
        have e2 := pw_succ_out (n + (m - 1)) s
        rw [show m - 1 + 1 = m by omega] at e1
        rw [show n + (m - 1) + 1 = n + m by omega] at e2
        rw [e1, e2, this]
      · have := ih (m + 1) (by omega)
        have e1 := pw_pred_out (m + 1) (pw n s)
        have e2 := pw_pred_out (n + (m + 1)) s
        rw [show m + 1 - 1 = m by omega] at e1
        rw [show n + (m + 1) - 1 = n + m by omega] at e2
        rw [e1, e2, this]
  exact hn _ m rfl

/-- times -x^3 to the h -/
def sg (h : Int) : Int := 1 - 2 * (h % 2)
theorem sg_add (h k : Int) : sg (h + k) = sg h * sg k := by
  unfold sg
  rcases Int.emod_two_eq h with a | a <;> rcases Int.emod_two_eq k with b | b
  · rw [a, b, show (h + k) % 2 = 0 by omega]; rfl
  · rw [a, b, show (h + k) % 2 = 1 by omega]; rfl
  · rw [a, b, show (h + k) % 2 = 1 by omega]; rfl
  · rw [a, b, show (h + k) % 2 = 0 by omega]; rfl
def wt (h : Int) (s : Pr) : Pr := (fun k => sg h * s.1 (k - 3 * h), fun k => sg h * s.2 (k - 3 * h))
theorem wt_zero (s : Pr) : wt 0 s = s := by
  refine Pr.ext (fun k => ?_) fun k => ?_
  · show sg 0 * s.1 (k - 3 * 0) = _
    rw [show sg 0 = 1 from rfl, Int.one_mul, show k - 3 * 0 = k by omega]
  · show sg 0 * s.2 (k - 3 * 0) = _
    rw [show sg 0 = 1 from rfl, Int.one_mul, show k - 3 * 0 = k by omega]
theorem wt_wt (h j : Int) (s : Pr) : wt h (wt j s) = wt (h + j) s := by
  refine Pr.ext (fun k => ?_) fun k => ?_
  · show sg h * (sg j * s.1 (k - 3 * h - 3 * j)) = sg (h + j) * s.1 (k - 3 * (h + j))
    rw [sg_add, Int.mul_assoc, show k - 3 * h - 3 * j = k - 3 * (h + j) by omega]
  · show sg h * (sg j * s.2 (k - 3 * h - 3 * j)) = sg (h + j) * s.2 (k - 3 * (h + j))
    rw [sg_add, Int.mul_assoc, show k - 3 * h - 3 * j = k - 3 * (h + j) by omega]
theorem wt_swp (h : Int) (s : Pr) : swp (wt h s) = wt h (swp s) := rfl
theorem wt_twP (h : Int) (s : Pr) : twP (wt h s) = wt h (twP s) := by
  refine Pr.ext (fun k => ?_) fun k => ?_
  · show sg h * s.1 (k + 1 - 3 * h) = sg h * s.1 (k - 3 * h + 1)
    rw [show k + 1 - 3 * h = k - 3 * h + 1 by omega]
  · show sg h * s.1 (k - 1 - 3 * h) - sg h * s.2 (k - 3 - 3 * h) = sg h * (s.1 (k - 3 * h - 1) - s.2 (k - 3 * h - 3))
    rw [Int.mul_sub, show k - 1 - 3 * h = k - 3 * h - 1 by omega, show k - 3 - 3 * h = k - 3 * h - 3 by omega]
theorem wt_twM (h : Int) (s : Pr) : twM (wt h s) = wt h (twM s) := by
  have := wt_twP h (twM s)
  rw [twP_twM] at this
  rw [← this, twM_twP]
theorem wt_itr {f : Pr → Pr} (hf : ∀ h s, f (wt h s) = wt h (f s)) (h : Int) : ∀ (n : Nat) (s : Pr), itr f n (wt h s) = wt h (itr f n s)
  | 0, _ => rfl
  | n + 1, s => by
    show itr f n (f (wt h s)) = wt h (itr f n (f s))
    rw [hf, wt_itr hf h n]
theorem wt_pw (n h : Int) (s : Pr) : pw n (wt h s) = wt h (pw n s) := by
  unfold pw
  by_cases c : 0 < n
  · rw [if_pos c, if_pos c, wt_itr wt_twP]
  · rw [if_neg c, if_neg c, wt_itr wt_twM]

/-- one number of the list -/
def gst (s : Pr) (a : Int) : Pr := pw a (swp s)
theorem wt_gst (h : Int) (s : Pr) (a : Int) : gst (wt h s) a = wt h (gst s a) := by
  unfold gst; rw [wt_swp, wt_pw]
theorem wt_fold (h : Int) : ∀ (l : List Int) (s : Pr), l.foldl gst (wt h s) = wt h (l.foldl gst s)
  | [], _ => rfl
  | a :: l, s => by rw [List.foldl_cons, List.foldl_cons, wt_gst, wt_fold h l]
def dl : F := fun k => if k = 0 then 1 else 0
def S0 : Pr := (dl, fun _ => 0)
def sem (l : List Int) : Pr := l.foldl gst (swp S0)

/-! ### the steps -/
theorem tri (u : Pr) : twP (swp (twP (swp (twP u)))) = wt 1 (swp u) := by
  obtain ⟨z, y⟩ := u
  refine Pr.ext (fun k => ?_) fun k => ?_
  · simp only [twP, swp, wt, show sg 1 = -1 from rfl]
    rw [show k + 1 - 3 + 1 = k + 1 - 1 - 1 by omega, show k + 1 - 1 - 3 = k - 3 * 1 by omega]
    omega
  · simp only [twP, swp, wt, show sg 1 = -1 from rfl]
    rw [show k - 1 - 1 - 3 = k - 5 by omega, show k - 3 + 1 - 3 = k - 5 by omega, show k - 1 - 1 - 1 = k - 3 by omega, show k - 1 - 3 + 1 = k - 3 by omega, show k - 3 + 1 - 1 = k - 2 - 1 by omega, show k - 3 * 1 = k - 3 by omega, show k - 2 - 1 = k - 3 by omega]
    omega
theorem triM (u : Pr) : twM (swp (twM (swp (twM u)))) = wt (-1) (swp u) := by
  have h := tri (wt (-1) (twM (swp (twM (swp (twM u))))))
  have e : twP (swp (twP (swp (twP (wt (-1) (twM (swp (twM (swp (twM u)))))))))) = wt (-1) u := by
    rw [wt_twP, twP_twM, wt_swp, swp_swp, wt_twP, twP_twM, wt_swp, swp_swp, wt_twP, twP_twM]
  rw [e, wt_swp, wt_wt, show (1 : Int) + -1 = 0 by decide, wt_zero] at h
  have h2 := congrArg swp h
  rw [swp_swp, wt_swp] at h2
  exact h2.symm
theorem first_one : twP (swp (twP S0)) = S0 := by
  refine Pr.ext (fun k => ?_) fun k => ?_
  · simp only [twP, swp, S0, dl]
    by_cases h : k = 0
    · subst h; rfl
    · rw [if_neg (by omega), if_neg h]; rfl
  · simp only [twP, swp, S0, dl]
    rw [show k - 1 - 1 = k - 3 + 1 by omega]
    omega
theorem first_less : twM (swp (twM S0)) = S0 := by
  have a := congrArg (fun s => twM (swp (twM s))) first_one
  simp only [twM_twP, swp_swp] at a
  exact a.symm
theorem loose_one (y : F) : twP ((fun _ => 0), y) = wt 1 ((fun _ => 0), y) := by
  refine Pr.ext (fun k => ?_) fun k => ?_
  · simp [twP, wt]
  · simp only [twP, wt, show sg 1 = -1 from rfl, Int.mul_one]
    omega
theorem loose_less (y : F) : twM ((fun _ => 0), y) = wt (-1) ((fun _ => 0), y) := by
  have h := congrArg twM (loose_one y)
  rw [twM_twP, wt_twM] at h
  have h2 := congrArg (wt (-1)) h
  rw [wt_wt, show (-1 : Int) + 1 = 0 by decide, wt_zero] at h2
  exact h2.symm
theorem loose_it {f : Pr → Pr} {j : Int} {s : Pr} (hs : f s = wt j s) (hf : ∀ h s, f (wt h s) = wt h (f s)) : ∀ n : Nat, itr f n s = wt (j * n) s
  | 0 => by
    rw [show j * ((0 : Nat) : Int) = 0 by simp, wt_zero]; rfl
  | n + 1 => by
    show itr f n (f s) = _
    rw [hs, wt_itr hf, loose_it hs hf n, wt_wt]
    congr 1
    rw [Int.natCast_succ, Int.mul_add]
    omega
theorem loose_pw (n : Int) (y : F) : pw n ((fun _ => 0), y) = wt n ((fun _ => 0), y) := by
  unfold pw
  by_cases h : 0 < n
  · rw [if_pos h, loose_it (loose_one y) wt_twP]
    congr 1; omega
  · rw [if_neg h, loose_it (loose_less y) wt_twM]
    congr 1; omega
/-- THE SUMS ALONG A STEP -/
theorem sem_step {l l' : List Int} {w : Wd} {i : Nat} {h : Int} (e : nx l = some (w, i, l', h)) : sem l = wt h (sem l') := by
  have one_at : ∀ (p b : Int) (s : Pr), gst (gst (gst s p) 1) b = wt 1 (gst (gst s (p - 1)) (b - 1)) := by
    intro p b s
    unfold gst
    have e1 := pw_succ_in (b - 1) (swp (pw 1 (swp (pw p (swp s)))))
    have e2 := pw_succ_out (p - 1) (swp s)
    rw [show b - 1 + 1 = b by omega] at e1
    rw [show p - 1 + 1 = p by omega] at e2
    rw [e1, e2]
    show pw (b - 1) (twP (swp (twP (swp (twP (pw (p - 1) (swp s))))))) = _
    rw [tri, wt_pw]
  refine nx_cases e (C := fun l l' h => sem l = wt h (sem l')) ?_ ?_ ?_ ?_ ?_ ?_ ?_ ?_
  · intro P p b r
    unfold sem
    simp only [List.foldl_append, List.foldl_cons]
    rw [one_at, wt_fold]
  · intro b r
    unfold sem
    simp only [List.foldl_cons]
    rw [wt_zero]
    congr 1
    unfold gst
    have e1 := pw_succ_in (b - 1) (swp (pw 1 (swp (swp S0))))
    rw [show b - 1 + 1 = b by omega] at e1
    rw [e1]
    show pw (b - 1) (twP (swp (twP S0))) = pw (b - 1) S0
    rw [first_one]
  · intro P p b r
    unfold sem
    simp only [List.foldl_append, List.foldl_cons]
    rw [← wt_fold]
    congr 1
    generalize List.foldl gst (swp S0) P = s
    unfold gst
    have e1 := pw_pred_in (b + 1) (swp (pw (-1) (swp (pw p (swp s)))))
    have e2 := pw_pred_out (p + 1) (swp s)
    rw [show b + 1 - 1 = b by omega] at e1
    rw [show p + 1 - 1 = p by omega] at e2
    rw [e1, e2]
    show pw (b + 1) (twM (swp (twM (swp (twM (pw (p + 1) (swp s))))))) = _
    rw [triM, wt_pw]
  · intro b r
    unfold sem
    simp only [List.foldl_cons]
    rw [wt_zero]
    congr 1
    unfold gst
    have e1 := pw_pred_in (b + 1) (swp (pw (-1) (swp (swp S0))))
    rw [show b + 1 - 1 = b by omega] at e1
    rw [e1]
    show pw (b + 1) (twM (swp (twM S0))) = pw (b + 1) S0
    rw [first_less]
  · intro P p b r
    unfold sem
    simp only [List.foldl_append, List.foldl_cons]
    rw [wt_zero]
    congr 1
    generalize List.foldl gst (swp S0) P = s
    unfold gst
    rw [pw_zero, swp_swp, pw_add]
  · intro r _
    unfold sem
    simp only [List.foldl_cons]
    rw [wt_zero]
    rfl
  · intro b r
    unfold sem
    simp only [List.foldl_cons]
    rw [← wt_fold]
    congr 1
    show pw b (swp S0) = wt b (swp S0)
    exact loose_pw b dl
  · intro P a b r
    unfold sem
    simp only [List.foldl_append, List.foldl_cons]
    rw [← wt_fold]
    congr 1
    rw [one_at, wt_wt, show (-1 : Int) + 1 = 0 by decide, wt_zero, show a + 1 - 1 = a by omega, show b + 1 - 1 = b by omega]
theorem sem_go {L : Nat} {l e : List Int} {ss : List (Wd × Nat)} {k : Int} (g : Go L l ss e k) : sem l = wt k (sem e) := by
  induction g with
  | nil _ _ => rw [wt_zero]
  | cons h _ _ ih => rw [sem_step h, ih, wt_wt]
/-- two lists with one end -/
theorem sem_two {L L' : Nat} {l m e : List Int} {ss ss' : List (Wd × Nat)} {k j : Int} (g : Go L l ss e k) (g' : Go L' m ss' e j) : sem l = wt (k - j) (sem m) := by
  rw [sem_go g, sem_go g', wt_wt]
  congr 1; omega
end Tw
/-! #### MathPoly -/
namespace Tw

/-! ### polynomials: powers with numbers, rising -/
abbrev Poly := List (Int × Int)
def coef : Poly → F
  | [], _ => 0
  | t :: r, k => (if t.1 = k then t.2 else 0) + coef r k
def Canon (p : Poly) : Prop := p.Pairwise (fun s t => s.1 < t.1) ∧ ∀ t ∈ p, t.2 ≠ 0
theorem coef_append : ∀ (p q : Poly) (k : Int), coef (p ++ q) k = coef p k + coef q k
  | [], q, k => by simp [coef]
  | t :: p, q, k => by
    rw [List.cons_append]
    simp only [coef]
    rw [coef_append p q k]; omega
theorem coef_none : ∀ (p : Poly) (k : Int), (∀ t ∈ p, t.1 ≠ k) → coef p k = 0
  | [], _, _ => rfl
  | t :: p, k, h => by
    simp only [coef]
    rw [if_neg (h t (by simp)), coef_none p k fun u hu => h u (by simp [hu])]; rfl
theorem Canon.tail {t : Int × Int} {p : Poly} (h : Canon (t :: p)) : Canon p := ⟨(List.pairwise_cons.mp h.1).2, fun u hu => h.2 u (by simp [hu])⟩
theorem Canon.head {t : Int × Int} {p : Poly} (h : Canon (t :: p)) : coef (t :: p) t.1 = t.2 := by
  rw [coef, if_pos rfl, coef_none p t.1 fun u hu => by have := (List.pairwise_cons.mp h.1).1 u hu; omega]
  omega
theorem Canon.below {t : Int × Int} {p : Poly} (h : Canon (t :: p)) {k : Int} (hk : k < t.1) : coef (t :: p) k = 0 :=
  coef_none _ k fun u hu => by
    rcases List.mem_cons.mp hu with rfl | hu
    · omega
    · have := (List.pairwise_cons.mp h.1).1 u hu; omega
/-- polynomials of one kind are one -/
theorem Canon.ext : ∀ {p q : Poly}, Canon p → Canon q → (∀ k, coef p k = coef q k) → p = q
  | [], [], _, _, _ => rfl
  | [], t :: q, _, hq, e => by
    have := e t.1
    rw [hq.head] at this
    exact absurd this.symm (hq.2 t (by simp))
  | t :: p, [], hp, _, e => by
    have := e t.1
    rw [hp.head] at this
    exact absurd this (hp.2 t (by simp))
  | t :: p, u :: q, hp, hq, e => by
    have e1 : t.1 = u.1 := by
      rcases Int.lt_trichotomy t.1 u.1 with h | h | h
      · have := e t.1
        rw [hp.head, hq.below h] at this
        exact absurd this (hp.2 t (by simp))
      · exact h
      · have := e u.1
        rw [hq.head, hp.below h] at this
        exact absurd this.symm (hq.2 u (by simp))
    have e2 : t.2 = u.2 := by
      have := e t.1
      rw [hp.head] at this
      rw [this, e1, hq.head]
    have e3 : t = u := Prod.ext e1 e2
    subst e3
    have : p = q := Canon.ext hp.tail hq.tail fun k => by
      have := e k
      simp only [coef] at this
      omega
    rw [this]

/-! ### lifted -/
def lift (p : Poly) (m : Int) : Poly := p.map fun t => (t.1 + m, t.2)
theorem coef_lift (p : Poly) (m k : Int) : coef (lift p m) k = coef p (k - m) := by
  induction p with
  | nil => rfl
  | cons t p ih =>
    show (if t.1 + m = k then t.2 else 0) + coef (lift p m) k = (if t.1 = k - m then t.2 else 0) + coef p (k - m)
    rw [ih]
    by_cases h : t.1 = k - m
    · rw [if_pos h, if_pos (by omega)]
    · rw [if_neg h, if_neg (by omega)]
theorem canon_lift {p : Poly} (h : Canon p) (m : Int) : Canon (lift p m) := by
  refine ⟨?_, fun t ht => ?_⟩
  · refine List.pairwise_map.mpr (h.1.imp fun {s t} hst => ?_)
    show s.1 + m < t.1 + m
    omega
  · obtain ⟨u, hu, rfl⟩ := List.mem_map.mp ht
    exact h.2 u hu
def negp (p : Poly) : Poly := p.map fun t => (t.1, 0 - t.2)
theorem coef_negp (p : Poly) (k : Int) : coef (negp p) k = - coef p k := by
  induction p with
  | nil => rfl
  | cons t p ih =>
    show (if t.1 = k then 0 - t.2 else 0) + coef (negp p) k = -((if t.1 = k then t.2 else 0) + coef p k)
    rw [ih]
    by_cases h : t.1 = k
    · rw [if_pos h, if_pos h]; omega
    · rw [if_neg h, if_neg h]; omega
/-- the law's own lifting -/
def raise (p : Poly) (h : Int) : Poly := p.map fun t => (t.1 + 3 * h, t.2 * (1 - 2 * (h % 2)))
theorem coef_raise (p : Poly) (h k : Int) : coef (raise p h) k = sg h * coef p (k - 3 * h) := by
  induction p with
  | nil => simp [raise, coef]
  | cons t p ih =>
    show (if t.1 + 3 * h = k then t.2 * sg h else 0) + coef (raise p h) k = sg h * ((if t.1 = k - 3 * h then t.2 else 0) + coef p (k - 3 * h))
    rw [ih, Int.mul_add]
    by_cases c : t.1 = k - 3 * h
    · rw [if_pos c, if_pos (by omega), Int.mul_comm]
    · rw [if_neg c, if_neg (by omega), Int.mul_zero]
theorem canon_raise {p : Poly} (hp : Canon p) (h : Int) : Canon (raise p h) := by
  refine ⟨?_, fun t ht => ?_⟩
  · refine List.pairwise_map.mpr (hp.1.imp fun {s t} hst => ?_)
    show s.1 + 3 * h < t.1 + 3 * h
    omega
  · obtain ⟨u, hu, rfl⟩ := List.mem_map.mp ht
    have := hp.2 u hu
    show u.2 * (1 - 2 * (h % 2)) ≠ 0
    rcases Int.emod_two_eq h with a | a
    · rw [a]; omega
    · rw [a]; omega

/-! ### gathered: a dict of the powers, filled term by term -/
abbrev Dct := List (Int × Int)
def look : Dct → Int → Option Int
  | [], _ => none
  | t :: d, k => if t.1 = k then some t.2 else look d k
/-- the terms' own sum at each power, those powers of which one stands in the list -/
structure Filled (d : Dct) (done : Poly) : Prop where
  nodup : (d.map (·.1)).Nodup
  num : ∀ k, (look d k).getD 0 = coef done k
  keys : ∀ k ∈ d.map (·.1), ∃ t ∈ done, t.1 = k
theorem look_none {d : Dct} {k : Int} (h : k ∉ d.map (·.1)) : look d k = none := by
  induction d with
  | nil => rfl
  | cons t d ih =>
    simp only [List.map_cons, List.mem_cons, not_or] at h
    unfold look
    rw [if_neg (Ne.symm h.1)]
    exact ih h.2
theorem look_some {d : Dct} {k : Int} (h : k ∈ d.map (·.1)) : ∃ v, look d k = some v := by
  induction d with
  | nil => cases h
  | cons t d ih =>
    unfold look
    by_cases c : t.1 = k
    · exact ⟨t.2, by rw [if_pos c]⟩
    · rw [if_neg c]
      refine ih ?_
      rcases List.mem_cons.mp h with h | h
      · exact absurd h.symm c
      · exact h
/-- what stands in the list of the sorted powers -/
def told (D : F) (ys : List Int) : Poly := (ys.filter fun k => !decide (D k = 0)).map fun k => (k, D k)
theorem told_canon {D : F} {ys : List Int} (h : ys.Pairwise (· < ·)) : Canon (told D ys) := by
  refine ⟨List.pairwise_map.mpr ((h.filter _).imp fun {s t} hst => hst), fun t ht => ?_⟩
  obtain ⟨k, hk, rfl⟩ := List.mem_map.mp ht
  have := (List.mem_filter.mp hk).2
  simpa using this
theorem coef_told {D : F} : ∀ {ys : List Int}, ys.Pairwise (· < ·) → (∀ k, D k ≠ 0 → k ∈ ys) → ∀ k, coef (told D ys) k = D k := by
  have h1 : ∀ (ys : List Int), ys.Pairwise (· < ·) → ∀ k, coef (told D ys) k = if k ∈ ys then D k else 0 := by
    intro ys
    induction ys with
    | nil => intro _ k; simp [told, coef]
    | cons y ys ih =>
      intro h k
      have h' := List.pairwise_cons.mp h
      by_cases hy : D y = 0
      · have e : told D (y :: ys) = told D ys := by simp [told, hy]
        rw [e, ih h'.2]
        by_cases hk : k = y
        · subst hk
          have : k ∉ ys := fun z => by have := h'.1 k z; omega
          rw [if_neg this, if_pos (by simp), hy]
        · by_cases hm : k ∈ ys
          · rw [if_pos hm, if_pos (by simp [hm])]
          · rw [if_neg hm, if_neg (by simp [hm, hk])]
      · have e : told D (y :: ys) = (y, D y) :: told D ys := by simp [told, hy]
        rw [e]
        show (if y = k then D y else 0) + coef (told D ys) k = _
        rw [ih h'.2]
        by_cases hk : k = y
        · subst hk
          have : k ∉ ys := fun z => by have := h'.1 k z; omega
          rw [if_neg this, if_pos rfl, if_pos (by simp)]; omega
        · rw [if_neg (Ne.symm hk)]
          by_cases hm : k ∈ ys
          · rw [if_pos hm, if_pos (by simp [hm])]; omega
          · rw [if_neg hm, if_neg (by simp [hm, hk])]; rfl
  intro ys h hD k
  rw [h1 ys h k]
  by_cases hm : k ∈ ys
  · rw [if_pos hm]
  · rw [if_neg hm]
    by_cases h0 : D k = 0
    · exact h0.symm
    · exact absurd (hD k h0) hm
theorem told_mem {D : F} {ys : List Int} {t : Int × Int} (h : t ∈ told D ys) : t.1 ∈ ys := by
  obtain ⟨k, hk, rfl⟩ := List.mem_map.mp h
  exact (List.mem_filter.mp hk).1

/-! ### the powers behind n half twists -/
def Near (n : Nat) (k : Int) : Prop := -(3 * (n : Int)) ≤ k ∧ k ≤ 3 * n ∧ k % 2 = (n : Int) % 2
theorem near_pair {n : Nat} : ∀ {ys : List Int} {y : Int}, (y :: ys).Pairwise (· < ·) → (∀ k ∈ y :: ys, Near n k) → y + 2 * ys.length ≤ 3 * n
  | [], y, _, h => by have := h y (by simp); unfold Near at this; simp; omega
  | z :: ys, y, hp, h => by
    have hp' := List.pairwise_cons.mp hp
    have := near_pair hp'.2 fun k hk => h k (by simp [List.mem_cons.mp hk])
    have h1 := hp'.1 z (by simp)
    have h2 := h y (by simp)
    have h3 := h z (by simp)
    unfold Near at h2 h3
    simp only [List.length_cons]
    omega
theorem near_len {n : Nat} {ys : List Int} (hp : ys.Pairwise (· < ·)) (h : ∀ k ∈ ys, Near n k) : ys.length ≤ 3 * n + 1 := by
  cases ys with
  | nil => simp
  | cons y ys =>
    have := near_pair hp h
    have h2 := h y (by simp)
    unfold Near at h2
    simp only [List.length_cons]
    omega
/-- rising, each once -/
theorem rising {ys : List Int} (h1 : ys.Pairwise (· ≤ ·)) (h2 : ys.Nodup) : ys.Pairwise (· < ·) := by
  have := List.Pairwise.and h1 h2
  exact this.imp fun {a b} h => by
    have : a ≠ b := h.2
    have := h.1
    omega
/-- so many things that are near, in any order -/
theorem near_few {n : Nat} {ks : List Int} (hn : ks.Nodup) (h : ∀ k ∈ ks, Near n k) : ks.length ≤ 3 * n + 1 := by
  have hp : (ks.mergeSort).Perm ks := List.mergeSort_perm ks _
  have hs : (ks.mergeSort).Pairwise (fun a b => decide (a ≤ b) = true) := List.pairwise_mergeSort (fun a b c => by simp; omega) (fun a b => by simp; omega) ks
  have hs' : (ks.mergeSort).Pairwise (· ≤ ·) := hs.imp fun {a b} h => of_decide_eq_true h
  have hr := rising hs' (hp.nodup_iff.mpr hn)
  rw [← hp.length_eq]
  exact near_len hr fun k hk => h k (hp.mem_iff.mp hk)
def NearP (n : Nat) (p : Poly) : Prop := ∀ t ∈ p, Near n t.1
theorem canon_len {n : Nat} {p : Poly} (h : Canon p) (hn : NearP n p) : p.length ≤ 3 * n + 1 := by
  have := near_len (ys := p.map (·.1)) (List.pairwise_map.mpr (h.1.imp fun {s t} x => x)) fun k hk => by
    obtain ⟨t, ht, rfl⟩ := List.mem_map.mp hk
    exact hn t ht
  simpa using this
theorem near_lift {n : Nat} {p : Poly} {m : Int} (h : NearP n p) (h1 : m % 2 = 1) (h2 : -3 ≤ m) (h3 : m ≤ 3) : NearP (n + 1) (lift p m) := fun t ht => by
  obtain ⟨u, hu, rfl⟩ := List.mem_map.mp ht
  have := h u hu
  unfold Near at this ⊢
  show -(3 * ((n + 1 : Nat) : Int)) ≤ u.1 + m ∧ u.1 + m ≤ 3 * ((n + 1 : Nat) : Int) ∧ (u.1 + m) % 2 = ((n + 1 : Nat) : Int) % 2
  omega
theorem near_negp {n : Nat} {p : Poly} (h : NearP n p) : NearP n (negp p) := fun t ht => by
  obtain ⟨u, hu, rfl⟩ := List.mem_map.mp ht
  exact h u hu
theorem near_append {n : Nat} {p q : Poly} (hp : NearP n p) (hq : NearP n q) : NearP n (p ++ q) := fun t ht => (List.mem_append.mp ht).elim (hp t) (hq t)
/-- what gathered tells of terms -/
def Gath (terms p : Poly) : Prop := Canon p ∧ (∀ k, coef p k = coef terms k) ∧ ∀ t ∈ p, ∃ u ∈ terms, u.1 = t.1
theorem gath_near {n : Nat} {terms p : Poly} (g : Gath terms p) (h : NearP n terms) : NearP n p := fun t ht => by
  obtain ⟨u, hu, e⟩ := g.2.2 t ht
  rw [← e]
  exact h u hu
theorem gath_of {d : Dct} {terms : Poly} {ys : List Int} (h : Filled d terms) (hp : ys.Perm (d.map (·.1))) (hs : ys.Pairwise (· ≤ ·)) : Gath terms (told (coef terms) ys) := by
  have hr := rising hs (hp.nodup_iff.mpr h.nodup)
  refine ⟨told_canon hr, coef_told hr fun k hk => ?_, fun t ht => h.keys _ (hp.mem_iff.mp (told_mem ht))⟩
  have := h.num k
  by_cases hm : k ∈ d.map (·.1)
  · exact hp.mem_iff.mpr hm
  · rw [look_none hm] at this
    exact absurd this.symm hk

/-- a pair of polynomials that stands for two functions, behind n half twists -/
structure Rep (n : Nat) (l u : Poly) (s : Pr) : Prop where
  cl : Canon l
  cu : Canon u
  el : ∀ k, coef l k = s.1 k
  eu : ∀ k, coef u k = s.2 k
  nl : NearP n l
  nu : NearP n u
theorem Rep.swap {n : Nat} {l u : Poly} {s : Pr} (h : Rep n l u s) : Rep n u l (swp s) := ⟨h.cu, h.cl, h.eu, h.el, h.nu, h.nl⟩
theorem Rep.ext {n m : Nat} {l u l' u' : Poly} {s : Pr} (h : Rep n l u s) (h' : Rep m l' u' s) : l = l' ∧ u = u' :=
  ⟨h.cl.ext h'.cl fun k => (h.el k).trans (h'.el k).symm, h.cu.ext h'.cu fun k => (h.eu k).trans (h'.eu k).symm⟩
theorem Rep.plus {n : Nat} {l u u' : Poly} {s : Pr} (h : Rep n l u s) (g : Gath (lift l 1 ++ negp (lift u 3)) u') : Rep (n + 1) (lift l (-1)) u' (twP s) := by
  refine ⟨canon_lift h.cl _, g.1, fun k => ?_, fun k => ?_, near_lift h.nl (by decide) (by decide) (by decide), gath_near g (near_append (near_lift h.nl (by decide) (by decide) (by decide)) (near_negp (near_lift h.nu (by decide) (by decide) (by decide))))⟩
  · rw [coef_lift, h.el]
    show s.1 (k - -1) = s.1 (k + 1)
    rw [show k - -1 = k + 1 by omega]
  · rw [g.2.1, coef_append, coef_negp, coef_lift, coef_lift, h.el, h.eu]
    show s.1 (k - 1) + -s.2 (k - 3) = s.1 (k - 1) - s.2 (k - 3)
    omega
theorem Rep.less {n : Nat} {l u u' : Poly} {s : Pr} (h : Rep n l u s) (g : Gath (lift l (-1) ++ negp (lift u (-3))) u') : Rep (n + 1) (lift l 1) u' (twM s) := by
  refine ⟨canon_lift h.cl _, g.1, fun k => ?_, fun k => ?_, near_lift h.nl (by decide) (by decide) (by decide), gath_near g (near_append (near_lift h.nl (by decide) (by decide) (by decide)) (near_negp (near_lift h.nu (by decide) (by decide) (by decide))))⟩
  · rw [coef_lift, h.el]
    rfl
  · rw [g.2.1, coef_append, coef_negp, coef_lift, coef_lift, h.el, h.eu]
    show s.1 (k - -1) + -s.2 (k - -3) = s.1 (k + 1) - s.2 (k + 3)
    rw [show k - -1 = k + 1 by omega, show k - -3 = k + 3 by omega]
    omega
theorem rep_start : Rep 0 [(0, 1)] [] S0 := by
  refine ⟨⟨List.pairwise_singleton _ _, fun t ht => ?_⟩, ⟨List.Pairwise.nil, fun t ht => nomatch ht⟩, fun k => ?_, fun k => rfl, fun t ht => ?_, fun t ht => nomatch ht⟩
  · have : t = (0, 1) := by simpa using ht
    subst this; decide
  · show (if (0 : Int) = k then 1 else 0) + 0 = if k = 0 then 1 else 0
    by_cases h : k = 0
    · rw [if_pos h, if_pos h.symm]; rfl
    · rw [if_neg h, if_neg (Ne.symm h)]; rfl
  · have : t = (0, 1) := by simpa using ht
    subst this
    exact ⟨by decide, by decide, by decide⟩
/-- the law's end -/
theorem rep_raise {n m : Nat} {l u l' u' : Poly} {s t : Pr} {h : Int} (a : Rep n l u s) (b : Rep m l' u' t) (e : s = wt h t) : l = raise l' h ∧ u = raise u' h := by
  subst e
  exact ⟨a.cl.ext (canon_raise b.cl h) fun k => by rw [a.el, coef_raise, b.el]; rfl, a.cu.ext (canon_raise b.cu h) fun k => by rw [a.eu, coef_raise, b.eu]; rfl⟩
end Tw
/-! #### MathLaw -/
namespace Tw
theorem snoc_cases (B : List Int) : B = [] ∨ ∃ A x, B = A ++ [x] := by
  by_cases h : B = []
  · exact .inl h
  · exact .inr ⟨B.dropLast, B.getLast h, (List.dropLast_concat_getLast h).symm⟩
theorem all2_pre {A : List Int} {x : Int} (h : All2 (A ++ [x])) : All2 A := fun p hp => h p (by simp [hp])
/-- a least list is the only one of its value -/
theorem vec_inj : ∀ (n : Nat) (A B : List Int) (a b : Int), A.length = n → All2 A → All2 B → vec (A ++ [a]) = vec (B ++ [b]) → A ++ [a] = B ++ [b] := by
  intro n
  induction n with
  | zero =>
    intro A B a b hn hA hB h
    have : A = [] := List.eq_nil_of_length_eq_zero hn
    subst this
    obtain ⟨e2, f0, f1⟩ := vec_least (a := b) hB
    have e1 : vec ([] ++ [a]) = (a * 1 - 0, 1) := rfl
    rw [e1, e2] at h
    have h1 : (1 : Int) = (vec B).1 := congrArg Prod.snd h
    have h2 : a * 1 - 0 = b * (vec B).1 - (vec B).2 := congrArg Prod.fst h
    rcases snoc_cases B with rfl | ⟨B', y, rfl⟩
    · rw [← h1] at h2
      have : (vec ([] : List Int)).2 = 0 := rfl
      rw [this] at h2
      rw [show a = b by omega]
    · obtain ⟨e3, g0, g1⟩ := vec_least (a := y) (all2_pre hB)
      rw [e3] at f0 f1 h1
      have f1 : (vec B').1 < y * (vec B').1 - (vec B').2 := f1
      have h1 : 1 = y * (vec B').1 - (vec B').2 := h1
      omega
  | succ n ih =>
    intro A B a b hn hA hB h
    obtain ⟨e1, c0, c1⟩ := vec_least (a := a) hA
    obtain ⟨e2, d0, d1⟩ := vec_least (a := b) hB
    rw [e1, e2] at h
    have h1 : (vec A).1 = (vec B).1 := congrArg Prod.snd h
    have h2 : a * (vec A).1 - (vec A).2 = b * (vec B).1 - (vec B).2 := congrArg Prod.fst h
    have ha := ceil_is (a := a) c0 c1
    have hb := ceil_is (a := b) d0 d1
    rw [h2, h1, hb] at ha
    subst ha
    have h3 : (vec A).2 = (vec B).2 := by rw [h1] at h2; omega
    rcases snoc_cases A with rfl | ⟨A', x, rfl⟩
    · cases hn
    · rcases snoc_cases B with rfl | ⟨B', y, rfl⟩
      · obtain ⟨e3, g0, g1⟩ := vec_least (a := x) (all2_pre hA)
        rw [e3] at h3
        have : (vec ([] : List Int)).2 = 0 := rfl
        rw [this] at h3
        have h3 : (vec A').1 = 0 := h3
        omega
      · have hn' : A'.length = n := by simpa using hn
        rw [ih A' B' x y hn' (all2_pre hA) (all2_pre hB) (Prod.ext h1 h3)]
theorem least_inj {e f : List Int} (he : Least e) (hf : Least f) (ne : e ≠ []) (nf : f ≠ []) (h : val e = val f) : e = f := by
  have pos : ∀ g : List Int, g ≠ [] → All2 g.dropLast → 0 < (val g).2 ∧ val g = vec g := by
    intro g hg h2
    rcases snoc_cases g with rfl | ⟨A, x, rfl⟩
    · exact absurd rfl hg
    · rw [List.dropLast_concat] at h2
      obtain ⟨e1, c0, c1⟩ := vec_least (a := x) h2
      rw [val_least h2, e1]
      exact ⟨by show 0 < (vec A).1; omega, rfl⟩
  have v00 : (val [0, 0]).2 = 0 := rfl
  rcases he with rfl | he
  · rcases hf with rfl | hf
    · rfl
    · have := (pos f nf hf).1
      rw [← h, v00] at this
      omega
  · rcases hf with rfl | hf
    · have := (pos e ne he).1
      rw [h, v00] at this
      omega
    · have h1 := (pos e ne he).2
      have h2 := (pos f nf hf).2
      rw [h1, h2] at h
      rcases snoc_cases e with rfl | ⟨A, x, rfl⟩
      · exact absurd rfl ne
      · rcases snoc_cases f with rfl | ⟨B, y, rfl⟩
        · exact absurd rfl nf
        · rw [List.dropLast_concat] at he hf
          exact vec_inj A.length A B x y rfl he hf h
/-- all that is asked of a small list -/
structure Eas (l e : List Int) (ss : List (Wd × Nat)) (k : Int) : Prop where
  ne : l ≠ []
  len : l.length ≤ 10
  ab : absum l ≤ 16
  go : Go 900 l ss e k
  few : ss.length ≤ 1000
  ene : e ≠ []
  least : Least e
  elen : e.length ≤ 900
  eb : ∀ x ∈ e, x.natAbs ≤ 1000
  vl : val e = val l
  bot : (val e).2 ≤ 1000000
theorem mem_absum {l : List Int} {x : Int} (h : x ∈ l) : x.natAbs ≤ absum l := by
  induction l with
  | nil => cases h
  | cons a r ih =>
    simp only [absum]
    rcases List.mem_cons.mp h with rfl | h
    · omega
    · have := ih h; omega
theorem eas {l : List Int} (h0 : l ≠ []) (h1 : l.length ≤ 10) (h2 : absum l ≤ 16) : ∃ e ss k, Eas l e ss k := by
  have hB : szS [] + szR l ≤ 26 := by
    rw [szR_absum]
    show 0 + _ ≤ 26
    omega
  obtain ⟨ss, e, k, g, hn, hb⟩ := ends_z (L := 900) (B := 26) (by decide) l.length 0 [] l rfl rfl h0 (fun _ h => nomatch h) hB
  have g : Go 900 l ss e k := g
  obtain ⟨he1, he2⟩ := go_end g
  refine ⟨e, ss, k, h0, h1, h2, g, by omega, go_ne g h0, nx_least he1, he2, fun x hx => by have := hb x hx; omega, val_go g, ?_⟩
  rw [val_go g]
  obtain ⟨v1, v2⟩ := vec_small h2
  have p16 : (2 : Nat) ^ 16 = 65536 := by decide
  rw [p16] at v1 v2
  unfold val norm
  by_cases c : (vec l).2 = 0
  · rw [if_pos c]; decide
  · rw [if_neg c]
    by_cases d : (vec l).2 < 0
    · rw [if_pos d]
      show -(vec l).2 ≤ 1000000
      omega
    · rw [if_neg d]; omega
/-- one value just where eased to one list -/
theorem eas_iff {l m e f : List Int} {ss tt : List (Wd × Nat)} {k j : Int} (a : Eas l e ss k) (b : Eas m f tt j) : (val l = val m) ↔ (e = f) := by
  constructor
  · intro h
    exact least_inj a.least b.least a.ene b.ene (by rw [a.vl, b.vl, h])
  · intro h
    subst h
    rw [← a.vl, ← b.vl]
/-- eased, a least list stays -/
theorem Eas.again {l e : List Int} {ss : List (Wd × Nat)} {k : Int} (a : Eas l e ss k) : Go 900 e [] e 0 := Go.nil (least_nx a.least) a.elen
theorem Eas.num {l e : List Int} {ss : List (Wd × Nat)} {k : Int} (a : Eas l e ss k) : ∀ x ∈ l, x.natAbs ≤ 1000 := fun x hx => by
  have := mem_absum hx
  have := a.ab
  omega
end Tw
/-! #### WBase -/
/-! words of our own over the layer -/
namespace Tw
open PySem PySem.Spec PyProof.Rows L2 Evl

/-! ### the text by places -/
def topS (i : Nat) : Stmt := PySem.Challenge.pw_tanglehouse_k70_whole_eased.main.body.getD i (.Pass ⟨0, 0, 0, 0⟩)

/-! ### readings by a word about the value -/
/-- a word about the heap ahead, the value, the heap behind -/
abbrev PV := Hp → V → Hp → Prop
/-- it stays where less was known ahead and more behind -/
def Mo (P : PV) : Prop := ∀ H0 H1 v H2 H3, Ex H0 H1 → Ex H2 H3 → P H1 v H2 → P H0 v H3
def EvX (te : TE) (σ : L2.St) (H : Hp) (P : PV) : Prop := ∀ H1, Ex H H1 → ∀ Q : VK, (∀ v H2, Ex H1 H2 → P H1 v H2 → Q v H2) → te σ H1 Q
def RetX (P : PV) (H : Hp) (Q : VK) : Prop := ∀ v H2, Ex H H2 → P H v H2 → Q v H2
def isV (v0 : V) : PV := fun _ v _ => v = v0
def isL (xs : List V) : PV := fun H1 v H2 => ∃ p, v = .ref p ∧ H1 p = none ∧ H2 p = some (.lst xs)
def isU (xs : List V) : PV := fun H1 v H2 => ∃ p, v = .ref p ∧ H1 p = none ∧ H2 p = some (.tup xs)
def isU2 (P R : PV) : PV := fun H1 v H2 => ∃ t x y, v = .ref t ∧ H1 t = none ∧ H2 t = some (.tup [x, y]) ∧ P H1 x H2 ∧ R H1 y H2
def isU3 (P R S : PV) : PV := fun H1 v H2 => ∃ t x y z, v = .ref t ∧ H1 t = none ∧ H2 t = some (.tup [x, y, z]) ∧ P H1 x H2 ∧ R H1 y H2 ∧ S H1 z H2
theorem mo_V {v0 : V} : Mo (isV v0) := fun _ _ _ _ _ _ _ h => h
theorem mo_L {xs : List V} : Mo (isL xs) := fun _ _ _ _ _ e e' ⟨p, a, b, c⟩ => ⟨p, a, fresh_back e b, e' p _ c⟩
theorem mo_U {xs : List V} : Mo (isU xs) := fun _ _ _ _ _ e e' ⟨p, a, b, c⟩ => ⟨p, a, fresh_back e b, e' p _ c⟩
theorem mo_U2 {P R : PV} (hP : Mo P) (hR : Mo R) : Mo (isU2 P R) := fun _ _ _ _ _ e e' ⟨p, x, y, a, b, c, d, f⟩ => ⟨p, x, y, a, fresh_back e b, e' p _ c, hP _ _ _ _ _ e e' d, hR _ _ _ _ _ e e' f⟩
theorem mo_U3 {P R S : PV} (hP : Mo P) (hR : Mo R) (hS : Mo S) : Mo (isU3 P R S) := fun _ _ _ _ _ e e' ⟨p, x, y, z, a, b, c, d, f, g⟩ =>
  ⟨p, x, y, z, a, fresh_back e b, e' p _ c, hP _ _ _ _ _ e e' d, hR _ _ _ _ _ e e' f, hS _ _ _ _ _ e e' g⟩
theorem RetX.go {P : PV} (hP : Mo P) {H H' : Hp} {Q : VK} (k : RetX P H Q) (e : Ex H H') : RetX P H' Q := fun v H2 e2 p => k v H2 (e.trans e2) (hP _ _ _ _ _ e (Ex.refl _) p)
section
variable {K : PySem.W.Frag} {σ : L2.St} {H H' : Hp} {ta tb tc te : TE} {t u : TT} {x y z v : V} {P R S : PV}
theorem Ex.same (e : Ex H H') : Same H H' := e
theorem EvX.mono (e : Ex H H') (h : EvX te σ H P) : EvX te σ H' P := fun H1 a Q q => h H1 (e.trans a) Q q
theorem EvX.imp (h : EvX te σ H P) (i : ∀ H1 v H2, Ex H H1 → Ex H1 H2 → P H1 v H2 → R H1 v H2) : EvX te σ H R := fun H1 a Q q => h H1 a Q fun v H2 e p => q v H2 e (i H1 v H2 a e p)
theorem ex_V (h : Ev te σ H v) : EvX te σ H (isV v) := fun H1 e Q q => h H1 e Q fun H2 e2 => q v H2 e2 rfl
theorem ev_X (h : EvX te σ H (isV v)) : Ev te σ H v := fun H1 e Q q => h H1 e Q fun w H2 e2 p => by
  have p : w = v := p
  rw [p]; exact q H2 e2
theorem ex_L {xs : List V} (h : EvL te σ H xs) : EvX te σ H (isL xs) := fun H1 e Q q => h H1 e Q fun p H2 hp e2 hx => q (.ref p) H2 e2 ⟨p, rfl, hp, hx⟩
theorem el_X {xs : List V} (h : EvX te σ H (isL xs)) : EvL te σ H xs := fun H1 e Q q => h H1 e Q fun v H2 e2 ⟨p, a, b, c⟩ => by
  rw [a]; exact q p H2 b e2 c
theorem ex_U {xs : List V} (h : EvU te σ H xs) : EvX te σ H (isU xs) := fun H1 e Q q => h H1 e Q fun p H2 hp e2 hx => q (.ref p) H2 e2 ⟨p, rfl, hp, hx⟩
/-- a new tuple of two, of three -/
theorem ex_tup2 (hP : Mo P) (hR : Mo R) (ha : EvX ta σ H P) (hb : EvX tb σ H R) : EvX (tTup (tCons ta (tCons tb tNil))) σ H (isU2 P R) := fun H1 e Q q =>
  ha H1 e _ fun x H2 e2 px => hb H2 (e.trans e2) _ fun y H3 e3 py => ⟨by show 2 ≤ sizeLine; decide, fun p hp => q _ _ ((e2.trans e3).trans (Ex.new hp))
    ⟨p, x, y, rfl, fresh_back (e2.trans e3) hp, upd_same, hP _ _ _ _ _ (Ex.refl _) (e3.trans (Ex.new hp)) px, hR _ _ _ _ _ e2 (Ex.new hp) py⟩⟩
theorem ex_tup3 (hP : Mo P) (hR : Mo R) (hS : Mo S) (ha : EvX ta σ H P) (hb : EvX tb σ H R) (hc : EvX tc σ H S) : EvX (tTup (tCons ta (tCons tb (tCons tc tNil)))) σ H (isU3 P R S) := fun H1 e Q q =>
  ha H1 e _ fun x H2 e2 px => hb H2 (e.trans e2) _ fun y H3 e3 py => hc H3 ((e.trans e2).trans e3) _ fun z H4 e4 pz => ⟨by show 3 ≤ sizeLine; decide, fun p hp => q _ _ (((e2.trans e3).trans e4).trans (Ex.new hp))
    ⟨p, x, y, z, rfl, fresh_back ((e2.trans e3).trans e4) hp, upd_same, hP _ _ _ _ _ (Ex.refl _) ((e3.trans e4).trans (Ex.new hp)) px, hR _ _ _ _ _ e2 (e4.trans (Ex.new hp)) py, hS _ _ _ _ _ (e2.trans e3) (Ex.new hp) pz⟩⟩
/-- a call, its arguments plain values -/
theorem ex_call {sp : Sp} {dvs vs : List V} {E : XK} {tA : TA} (hP : Mo P) (h : EvA tA σ H vs) (hs : ∀ H1, Ex H H1 → ∀ Q E, RetX P H1 Q → sp (vs ++ dvs) H1 Q E) : EvX (tCall sp dvs E tA) σ H P := fun H1 e Q q =>
  h H1 e _ fun H2 e2 => hs H2 (e.trans e2) Q E fun v H3 e3 p => q v H3 (e2.trans e3) (hP _ _ _ _ _ e2 (Ex.refl _) p)
theorem ev_callX {sp : Sp} {dvs vs : List V} {E : XK} {tA : TA} (h : EvA tA σ H vs) (hs : ∀ H1, Ex H H1 → ∀ Q E, RetX (isV v) H1 Q → sp (vs ++ dvs) H1 Q E) : Ev (tCall sp dvs E tA) σ H v := ev_X (ex_call mo_V h hs)
/-- a call with one argument by a word -/
theorem ex_call1 {sp : Sp} {dvs : List V} {E : XK} (hP : Mo P) (h : EvX ta σ H R) (hs : ∀ H0 H1 x, Ex H H0 → Ex H0 H1 → R H0 x H1 → ∀ Q E, RetX P H1 Q → sp (x :: dvs) H1 Q E) : EvX (tCall sp dvs E (tCons ta tNil)) σ H P := fun H1 e Q q =>
  h H1 e _ fun x H2 e2 px => hs H1 H2 x e e2 px Q E fun v H3 e3 p => q v H3 (e2.trans e3) (hP _ _ _ _ _ e2 (Ex.refl _) p)
/-- with two -/
theorem ex_call2 {sp : Sp} {dvs : List V} {E : XK} (hP : Mo P) (hR : Mo R) (h : EvX ta σ H R) (h' : EvX tb σ H S) (hs : ∀ H0 H1 x y, Ex H H0 → Ex H0 H1 → R H0 x H1 → (∃ H', Ex H0 H' ∧ S H' y H1) → ∀ Q E, RetX P H1 Q → sp (x :: y :: dvs) H1 Q E) :
    EvX (tCall sp dvs E (tCons ta (tCons tb tNil))) σ H P := fun H1 e Q q =>
  h H1 e _ fun x H2 e2 px => h' H2 (e.trans e2) _ fun y H3 e3 py => hs H1 H3 x y e (e2.trans e3) (hR _ _ _ _ _ (Ex.refl _) e3 px) ⟨H2, e2, py⟩ Q E fun v H4 e4 p => q v H4 ((e2.trans e3).trans e4) (hP _ _ _ _ _ (e2.trans e3) (Ex.refl _) p)
/-- xs + ys -/
theorem el_cat {xs ys : List V} (ha : EvL ta σ H xs) (hb : EvL tb σ H ys) (hz : xs.length + ys.length ≤ 100000) : EvL (tOp rCat ta tb) σ H (xs ++ ys) := fun H1 e Q q =>
  ha H1 e _ fun p H2 hp e2 h2 => hb H2 (e.trans e2) _ fun r H3 hr e3 h3 => ⟨p, r, xs, ys, rfl, rfl, e3 p _ h2, h3, sz_of hz, fun t ht => q t _ (fresh_back (e2.trans e3) ht) ((e2.trans e3).trans (Ex.new ht)) upd_same⟩
/-- a subscript of a thing by a word -/
theorem ex_ix0 {K : PySem.W.Frag} (hR : Mo R) (hM : ∀ H1 v H2, R H1 v H2 → ∃ t xs x, v = .ref t ∧ SqT K H2 t xs ∧ xs[0]? = some x ∧ P H1 x H2) (ha : EvX ta σ H R) : EvX (tOp (rIxT K) ta (tC (.int 0))) σ H P := fun H1 e Q q =>
  ha H1 e _ fun v H2 e2 pv => by
    obtain ⟨t, xs, x, rfl, h1, h2, h3⟩ := hM H1 v H2 pv
    exact ⟨t, xs, 0, x, rfl, rfl, h1, atI_nat (j := 0) h2, q x H2 e2 h3⟩
theorem ex_ix1 {K : PySem.W.Frag} (hR : Mo R) (hM : ∀ H1 v H2, R H1 v H2 → ∃ t xs x, v = .ref t ∧ SqT K H2 t xs ∧ xs[1]? = some x ∧ P H1 x H2) (ha : EvX ta σ H R) : EvX (tOp (rIxT K) ta (tC (.int 1))) σ H P := fun H1 e Q q =>
  ha H1 e _ fun v H2 e2 pv => by
    obtain ⟨t, xs, x, rfl, h1, h2, h3⟩ := hM H1 v H2 pv
    exact ⟨t, xs, 1, x, rfl, rfl, h1, atI_nat (j := 1) h2, q x H2 e2 h3⟩

/-! ### statements -/
variable {D : Ends} {tu tz : TS} {g : TG}
theorem q_asgX {i : Nat} (h : EvX te σ H P) (k : ∀ v H1, Ex H H1 → P H v H1 → tz D (σ.set i (some v)) H1) : tSeq (tAsg te (gName i)) tz D σ H := h H (Ex.refl H) _ k
theorem s_asgX {i : Nat} (h : EvX te σ H P) (k : ∀ v H1, Ex H H1 → P H v H1 → D.nx (σ.set i (some v)) H1) : tAsg te (gName i) D σ H := h H (Ex.refl H) _ k
theorem s_retX (h : EvX te σ H P) (k : RetX P H D.rt) : tRet te D σ H := h H (Ex.refl H) _ k
/-- x, y = a tuple of two -/
theorem s_asg2 {i j : Nat} (h : EvX te σ H R) (hM : ∀ v H2, R H v H2 → ∃ t x y, v = .ref t ∧ SqT K H2 t [x, y] ∧ P H x H2 ∧ S H y H2)
    (k : ∀ x y H1, Ex H H1 → P H x H1 → S H y H1 → D.nx ((σ.set i (some x)).set j (some y)) H1) : tAsg te (gTup K 2 (gCons (gName i) (gCons (gName j) gNil))) D σ H := h H (Ex.refl H) _ fun v H1 e p => by
  obtain ⟨t, x, y, rfl, h1, h2, h3⟩ := hM v H1 p
  exact ⟨t, [x, y], rfl, h1, rfl, x, [y], rfl, y, [], rfl, rfl, k x y H1 e h2 h3⟩
theorem q_asg2 {i j : Nat} (h : EvX te σ H R) (hM : ∀ v H2, R H v H2 → ∃ t x y, v = .ref t ∧ SqT K H2 t [x, y] ∧ P H x H2 ∧ S H y H2)
    (k : ∀ x y H1, Ex H H1 → P H x H1 → S H y H1 → tz D ((σ.set i (some x)).set j (some y)) H1) : tSeq (tAsg te (gTup K 2 (gCons (gName i) (gCons (gName j) gNil)))) tz D σ H := s_asg2 (D := { D with nx := tz D }) h hM k
theorem isU2_SqT {v : V} (h : isU2 P R H v H') : ∃ t x y, v = .ref t ∧ SqT K H' t [x, y] ∧ P H x H' ∧ R H y H' := by
  obtain ⟨t, x, y, a, _, c, d, f⟩ := h
  exact ⟨t, x, y, a, st_of c, d, f⟩
end

/-- a def of the text as it stands behind the top, and its name -/
structure Fd (K : PySem.W.Frag) (mg : Str → Option Value) (x : Str) (st : Stmt) (ps : List Str) (f : Addr) (fd : FuncData) : Prop where
  F : Fun K x x st f fd
  b : Binds K fd ps []
  m : mg x = some (.ref f)
/-! ### lists of ints -/
abbrev il (l : List Int) : List V := l.map V.int
theorem il_at {l : List Int} {j : Nat} {a : Int} (h : l[j]? = some a) : (il l)[j]? = some (.int a) := by
  rw [List.getElem?_map, h]; rfl
theorem il_mid (P : List Int) (a : Int) (r : List Int) : (P ++ a :: r)[P.length]? = some a := by
  rw [List.getElem?_append_right (Nat.le_refl _), Nat.sub_self]; rfl
theorem il_mid1 (P : List Int) (a b : Int) (r : List Int) : (P ++ a :: b :: r)[P.length + 1]? = some b := by
  rw [List.getElem?_append_right (Nat.le_add_right _ _), Nat.add_sub_cancel_left]; rfl
theorem cut_to {xs : List V} {z : Int} {k : Nat} (e : z = (k : Int)) (h : k ≤ xs.length) : cutV xs none (some z) = xs.take k := by
  subst e
  unfold cutV
  rw [HT.sIx_none, HT.sIx_nat, List.drop_zero, Nat.sub_zero, Nat.min_eq_left h]
theorem cut_from {xs : List V} {z : Int} {k : Nat} (e : z = (k : Int)) : cutV xs (some z) none = xs.drop k := by
  subst e
  unfold cutV
  rw [HT.sIx_none, HT.sIx_nat]
  by_cases h : k ≤ xs.length
  · rw [Nat.min_eq_left h, List.take_of_length_le (by rw [List.length_drop]; omega)]
  · rw [Nat.min_eq_right (by omega), Nat.sub_self, List.take_zero, List.drop_eq_nil_of_le (by omega)]
theorem cut_last {xs : List V} : cutV xs none (some (-1)) = xs.dropLast := by
  unfold cutV
  rw [HT.sIx_none, List.drop_zero, Nat.sub_zero]
  have : HT.sIx xs.length xs.length (some (-1)) = xs.length - 1 := by
    show (if (-1 : Int) < 0 then ((-1 : Int) + (xs.length : Int)).toNat else min (-1 : Int).toNat xs.length) = _
    rw [if_pos (by decide)]; omega
  rw [this, List.dropLast_eq_take]
/-- xs[i] read, by a place that stands -/
theorem get_list {X : Cx} : PGet X (fun o i H Q => ∃ p xs j v, o = .ref p ∧ i = .int ((j : Nat) : Int) ∧ SqL X.K H p xs ∧ xs[j]? = some v ∧ Q v H) := by
  intro pins s σ H o i ov iv Q I ro ri h
  obtain ⟨p, xs, j, v, rfl, rfl, hq, hv, q⟩ := h
  cases ro
  obtain ⟨t, rfl⟩ := ri
  obtain ⟨its, r, pl, hz⟩ := I.list hq
  obtain ⟨w, ew, rw'⟩ := r.get hv
  have hl := r.length
  have hn := line63
  have hj : j < xs.length := (List.getElem?_eq_some_iff.mp hv).1
  have fin : EP X pins σ Q w s := ⟨v, H, I, rw', q⟩
  exact wpAny_getItem_list pl.isList (k := (j : Int)) (x := w) (by omega) (by omega) (by rw [Int.toNat_natCast]; simpa using ew) fin
/-- l[i] -= d of a list of our own -/
theorem q_augL {K : PySem.W.Frag} {σ : L2.St} {H : Hp} {D : L2.Ends} {tz : TS} {to ti te : TE} {l : Addr} {xs : List Int} {j : Nat} {a d : Int} (hl : H l = some (.lst (il xs))) (ho : Ev to σ H (.ref l)) (hi : Ev ti σ H (.int ((j : Nat) : Int))) (he : Ev te σ H (.int d)) (hj : xs[j]? = some a)
    (k : ∀ H1, Ex H H1 → tz D σ (upd H1 l (.lst (il (xs.set j (a - d)))))) :
    tSeq (tAugS to ti te (fun o i H Q => ∃ p xs j v, o = .ref p ∧ i = .int ((j : Nat) : Int) ∧ SqL K H p xs ∧ xs[j]? = some v ∧ Q v H) (ipI fun i j => i - j) rSetL) tz D σ H :=
  ho H (Ex.refl H) _ fun H1 e1 => hi H1 e1 _ fun H2 e2 => ⟨l, il xs, j, .int a, rfl, rfl, sq_of ((e1.trans e2) l _ hl), il_at hj, he H2 (e1.trans e2) _ fun H3 e3 =>
    ⟨a, d, rfl, rfl, l, il xs, (j : Int), j, rfl, rfl, ((e1.trans e2).trans e3) l _ hl, by
      rw [List.length_map]
      exact ixN_nat (List.getElem?_eq_some_iff.mp hj).1, by
      have q := k H3 ((e1.trans e2).trans e3)
      have e : il (xs.set j (a - d)) = (il xs).set j (.int (a - d)) := List.map_set
      rw [e] at q
      exact q⟩⟩
theorem s_augL {K : PySem.W.Frag} {σ : L2.St} {H : Hp} {D : L2.Ends} {to ti te : TE} {l : Addr} {xs : List Int} {j : Nat} {a d : Int} (hl : H l = some (.lst (il xs))) (ho : Ev to σ H (.ref l)) (hi : Ev ti σ H (.int ((j : Nat) : Int))) (he : Ev te σ H (.int d)) (hj : xs[j]? = some a)
    (k : ∀ H1, Ex H H1 → D.nx σ (upd H1 l (.lst (il (xs.set j (a - d)))))) :
    tAugS to ti te (fun o i H Q => ∃ p xs j v, o = .ref p ∧ i = .int ((j : Nat) : Int) ∧ SqL K H p xs ∧ xs[j]? = some v ∧ Q v H) (ipI fun i j => i - j) rSetL D σ H :=
  q_augL (tz := tNext) hl ho hi he hj k
/-- what a def's locals are, in short -/
theorem ev_int1 {σ : L2.St} {H : Hp} {ta : TE} {k : Bool} (h : Ev ta σ H (.bl k)) : Ev (tCB (fun xs H Q => (∃ i, xs = [.int i] ∧ Q (.int i) H) ∨ ∃ k, xs = [.bl k] ∧ Q (.int (if k then 1 else 0)) H) (tCons ta tNil)) σ H (.int (if k then 1 else 0)) :=
  ev_cb (ea_cons h ea_nil) fun H1 _ Q q => .inr ⟨k, rfl, q H1 (Ex.refl _)⟩
theorem set_mid {α : Type} (P : List α) (a v : α) (r : List α) : (P ++ a :: r).set P.length v = P ++ v :: r := by
  rw [List.set_append_right _ _ (Nat.le_refl _), Nat.sub_self]; rfl
theorem take_mid {α : Type} (P r : List α) : (P ++ r).take P.length = P := List.take_left
theorem drop_mid {α : Type} (P : List α) (a : α) (r : List α) : (P ++ a :: r).drop (P.length + 1) = r := by
  rw [← List.drop_drop, List.drop_left]; rfl
theorem at_il {l : List Int} {z : Int} {j : Nat} {a : Int} (e : z = (j : Int)) (h : l[j]? = some a) : atI (il l) z = some (.int a) := at_of e (il_at h)
/-- a slice of a list of ints -/
theorem el_slI {K : PySem.W.Frag} {σ : L2.St} {H : Hp} {te : TE} {tl th : TO} {a : Addr} {xs ys : List Int} {lo hi : Option Int} (h : Ev te σ H (.ref a)) (h1 : EvO tl σ H lo) (h2 : EvO th σ H hi) (hs : SqL K H a (il xs)) (e : cutV (il xs) lo hi = il ys) : EvL (tSl (rSlL K) te tl th) σ H (il ys) := by
  rw [← e]; exact el_sl h h1 h2 hs
theorem cutI_to {xs : List Int} {z : Int} {k : Nat} {ys : List Int} (e : z = (k : Int)) (h : k ≤ xs.length) (hy : xs.take k = ys) : cutV (il xs) none (some z) = il ys := by
  rw [cut_to e (by simpa using h), ← List.map_take, hy]
theorem cutI_from {xs : List Int} {z : Int} {k : Nat} {ys : List Int} (e : z = (k : Int)) (hy : xs.drop k = ys) : cutV (il xs) (some z) none = il ys := by
  rw [cut_from e, ← List.map_drop, hy]
theorem el_catI {σ : L2.St} {H : Hp} {ta tb : TE} {xs ys : List Int} (ha : EvL ta σ H (il xs)) (hb : EvL tb σ H (il ys)) (hz : xs.length + ys.length ≤ 100000) : EvL (tOp rCat ta tb) σ H (il (xs ++ ys)) := by
  have e : il (xs ++ ys) = il xs ++ il ys := List.map_append
  rw [e]
  exact el_cat ha hb (by simpa using hz)
theorem el_is {σ : L2.St} {H : Hp} {te : TE} {xs ys : List Int} (h : EvL te σ H (il xs)) (e : xs = ys) : EvL te σ H (il ys) := by
  rw [← e]; exact h
end Tw
/-! #### WStep -/
namespace Tw
open PySem PySem.Spec PyProof.Rows L2 Evl
abbrev sBeside : Stmt := topS 4
abbrev sByOne : Stmt := topS 5
abbrev sByLess : Stmt := topS 6
abbrev sByNought : Stmt := topS 7
abbrev sByLoose : Stmt := topS 8
abbrev sBySplit : Stmt := topS 9
abbrev sFits : Stmt := topS 10
abbrev sStep : Stmt := topS 11
theorem scBeside : FnScope ["twists", "at", "by", "found"] ["twists", "at", "by"] (defScope sBeside) := ⟨rfl, rfl, rfl, by decide +kernel, rfl, by decide +kernel, by decide +kernel⟩

/-- the neighbours less by d, the number gone -/
def besd (S : List Int) (b d : Int) (r : List Int) : List Int := match S with
  | [] => (b - d) :: r
  | p :: T => T.reverse ++ (p - d) :: (b - d) :: r
/-- a list of at most 1000 numbers at a -/
def LA (K : PySem.W.Frag) (H : Hp) (a : Addr) (l : List Int) : Prop := SqL K H a (il l) ∧ l.length ≤ 1000
theorem LA.mono {K : PySem.W.Frag} {H H' : Hp} {a : Addr} {l : List Int} (h : LA K H a l) (e : Ex H H') : LA K H' a l := ⟨ex_l e h.1, h.2⟩
def spBeside (K : PySem.W.Frag) : Sp := fun vs H Q _ => ∃ (a : Addr) (S : List Int) (x b : Int) (r : List Int) (d : Int), vs = [.ref a, .int (S.length : Int), .int d] ∧ LA K H a (S.reverse ++ x :: b :: r) ∧ RetX (isL (il (besd S b d r))) H Q

section
variable {P : Program} {w : World} {K : PySem.W.Frag} {mg : Str → Option Value} {base : Heap}
theorem ok_beside {f : Addr} {fd : FuncData} (F : Fun K "less_beside" "less_beside" sBeside f fd) (ml : mg "list" = none) : FnOk P w K mg base CX0 1 f fd ["twists", "at", "by"] (spBeside K) := by
  refine F.ok scBeside (fun vs H Q E h => ?_) (fun cdv A outer s H vs Q E hr h => ?_)
  · obtain ⟨a, S, x, b, r, d, rfl, _⟩ := h
    rfl
  obtain ⟨a, S, x, b, r, d, rfl, ⟨hS, hz⟩, q⟩ := h
  refine ⟨_, pss_cons (ps_set (i := 3) scBeside.nd rfl (.inl rfl) (pe_callTy call_list_of (by rfl) ml PyProof.Rows.boot_list (pa_cons (pv 0) pa_nil)))
    (pss_cons (ps_augS (pv 3) (pe_op op_add (pv 1) pe_int) get_list (pv 2) ip_sub set_list)
    (pss_cons (ps_if (pt_cmpR op_gt (pv 1) pe_int (nomark _)) (pss_one (ps_augS (pv 3) (pe_op op_sub (pv 1) pe_int) get_list (pv 2) ip_sub set_list)) pss_nil)
    (pss_one (ps_ret (pe_op op_cat (pe_slice sl_list (pv 3) po_none (po_some (pv 1))) (pe_slice sl_list (pv 3) (po_some (pe_op op_add (pv 1) pe_int)) po_none)))))), ?_⟩
  have hl : (S.reverse ++ x :: b :: r).length = S.length + r.length + 2 := by simp; omega
  refine q_asgL (el_list (K := K) (ev_var rfl) hS) fun p H1 np e1 h1 => ?_
  refine q_augL (j := S.length + 1) (a := b) h1 (ev_var rfl) (ev_op (ev_var rfl) ev_c rv_I0) (ev_var rfl) (by
    have := il_mid1 S.reverse x b r
    rw [List.length_reverse] at this
    exact this) fun H2 e2 => ?_
  have e2' : Ex H (upd H2 p (.lst (il ((S.reverse ++ x :: b :: r).set (S.length + 1) (b - d))))) := (e1.trans e2).mut np
  have hset : (S.reverse ++ x :: b :: r).set (S.length + 1) (b - d) = S.reverse ++ x :: (b - d) :: r := by
    have := set_mid (S.reverse ++ [x]) b (b - d) r
    simpa using this
  rw [hset] at e2' ⊢
  refine q_when (b := decide (0 < (S.length : Int))) (et_test (ev_op (ev_var rfl) ev_c rv_I0)) (fun hb H3 e3 => ?_) fun hb H3 e3 => ?_
  · cases S with
    | nil => exact absurd hb (by decide)
    | cons y T =>
      refine s_augL (j := T.length) (a := y) (e3 p _ upd_same) (ev_var rfl) (ev_is (ev_op (ev_var rfl) ev_c rv_I0) (by simp)) (ev_var rfl) (by
        have := il_mid T.reverse y (x :: (b - d) :: r)
        rw [List.length_reverse] at this
        rw [List.reverse_cons, List.append_assoc]
        exact this) fun H4 e4 => ?_
      have hset2 : ((y :: T).reverse ++ x :: (b - d) :: r).set T.length (y - d) = T.reverse ++ (y - d) :: x :: (b - d) :: r := by
        have := set_mid T.reverse y (y - d) (x :: (b - d) :: r)
        rw [List.length_reverse] at this
        rw [List.reverse_cons, List.append_assoc]
        exact this
      rw [hset2]
      have e4' : Ex H (upd H4 p (.lst (il (T.reverse ++ (y - d) :: x :: (b - d) :: r)))) := ((e2'.trans e3).trans e4).mut np
      have hT : ((y :: T).length : Int) = ((T.length + 1 : Nat) : Int) := rfl
      refine s_retX (ex_L (el_cat (el_sl (K := K) (ev_var rfl) eo_none (eo_some (ev_var rfl)) (sq_of upd_same)) (el_sl (K := K) (ev_var rfl) (eo_some (ev_op (ev_var rfl) ev_c rv_I0)) eo_none (sq_of upd_same)) ?_)) ?_
      · have c1 := cutV_length (il (T.reverse ++ (y - d) :: x :: (b - d) :: r)) none (some ((y :: T).length : Int))
        have c2 := cutV_length (il (T.reverse ++ (y - d) :: x :: (b - d) :: r)) (some (((y :: T).length : Int) + 1)) none
        simp at c1 c2 hl hz ⊢
        try omega
      · rw [cut_to (k := T.length + 1) hT (by simp), cut_from (k := T.length + 1 + 1) (by rw [hT]; rfl), ← List.map_take, ← List.map_drop, ← List.map_append]
        have t1 : (T.reverse ++ (y - d) :: x :: (b - d) :: r).take (T.length + 1) = T.reverse ++ [y - d] := by
          have := take_mid (T.reverse ++ [y - d]) (x :: (b - d) :: r)
          simpa using this
        have t2 : (T.reverse ++ (y - d) :: x :: (b - d) :: r).drop (T.length + 1 + 1) = (b - d) :: r := by
          have := drop_mid (T.reverse ++ [y - d]) x ((b - d) :: r)
          simpa using this
        rw [t1, t2]
        have t3 : T.reverse ++ [y - d] ++ (b - d) :: r = besd (y :: T) b d r := by simp [besd]
        rw [t3]
        exact q.go mo_L e4'
  · cases S with
    | cons y T => 
      have : decide (0 < ((y :: T).length : Int)) = true := decide_eq_true (by simp)
      rw [this] at hb; cases hb
    | nil =>
      have e3' := e2'.trans e3
      have h3 := e3 p _ upd_same
      refine s_retX (ex_L (el_cat (el_sl (K := K) (ev_var rfl) eo_none (eo_some (ev_var rfl)) (sq_of h3)) (el_sl (K := K) (ev_var rfl) (eo_some (ev_op (ev_var rfl) ev_c rv_I0)) eo_none (sq_of h3)) ?_)) ?_
      · have c1 := cutV_length (il (x :: (b - d) :: r)) none (some (([] : List Int).length : Int))
        have c2 := cutV_length (il (x :: (b - d) :: r)) (some ((([] : List Int).length : Int) + 1)) none
        simp at c1 c2 hl hz ⊢
        try omega
      · rw [cut_to (z := (([] : List Int).length : Int)) (k := 0) rfl (Nat.zero_le _), cut_from (z := (([] : List Int).length : Int) + 1) (k := 1) rfl]
        exact q.go mo_L e3'

/-! ### where 1 stands, where -1 stands -/
/-- a new list and a number -/
abbrev isP (l : List Int) (h : Int) : PV := isU2 (isL (il l)) (isV (.int h))
theorem mo_P {l : List Int} {h : Int} : Mo (isP l h) := mo_U2 mo_L mo_V
def spBy (K : PySem.W.Frag) (wd : Wd) (ok : List Int → Int → Int → List Int → Prop) : Sp := fun vs H Q _ => ∃ (a : Addr) (S : List Int) (x b : Int) (r : List Int), vs = [.ref a, .int (S.length : Int)] ∧ LA K H a (S.reverse ++ x :: b :: r) ∧ ok S x b r ∧
  RetX (isP (out wd S x b r).1 (out wd S x b r).2) H Q
abbrev ok0 : List Int → Int → Int → List Int → Prop := fun _ _ _ _ => True
theorem scByOne : FnScope ["twists", "at"] ["twists", "at"] (defScope sByOne) := ⟨rfl, rfl, rfl, by decide +kernel, rfl, by decide +kernel, by decide +kernel⟩
theorem scByLess : FnScope ["twists", "at"] ["twists", "at"] (defScope sByLess) := ⟨rfl, rfl, rfl, by decide +kernel, rfl, by decide +kernel, by decide +kernel⟩
theorem ok_byOne {f g : Addr} {fd gd : FuncData} (F : Fun K "by_one" "by_one" sByOne f fd) (D : Fd K mg "less_beside" sBeside ["twists", "at", "by"] g gd) (G : FnOk P w K mg base CX0 1 g gd ["twists", "at", "by"] (spBeside K)) (mi : mg "int" = none) :
    FnOk P w K mg base CX0 2 f fd ["twists", "at"] (spBy K .one ok0) := by
  refine F.ok scByOne (fun vs H Q E h => ?_) (fun cdv A outer s H vs Q E hr h => ?_)
  · obtain ⟨a, S, x, b, r, rfl, _⟩ := h
    rfl
  obtain ⟨a, S, x, b, r, rfl, hA, _, q⟩ := h
  refine ⟨_, pss_one (ps_ret (pe_tup (pa_cons (pe_call G hr (by rfl) D.m D.F.kp D.b .nil pass0 (pa_cons (pv 0) (pa_cons (pv 1) (pa_cons pe_int pa_nil))))
    (pa_cons (pe_callTy call_int1 (by rfl) mi PyProof.Rows.boot_int (pa_cons (pe_cmpR op_gt (pv 1) pe_int (nomark _)) pa_nil)) pa_nil)))), ?_⟩
  refine s_retX (P := isP (out .one S x b r).1 (out .one S x b r).2) (ex_tup2 mo_L mo_V (ex_call mo_L (ea_cons (ev_var rfl) (ea_cons (ev_var rfl) (ea_cons ev_c ea_nil))) fun H1 e1 Q' E' k => ⟨a, S, x, b, r, 1, rfl, hA.mono e1, ?_⟩) (ex_V (ev_is (ev_int1 (ev_op (ev_var rfl) ev_c rv_I0)) ?_))) q
  · cases S with
    | nil => exact k
    | cons p T => exact k
  · cases S with
    | nil => rfl
    | cons p T =>
      have : decide (0 < ((p :: T).length : Int)) = true := decide_eq_true (by simp)
      show V.int (if decide (0 < ((p :: T).length : Int)) = true then 1 else 0) = .int 1
      rw [this]; rfl
theorem ok_byLess {f g : Addr} {fd gd : FuncData} (F : Fun K "by_less" "by_less" sByLess f fd) (D : Fd K mg "less_beside" sBeside ["twists", "at", "by"] g gd) (G : FnOk P w K mg base CX0 1 g gd ["twists", "at", "by"] (spBeside K)) (mi : mg "int" = none) :
    FnOk P w K mg base CX0 2 f fd ["twists", "at"] (spBy K .less ok0) := by
  refine F.ok scByLess (fun vs H Q E h => ?_) (fun cdv A outer s H vs Q E hr h => ?_)
  · obtain ⟨a, S, x, b, r, rfl, _⟩ := h
    rfl
  obtain ⟨a, S, x, b, r, rfl, hA, _, q⟩ := h
  refine ⟨_, pss_one (ps_ret (pe_tup (pa_cons (pe_call G hr (by rfl) D.m D.F.kp D.b .nil pass0 (pa_cons (pv 0) (pa_cons (pv 1) (pa_cons (pe_un un_neg pe_int) pa_nil))))
    (pa_cons (pe_un un_neg (pe_callTy call_int1 (by rfl) mi PyProof.Rows.boot_int (pa_cons (pe_cmpR op_gt (pv 1) pe_int (nomark _)) pa_nil))) pa_nil)))), ?_⟩
  refine s_retX (P := isP (out .less S x b r).1 (out .less S x b r).2) (ex_tup2 mo_L mo_V (ex_call mo_L (ea_cons (ev_var rfl) (ea_cons (ev_var rfl) (ea_cons (ev_un ev_c ru_neg) ea_nil))) fun H1 e1 Q' E' k => ⟨a, S, x, b, r, -1, rfl, hA.mono e1, ?_⟩) (ex_V (ev_is (ev_un (ev_int1 (ev_op (ev_var rfl) ev_c rv_I0)) ru_neg) ?_))) q
  · cases S with
    | nil => exact k
    | cons p T => exact k
  · cases S with
    | nil => rfl
    | cons p T =>
      have : decide (0 < ((p :: T).length : Int)) = true := decide_eq_true (by simp)
      show V.int (-(if decide (0 < ((p :: T).length : Int)) = true then 1 else 0)) = .int (-1)
      rw [this]; rfl

/-! ### where 0 stands, where a number below -1 stands -/
abbrev okN : List Int → Int → Int → List Int → Prop := fun S x b r => S ≠ [] ∨ (b = 0 ∧ r ≠ [])
abbrev okL : List Int → Int → Int → List Int → Prop := fun S x b r => S = []
theorem scByNought : FnScope ["twists", "at"] ["twists", "at"] (defScope sByNought) := ⟨rfl, rfl, rfl, by decide +kernel, rfl, by decide +kernel, by decide +kernel⟩
theorem scByLoose : FnScope ["twists", "at"] ["twists", "at"] (defScope sByLoose) := ⟨rfl, rfl, rfl, by decide +kernel, rfl, by decide +kernel, by decide +kernel⟩
theorem scBySplit : FnScope ["twists", "at"] ["twists", "at"] (defScope sBySplit) := ⟨rfl, rfl, rfl, by decide +kernel, rfl, by decide +kernel, by decide +kernel⟩
theorem ok_byNought {f : Addr} {fd : FuncData} (F : Fun K "by_nought" "by_nought" sByNought f fd) (ml : mg "len" = none) : FnOk P w K mg base CX0 1 f fd ["twists", "at"] (spBy K .nought okN) := by
  refine F.ok scByNought (fun vs H Q E h => ?_) (fun cdv A outer s H vs Q E hr h => ?_)
  · obtain ⟨a, S, x, b, r, rfl, _⟩ := h
    rfl
  obtain ⟨a, S, x, b, r, rfl, ⟨hS, hz⟩, hok, q⟩ := h
  refine ⟨_, pss_cons (ps_if (pt_cmpR op_gt (pv 1) pe_int (nomark _))
      (pss_one (ps_ret (pe_tup (pa_cons (pe_op op_cat (pe_op op_cat (pe_slice sl_list (pv 0) po_none (po_some (pe_op op_sub (pv 1) pe_int)))
        (pe_lst (pa_cons (pe_op op_add (pe_ix ix_list (pv 0) (pe_op op_sub (pv 1) pe_int) (fun _ _ => rfl)) (pe_ix ix_list (pv 0) (pe_op op_add (pv 1) pe_int) (fun _ _ => rfl))) pa_nil)))
        (pe_slice sl_list (pv 0) (po_some (pe_op op_add (pv 1) pe_int)) po_none)) (pa_cons pe_int pa_nil))))) pss_nil)
    (pss_cons (ps_if (PW.pt (pw_or (pt_cmpR op_ne (pe_ix ix_list (pv 0) pe_int (fun _ _ => rfl)) pe_int (nomark _)) (pw_or1 (pt_cmpR op_lt (pe_callB call_len_seq (by rfl) ml PySem.boot_len (pa_cons (pv 0) pa_nil)) pe_int (nomark _))))) pss_never pss_nil)
    (pss_one (ps_ret (pe_tup (pa_cons (pe_slice sl_list (pv 0) (po_some pe_int) po_none) (pa_cons pe_int pa_nil)))))), ?_⟩
  have hl : (S.reverse ++ x :: b :: r).length = S.length + r.length + 2 := by simp; omega
  refine q_when (b := decide (0 < (S.length : Int))) (et_test (ev_op (ev_var rfl) ev_c rv_I0)) (fun hb H1 e1 => ?_) fun hb H1 e1 => ?_
  · cases S with
    | nil => exact absurd hb (by decide)
    | cons p T =>
      have hS1 : SqL K H1 a (il (T.reverse ++ p :: x :: b :: r)) := by
        have := ex_l e1 hS
        rw [List.reverse_cons, List.append_assoc] at this
        exact this
      have hp : (T.reverse ++ p :: x :: b :: r)[T.length]? = some p := by
        have := il_mid T.reverse p (x :: b :: r)
        rw [List.length_reverse] at this
        exact this
      have hb2 : (T.reverse ++ p :: x :: b :: r)[T.length + 2]? = some b := by
        have := il_mid (T.reverse ++ [p, x]) b r
        simpa using this
      have hi : ((p :: T).length : Int) = (T.length : Int) + 1 := by simp
      refine s_retX (P := isP (T.reverse ++ (p + b) :: r) 0) (ex_tup2 mo_L mo_V (ex_L (el_is (el_catI (el_catI (el_slI (ys := T.reverse) (ev_var rfl) eo_none (eo_some (ev_op (ev_var rfl) ev_c rv_I0)) hS1 ?_)
        (el_lst (ea_cons (ev_op (ev_op (ev_var rfl) (ev_op (ev_var rfl) ev_c rv_I0) (rv_ixL hS1 (at_il (j := T.length) ?_ hp))) (ev_op (ev_var rfl) (ev_op (ev_var rfl) ev_c rv_I0) (rv_ixL hS1 (at_il (j := T.length + 2) ?_ hb2))) rv_I0) ea_nil) ?_ : EvL _ _ _ (il [p + b])) ?_)
        (el_slI (ys := r) (ev_var rfl) (eo_some (ev_op (ev_var rfl) ev_c rv_I0)) eo_none hS1 ?_) ?_) ?_)) (ex_V ev_c)) (q.go mo_P e1)
      · refine cutI_to (k := T.length) (by omega) (by simp) ?_
        have := take_mid T.reverse (p :: x :: b :: r)
        simpa using this
      · omega
      · rw [hi]; omega
      · exact (by decide : 1 ≤ 100000)
      · simp at hz ⊢; omega
      · refine cutI_from (k := T.length + 2 + 1) (by rw [hi]; omega) ?_
        have := drop_mid (T.reverse ++ [p, x]) b r
        simpa using this
      · simp at hz ⊢; omega
      · simp
  · cases S with
    | cons p T =>
      have : decide (0 < ((p :: T).length : Int)) = true := decide_eq_true (by simp)
      rw [this] at hb; cases hb
    | nil =>
      obtain ⟨hb0, hr0⟩ := hok.resolve_left fun z => z rfl
      subst hb0
      have hS1 : SqL K H1 a (il (x :: 0 :: r)) := ex_l e1 hS
      refine q_when (b := false) (et_is (et_or (et_test (ev_op (ev_op (ev_var rfl) ev_c (rv_ixL hS1 (at_il (j := 1) rfl rfl))) ev_c (rv_ne rfl))) (fun _ => et_test (ev_op (ev_len (K := K) (ev_var rfl) hS1) ev_c rv_I0))) ?_) (fun z => nomatch z) fun _ H2 e2 => ?_
      · have : ¬ (((il (x :: 0 :: r)).length : Int) < 3) := by
          cases r with
          | nil => exact absurd rfl hr0
          | cons c r => simp; omega
        rw [decide_eq_false this]; rfl
      · exact s_retX (P := isP r 0) (ex_tup2 mo_L mo_V (ex_L (el_slI (ys := r) (ev_var rfl) (eo_some ev_c) eo_none (ex_l e2 hS1) (cutI_from (k := 2) rfl rfl))) (ex_V ev_c)) (q.go mo_P (e1.trans e2))
theorem ok_byLoose {f : Addr} {fd : FuncData} (F : Fun K "by_loose" "by_loose" sByLoose f fd) : FnOk P w K mg base CX0 1 f fd ["twists", "at"] (spBy K .loose okL) := by
  refine F.ok scByLoose (fun vs H Q E h => ?_) (fun cdv A outer s H vs Q E hr h => ?_)
  · obtain ⟨a, S, x, b, r, rfl, _⟩ := h
    rfl
  obtain ⟨a, S, x, b, r, rfl, ⟨hS, hz⟩, rfl, q⟩ := h
  refine ⟨_, pss_cons (ps_if (pt_cmpR op_gt (pv 1) pe_int (nomark _)) pss_never pss_nil)
    (pss_one (ps_ret (pe_tup (pa_cons (pe_op op_cat (pe_lst (pa_cons pe_int (pa_cons pe_int pa_nil))) (pe_slice sl_list (pv 0) (po_some pe_int) po_none)) (pa_cons (pe_ix ix_list (pv 0) pe_int (fun _ _ => rfl)) pa_nil))))), ?_⟩
  refine q_when (b := decide (0 < (([] : List Int).length : Int))) (et_test (ev_op (ev_var rfl) ev_c rv_I0)) (fun hb H1 e1 => absurd hb (by decide)) fun hb H1 e1 => ?_
  have hS1 : SqL K H1 a (il (x :: b :: r)) := ex_l e1 hS
  refine s_retX (P := isP ([0, 0] ++ r) b) (ex_tup2 mo_L mo_V (ex_L (el_catI (el_lst (ea_cons ev_c (ea_cons ev_c ea_nil)) (by decide) : EvL _ _ _ (il [0, 0])) (el_slI (ys := r) (ev_var rfl) (eo_some ev_c) eo_none hS1 (cutI_from (k := 2) rfl rfl)) ?_)) (ex_V (ev_op (ev_var rfl) ev_c (rv_ixL hS1 (at_il (j := 1) rfl rfl))))) (q.go mo_P e1)
  simp at hz ⊢; omega
theorem ok_bySplit {f : Addr} {fd : FuncData} (F : Fun K "by_split" "by_split" sBySplit f fd) : FnOk P w K mg base CX0 1 f fd ["twists", "at"] (spBy K .split ok0) := by
  refine F.ok scBySplit (fun vs H Q E h => ?_) (fun cdv A outer s H vs Q E hr h => ?_)
  · obtain ⟨a, S, x, b, r, rfl, _⟩ := h
    rfl
  obtain ⟨a, S, x, b, r, rfl, ⟨hS, hz⟩, _, q⟩ := h
  refine ⟨_, pss_one (ps_ret (pe_tup (pa_cons (pe_op op_cat (pe_op op_cat (pe_slice sl_list (pv 0) po_none (po_some (pv 1)))
    (pe_lst (pa_cons (pe_op op_add (pe_ix ix_list (pv 0) (pv 1) (fun _ _ => rfl)) pe_int) (pa_cons pe_int (pa_cons (pe_op op_add (pe_ix ix_list (pv 0) (pe_op op_add (pv 1) pe_int) (fun _ _ => rfl)) pe_int) pa_nil)))))
    (pe_slice sl_list (pv 0) (po_some (pe_op op_add (pv 1) pe_int)) po_none)) (pa_cons (pe_un un_neg pe_int) pa_nil)))), ?_⟩
  have hx : (S.reverse ++ x :: b :: r)[S.length]? = some x := by
    have := il_mid S.reverse x (b :: r)
    rw [List.length_reverse] at this
    exact this
  have hb : (S.reverse ++ x :: b :: r)[S.length + 1]? = some b := by
    have := il_mid1 S.reverse x b r
    rw [List.length_reverse] at this
    exact this
  refine s_retX (P := isP (S.reverse ++ (x + 1) :: 1 :: (b + 1) :: r) (-1)) (ex_tup2 mo_L mo_V (ex_L (el_is (el_catI (el_catI (el_slI (ys := S.reverse) (ev_var rfl) eo_none (eo_some (ev_var rfl)) hS ?_)
    (el_lst (ea_cons (ev_op (ev_op (ev_var rfl) (ev_var rfl) (rv_ixL hS (at_il (j := S.length) rfl hx))) ev_c rv_I0) (ea_cons ev_c (ea_cons (ev_op (ev_op (ev_var rfl) (ev_op (ev_var rfl) ev_c rv_I0) (rv_ixL hS (at_il (j := S.length + 1) rfl hb))) ev_c rv_I0) ea_nil))) ?_ : EvL _ _ _ (il [x + 1, 1, b + 1])) ?_)
    (el_slI (ys := r) (ev_var rfl) (eo_some (ev_op (ev_var rfl) ev_c rv_I0)) eo_none hS ?_) ?_) ?_)) (ex_V (ev_un ev_c ru_neg))) q
  · refine cutI_to (k := S.length) rfl (by simp) ?_
    have := take_mid S.reverse (x :: b :: r)
    simpa using this
  · exact (by decide : 3 ≤ 100000)
  · simp at hz ⊢; omega
  · refine cutI_from (k := S.length + 1 + 1) rfl ?_
    have := drop_mid (S.reverse ++ [x]) b r
    simpa using this
  · simp at hz ⊢; omega
  · simp

/-! ### fits, step -/
def wstr : Wd → Str
  | .one => "one"
  | .less => "less"
  | .nought => "nought"
  | .loose => "loose"
  | .split => "split"
theorem wd_eq (u : Wd) : ∀ v : Wd, decide (V.str (wstr u) = V.str (wstr v)) = decide (u = v) := by
  cases u <;> (intro v; cases v <;> decide +kernel)
def fitP : Wd → Int → Prop
  | .one, n => n = 1
  | .less, n => n = -1
  | .split, n => n < -1
  | .nought, n => n = 0
  | .loose, n => n = 0
def spFits : Sp := fun vs H Q _ => ∃ (u : Wd) (n : Int), vs = [.str (wstr u), .int n] ∧ fitP u n ∧ RetX (isV (.bl true)) H Q
theorem scFits : FnScope ["word", "number"] ["word", "number"] (defScope sFits) := ⟨rfl, rfl, rfl, by decide +kernel, rfl, by decide +kernel, by decide +kernel⟩
/-- word == '..' -/
theorem ev_wd {σ : L2.St} {H : Hp} {ta : TE} {u : Wd} (h : Ev ta σ H (.str (wstr u))) (v : Wd) : Ev (tOp rEq ta (tC (.str (wstr v)))) σ H (.bl (decide (u = v))) :=
  ev_is (ev_op h ev_c (rv_eq rfl)) (congrArg V.bl (wd_eq u v))
theorem ok_fits {f : Addr} {fd : FuncData} (F : Fun K "fits" "fits" sFits f fd) : FnOk P w K mg base CX0 1 f fd ["word", "number"] spFits := by
  refine F.ok scFits (fun vs H Q E h => ?_) (fun cdv A outer s H vs Q E hr h => ?_)
  · obtain ⟨u, n, rfl, _⟩ := h
    rfl
  obtain ⟨u, n, rfl, hf, q⟩ := h
  refine ⟨_, pss_cons (ps_if (pt_cmpR op_eq (pv 0) pe_str (nomark _)) (pss_one (ps_ret (pe_cmpR op_eq (pv 1) pe_int (nomark _)))) pss_nil)
    (pss_cons (ps_if (pt_cmpR op_eq (pv 0) pe_str (nomark _)) (pss_one (ps_ret (pe_cmpR op_eq (pv 1) (pe_un un_neg pe_int) (nomark _)))) pss_nil)
    (pss_cons (ps_if (pt_cmpR op_eq (pv 0) pe_str (nomark _)) (pss_one (ps_ret (pe_cmpR op_lt (pv 1) (pe_un un_neg pe_int) (nomark _)))) pss_nil)
    (pss_one (ps_ret (pe_and (pe_cmpR op_eq (pv 1) pe_int (nomark _)) (pe_one (pe_or (pe_cmpR op_eq (pv 0) pe_str (nomark _)) (pe_one (pe_cmpR op_eq (pv 0) pe_str (nomark _))))))))))  , ?_⟩
  refine q_when (et_test (ev_wd (ev_var rfl) .one)) (fun hb H1 e1 => ?_) fun hb H1 e1 => ?_
  · have e := of_decide_eq_true hb
    subst e
    have hn : n = 1 := hf
    subst hn
    exact s_retX (ex_V (ev_op (ev_var rfl) ev_c (rv_eq rfl))) (q.go mo_V e1)
  have h1 := of_decide_eq_false hb
  refine q_when (et_test (ev_wd (ev_var rfl) .less)) (fun hb H2 e2 => ?_) fun hb H2 e2 => ?_
  · have e := of_decide_eq_true hb
    subst e
    have hn : n = -1 := hf
    subst hn
    exact s_retX (ex_V (ev_op (ev_var rfl) (ev_un ev_c ru_neg) (rv_eq rfl))) (q.go mo_V (e1.trans e2))
  have h2 := of_decide_eq_false hb
  refine q_when (et_test (ev_wd (ev_var rfl) .split)) (fun hb H3 e3 => ?_) fun hb H3 e3 => ?_
  · have e := of_decide_eq_true hb
    subst e
    have hn : n < -1 := hf
    exact s_retX (ex_V (ev_is (ev_op (ev_var rfl) (ev_un ev_c ru_neg) rv_I0) (congrArg V.bl (decide_eq_true hn)))) (q.go mo_V ((e1.trans e2).trans e3))
  have h3 := of_decide_eq_false hb
  have hn : n = 0 := by
    cases u with
    | one => exact absurd rfl h1
    | less => exact absurd rfl h2
    | split => exact absurd rfl h3
    | nought => exact hf
    | loose => exact hf
  subst hn
  refine s_retX (ex_V (ev_is (ev_andV (ev_op (ev_var rfl) ev_c (rv_eq rfl)) (fun _ => ev_orV (ev_wd (ev_var rfl) .nought) (fun _ => ev_wd (ev_var rfl) .loose))) ?_)) (q.go mo_V ((e1.trans e2).trans e3))
  cases u with
  | one => exact absurd rfl h1
  | less => exact absurd rfl h2
  | split => exact absurd rfl h3
  | nought => rfl
  | loose => rfl

/-- a step at t -/
def StT (K : PySem.W.Frag) (H : Hp) (t : Addr) (s : Wd × Nat) : Prop := SqT K H t [.str (wstr s.1), .int (s.2 : Int)]
theorem StT.mono {H H' : Hp} {t : Addr} {s : Wd × Nat} (h : StT K H t s) (e : Ex H H') : StT K H' t s := ex_t e h
def spStep (K : PySem.W.Frag) : Sp := fun vs H Q _ => ∃ (a t : Addr) (l : List Int) (u : Wd) (i : Nat) (l' : List Int) (h : Int), vs = [.ref a, .ref t] ∧ LA K H a l ∧ StT K H t (u, i) ∧ nx l = some (u, i, l', h) ∧ RetX (isP l' h) H Q
theorem scStep : FnScope ["twists", "one", "word", "at"] ["twists", "one"] (defScope sStep) := ⟨rfl, rfl, rfl, by decide +kernel, rfl, by decide +kernel, by decide +kernel⟩
/-- the defs that step calls -/
structure TStep (P : Program) (w : World) (K : PySem.W.Frag) (mg : Str → Option Value) (base : Heap) (f1 f2 f3 f4 f5 f6 : Addr) (d1 d2 d3 d4 d5 d6 : FuncData) : Prop where
  D1 : Fd K mg "by_one" sByOne ["twists", "at"] f1 d1
  G1 : FnOk P w K mg base CX0 2 f1 d1 ["twists", "at"] (spBy K .one ok0)
  D2 : Fd K mg "by_less" sByLess ["twists", "at"] f2 d2
  G2 : FnOk P w K mg base CX0 2 f2 d2 ["twists", "at"] (spBy K .less ok0)
  D3 : Fd K mg "by_nought" sByNought ["twists", "at"] f3 d3
  G3 : FnOk P w K mg base CX0 1 f3 d3 ["twists", "at"] (spBy K .nought okN)
  D4 : Fd K mg "by_loose" sByLoose ["twists", "at"] f4 d4
  G4 : FnOk P w K mg base CX0 1 f4 d4 ["twists", "at"] (spBy K .loose okL)
  D5 : Fd K mg "by_split" sBySplit ["twists", "at"] f5 d5
  G5 : FnOk P w K mg base CX0 1 f5 d5 ["twists", "at"] (spBy K .split ok0)
  D6 : Fd K mg "fits" sFits ["word", "number"] f6 d6
  G6 : FnOk P w K mg base CX0 1 f6 d6 ["word", "number"] spFits
/-- a call of a by_.. over the list itself, over a copy -/
theorem ex_by {σ : L2.St} {H : Hp} {ta tb : TE} {E : XK} {wd : Wd} {ok : List Int → Int → Int → List Int → Prop} {a : Addr} {T : List Int} {x b : Int} {r : List Int} (hA : LA K H a (T.reverse ++ x :: b :: r)) (hk : ok T x b r)
    (h1 : Ev ta σ H (.ref a)) (h2 : Ev tb σ H (.int (T.length : Int))) : EvX (tCall (spBy K wd ok) [] E (tCons ta (tCons tb tNil))) σ H (isP (out wd T x b r).1 (out wd T x b r).2) :=
  ex_call mo_P (ea_cons h1 (ea_cons h2 ea_nil)) fun H1 e1 Q' E' k => ⟨a, T, x, b, r, rfl, hA.mono e1, hk, k⟩
theorem ex_byN {σ : L2.St} {H : Hp} {ta tb : TE} {E : XK} {wd : Wd} {ok : List Int → Int → Int → List Int → Prop} {T : List Int} {x b : Int} {r : List Int} (hz : (T.reverse ++ x :: b :: r).length ≤ 1000) (hk : ok T x b r)
    (h1 : EvL ta σ H (il (T.reverse ++ x :: b :: r))) (h2 : Ev tb σ H (.int (T.length : Int))) : EvX (tCall (spBy K wd ok) [] E (tCons ta (tCons tb tNil))) σ H (isP (out wd T x b r).1 (out wd T x b r).2) :=
  ex_call2 mo_P mo_L (ex_L h1) (ex_V h2) fun H0 H1 x1 y1 e0 e1 hx hy Q' E' k => by
    obtain ⟨p, rfl, _, hp⟩ := hx
    obtain ⟨_, _, hy⟩ := hy
    have hy : y1 = .int (T.length : Int) := hy
    subst hy
    exact ⟨p, T, x, b, r, rfl, ⟨sq_of hp, hz⟩, hk, k⟩
theorem ok_step {f f1 f2 f3 f4 f5 f6 : Addr} {fd d1 d2 d3 d4 d5 d6 : FuncData} (F : Fun K "step" "step" sStep f fd) (Z : TStep P w K mg base f1 f2 f3 f4 f5 f6 d1 d2 d3 d4 d5 d6) (ml : mg "len" = none) (mL : mg "list" = none) :
    FnOk P w K mg base CX0 3 f fd ["twists", "one"] (spStep K) := by
  refine F.ok scStep (fun vs H Q E h => ?_) (fun cdv A outer s H vs Q E hr h => ?_)
  · obtain ⟨a, t, l, u, i, l', h, rfl, _⟩ := h
    rfl
  obtain ⟨a, t, l, u, i, l', h, rfl, hA, ht, hn, q⟩ := h
  obtain ⟨T, x, b, r, g1, rfl, hw, g2⟩ := nxz_some l [] u i l' h hn
  have g1 : l = T.reverse ++ x :: b :: r := g1
  subst g1
  have g3 : l' = (out u T x b r).1 := congrArg Prod.fst g2
  have g4 : h = (out u T x b r).2 := congrArg Prod.snd g2
  subst g3; subst g4
  have hl : (T.reverse ++ x :: b :: r).length = T.length + r.length + 2 := by simp; omega
  have hx : (T.reverse ++ x :: b :: r)[T.length]? = some x := by
    have := il_mid T.reverse x (b :: r)
    rw [List.length_reverse] at this
    exact this
  have hfit : fitP u x := by
    rcases wordAt_facts hw with ⟨rfl, h⟩ | ⟨rfl, h⟩ | ⟨rfl, h⟩ | ⟨rfl, h, _⟩ | ⟨rfl, h, _⟩ <;> exact h
  have r2 := hr.mono (show 1 ≤ 2 by decide)
  refine ⟨_, pss_cons (ps_asg (pv 1) (pg_tup (by rfl) (pgs_cons (pg_name (i := 2) scStep.nd rfl (.inl rfl)) (pgs_cons (pg_name (i := 3) scStep.nd rfl (.inl rfl)) pgs_nil))))
    (pss_cons (ps_if (PW.pt (pw_or (pt_cmpR op_lt (pv 3) pe_int (nomark _)) (pw_or (pt_cmpR op_gt (pv 3) (pe_op op_sub (pe_callB call_len_seq (by rfl) ml PySem.boot_len (pa_cons (pv 0) pa_nil)) pe_int) (nomark _))
        (pw_or1 (pt_not (pt_val (pe_call Z.G6 r2 (by rfl) Z.D6.m Z.D6.F.kp Z.D6.b .nil pass0 (pa_cons (pv 2) (pa_cons (pe_ix ix_list (pv 0) (pv 3) (fun _ _ => rfl)) pa_nil))))))))) pss_never pss_nil)
    (pss_cons (ps_if (pt_cmpR op_eq (pv 2) pe_str (nomark _)) (pss_one (ps_ret (pe_call Z.G1 hr (by rfl) Z.D1.m Z.D1.F.kp Z.D1.b .nil pass0 (pa_cons (pv 0) (pa_cons (pv 3) pa_nil))))) pss_nil)
    (pss_cons (ps_if (pt_cmpR op_eq (pv 2) pe_str (nomark _)) (pss_one (ps_ret (pe_call Z.G2 hr (by rfl) Z.D2.m Z.D2.F.kp Z.D2.b .nil pass0 (pa_cons (pv 0) (pa_cons (pv 3) pa_nil))))) pss_nil)
    (pss_cons (ps_if (pt_cmpR op_eq (pv 2) pe_str (nomark _)) (pss_one (ps_ret (pe_call Z.G3 r2 (by rfl) Z.D3.m Z.D3.F.kp Z.D3.b .nil pass0 (pa_cons (pe_callTy call_list_of (by rfl) mL PyProof.Rows.boot_list (pa_cons (pv 0) pa_nil)) (pa_cons (pv 3) pa_nil))))) pss_nil)
    (pss_cons (ps_if (pt_cmpR op_eq (pv 2) pe_str (nomark _)) (pss_one (ps_ret (pe_call Z.G4 r2 (by rfl) Z.D4.m Z.D4.F.kp Z.D4.b .nil pass0 (pa_cons (pe_callTy call_list_of (by rfl) mL PyProof.Rows.boot_list (pa_cons (pv 0) pa_nil)) (pa_cons (pv 3) pa_nil))))) pss_nil)
    (pss_one (ps_ret (pe_call Z.G5 r2 (by rfl) Z.D5.m Z.D5.F.kp Z.D5.b .nil pass0 (pa_cons (pe_callTy call_list_of (by rfl) mL PyProof.Rows.boot_list (pa_cons (pv 0) pa_nil)) (pa_cons (pv 3) pa_nil))))))))))
    , ?_⟩
  refine ⟨_, rfl, t, _, rfl, ht, rfl, _, _, rfl, _, _, rfl, rfl, ?_⟩
  refine q_when (b := false) (et_is (et_or (et_test (ev_op (ev_var rfl) ev_c rv_I0)) (fun _ => et_or (et_test (ev_op (ev_var rfl) (ev_op (ev_len (K := K) (ev_var rfl) hA.1) ev_c rv_I0) rv_I0))
    (fun _ => et_not (et_B (ev_callX (v := .bl true) (ea_cons (ev_var rfl) (ea_cons (ev_op (ev_var rfl) (ev_var rfl) (rv_ixL hA.1 (at_il (j := T.length) rfl hx))) ea_nil)) fun H1 e1 Q' E' k => ⟨u, x, rfl, hfit, k⟩))))) ?_) (fun z => nomatch z) fun _ H1 e1 => ?_
  · have c1 : decide ((T.length : Int) < 0) = false := decide_eq_false (by omega)
    have c2 : decide (((il (T.reverse ++ x :: b :: r)).length : Int) - 2 < (T.length : Int)) = false := decide_eq_false (by rw [List.length_map, hl]; omega)
    show (decide ((T.length : Int) < 0) || (decide (((il (T.reverse ++ x :: b :: r)).length : Int) - 2 < (T.length : Int)) || !true)) = false
    rw [c1, c2]; rfl
  have hA1 := hA.mono e1
  refine q_when (et_test (ev_wd (ev_var rfl) .one)) (fun hb H2 e2 => ?_) fun hb H2 e2 => ?_
  · have e := of_decide_eq_true hb
    subst e
    exact s_retX (ex_by (hA1.mono e2) trivial (ev_var rfl) (ev_var rfl)) (q.go mo_P (e1.trans e2))
  have h1 := of_decide_eq_false hb
  have hA2 := hA1.mono e2
  refine q_when (et_test (ev_wd (ev_var rfl) .less)) (fun hb H3 e3 => ?_) fun hb H3 e3 => ?_
  · have e := of_decide_eq_true hb
    subst e
    exact s_retX (ex_by (hA2.mono e3) trivial (ev_var rfl) (ev_var rfl)) (q.go mo_P ((e1.trans e2).trans e3))
  have h2 := of_decide_eq_false hb
  have hA3 := hA2.mono e3
  refine q_when (et_test (ev_wd (ev_var rfl) .nought)) (fun hb H4 e4 => ?_) fun hb H4 e4 => ?_
  · have e := of_decide_eq_true hb
    subst e
    have hk : okN T x b r := by
      rcases wordAt_facts hw with ⟨h, _⟩ | ⟨h, _⟩ | ⟨h, _⟩ | ⟨_, _, h⟩ | ⟨h, _⟩ <;> first | exact h.imp id (fun z => z.2) | cases h
    exact s_retX (ex_byN hA.2 hk (el_list (K := K) (ev_var rfl) (hA3.mono e4).1) (ev_var rfl)) (q.go mo_P (((e1.trans e2).trans e3).trans e4))
  have h3 := of_decide_eq_false hb
  have hA4 := hA3.mono e4
  refine q_when (et_test (ev_wd (ev_var rfl) .loose)) (fun hb H5 e5 => ?_) fun hb H5 e5 => ?_
  · have e := of_decide_eq_true hb
    subst e
    have hk : okL T x b r := by
      rcases wordAt_facts hw with ⟨h, _⟩ | ⟨h, _⟩ | ⟨h, _⟩ | ⟨h, _⟩ | ⟨_, _, h, _⟩ <;> first | exact h | cases h
    exact s_retX (ex_byN hA.2 hk (el_list (K := K) (ev_var rfl) (hA4.mono e5).1) (ev_var rfl)) (q.go mo_P ((((e1.trans e2).trans e3).trans e4).trans e5))
  have h4 := of_decide_eq_false hb
  have e : u = .split := by
    cases u with
    | one => exact absurd rfl h1
    | less => exact absurd rfl h2
    | nought => exact absurd rfl h3
    | loose => exact absurd rfl h4
    | split => rfl
  subst e
  exact s_retX (ex_byN hA.2 trivial (el_list (K := K) (ev_var rfl) (hA4.mono e5).1) (ev_var rfl)) (q.go mo_P ((((e1.trans e2).trans e3).trans e4).trans e5))
end
end Tw
/-! #### WEase -/
namespace Tw
open PySem PySem.Spec PyProof.Rows L2 Evl
abbrev sLed : Stmt := topS 12
abbrev sLeast : Stmt := topS 13
abbrev sNext : Stmt := topS 14
abbrev sEased : Stmt := topS 15
theorem ex_if {σ : L2.St} {H : Hp} {ta tb : TE} {t : TT} {P : PV} {b : Bool} (hP : Mo P) (h : EvT t σ H b) (h1 : b = true → EvX ta σ H P) (h2 : b = false → EvX tb σ H P) : EvX (tIf t ta tb) σ H P := fun H1 e Q q => h H1 e _ fun H2 e2 => by
  cases b with
  | true =>
    show ta σ H2 Q
    exact h1 rfl H2 (e.trans e2) Q fun v H3 e3 p => q v H3 (e2.trans e3) (hP _ _ _ _ _ e2 (Ex.refl _) p)
  | false =>
    show tb σ H2 Q
    exact h2 rfl H2 (e.trans e2) Q fun v H3 e3 p => q v H3 (e2.trans e3) (hP _ _ _ _ _ e2 (Ex.refl _) p)
theorem ev_notN {σ : L2.St} {H : Hp} {ta : TE} {x : V} (h : Ev ta σ H x) : Ev (tNotN ta) σ H (.bl (!decide (x = .non))) := fun H1 e Q q => h H1 e _ q
/-! ### next_step -/
def nxs (l : List Int) : Option (Wd × Nat) := (nx l).map fun q => (q.1, q.2.1)
def isNext : Option (Wd × Nat) → PV
  | none => isV .non
  | some s => isU [.str (wstr s.1), .int (s.2 : Int)]
theorem mo_Next {o : Option (Wd × Nat)} : Mo (isNext o) := by
  cases o with
  | none => exact mo_V
  | some s => exact mo_U
def spNext (K : PySem.W.Frag) : Sp := fun vs H Q _ => ∃ (a : Addr) (l : List Int), vs = [.ref a] ∧ LA K H a l ∧ l ≠ [] ∧ RetX (isNext (nxs l)) H Q
theorem scNext : FnScope ["twists", "at", "number"] ["twists"] (defScope sNext) := ⟨rfl, rfl, rfl, by decide +kernel, rfl, by decide +kernel, by decide +kernel⟩
theorem nxs_word {S : List Int} {a b : Int} {r : List Int} {w : Wd} (hS : All2 S) (h2 : ¬ 2 ≤ a) (hw : wordAt S a b r = some w) : nxs (S.reverse ++ a :: b :: r) = some (w, S.length) := by
  unfold nxs
  rw [nx_word hS h2 hw]; rfl
theorem nxs_none {S : List Int} {a b : Int} {r : List Int} (hS : All2 S) (h2 : ¬ 2 ≤ a) (hw : wordAt S a b r = none) : nxs (S.reverse ++ a :: b :: r) = none := by
  unfold nxs
  rw [nx_at hS (by simp)]
  unfold nxz
  rw [if_neg h2, hw]; rfl
theorem nxs_last {S : List Int} {a : Int} (hS : All2 S) : nxs (S.reverse ++ [a]) = none := by
  unfold nxs
  rw [nx_at hS (by simp)]; rfl
/-- where the loop stands -/
def AtI (l : List Int) (i : Nat) : Prop := ∃ S suf, l = S.reverse ++ suf ∧ S.length = i ∧ All2 S
section
variable {P : Program} {w : World} {K : PySem.W.Frag} {mg : Str → Option Value} {base : Heap}
theorem ok_next {f : Addr} {fd : FuncData} (F : Fun K "next_step" "next_step" sNext f fd) (ml : mg "len" = none) (mr : mg "range" = none) : FnOk P w K mg base CX0 1 f fd ["twists"] (spNext K) := by
  refine F.ok scNext (fun vs H Q E h => ?_) (fun cdv A outer s H vs Q E hr h => ?_)
  · obtain ⟨a, l, rfl, _⟩ := h
    rfl
  obtain ⟨a, l, rfl, hA, hne, q⟩ := h
  have hpos : 0 < l.length := List.length_pos_iff.mpr hne
  have hz := hA.2
  refine ⟨_, pss_cons (ps_for PassesOwn.never rfl (pi_range1 (by rfl) mr (pa_cons (pe_op op_sub (pe_callB call_len_seq (by rfl) ml PySem.boot_len (pa_cons (pv 0) pa_nil)) pe_int) pa_nil)) (pg_name (i := 1) scNext.nd rfl (.inl rfl))
      (pss_cons (ps_set (i := 2) scNext.nd rfl (.inl rfl) (pe_ix ix_list (pv 0) (pv 1) (fun _ _ => rfl)))
      (pss_cons (ps_if (pt_cmpR op_eq (pv 2) pe_int (nomark _)) (pss_one (ps_ret (pe_tup (pa_cons pe_str (pa_cons (pv 1) pa_nil))))) pss_nil)
      (pss_cons (ps_if (pt_cmpR op_eq (pv 2) (pe_un un_neg pe_int) (nomark _)) (pss_one (ps_ret (pe_tup (pa_cons pe_str (pa_cons (pv 1) pa_nil))))) pss_nil)
      (pss_cons (ps_if (pt_cmpR op_lt (pv 2) (pe_un un_neg pe_int) (nomark _)) (pss_one (ps_ret (pe_tup (pa_cons pe_str (pa_cons (pv 1) pa_nil))))) pss_nil)
      (pss_cons (ps_if (PW.pt (pw_and (pt_cmpR op_eq (pv 2) pe_int (nomark _)) (pw_and1 (PW.pt (pw_or (pt_cmpR op_gt (pv 1) pe_int (nomark _)) (pw_or1 (PW.pt (pw_and (pt_cmpR op_eq (pe_ix ix_list (pv 0) pe_int (fun _ _ => rfl)) pe_int (nomark _))
          (pw_and1 (pt_cmpR op_gt (pe_callB call_len_seq (by rfl) ml PySem.boot_len (pa_cons (pv 0) pa_nil)) pe_int (nomark _))))))))))) (pss_one (ps_ret (pe_tup (pa_cons pe_str (pa_cons (pv 1) pa_nil))))) pss_nil)
      (pss_one (ps_if (pt_cmpR op_eq (pv 2) pe_int (nomark _)) (pss_one (ps_ret (pe_ifExp (pt_cmpR op_ne (pe_ix ix_list (pv 0) pe_int (fun _ _ => rfl)) pe_int (nomark _)) (pe_tup (pa_cons pe_str (pa_cons (pv 1) pa_nil))) pe_non))) pss_nil))))))))
    (pss_one (ps_ret pe_non)), ?_⟩
  refine q_forR1 (n := (l.length : Int) - 1) (ea_cons (ev_is (ev_op (ev_len (K := K) (ev_var rfl) hA.1) ev_c rv_I0) (by rw [List.length_map])) ea_nil) (by omega)
    (fun i σ' H' => ∃ y1 y2, σ' = [some (.ref a), y1, y2] ∧ Ex H H' ∧ AtI l i) (fun H1 e1 => ⟨none, none, rfl, e1, [], l, rfl, rfl, fun _ h => nomatch h⟩) (fun i σ' H' hi hW => ?_) fun σ' H' hW => ?_
  · obtain ⟨y1, y2, rfl, e1, S, suf, rfl, hSl, hS⟩ := hW
    have hA1 := hA.mono e1
    rw [List.length_append, List.length_reverse, hSl] at hi
    cases suf with
    | nil => exfalso; simp at hi <;> omega
    | cons x t =>
    cases t with
    | nil => exfalso; simp at hi <;> omega
    | cons b r =>
    subst hSl
    have hx : (S.reverse ++ x :: b :: r)[S.length]? = some x := by
      have := il_mid S.reverse x (b :: r)
      rw [List.length_reverse] at this
      exact this
    refine q_asg (ev_op (ev_var rfl) (ev_var rfl) (rv_ixL hA1.1 (at_il (j := S.length) rfl hx))) fun H2 e2 => ?_
    have hA2 := hA1.mono e2
    have ret : ∀ (wd : Wd), nxs (S.reverse ++ x :: b :: r) = some (wd, S.length) → ∀ (H3 : Hp), Ex H2 H3 → RetX (isU [.str (wstr wd), .int (S.length : Int)]) H3 Q := fun wd hn H3 e3 => by
      rw [hn] at q
      exact RetX.go mo_U q ((e1.trans e2).trans e3)
    refine q_when (et_test (ev_op (ev_var rfl) ev_c (rv_eq rfl))) (fun hb H3 e3 => ?_) fun hb H3 e3 => ?_
    · have e : x = 1 := V.int.inj (of_decide_eq_true hb)
      subst e
      exact s_retX (ex_U (eu_tup (ea_cons ev_c (ea_cons (ev_var rfl) ea_nil)) (show 2 ≤ 100000 by decide))) (ret .one (nxs_word hS (by decide) (by simp [wordAt])) H3 e3)
    have n1 : x ≠ 1 := fun z => of_decide_eq_false hb (by rw [z])
    refine q_when (et_test (ev_op (ev_var rfl) (ev_un ev_c ru_neg) (rv_eq rfl))) (fun hb H4 e4 => ?_) fun hb H4 e4 => ?_
    · have e : x = -1 := V.int.inj (of_decide_eq_true hb)
      subst e
      exact s_retX (ex_U (eu_tup (ea_cons ev_c (ea_cons (ev_var rfl) ea_nil)) (show 2 ≤ 100000 by decide))) (ret .less (nxs_word hS (by decide) (by simp [wordAt])) H4 (e3.trans e4))
    have n2 : x ≠ -1 := fun z => of_decide_eq_false hb (by rw [z])
    refine q_when (et_test (ev_op (ev_var rfl) (ev_un ev_c ru_neg) rv_I0)) (fun hb H5 e5 => ?_) fun hb H5 e5 => ?_
    · have e : x < -1 := of_decide_eq_true hb
      exact s_retX (ex_U (eu_tup (ea_cons ev_c (ea_cons (ev_var rfl) ea_nil)) (show 2 ≤ 100000 by decide))) (ret .split (nxs_word hS (by omega) (by unfold wordAt; rw [if_neg n1, if_neg n2, if_pos e])) H5 ((e3.trans e4).trans e5))
    have n3 : ¬ x < -1 := fun z => of_decide_eq_false hb z
    have e5' := (e3.trans e4).trans e5
    have hA5 := hA2.mono e5'
    have h1at : S = [] → (S.reverse ++ x :: b :: r)[1]? = some b := fun z => by subst z; rfl
    have hlen2 : ((il (S.reverse ++ x :: b :: r)).length : Int) = (S.length : Int) + r.length + 2 := by simp; omega
    refine q_when (b := decide (x = 0) && (decide (0 < (S.length : Int)) || (decide (b = 0) && decide (2 < (S.length : Int) + r.length + 2)))) (et_and (et_is (et_test (ev_op (ev_var rfl) ev_c (rv_eq rfl))) (by simp)) (fun _ => et_or (et_test (ev_op (ev_var rfl) ev_c rv_I0)) (fun h0 => by
        have h0 := of_decide_eq_false h0
        have hS0 : S = [] := by
          cases S with
          | nil => rfl
          | cons _ _ => exact absurd (by simp) h0
        exact et_and (et_is (et_test (ev_op (ev_op (ev_var rfl) ev_c (rv_ixL hA5.1 (at_il (j := 1) rfl (h1at hS0)))) ev_c (rv_eq rfl))) (by simp)) (fun _ => et_is (et_test (ev_op (ev_len (K := K) (ev_var rfl) hA5.1) ev_c rv_I0)) (by rw [hlen2]))))) (fun hb H6 e6 => ?_) fun hb H6 e6 => ?_
    · have hb' : x = 0 ∧ (0 < (S.length : Int) ∨ (b = 0 ∧ 2 < (S.length : Int) + r.length + 2)) := by simpa using hb
      obtain ⟨rfl, hc⟩ := hb'
      refine s_retX (ex_U (eu_tup (ea_cons ev_c (ea_cons (ev_var rfl) ea_nil)) (show 2 ≤ 100000 by decide))) (ret .nought (nxs_word hS (by decide) ?_) H6 (e5'.trans e6))
      cases S with
      | cons _ _ => simp [wordAt]
      | nil =>
        have hc' : b = 0 ∧ 2 < (r.length : Int) + 2 := by simpa using hc
        obtain ⟨rfl, hr2⟩ := hc'
        cases r with
        | nil => simp at hr2
        | cons _ _ => simp [wordAt]
    · refine s_when (et_test (ev_op (ev_var rfl) ev_c (rv_eq rfl))) (fun hb2 H7 e7 => ?_) fun hb2 H7 e7 => ?_
      · have e : x = 0 := V.int.inj (of_decide_eq_true hb2)
        subst e
        have hb' : ¬ (0 < (S.length : Int)) ∧ (b = 0 → ¬ 2 < (S.length : Int) + r.length + 2) := by simpa using hb
        obtain ⟨hc1, hc2⟩ := hb'
        have hS0 : S = [] := by
          cases S with
          | nil => rfl
          | cons _ _ => exact absurd (by simp) hc1
        have hA7 := (hA5.mono e6).mono e7
        refine s_retX (P := isNext (nxs (S.reverse ++ 0 :: b :: r))) (ex_if mo_Next (et_test (ev_op (ev_op (ev_var rfl) ev_c (rv_ixL hA7.1 (at_il (j := 1) rfl (h1at hS0)))) ev_c (rv_ne rfl))) (fun h => ?_) fun h => ?_) (q.go mo_Next ((((e1.trans e2).trans e5').trans e6).trans e7))
        · have hb0 : b ≠ 0 := fun z => by rw [z] at h; exact absurd h (by decide)
          rw [nxs_word (w := .loose) hS (by decide) (by subst hS0; simp [wordAt, hb0])]
          exact ex_U (eu_tup (ea_cons ev_c (ea_cons (ev_var rfl) ea_nil)) (show 2 ≤ 100000 by decide))
        · have hb0 : b = 0 := by
            by_cases z : b = 0
            · exact z
            · rw [decide_eq_false (fun y => z (V.int.inj y))] at h; cases h
          have hr0 : r = [] := by
            cases r with
            | nil => rfl
            | cons _ _ => exact absurd (hc2 hb0) (by simp; omega)
          rw [nxs_none hS (by decide) (by subst hS0; subst hb0; subst hr0; decide)]
          exact ex_V ev_c
      · have n0 : x ≠ 0 := fun z => of_decide_eq_false hb2 (by rw [z])
        refine ⟨_, _, rfl, ((((e1.trans e2).trans e5').trans e6).trans e7), x :: S, b :: r, by simp, by simp, fun p hp => ?_⟩
        rcases List.mem_cons.mp hp with rfl | hp
        · omega
        · exact hS p hp
  · obtain ⟨y1, y2, rfl, e1, S, suf, rfl, hSl, hS⟩ := hW
    have hl : suf.length = 1 := by
      rw [List.length_append, List.length_reverse] at hSl hpos
      omega
    obtain ⟨x, rfl⟩ : ∃ x, suf = [x] := by
      cases suf with
      | nil => simp at hl
      | cons x t =>
        cases t with
        | nil => exact ⟨x, rfl⟩
        | cons _ _ => simp at hl
    rw [nxs_last hS] at q
    exact s_retX (ex_V ev_c) (RetX.go mo_V q e1)
end
end Tw
/-! #### WEase2 -/
namespace Tw
open PySem PySem.Spec PyProof.Rows L2 Evl
/-! ### rows of steps -/
def StAll (K : PySem.W.Frag) (H : Hp) : List Addr → List (Wd × Nat) → Prop
  | [], [] => True
  | p :: ps, s :: ss => StT K H p s ∧ StAll K H ps ss
  | _, _ => False
theorem StAll.mono {K : PySem.W.Frag} {H H' : Hp} (e : Ex H H') : ∀ {ps : List Addr} {ss : List (Wd × Nat)}, StAll K H ps ss → StAll K H' ps ss
  | [], [], _ => trivial
  | _ :: _, _ :: _, h => ⟨h.1.mono e, StAll.mono e h.2⟩
  | [], _ :: _, h => h.elim
  | _ :: _, [], h => h.elim
theorem StAll.snoc {K : PySem.W.Frag} {H : Hp} {p : Addr} {s : Wd × Nat} (hp : StT K H p s) : ∀ {ps : List Addr} {ss : List (Wd × Nat)}, StAll K H ps ss → StAll K H (ps ++ [p]) (ss ++ [s])
  | [], [], _ => ⟨hp, trivial⟩
  | _ :: _, _ :: _, h => ⟨h.1, StAll.snoc hp h.2⟩
  | [], _ :: _, h => h.elim
  | _ :: _, [], h => h.elim
theorem StAll.len {K : PySem.W.Frag} {H : Hp} : ∀ {ps : List Addr} {ss : List (Wd × Nat)}, StAll K H ps ss → ps.length = ss.length
  | [], [], _ => rfl
  | _ :: _, _ :: _, h => by rw [List.length_cons, List.length_cons, StAll.len h.2]
  | [], _ :: _, h => h.elim
  | _ :: _, [], h => h.elim
theorem StAll.at {K : PySem.W.Frag} {H : Hp} : ∀ {ps : List Addr} {ss : List (Wd × Nat)} {i : Nat} {s : Wd × Nat}, StAll K H ps ss → ss[i]? = some s → ∃ p, ps[i]? = some p ∧ StT K H p s
  | [], [], _, _, _, e => by simp at e
  | p :: _, _ :: _, 0, s, h, e => by
    have e : _ = s := Option.some.inj e
    subst e
    exact ⟨p, rfl, h.1⟩
  | _ :: _, _ :: _, i + 1, _, h, e => by
    obtain ⟨p, h1, h2⟩ := StAll.at (i := i) h.2 (by simpa using e)
    exact ⟨p, by simpa using h1, h2⟩
  | [], _ :: _, _, _, h, _ => h.elim
  | _ :: _, [], _, _, h, _ => h.elim
/-- a tuple stays where a list is changed -/
theorem sqT_upd {K : PySem.W.Frag} {H : Hp} {a s : Addr} {xs ys : List V} {o : HO} (h : SqT K H a xs) (hs : H s = some (.lst ys)) : SqT K (upd H s o) a xs := by
  rcases h with (h | ⟨ob, h⟩) | h
  · exact .inl (.inl (by rw [upd_ne (ne_of h hs (by intro z; cases z))]; exact h))
  · exact .inl (.inr ⟨ob, by rw [upd_ne (ne_of h hs (by intro z; cases z))]; exact h⟩)
  · exact .inr h
theorem StAll.upd {K : PySem.W.Frag} {H : Hp} {s : Addr} {ys : List V} {o : HO} (hs : H s = some (.lst ys)) : ∀ {ps : List Addr} {ss : List (Wd × Nat)}, StAll K H ps ss → StAll K (upd H s o) ps ss
  | [], [], _ => trivial
  | _ :: _, _ :: _, h => ⟨sqT_upd h.1 hs, StAll.upd hs h.2⟩
  | [], _ :: _, h => h.elim
  | _ :: _, [], h => h.elim
/-- a new list of steps -/
def isSteps (K : PySem.W.Frag) (ss : List (Wd × Nat)) : PV := fun H1 v H2 => ∃ s ps, v = .ref s ∧ H1 s = none ∧ H2 s = some (.lst (ps.map V.ref)) ∧ StAll K H2 ps ss
theorem mo_Steps {K : PySem.W.Frag} {ss : List (Wd × Nat)} : Mo (isSteps K ss) := fun _ _ _ _ _ e e' ⟨s, ps, a, b, c, d⟩ => ⟨s, ps, a, fresh_back e b, e' s _ c, d.mono e'⟩
/-- what next_step told -/
def NextAt (K : PySem.W.Frag) (o : Option (Wd × Nat)) (v : V) (H : Hp) : Prop := match o with
  | none => v = .non
  | some s => ∃ t, v = .ref t ∧ StT K H t s
theorem next_at {K : PySem.W.Frag} {o : Option (Wd × Nat)} {H1 H2 : Hp} {v : V} (h : isNext o H1 v H2) : NextAt K o v H2 := by
  cases o with
  | none => exact h
  | some s =>
    obtain ⟨p, a, _, c⟩ := h
    exact ⟨p, a, st_of c⟩
theorem ex_next {K : PySem.W.Frag} {σ : L2.St} {H : Hp} {ta : TE} {E : XK} {a : Addr} {l : List Int} (hA : LA K H a l) (hne : l ≠ []) (h : Ev ta σ H (.ref a)) : EvX (tCall (spNext K) [] E (tCons ta tNil)) σ H (isNext (nxs l)) :=
  ex_call mo_Next (ea_cons h ea_nil) fun H1 e1 Q' E' k => ⟨a, l, rfl, hA.mono e1, hne, k⟩
theorem ex_step {K : PySem.W.Frag} {σ : L2.St} {H : Hp} {ta tb : TE} {E : XK} {a t : Addr} {l l' : List Int} {u : Wd} {i : Nat} {h : Int} (hA : LA K H a l) (ht : StT K H t (u, i)) (hn : nx l = some (u, i, l', h)) (h1 : Ev ta σ H (.ref a)) (h2 : Ev tb σ H (.ref t)) :
    EvX (tCall (spStep K) [] E (tCons ta (tCons tb tNil))) σ H (isP l' h) :=
  ex_call mo_P (ea_cons h1 (ea_cons h2 ea_nil)) fun H1 e1 Q' E' k => ⟨a, t, l, u, i, l', h, rfl, hA.mono e1, ht.mono e1, hn, k⟩
/-- a row of steps, its end at most 1000 long -/
theorem go_la {K : PySem.W.Frag} {H : Hp} {a : Addr} {l e : List Int} {ss : List (Wd × Nat)} {k : Int} (g : Go 900 l ss e k) (h : SqL K H a (il l)) : LA K H a l := ⟨h, by have := go_len g; omega⟩
theorem go_none {L : Nat} {l e : List Int} {ss : List (Wd × Nat)} {k : Int} (g : Go L l ss e k) (h : nxs l = none) : ss = [] ∧ e = l ∧ k = 0 := by
  cases g with
  | nil _ _ => exact ⟨rfl, rfl, rfl⟩
  | cons h' _ _ =>
    unfold nxs at h
    rw [h'] at h; cases h
theorem go_some {L : Nat} {l e : List Int} {ss : List (Wd × Nat)} {k : Int} {s : Wd × Nat} (g : Go L l ss e k) (h : nxs l = some s) : ∃ l1 h1 k1 ss1, nx l = some (s.1, s.2, l1, h1) ∧ ss = s :: ss1 ∧ Go L l1 ss1 e k1 ∧ k = h1 + k1 := by
  cases g with
  | nil h' _ =>
    unfold nxs at h
    rw [h'] at h; cases h
  | @cons _ l1 _ w i h1 k1 ss1 h' _ g' =>
    unfold nxs at h
    rw [h'] at h
    have h : (w, i) = s := Option.some.inj h
    subst h
    exact ⟨l1, h1, k1, ss1, h', rfl, g', rfl⟩
def spEased (K : PySem.W.Frag) : Sp := fun vs H Q _ => ∃ (a : Addr) (l e : List Int) (ss : List (Wd × Nat)) (k : Int), vs = [.ref a] ∧ SqL K H a (il l) ∧ l ≠ [] ∧ Go 900 l ss e k ∧ ss.length ≤ 50000 ∧ RetX (isU2 (isSteps K ss) (isL (il e))) H Q
theorem scEased : FnScope ["twists", "found", "steps", "one"] ["twists"] (defScope sEased) := ⟨rfl, rfl, rfl, by decide +kernel, rfl, by decide +kernel, by decide +kernel⟩
section
variable {P : Program} {w : World} {K : PySem.W.Frag} {mg : Str → Option Value} {base : Heap}
theorem ok_eased {f g1 g2 : Addr} {fd d1 d2 : FuncData} (F : Fun K "eased" "eased" sEased f fd) (D1 : Fd K mg "next_step" sNext ["twists"] g1 d1) (G1 : FnOk P w K mg base CX0 1 g1 d1 ["twists"] (spNext K))
    (D2 : Fd K mg "step" sStep ["twists", "one"] g2 d2) (G2 : FnOk P w K mg base CX0 3 g2 d2 ["twists", "one"] (spStep K)) (mL : mg "list" = none) : FnOk P w K mg base CX0 4 f fd ["twists"] (spEased K) := by
  refine F.ok scEased (fun vs H Q E h => ?_) (fun cdv A outer s H vs Q E hr h => ?_)
  · obtain ⟨a, l, e, ss, k, rfl, _⟩ := h
    rfl
  obtain ⟨a, l, e, ss, k, rfl, hS, hne, hg, hlen, q⟩ := h
  have r1 := hr.mono (show 1 ≤ 3 by decide)
  refine ⟨_, pss_cons (ps_set (i := 1) scEased.nd rfl (.inl rfl) (pe_callTy call_list_of (by rfl) mL PyProof.Rows.boot_list (pa_cons (pv 0) pa_nil)))
    (pss_cons (ps_set (i := 2) scEased.nd rfl (.inl rfl) (pe_lst pa_nil))
    (pss_cons (ps_set (i := 3) scEased.nd rfl (.inl rfl) (pe_call G1 r1 (by rfl) D1.m D1.F.kp D1.b .nil pass0 (pa_cons (pv 1) pa_nil)))
    (pss_cons (ps_while PassesOwn.never (pt_cmp (pc_notN (pv 3)))
      (pss_cons (ps_expr (pe_bm PySem.F.plainAttrs_list PySem.F.slot_list_append PySem.F.type_list_append mt_append (pv 2) (pa_cons (pv 3) pa_nil)))
      (pss_cons (ps_set (i := 1) scEased.nd rfl (.inl rfl) (pe_ix ix_tup (pe_call G2 hr (by rfl) D2.m D2.F.kp D2.b .nil pass0 (pa_cons (pv 1) (pa_cons (pv 3) pa_nil))) pe_int (fun _ _ => rfl)))
      (pss_one (ps_set (i := 3) scEased.nd rfl (.inl rfl) (pe_call G1 r1 (by rfl) D1.m D1.F.kp D1.b .nil pass0 (pa_cons (pv 1) pa_nil)))))))
    (pss_one (ps_ret (pe_tup (pa_cons (pv 2) (pa_cons (pv 1) pa_nil)))))))), ?_⟩
  refine q_asgL (el_list (K := K) (ev_var rfl) hS) fun f0 H1 nf e1 hf => ?_
  refine q_asgL (el_lst ea_nil (Nat.zero_le _)) fun s0 H2 ns e2 hs => ?_
  refine q_asgX (ex_next (go_la hg (sq_of (e2 f0 _ hf))) hne (ev_var rfl)) fun v H3 e3 hv => ?_
  refine q_while (fun m σ' H' => ∃ (f1 s1 : Addr) (ps : List Addr) (done rest : List (Wd × Nat)) (cur : List Int) (k' : Int) (v3 : V), σ' = [some (.ref a), some (.ref f1), some (.ref s1), some v3] ∧ Ex H H' ∧ H f1 = none ∧ H s1 = none ∧ f1 ≠ s1 ∧
      H' f1 = some (.lst (il cur)) ∧ H' s1 = some (.lst (ps.map V.ref)) ∧ StAll K H' ps done ∧ cur ≠ [] ∧ Go 900 cur rest e k' ∧ done ++ rest = ss ∧ m = rest.length ∧ NextAt K (nxs cur) v3 H') ss.length ?_ fun m σ' H' hW => ?_
  · have nfs : f0 ≠ s0 := ne_of_none hf ns
    exact ⟨f0, s0, [], [], ss, l, k, v, rfl, (e1.trans e2).trans e3, nf, fresh_back e1 ns, nfs, (e2.trans e3) f0 _ hf, e3 s0 _ hs, trivial, hne, hg, rfl, rfl, next_at hv⟩
  obtain ⟨f1, s1, ps, done, rest, cur, k', v3, rfl, ex, nf1, ns1, nfs, hf1, hs1, hps, hcur, hgo, hdr, rfl, hnx⟩ := hW
  have hpl : ps.length ≤ 50000 := by
    have := hps.len
    have h2 := congrArg List.length hdr
    rw [List.length_append] at h2
    omega
  refine ⟨!decide (v3 = .non), et_B (ev_notN (ev_var rfl)), fun hb H4 e4 => ?_, fun hb H4 e4 => ?_⟩
  · -- one more step
    cases hn : nxs cur with
    | none =>
      rw [hn] at hnx
      have : v3 = .non := hnx
      rw [this] at hb; exact absurd hb (by decide)
    | some st =>
      rw [hn] at hnx
      obtain ⟨t, rfl, ht⟩ := hnx
      obtain ⟨l1, h1, k1, ss1, hnxl, rfl, hgo1, _⟩ := go_some hgo hn
      refine ⟨_, fun σ2 H2 h => h, ?_⟩
      have hs4 := e4 s1 _ hs1
      refine q_app hs4 (ev_var rfl) (ev_var rfl) (by rw [List.length_map]; omega) fun H5 e5 => ?_
      have hs5 := e5 s1 _ hs4
      have e45 := e4.trans e5
      have hf5 : (upd H5 s1 (.lst (ps.map V.ref ++ [.ref t]))) f1 = some (.lst (il cur)) := by
        rw [upd_ne nfs]; exact e45 f1 _ hf1
      have ht5 : StT K (upd H5 s1 (.lst (ps.map V.ref ++ [.ref t]))) t st := sqT_upd (ht.mono e45) hs5
      have ex5 : Ex H (upd H5 s1 (.lst (ps.map V.ref ++ [.ref t]))) := (ex.trans e45).mut ns1
      have hps5 : StAll K (upd H5 s1 (.lst (ps.map V.ref ++ [.ref t]))) (ps ++ [t]) (done ++ [st]) := StAll.snoc ht5 (StAll.upd hs5 (hps.mono e45))
      refine q_asgX (ex_ix0 (K := K) (P := isL (il l1)) mo_P (fun H1 v H2 hv => by
        obtain ⟨t', x, y, a1, _, c1, d1, _⟩ := hv
        exact ⟨t', [x, y], x, a1, st_of c1, rfl, d1⟩) (ex_step (go_la hgo (sq_of hf5)) ht5 hnxl (ev_var rfl) (ev_var rfl))) fun v6 H6 e6 hv6 => ?_
      obtain ⟨f2, rfl, nf2, hf2⟩ := hv6
      have hne1 : l1 ≠ [] := nx_ne hnxl
      refine s_asgX (ex_next (go_la hgo1 (sq_of hf2)) hne1 (ev_var rfl)) fun v7 H7 e7 hv7 => ?_
      have hs6 : (upd H5 s1 (.lst (ps.map V.ref ++ [.ref t]))) s1 = some (.lst ((ps ++ [t]).map V.ref)) := by rw [List.map_append]; exact upd_same
      have nfs2 : f2 ≠ s1 := (ne_of_none hs6 nf2).symm
      exact ⟨ss1.length, by simp, f2, s1, ps ++ [t], done ++ [st], ss1, l1, k1, v7, rfl, (ex5.trans e6).trans e7, fresh_back ex5 nf2, ns1, nfs2, e7 f2 _ hf2, (e6.trans e7) s1 _ hs6, hps5.mono (e6.trans e7), hne1, hgo1, by rw [← hdr]; simp, rfl, next_at hv7⟩
  · -- the end
    cases hn : nxs cur with
    | some st =>
      rw [hn] at hnx
      obtain ⟨t, rfl, ht⟩ := hnx
      exact absurd hb (by simp)
    | none =>
      obtain ⟨rfl, rfl, _⟩ := go_none hgo hn
      rw [List.append_nil] at hdr
      subst hdr
      refine s_retX (ex_U (eu_tup (ea_cons (ev_var rfl) (ea_cons (ev_var rfl) ea_nil)) (show 2 ≤ 100000 by decide))) fun v H5 e5 hv => ?_
      obtain ⟨t, rfl, nt, ht⟩ := hv
      have e45 := e4.trans e5
      exact q _ H5 (ex.trans e45) ⟨t, .ref s1, .ref f1, rfl, fresh_back (ex.trans e4) nt, ht, ⟨s1, ps, rfl, ns1, e45 s1 _ hs1, hps.mono e45⟩, f1, rfl, nf1, e45 f1 _ hf1⟩
end
end Tw
/-! #### WEase3 -/
namespace Tw
open PySem PySem.Spec PyProof.Rows L2 Evl
/-! ### led -/
theorem go_cons {L : Nat} {l e : List Int} {s : Wd × Nat} {ss : List (Wd × Nat)} {k : Int} (g : Go L l (s :: ss) e k) : ∃ l1 h1 k1, nx l = some (s.1, s.2, l1, h1) ∧ l.length ≤ L ∧ Go L l1 ss e k1 ∧ k = h1 + k1 := by
  cases g with
  | cons hn hl hg => exact ⟨_, _, _, hn, hl, hg, rfl⟩
def spLed (K : PySem.W.Frag) : Sp := fun vs H Q _ => ∃ (a s : Addr) (l e : List Int) (ps : List Addr) (ss : List (Wd × Nat)) (k : Int), vs = [.ref a, .ref s] ∧ SqL K H a (il l) ∧ SqL K H s (ps.map V.ref) ∧ StAll K H ps ss ∧ Go 900 l ss e k ∧ RetX (isP e k) H Q
theorem scLed : FnScope ["twists", "steps", "found", "weight", "one", "more"] ["twists", "steps"] (defScope sLed) := ⟨rfl, rfl, rfl, by decide +kernel, rfl, by decide +kernel, by decide +kernel⟩
section
variable {P : Program} {w : World} {K : PySem.W.Frag} {mg : Str → Option Value} {base : Heap}
theorem ok_led {f g2 : Addr} {fd d2 : FuncData} (F : Fun K "led" "led" sLed f fd) (D2 : Fd K mg "step" sStep ["twists", "one"] g2 d2) (G2 : FnOk P w K mg base CX0 3 g2 d2 ["twists", "one"] (spStep K)) (mL : mg "list" = none) : FnOk P w K mg base CX0 4 f fd ["twists", "steps"] (spLed K) := by
  refine F.ok scLed (fun vs H Q E h => ?_) (fun cdv A outer s H vs Q E hr h => ?_)
  · obtain ⟨a, s, l, e, ps, ss, k, rfl, _⟩ := h
    rfl
  obtain ⟨a, s, l, e, ps, ss, k, rfl, hS, hs, hps, hg, q⟩ := h
  refine ⟨_, pss_cons (ps_set (i := 2) scLed.nd rfl (.inl rfl) (pe_callTy call_list_of (by rfl) mL PyProof.Rows.boot_list (pa_cons (pv 0) pa_nil)))
    (pss_cons (ps_set (i := 3) scLed.nd rfl (.inl rfl) pe_int)
    (pss_cons (ps_for PassesOwn.never rfl (pi_list (pv 1)) (pg_name (i := 4) scLed.nd rfl (.inl rfl))
      (pss_cons (ps_asg (pe_call G2 hr (by rfl) D2.m D2.F.kp D2.b .nil pass0 (pa_cons (pv 2) (pa_cons (pv 4) pa_nil))) (pg_tup (by rfl) (pgs_cons (pg_name (i := 2) scLed.nd rfl (.inl rfl)) (pgs_cons (pg_name (i := 5) scLed.nd rfl (.inl rfl)) pgs_nil))))
      (pss_one (ps_aug (i := 3) scLed.nd rfl (.inl rfl) (pv 5) ip_add))))
    (pss_one (ps_ret (pe_tup (pa_cons (pv 2) (pa_cons (pv 3) pa_nil))))))), ?_⟩
  refine q_asgL (el_list (K := K) (ev_var rfl) hS) fun f0 H1 nf e1 hf => ?_
  refine q_asg ev_c fun H2 e2 => ?_
  have hlen := hps.len
  refine q_forLn (K := K) (a := s) (xs := ps.map V.ref) (ev_var rfl) (ex_l (e1.trans e2) hs) (fun i σ' H' => ∃ (f1 : Addr) (cur : List Int) (wk k' : Int) (y4 y5 : Option V), σ' = [some (.ref a), some (.ref s), some (.ref f1), some (.int wk), y4, y5] ∧ Ex H H' ∧ H f1 = none ∧
      H' f1 = some (.lst (il cur)) ∧ Go 900 cur (ss.drop i) e k' ∧ wk + k' = k) (fun H3 e3 => ?_) (fun i σ' H' hi hW => ?_) (fun i x σ' H' hx hW => ?_) fun σ' H' hW => ?_
  · exact ⟨f0, l, 0, k, none, none, rfl, (e1.trans e2).trans e3, nf, (e2.trans e3) f0 _ hf, hg, by omega⟩
  · obtain ⟨_, _, _, _, _, _, _, ex, _⟩ := hW
    exact ex_l ex hs
  · obtain ⟨f1, cur, wk, k', y4, y5, rfl, ex, nf1, hf1, hgo, hk⟩ := hW
    have hi : i < ss.length := by
      have := (List.getElem?_eq_some_iff.mp hx).1
      rw [List.length_map, hlen] at this
      exact this
    obtain ⟨p, hp1, hp2⟩ := hps.at (List.getElem?_eq_getElem hi)
    have ex1 : x = .ref p := by
      rw [List.getElem?_map, hp1] at hx
      exact (Option.some.inj hx).symm
    subst ex1
    rw [List.drop_eq_getElem_cons hi] at hgo
    have hgl := go_len hgo
    obtain ⟨l1, h1, k1, hn, _, hgo1, rfl⟩ := go_cons hgo
    refine q_asg2 (K := K) (P := isL (il l1)) (S := isV (.int h1)) (ex_step (l := cur) ⟨sq_of hf1, by omega⟩ (hp2.mono ex) hn (ev_var rfl) (ev_var rfl)) (fun v H2 hv => isU2_SqT hv) fun x y H5 e5 hx5 hy5 => ?_
    obtain ⟨f2, rfl, nf2, hf2⟩ := hx5
    have hy5 : y = .int h1 := hy5
    subst hy5
    refine s_aug rfl (ev_var rfl) fun H6 e6 => ?_
    exact ⟨f2, l1, wk + h1, k1, _, _, rfl, (ex.trans e5).trans e6, fresh_back ex nf2, e6 f2 _ hf2, hgo1, by omega⟩
  · obtain ⟨f1, cur, wk, k', y4, y5, rfl, ex, nf1, hf1, hgo, hk⟩ := hW
    rw [List.drop_eq_nil_of_le (by rw [List.length_map]; omega)] at hgo
    cases hgo with
    | nil _ _ =>
    refine s_retX (ex_U (eu_tup (ea_cons (ev_var rfl) (ea_cons (ev_var rfl) ea_nil)) (show 2 ≤ 100000 by decide))) fun v H5 e5 hv => ?_
    obtain ⟨t, rfl, nt, ht⟩ := hv
    have : wk = k := by omega
    subst this
    exact q _ H5 (ex.trans e5) ⟨t, _, _, rfl, fresh_back ex nt, ht, ⟨f1, rfl, nf1, e5 f1 _ hf1⟩, rfl⟩
end
/-! ### least_list -/
def spLeast (K : PySem.W.Frag) : Sp := fun vs H Q _ => ∃ (t : Addr) (e : List Int), vs = [.ref t] ∧ SqT K H t [.int (val e).1, .int (val e).2] ∧ Least e ∧ e ≠ [] ∧ e.length ≤ 1000 ∧ (∀ x ∈ e, x.natAbs ≤ 1000) ∧ (val e).2 ≤ 1000000 ∧ RetX (isL (il e)) H Q
theorem scLeast : FnScope ["fraction", "top", "bottom", "found", "many"] ["fraction"] (defScope sLeast) := ⟨rfl, rfl, rfl, by decide +kernel, rfl, by decide +kernel, by decide +kernel⟩
section
variable {P : Program} {w : World} {K : PySem.W.Frag} {mg : Str → Option Value} {base : Heap}
theorem ok_least {f : Addr} {fd : FuncData} (F : Fun K "least_list" "least_list" sLeast f fd) : FnOk P w K mg base CX0 1 f fd ["fraction"] (spLeast K) := by
  refine F.ok scLeast (fun vs H Q E h => ?_) (fun cdv A outer s H vs Q E hr h => ?_)
  · obtain ⟨t, e, rfl, _⟩ := h
    rfl
  obtain ⟨t, e, rfl, ht, hle, hne, hz, hb, hbot, q⟩ := h
  refine ⟨_, pss_cons (ps_asg (pv 0) (pg_tup (by rfl) (pgs_cons (pg_name (i := 1) scLeast.nd rfl (.inl rfl)) (pgs_cons (pg_name (i := 2) scLeast.nd rfl (.inl rfl)) pgs_nil))))
    (pss_cons (ps_if (pt_cmpR op_eq (pv 2) pe_int (nomark _)) (pss_one (ps_ret (pe_lst (pa_cons pe_int (pa_cons pe_int pa_nil))))) pss_nil)
    (pss_cons (ps_set (i := 3) scLeast.nd rfl (.inl rfl) (pe_lst pa_nil))
    (pss_cons (ps_while PassesOwn.never (pt_cmpR op_ne (pv 2) pe_int (nomark _))
      (pss_cons (ps_set (i := 4) scLeast.nd rfl (.inl rfl) (pe_un un_neg (pe_op op_fdiv (pe_un un_neg (pv 1)) (pv 2))))
      (pss_cons (ps_expr (pe_bm PySem.F.plainAttrs_list PySem.F.slot_list_append PySem.F.type_list_append mt_append (pv 3) (pa_cons (pv 4) pa_nil)))
      (pss_one (ps_par (i := 1) (j := 2) (by rfl) scLeast.nd rfl rfl (by decide) rfl rfl (pa_cons (pv 2) (pa_cons (pe_op op_sub (pe_op op_mul (pv 4) (pv 2)) (pv 1)) pa_nil)) (by rfl))))))
    (pss_one (ps_ret (pe_revL (pv 3))))))), ?_⟩
  refine ⟨_, rfl, t, _, rfl, ht, rfl, _, _, rfl, _, _, rfl, rfl, ?_⟩
  refine q_when (et_test (ev_op (ev_var rfl) ev_c (rv_eq rfl))) (fun hb2 H1 e1 => ?_) fun hb2 H1 e1 => ?_
  · have e0 : (val e).2 = 0 := V.int.inj (of_decide_eq_true hb2)
    have he : e = [0, 0] := by
      rcases hle with h | h
      · exact h
      · obtain ⟨Pr, x, rfl⟩ : ∃ Pr x, e = Pr ++ [x] := ⟨e.dropLast, e.getLast hne, (List.dropLast_concat_getLast hne).symm⟩
        rw [List.dropLast_concat] at h
        rw [val_least h, (vec_least h).1] at e0
        have := (vec_least (a := x) h).2
        have e0 : (vec Pr).1 = 0 := e0
        omega
    subst he
    exact s_retX (ex_L (el_lst (ea_cons ev_c (ea_cons ev_c ea_nil)) (show 2 ≤ 100000 by decide) : EvL _ _ _ (il [0, 0]))) (q.go mo_L e1)
  · have e0 : (val e).2 ≠ 0 := fun z => of_decide_eq_false hb2 (by rw [z])
    have h : All2 e.dropLast := by
      rcases hle with h | h
      · subst h; exact absurd rfl e0
      · exact h
    have hve : val e = vec e := by
      have := val_least (a := e.getLast hne) h
      rw [List.dropLast_concat_getLast hne] at this
      exact this
    refine q_asgL (el_lst ea_nil (Nat.zero_le _)) fun f0 H2 nf e2 hf => ?_
    refine q_while (fun m σ' H' => ∃ (A R : List Int) (y4 : Option V), e = A ++ R ∧ σ' = [some (.ref t), some (.int (vec A).1), some (.int (vec A).2), some (.ref f0), y4] ∧ Ex H H' ∧ H' f0 = some (.lst (il R.reverse)) ∧ (vec A).2 ≤ 1000000 ∧ (A ≠ [] → 0 < (vec A).2) ∧ m = A.length) e.length ?_ fun m σ' H' hW => ?_
    · refine ⟨e, [], none, by simp, ?_, e1.trans e2, hf, by rw [← hve]; exact hbot, fun _ => ?_, rfl⟩
      · rw [← hve]; rfl
      · have := vec_least (a := e.getLast hne) h
        rw [List.dropLast_concat_getLast hne] at this
        rw [this.1]
        show 0 < (vec e.dropLast).1
        omega
    · obtain ⟨A, R, y4, hAR, rfl, ex, hfR, hsm, hpos, rfl⟩ := hW
      refine ⟨!decide (V.int (vec A).2 = V.int 0), et_test (ev_op (ev_var rfl) ev_c (rv_ne rfl)), fun hc H3 e3 => ?_, fun hc H3 e3 => ?_⟩
      · have hA : A ≠ [] := fun z => by subst z; exact absurd hc (by decide)
        obtain ⟨B, x, rfl⟩ : ∃ B x, A = B ++ [x] := ⟨A.dropLast, A.getLast hA, (List.dropLast_concat_getLast hA).symm⟩
        have hB : All2 B := fun p hp => h p (by
          rw [hAR, List.append_assoc, List.dropLast_append_of_ne_nil (by simp)]
          exact List.mem_append_left _ hp)
        obtain ⟨hv, hv0, hv1⟩ := vec_least (a := x) hB
        have hx : x.natAbs ≤ 1000 := hb x (by rw [hAR]; simp)
        have p0 := hpos hA
        have hRl : R.reverse.length ≤ 1000 := by
          rw [List.length_reverse]
          rw [hAR, List.length_append] at hz
          omega
        rw [hv] at hsm p0 ⊢
        have hsm : (vec B).1 ≤ 1000000 := hsm
        have p0 : 0 < (vec B).1 := p0
        refine ⟨_, fun σ2 H2 h => h, ?_⟩
        refine q_asg (ev_is (ev_un (ev_op (ev_un (ev_var rfl) ru_neg) (ev_var rfl) (rv_I ⟨p0, by show (vec B).1 < 1073741824; omega⟩)) ru_neg) (congrArg V.int (ceil_is hv0 hv1))) fun H4 e4 => ?_
        have hf4 := (e3.trans e4) f0 _ hfR
        refine q_app hf4 (ev_var rfl) (ev_var rfl) (by rw [List.length_map]; omega) fun H5 e5 => ?_
        refine ⟨_, rfl, _, rfl, _, rfl, x, _, rfl, rfl, .inl ⟨by omega, by omega⟩, _, rfl, _, _, rfl, rfl, _, _, rfl, ?_⟩
        refine ⟨B.length, by simp, B, x :: R, some (.int x), by rw [hAR]; simp, ?_, (((ex.trans e3).trans e4).trans e5).mut ?_, ?_, by omega, fun hBn => ?_, rfl⟩
        · have e9 : x * (vec B).1 - (x * (vec B).1 - (vec B).2) = (vec B).2 := by omega
          show [some (V.ref t), some (V.int (vec B).1), some (V.int (x * (vec B).1 - (x * (vec B).1 - (vec B).2))), some (V.ref f0), some (V.int x)] = _
          rw [e9]
        · exact fresh_back e1 nf
        · rw [upd_same, List.reverse_cons]
          show some (HO.lst (il R.reverse ++ [V.int x])) = some (HO.lst (il (R.reverse ++ [x])))
          unfold il
          rw [List.map_append]; rfl
        · have := vec_least (a := B.getLast hBn) (P := B.dropLast) (fun p hp => hB p ((List.dropLast_sublist B).subset hp))
          rw [List.dropLast_concat_getLast hBn] at this
          rw [this.1]
          show 0 < (vec B.dropLast).1
          omega
      · have e5 : (vec A).2 = 0 := by
          by_cases z : (vec A).2 = 0
          · exact z
          · rw [decide_eq_false (fun y => z (V.int.inj y))] at hc; cases hc
        have hA : A = [] := by
          by_cases z : A = []
          · exact z
          · have := hpos z; omega
        subst hA
        have hR : e = R := hAR
        subst hR
        refine ⟨_, rfl, f0, _, rfl, sq_of (e3 f0 _ hfR), fun p np => ?_⟩
        refine q _ _ ((ex.trans e3).trans (Ex.new np)) ⟨p, rfl, fresh_back (ex.trans e3) np, ?_⟩
        rw [upd_same]
        show some (HO.lst (il e.reverse).reverse) = some (HO.lst (il e))
        unfold il
        rw [← List.map_reverse, List.reverse_reverse]
end
end Tw
/-! #### WPoly -/
namespace Tw
open PySem PySem.Spec PyProof.Rows L2 Evl
abbrev sGathered : Stmt := topS 17
abbrev sMinus : Stmt := topS 18
abbrev sLifted : Stmt := topS 19
/-! ### terms -/
def TmT (K : PySem.W.Frag) (H : Hp) (b : Addr) (t : Int × Int) : Prop := SqT K H b [.int t.1, .int t.2]
def TmAll (K : PySem.W.Frag) (H : Hp) : List Addr → Poly → Prop
  | [], [] => True
  | p :: ps, s :: ss => TmT K H p s ∧ TmAll K H ps ss
  | _, _ => False
theorem TmAll.mono {K : PySem.W.Frag} {H H' : Hp} (e : Ex H H') : ∀ {ps : List Addr} {ss : Poly}, TmAll K H ps ss → TmAll K H' ps ss
  | [], [], _ => trivial
  | _ :: _, _ :: _, h => ⟨ex_t e h.1, TmAll.mono e h.2⟩
  | [], _ :: _, h => h.elim
  | _ :: _, [], h => h.elim
theorem TmAll.append {K : PySem.W.Frag} {H : Hp} {qs : List Addr} {tt : Poly} (hq : TmAll K H qs tt) : ∀ {ps : List Addr} {ss : Poly}, TmAll K H ps ss → TmAll K H (ps ++ qs) (ss ++ tt)
  | [], [], _ => hq
  | _ :: _, _ :: _, h => ⟨h.1, TmAll.append hq h.2⟩
  | [], _ :: _, h => h.elim
  | _ :: _, [], h => h.elim
theorem TmAll.len {K : PySem.W.Frag} {H : Hp} : ∀ {ps : List Addr} {ss : Poly}, TmAll K H ps ss → ps.length = ss.length
  | [], [], _ => rfl
  | _ :: _, _ :: _, h => by rw [List.length_cons, List.length_cons, TmAll.len h.2]
  | [], _ :: _, h => h.elim
  | _ :: _, [], h => h.elim
theorem TmAll.at {K : PySem.W.Frag} {H : Hp} : ∀ {ps : List Addr} {ss : Poly} {i : Nat} {p : Addr}, TmAll K H ps ss → ps[i]? = some p → ∃ t, ss[i]? = some t ∧ TmT K H p t
  | [], [], _, _, _, e => by simp at e
  | _ :: _, t :: _, 0, p, h, e => by
    have e : _ = p := Option.some.inj e
    subst e
    exact ⟨t, rfl, h.1⟩
  | _ :: _, _ :: _, i + 1, _, h, e => by
    obtain ⟨t, h1, h2⟩ := TmAll.at (i := i) h.2 (by simpa using e)
    exact ⟨t, by simpa using h1, h2⟩
  | [], _ :: _, _, _, h, _ => h.elim
  | _ :: _, [], _, _, h, _ => h.elim
theorem TmAll.upd {K : PySem.W.Frag} {H : Hp} {s : Addr} {ys : List V} {o : HO} (hs : H s = some (.lst ys)) : ∀ {ps : List Addr} {ss : Poly}, TmAll K H ps ss → TmAll K (upd H s o) ps ss
  | [], [], _ => trivial
  | _ :: _, _ :: _, h => ⟨sqT_upd h.1 hs, TmAll.upd hs h.2⟩
  | [], _ :: _, h => h.elim
  | _ :: _, [], h => h.elim
/-- a polynomial's tuple -/
def PolyAt (K : PySem.W.Frag) (H : Hp) (a : Addr) (p : Poly) : Prop := ∃ ps, SqT K H a (ps.map V.ref) ∧ TmAll K H ps p
theorem PolyAt.mono {K : PySem.W.Frag} {H H' : Hp} {a : Addr} {p : Poly} (h : PolyAt K H a p) (e : Ex H H') : PolyAt K H' a p := by
  obtain ⟨ps, h1, h2⟩ := h
  exact ⟨ps, ex_t e h1, h2.mono e⟩
def isPoly (K : PySem.W.Frag) (G : Poly → Prop) : PV := fun _ v H2 => ∃ a p, v = .ref a ∧ PolyAt K H2 a p ∧ G p
theorem mo_Poly {K : PySem.W.Frag} {G : Poly → Prop} : Mo (isPoly K G) := fun _ _ _ _ _ e e' ⟨a, p, b, c, d⟩ => ⟨a, p, b, c.mono e', d⟩
/-- a new list of terms -/
def isTms (K : PySem.W.Frag) (G : Poly → Prop) : PV := fun H1 v H2 => ∃ D qs p, v = .ref D ∧ H1 D = none ∧ H2 D = some (.lst (qs.map V.ref)) ∧ TmAll K H2 qs p ∧ G p
theorem mo_Tms {K : PySem.W.Frag} {G : Poly → Prop} : Mo (isTms K G) := fun _ _ _ _ _ e e' ⟨D, qs, p, a, b, c, d, f⟩ => ⟨D, qs, p, a, fresh_back e b, e' D _ c, d.mono e', f⟩
section
variable {K : PySem.W.Frag} {σ : L2.St} {H : Hp} {tl te ta tb : TE} {P : PV}
/-- [(.., ..) for power, number in p] -/
theorem ex_lcT {i j : Nat} {vs : List Nat} {a : Addr} {p : Poly} (f : Int × Int → Int × Int) (h : Ev tl σ H (.ref a)) (hx : PolyAt K H a p) (hz : p.length ≤ 50000)
    (hw : ∀ x y, wipe (((wipe σ vs).set i (some x)).set j (some y)) vs = wipe σ vs)
    (he : ∀ t H1, Ex H H1 → EvU te (((wipe σ vs).set i (some (.int t.1))).set j (some (.int t.2))) H1 [.int (f t).1, .int (f t).2]) :
    EvX (tLc (iTup K tl) (gTup K 2 (gCons (gName i) (gCons (gName j) gNil))) tYes te vs) σ H (isTms K fun q => q = p.map f) := fun H0 e Q q => h H0 e _ fun H1 e1 => by
  obtain ⟨ps, hps, hal⟩ := hx
  have e01 := e.trans e1
  have hlen := hal.len
  refine ⟨a, rfl, ⟨_, ex_t e01 hps⟩, fun D nD => lc_tup (xs := ps.map V.ref) (fun n H' => Ex H1 H' ∧ ∃ qs, H' D = some (.lst (qs.map V.ref)) ∧ TmAll K H' qs ((p.take n).map f)) ⟨Ex.new nD, [], upd_same, by simp [TmAll]⟩ (fun n H' _ hW => ex_t (e01.trans hW.1) hps) (fun n x H' hn hW => ?_) fun H' hW => ?_⟩
  · obtain ⟨eW, qs, hD, hq⟩ := hW
    obtain ⟨b, hb, rfl⟩ : ∃ b, ps[n]? = some b ∧ x = .ref b := by
      rw [List.getElem?_map] at hn
      cases hb : ps[n]? with
      | none => rw [hb] at hn; cases hn
      | some b =>
        rw [hb] at hn
        exact ⟨b, rfl, (Option.some.inj hn).symm⟩
    obtain ⟨t, ht, hbt⟩ := hal.at hb
    refine ⟨b, _, rfl, ex_t (e01.trans eW) hbt, rfl, _, _, rfl, _, _, rfl, rfl, hw _ _, ?_⟩
    show te _ H' _
    refine he t H' (e01.trans eW) H' (Ex.refl _) _ fun y H4 ny e4 hy => ?_
    have hD4 := e4 D _ hD
    refine ⟨_, hD4, ?_, (eW.trans e4).mut nD, qs ++ [y], ?_, ?_⟩
    · have h1 := hq.len
      rw [List.length_map, List.length_take] at h1
      rw [List.length_map]
      exact sz_lt (by omega)
    · rw [List.map_append]; exact upd_same
    · have : (p.take (n + 1)).map f = (p.take n).map f ++ [f t] := by
        rw [List.take_add_one, ht, List.map_append]; rfl
      rw [this]
      exact TmAll.append (qs := [y]) (tt := [f t]) ⟨sqT_upd (st_of hy) hD4, trivial⟩ (TmAll.upd hD4 (hq.mono e4))
  · obtain ⟨eW, qs, hD, hq⟩ := hW
    refine q _ H' (e1.trans eW) ⟨D, qs, _, rfl, fresh_back e1 nD, hD, hq, ?_⟩
    rw [List.length_map, hlen, List.take_length]
/-- tuple(a new list of terms) -/
theorem ex_tupleT {G : Poly → Prop} (h : EvX ta σ H (isTms K G)) : EvX (tCB (fun xs H Q => ∃ p ys, xs = [.ref p] ∧ ((SqL K H p ys ∧ ∀ l, H l = none → Q (.ref l) (upd H l (.tup ys))) ∨ (SqT K H p ys ∧ Q (.ref p) H))) (tCons ta tNil)) σ H (isPoly K G) := fun H1 e Q q =>
  h H1 e _ fun v H2 e2 hv => by
    obtain ⟨D, qs, p, rfl, nD, hD, hq, hG⟩ := hv
    exact ⟨D, _, rfl, .inl ⟨sq_of hD, fun l nl => q _ _ (e2.trans (Ex.new nl)) ⟨l, p, rfl, ⟨qs, st_of upd_same, hq.mono (Ex.new nl)⟩, hG⟩⟩⟩
/-- p + q -/
theorem ex_catT {a : Addr} {p : Poly} {G : Poly → Prop} (ha : Ev ta σ H (.ref a)) (hp : PolyAt K H a p) (hb : EvX tb σ H (isPoly K G)) (hz : ∀ q, G q → p.length + q.length ≤ 50000) : EvX (tOp (rCatA K) ta tb) σ H (isPoly K fun r => ∃ q, G q ∧ r = p ++ q) := fun H1 e Q k =>
  ha H1 e _ fun H2 e2 => hb H2 (e.trans e2) _ fun v H3 e3 hv => by
    obtain ⟨b, q, rfl, ⟨qs, hqs, hq⟩, hG⟩ := hv
    obtain ⟨ps, hps, hp⟩ := hp.mono ((e.trans e2).trans e3)
    have l1 := hp.len
    have l2 := hq.len
    refine ⟨a, b, _, _, rfl, rfl, hps, hqs, sz_of (by rw [List.length_map, List.length_map, l1, l2]; have := hz q hG; omega), fun z => ?_, fun z1 z2 => ?_, fun z1 z2 t nt => ?_⟩
    · have : ps = [] := List.map_eq_nil_iff.mp z
      subst this
      have : p = [] := List.eq_nil_of_length_eq_zero l1.symm
      subst this
      exact k _ H3 (e2.trans e3) ⟨b, q, rfl, ⟨qs, hqs, hq⟩, q, hG, rfl⟩
    · have : qs = [] := List.map_eq_nil_iff.mp z2
      subst this
      have : q = [] := List.eq_nil_of_length_eq_zero l2.symm
      subst this
      exact k _ H3 (e2.trans e3) ⟨a, p, rfl, ⟨ps, hps, hp⟩, [], hG, (List.append_nil _).symm⟩
    · refine k _ _ ((e2.trans e3).trans (Ex.new nt)) ⟨t, p ++ q, rfl, ⟨ps ++ qs, ?_, TmAll.append (hq.mono (Ex.new nt)) (hp.mono (Ex.new nt))⟩, q, hG, rfl⟩
      rw [List.map_append]
      exact st_of upd_same
end
/-! ### lifted, minus -/
def spLifted (K : PySem.W.Frag) : Sp := fun vs H Q _ => ∃ (a : Addr) (p : Poly) (m : Int), vs = [.ref a, .int m] ∧ PolyAt K H a p ∧ p.length ≤ 20000 ∧ RetX (isPoly K fun q => q = lift p m) H Q
theorem scLifted : FnScope ["one", "many", "power", "number"] ["one", "many"] (defScope sLifted) := ⟨rfl, rfl, rfl, by decide +kernel, rfl, by decide +kernel, by decide +kernel⟩
def spGathered (K : PySem.W.Frag) : Sp := fun vs H Q _ => ∃ (a : Addr) (p : Poly) (n : Nat), vs = [.ref a] ∧ PolyAt K H a p ∧ p.length ≤ 40000 ∧ NearP n p ∧ n ≤ 20 ∧ RetX (isPoly K (Gath p)) H Q
def spMinus (K : PySem.W.Frag) : Sp := fun vs H Q _ => ∃ (a b : Addr) (p q : Poly) (n : Nat), vs = [.ref a, .ref b] ∧ PolyAt K H a p ∧ PolyAt K H b q ∧ p.length ≤ 10000 ∧ q.length ≤ 10000 ∧ NearP n p ∧ NearP n q ∧ n ≤ 20 ∧ RetX (isPoly K (Gath (p ++ negp q))) H Q
theorem scMinus : FnScope ["one", "other", "power", "number"] ["one", "other"] (defScope sMinus) := ⟨rfl, rfl, rfl, by decide +kernel, rfl, by decide +kernel, by decide +kernel⟩
section
variable {P : Program} {w : World} {K : PySem.W.Frag} {mg : Str → Option Value} {base : Heap}
theorem ok_lifted {f : Addr} {fd : FuncData} (F : Fun K "lifted" "lifted" sLifted f fd) (mt : mg "tuple" = none) : FnOk P w K mg base CX0 1 f fd ["one", "many"] (spLifted K) := by
  refine F.ok scLifted (fun vs H Q E h => ?_) (fun cdv A outer s H vs Q E hr h => ?_)
  · obtain ⟨a, p, m, rfl, _⟩ := h
    rfl
  obtain ⟨a, p, m, rfl, hp, hz, q⟩ := h
  refine ⟨_, pss_one (ps_ret (pe_callTy call_tuple_of (by rfl) mt PyProof.Rows.boot_tuple (pa_cons (pe_lc (own := [("power", 2), ("number", 3)]) (g := gTup K 2 (gCons (gName 2) (gCons (gName 3) gNil))) rfl scLifted.nd (pi_tup (pv 0))
    (blkOk_by (own := [("power", 2), ("number", 3)]) (N := ["one", "many", "power", "number"]) (sc := defScope sLifted) (by decide +kernel))
    (fun _ _ _ _ _ => pg_tup rfl (pgs_cons (pg_name (i := 2) (hf := .inr rfl) scLifted.nd rfl (.inl rfl)) (pgs_cons (pg_name (i := 3) (hf := .inr rfl) scLifted.nd rfl (.inl rfl)) pgs_nil))) (fun _ _ _ _ _ => pts_nil)
    (fun _ _ _ _ _ => pe_tup (pa_cons (pe_op op_add (pv 2) (pv 1)) (pa_cons (pv 3) pa_nil)))) pa_nil))), ?_⟩
  exact s_retX (ex_tupleT (K := K) (ex_lcT (K := K) (fun t => (t.1 + m, t.2)) (ev_var rfl) hp (by omega) (fun _ _ => rfl) (fun t H1 e1 => eu_tup (ea_cons (ev_op (ev_var rfl) (ev_var rfl) rv_I0) (ea_cons (ev_var rfl) ea_nil)) (show 2 ≤ 100000 by decide)))) q
theorem ok_minus {f g : Addr} {fd gd : FuncData} (F : Fun K "minus" "minus" sMinus f fd) (D : Fd K mg "gathered" sGathered ["terms"] g gd) (G : FnOk P w K mg base CX0 1 g gd ["terms"] (spGathered K)) (mt : mg "tuple" = none) : FnOk P w K mg base CX0 2 f fd ["one", "other"] (spMinus K) := by
  refine F.ok scMinus (fun vs H Q E h => ?_) (fun cdv A outer s H vs Q E hr h => ?_)
  · obtain ⟨a, b, p, q, n, rfl, _⟩ := h
    rfl
  obtain ⟨a, b, p, q, n, rfl, hp, hq, hz1, hz2, hn1, hn2, hn, k⟩ := h
  refine ⟨_, pss_one (ps_ret (pe_call G hr (by rfl) D.m D.F.kp D.b .nil pass0 (pa_cons (pe_op op_catA (pv 0) (pe_callTy call_tuple_of (by rfl) mt PyProof.Rows.boot_tuple (pa_cons (pe_lc (own := [("power", 2), ("number", 3)]) (g := gTup K 2 (gCons (gName 2) (gCons (gName 3) gNil))) rfl scMinus.nd (pi_tup (pv 1))
    (blkOk_by (own := [("power", 2), ("number", 3)]) (N := ["one", "other", "power", "number"]) (sc := defScope sMinus) (by decide +kernel))
    (fun _ _ _ _ _ => pg_tup rfl (pgs_cons (pg_name (i := 2) (hf := .inr rfl) scMinus.nd rfl (.inl rfl)) (pgs_cons (pg_name (i := 3) (hf := .inr rfl) scMinus.nd rfl (.inl rfl)) pgs_nil))) (fun _ _ _ _ _ => pts_nil)
    (fun _ _ _ _ _ => pe_tup (pa_cons (pv 2) (pa_cons (pe_op op_sub pe_int (pv 3)) pa_nil)))) pa_nil))) pa_nil))), ?_⟩
  have hneg : (negp q).length = q.length := List.length_map _
  refine s_retX (ex_call1 (R := isPoly K fun r => ∃ q', q' = negp q ∧ r = p ++ q') (P := isPoly K (Gath (p ++ negp q))) mo_Poly (ex_catT (K := K) (G := fun q' => q' = negp q) (ev_var rfl) hp (ex_tupleT (K := K) (ex_lcT (K := K) (fun t => (t.1, 0 - t.2)) (ev_var rfl) hq (by omega) (fun _ _ => rfl) (fun t H1 e1 => eu_tup (ea_cons (ev_var rfl) (ea_cons (ev_op ev_c (ev_var rfl) rv_I0) ea_nil)) (show 2 ≤ 100000 by decide)))) fun q' z => by subst z; omega)
    fun H0 H1 x e0 e1 hx Q' E' k' => ?_) k
  obtain ⟨c, r, rfl, hc, _, rfl, rfl⟩ := hx
  exact ⟨c, p ++ negp q, n, rfl, hc, by rw [List.length_append]; omega, near_append hn1 (near_negp hn2), hn, k'⟩
end
end Tw
/-! #### WGath -/
namespace Tw
open PySem PySem.Spec PyProof.Rows L2 Evl
/-! ### gathered -/
def dk (d : Dct) : List (Key × V) := d.map fun t => (Sum.inl t.1, V.int t.2)
theorem dk_keys (d : Dct) : (dk d).map (·.1) = (d.map (·.1)).map Sum.inl := by
  unfold dk
  rw [List.map_map, List.map_map]; rfl
theorem dk_val : ∀ (d : Dct) (k : Int), valV (dk d) (Sum.inl k : Key) = (look d k).map V.int
  | [], _ => rfl
  | t :: d, k => by
    show valV ((Sum.inl t.1, V.int t.2) :: dk d) (Sum.inl k : Key) = _
    unfold look
    by_cases h : t.1 = k
    · rw [valV_pos (by rw [h]), if_pos h]; rfl
    · rw [valV_neg (fun z => h (Sum.inl.inj z)), if_neg h, dk_val d k]
/-- the dict behind d[k] = v -/
def putD (d : Dct) (k v : Int) : Dct := if k ∈ d.map (·.1) then d.map fun t => if t.1 = k then (t.1, v) else t else d ++ [(k, v)]
theorem dk_put (d : Dct) (k v : Int) : putK (dk d) (Sum.inl k : Key) (V.int v) = dk (putD d k v) := by
  unfold putK putD
  rw [valV_any, dk_val]
  by_cases h : k ∈ d.map (·.1)
  · obtain ⟨u, hu⟩ := look_some h
    rw [hu, if_pos h]
    show (if true = true then _ else _) = _
    rw [if_pos rfl]
    unfold dk
    rw [List.map_map, List.map_map]
    refine List.map_congr_left fun t _ => ?_
    show (if (Sum.inl t.1 : Key) = Sum.inl k then ((Sum.inl t.1 : Key), V.int v) else (Sum.inl t.1, V.int t.2)) = (Sum.inl (if t.1 = k then (t.1, v) else t).1, V.int (if t.1 = k then (t.1, v) else t).2)
    by_cases c : t.1 = k
    · rw [if_pos (by rw [c]), if_pos c]
    · rw [if_neg (fun z => c (Sum.inl.inj z)), if_neg c]
  · rw [look_none h, if_neg h]
    show (if false = true then _ else _) = _
    rw [if_neg (by decide)]
    unfold dk
    rw [List.map_append]; rfl
theorem putD_look (d : Dct) (k v j : Int) : look (putD d k v) j = if j = k then some v else look d j := by
  have h := valV_put (dk d) (Sum.inl k : Key) (Sum.inl j : Key) (V.int v)
  rw [dk_put, dk_val, dk_val] at h
  have inj : ∀ a b : Option Int, a.map V.int = b.map V.int → a = b := by
    intro a b e
    cases a <;> cases b <;> simp_all
  refine inj _ _ ?_
  rw [h]
  by_cases c : j = k
  · rw [if_pos (by rw [c]), if_pos c]; rfl
  · rw [if_neg (fun z => c (Sum.inl.inj z)), if_neg c]
theorem putD_keys (d : Dct) (k v : Int) : (putD d k v).map (·.1) = if k ∈ d.map (·.1) then d.map (·.1) else d.map (·.1) ++ [k] := by
  unfold putD
  by_cases h : k ∈ d.map (·.1)
  · rw [if_pos h, if_pos h, List.map_map]
    refine List.map_congr_left fun t _ => ?_
    show (if t.1 = k then (t.1, v) else t).1 = t.1
    by_cases c : t.1 = k
    · rw [if_pos c]
    · rw [if_neg c]
  · rw [if_neg h, if_neg h, List.map_append]; rfl
theorem Filled.put {d : Dct} {done : Poly} (h : Filled d done) (t : Int × Int) : Filled (putD d t.1 ((look d t.1).getD 0 + t.2)) (done ++ [t]) := by
  refine ⟨?_, fun k => ?_, fun k hk => ?_⟩
  · rw [putD_keys]
    by_cases c : t.1 ∈ d.map (·.1)
    · rw [if_pos c]; exact h.nodup
    · rw [if_neg c]
      refine List.nodup_append.mpr ⟨h.nodup, by simp, fun a ha b hb => ?_⟩
      have : b = t.1 := by simpa using hb
      rw [this]
      exact fun z => c (z ▸ ha)
  · rw [putD_look, coef_append, ← h.num k]
    show _ = _ + ((if t.1 = k then t.2 else 0) + 0)
    by_cases c : k = t.1
    · subst c
      rw [if_pos rfl, if_pos rfl]
      show (look d t.1).getD 0 + t.2 = _
      omega
    · rw [if_neg c, if_neg (Ne.symm c)]; omega
  · rw [putD_keys] at hk
    by_cases c : t.1 ∈ d.map (·.1)
    · rw [if_pos c] at hk
      obtain ⟨u, hu, e⟩ := h.keys k hk
      exact ⟨u, by simp [hu], e⟩
    · rw [if_neg c] at hk
      rcases List.mem_append.mp hk with hk | hk
      · obtain ⟨u, hu, e⟩ := h.keys k hk
        exact ⟨u, by simp [hu], e⟩
      · have : k = t.1 := by simpa using hk
        exact ⟨t, by simp, this.symm⟩
theorem filled_nil : Filled [] [] := ⟨List.nodup_nil, fun _ => rfl, fun _ h => nomatch h⟩
theorem told_snoc_yes {D : F} {ys : List Int} {y : Int} (h : D y ≠ 0) : told D (ys ++ [y]) = told D ys ++ [(y, D y)] := by
  unfold told
  rw [List.filter_append, List.map_append]
  simp [h]
theorem told_snoc_no {D : F} {ys : List Int} {y : Int} (h : D y = 0) : told D (ys ++ [y]) = told D ys := by
  unfold told
  rw [List.filter_append, List.map_append]
  simp [h]
theorem told_len (D : F) (ys : List Int) : (told D ys).length ≤ ys.length := by
  unfold told
  rw [List.length_map]
  exact List.length_filter_le _ _
theorem scGathered : FnScope ["terms", "found", "power", "number"] ["terms"] (defScope sGathered) := ⟨rfl, rfl, rfl, by decide +kernel, rfl, by decide +kernel, by decide +kernel⟩
/-- a tuple of terms stays where a dict is changed -/
theorem sqT_updK {K : PySem.W.Frag} {H : Hp} {a s : Addr} {xs : List V} {ys : List (Key × V)} {o : HO} (h : SqT K H a xs) (hs : H s = some (.dK ys)) : SqT K (upd H s o) a xs := by
  rcases h with (h | ⟨ob, h⟩) | h
  · exact .inl (.inl (by rw [upd_ne (ne_of h hs (by intro z; cases z))]; exact h))
  · exact .inl (.inr ⟨ob, by rw [upd_ne (ne_of h hs (by intro z; cases z))]; exact h⟩)
  · exact .inr h
section
variable {P : Program} {w : World} {K : PySem.W.Frag} {mg : Str → Option Value} {base : Heap}
theorem ok_gathered {f : Addr} {fd : FuncData} (F : Fun K "gathered" "gathered" sGathered f fd) (mt : mg "tuple" = none) (ms : mg "sorted" = none) : FnOk P w K mg base CX0 1 f fd ["terms"] (spGathered K) := by
  refine F.ok scGathered (fun vs H Q E h => ?_) (fun cdv A outer s H vs Q E hr h => ?_)
  · obtain ⟨a, p, n, rfl, _⟩ := h
    rfl
  obtain ⟨a, p, n, rfl, hp, hz, hnear, hn, q⟩ := h
  obtain ⟨ps, hps, hal⟩ := hp
  have hu := hu_of hr
  have hlen := hal.len
  refine ⟨_, pss_cons (ps_set (i := 1) scGathered.nd rfl (.inr rfl) pe_dnewK)
    (pss_cons (ps_for PassesOwn.never rfl (pi_tup (pv 0)) (pg_tup rfl (pgs_cons (pg_name (i := 2) scGathered.nd rfl (.inl rfl)) (pgs_cons (pg_name (i := 3) scGathered.nd rfl (.inl rfl)) pgs_nil)))
      (pss_one (ps_dput hu (pv 1) (pv 2) (pe_op op_add (pe_dget2 hu (pv 1) (pv 2) pe_int ⟨rfl, rfl, rfl, rfl⟩) (pv 3)) rfl)))
    (pss_one (ps_ret (pe_callTy call_tuple_of (by rfl) mt PyProof.Rows.boot_tuple (pa_cons (pe_lc (own := [("power", 2)]) (g := gName 2) rfl scGathered.nd
      (pi_list (pe_callB (call_sortedDI rfl) (by rfl) ms PyProof.Rows.boot_sorted (pa_cons (pv 1) pa_nil)))
      (blkOk_by (own := [("power", 2)]) (N := ["terms", "found", "power", "number"]) (sc := defScope sGathered) (by decide +kernel))
      (fun _ _ _ _ _ => pg_name (i := 2) (hf := .inr rfl) scGathered.nd rfl (.inl rfl))
      (fun _ _ _ _ _ => pts_one (pt_cmpR op_ne (pe_dget hu (pv 1) (pv 2) (fun _ _ => rfl)) pe_int (nomark _)))
      (fun _ _ _ _ _ => pe_tup (pa_cons (pv 2) (pa_cons (pe_dget hu (pv 1) (pv 2) (fun _ _ => rfl)) pa_nil)))) pa_nil))))), ?_⟩
  intro D nD
  refine ⟨_, rfl, a, rfl, ⟨_, ex_t (Ex.new nD) hps⟩, for_tup (xs := ps.map V.ref) (fun i σ' H' => ∃ (d : Dct) (y2 y3 : Option V), σ' = [some (.ref a), some (.ref D), y2, y3] ∧ Ex H H' ∧ H' D = some (.dK (dk d)) ∧ Filled d (p.take i) ∧ d.length ≤ i)
    ⟨[], none, none, rfl, Ex.new nD, upd_same, filled_nil, Nat.le_refl _⟩ (fun i σ' H' _ hW => ?_) (fun i x σ' H' hx hW => ?_) fun σ' H' hW => ?_⟩
  · obtain ⟨_, _, _, _, ex, _⟩ := hW
    exact ex_t ex hps
  · obtain ⟨d, y2, y3, rfl, ex, hD, hfil, hdl⟩ := hW
    obtain ⟨b, hb, rfl⟩ : ∃ b, ps[i]? = some b ∧ x = .ref b := by
      rw [List.getElem?_map] at hx
      cases hb : ps[i]? with
      | none => rw [hb] at hx; cases hx
      | some b =>
        rw [hb] at hx
        exact ⟨b, rfl, (Option.some.inj hx).symm⟩
    obtain ⟨t, ht, hbt⟩ := hal.at hb
    have hil : i < ps.length := (List.getElem?_eq_some_iff.mp hb).1
    refine ⟨b, _, rfl, ex_t ex hbt, rfl, _, _, rfl, _, _, rfl, rfl, ?_⟩
    refine ⟨_, rfl, D, rfl, .inl ⟨_, .inl hD⟩, _, rfl, valV (dk d) (Sum.inl t.1), DGet.k (k := Sum.inl t.1) hD, _, rfl, (look d t.1).getD 0, t.2, ?_, rfl, _, rfl, _, rfl, D, _, rfl, DPut.k (k := Sum.inl t.1) hD ?_, ?_⟩
    · rw [dk_val]
      cases look d t.1 <;> rfl
    · rw [show (dk d).length = d.length from List.length_map _]
      exact sz_lt (by omega)
    · refine ⟨putD d t.1 ((look d t.1).getD 0 + t.2), some (.int t.1), some (.int t.2), rfl, ex.mut nD, ?_, ?_, ?_⟩
      · rw [upd_same, dk_put]
      · have : p.take (i + 1) = p.take i ++ [t] := by
          rw [List.take_add_one, ht]; rfl
        rw [this]
        exact hfil.put t
      · unfold putD
        by_cases c : t.1 ∈ d.map (·.1)
        · rw [if_pos c, List.length_map]; omega
        · rw [if_neg c, List.length_append]
          show d.length + 1 ≤ i + 1
          omega
  · obtain ⟨d, y2, y3, rfl, ex, hD, hfil, hdl⟩ := hW
    rw [List.length_map, hlen, List.take_length] at hfil
    have h64 : (d.map (·.1)).length < 64 := by
      have := near_few (n := n) hfil.nodup fun k hk => by
        obtain ⟨u, hu, e⟩ := hfil.keys k hk
        rw [← e]
        exact hnear u hu
      omega
    refine ⟨_, rfl, D, dk d, d.map (·.1), rfl, .inl hD, dk_keys d, h64, fun ys L hperm hsort nL => ?_⟩
    have hyl : ys.length < 64 := by rw [hperm.length_eq]; exact h64
    refine ⟨L, rfl, ⟨_, sq_of upd_same⟩, fun D2 nD2 => ?_⟩
    have exL : Ex H (upd H' L (.lst (ys.map V.int))) := ex.trans (Ex.new nL)
    have hDL : (upd H' L (.lst (ys.map V.int))) D = some (.dK (dk d)) := Ex.new nL D _ hD
    refine lc_list (xs := ys.map V.int) (fun i H2 => Ex (upd H' L (.lst (ys.map V.int))) H2 ∧ ∃ qs, H2 D2 = some (.lst (qs.map V.ref)) ∧ TmAll K H2 qs (told (coef p) (ys.take i))) ⟨Ex.new nD2, [], upd_same, by simp [TmAll, told]⟩ (fun i H2 _ hW => sq_of (hW.1 L _ upd_same)) (fun i x H2 hx hW => ?_) fun H2 hW => ?_
    · obtain ⟨eW, qs, hD2, hq⟩ := hW
      obtain ⟨k, hk, rfl⟩ : ∃ k, ys[i]? = some k ∧ x = .int k := by
        rw [List.getElem?_map] at hx
        cases hb : ys[i]? with
        | none => rw [hb] at hx; cases hx
        | some b =>
          rw [hb] at hx
          exact ⟨b, rfl, (Option.some.inj hx).symm⟩
      have hkm : k ∈ d.map (·.1) := hperm.mem_iff.mp (List.mem_of_getElem? hk)
      have hDW : H2 D = some (.dK (dk d)) := eW D _ hDL
      have hlook : look d k = some (coef p k) := by
        obtain ⟨v, hv⟩ := look_some hkm
        have := hfil.num k
        rw [hv] at this
        rw [hv]
        exact congrArg some this
      have hget : ∀ H3, Ex H2 H3 → DGet H3 D (.int k) (some (.int (coef p k))) := fun H3 e3 => by
        have g := DGet.k (k := (Sum.inl k : Key)) (e3 D _ hDW)
        rw [dk_val, hlook] at g
        exact g
      have htake : ys.take (i + 1) = ys.take i ++ [k] := by
        rw [List.take_add_one, hk]; rfl
      refine ⟨rfl, _, rfl, _, rfl, D, _, rfl, hget H2 (Ex.refl _), rfl, _, rfl, ?_⟩
      by_cases c : coef p k = 0
      · rw [c]
        refine iteF ⟨eW, qs, hD2, ?_⟩
        rw [htake, told_snoc_no c]
        exact hq
      · have hne : (!decide (V.int (coef p k) = V.int 0)) = true := by
          rw [decide_eq_false (fun y => c (V.int.inj y))]; rfl
        rw [hne]
        refine iteT ⟨_, rfl, _, rfl, _, rfl, D, _, rfl, hget H2 (Ex.refl _), (by show 2 ≤ sizeLine; decide), fun t nt => ?_⟩
        have hD3 : (upd H2 t (.tup [.int k, .int (coef p k)])) D2 = some (.lst (qs.map V.ref)) := Ex.new nt D2 _ hD2
        refine ⟨_, hD3, ?_, (eW.trans (Ex.new nt)).mut nD2, qs ++ [t], ?_, ?_⟩
        · rw [List.length_map, hq.len]
          have := told_len (coef p) (ys.take i)
          rw [List.length_take] at this
          exact sz_lt (by omega)
        · rw [List.map_append]; exact upd_same
        · rw [htake, told_snoc_yes c]
          exact TmAll.append (qs := [t]) (tt := [(k, coef p k)]) ⟨sqT_upd (st_of upd_same) hD3, trivial⟩ (TmAll.upd hD3 (hq.mono (Ex.new nt)))
    · obtain ⟨eW, qs, hD2, hq⟩ := hW
      rw [List.length_map, List.take_length] at hq
      refine ⟨D2, _, rfl, .inl ⟨sq_of hD2, fun t nt => ?_⟩⟩
      exact q _ _ ((exL.trans eW).trans (Ex.new nt)) ⟨t, _, rfl, ⟨qs, st_of upd_same, hq.mono (Ex.new nt)⟩, gath_of hfil hperm hsort⟩
end
end Tw
/-! #### WSums -/
namespace Tw
open PySem PySem.Spec PyProof.Rows L2 Evl
abbrev sValue : Stmt := topS 21
abbrev sHalf : Stmt := topS 22
abbrev sSums : Stmt := topS 23
/-! ### value -/
def spValue (K : PySem.W.Frag) : Sp := fun vs H Q _ => ∃ (a : Addr) (l : List Int), vs = [.ref a] ∧ SqL K H a (il l) ∧ (∀ x ∈ l, x.natAbs ≤ 1000) ∧ RetX (isU [.int (val l).1, .int (val l).2]) H Q
theorem scValue : FnScope ["twists", "top", "bottom", "many"] ["twists"] (defScope sValue) := ⟨rfl, rfl, rfl, by decide +kernel, rfl, by decide +kernel, by decide +kernel⟩
section
variable {P : Program} {w : World} {K : PySem.W.Frag} {mg : Str → Option Value} {base : Heap}
theorem ok_value {f : Addr} {fd : FuncData} (F : Fun K "value" "value" sValue f fd) : FnOk P w K mg base CX0 1 f fd ["twists"] (spValue K) := by
  refine F.ok scValue (fun vs H Q E h => ?_) (fun cdv A outer s H vs Q E hr h => ?_)
  · obtain ⟨a, l, rfl, _⟩ := h
    rfl
  obtain ⟨a, l, rfl, hS, hb, q⟩ := h
  refine ⟨_, pss_cons (ps_set (i := 1) scValue.nd rfl (.inl rfl) pe_int)
    (pss_cons (ps_set (i := 2) scValue.nd rfl (.inl rfl) pe_int)
    (pss_cons (ps_for PassesOwn.never rfl (pi_list (pv 0)) (pg_name (i := 3) scValue.nd rfl (.inl rfl))
      (pss_one (ps_par (i := 1) (j := 2) (by rfl) scValue.nd rfl rfl (by decide) rfl rfl (pa_cons (pe_op op_sub (pe_op op_mul (pv 3) (pv 1)) (pv 2)) (pa_cons (pv 1) pa_nil)) (by rfl))))
    (pss_cons (ps_if (pt_cmpR op_eq (pv 2) pe_int (nomark _)) (pss_one (ps_ret (pe_tup (pa_cons pe_int (pa_cons pe_int pa_nil))))) pss_nil)
    (pss_cons (ps_if (pt_cmpR op_lt (pv 2) pe_int (nomark _)) (pss_one (ps_ret (pe_tup (pa_cons (pe_un un_neg (pv 1)) (pa_cons (pe_un un_neg (pv 2)) pa_nil))))) pss_nil)
    (pss_one (ps_ret (pe_tup (pa_cons (pv 1) (pa_cons (pv 2) pa_nil))))))))), ?_⟩
  refine q_asg ev_c fun H1 e1 => ?_
  refine q_asg ev_c fun H2 e2 => ?_
  refine q_forLn (K := K) (a := a) (xs := il l) (ev_var rfl) (ex_l (e1.trans e2) hS) (fun i σ' H' => ∃ y, σ' = [some (.ref a), some (.int (vec (l.take i)).1), some (.int (vec (l.take i)).2), y] ∧ Ex H H') (fun H3 e3 => ⟨none, rfl, (e1.trans e2).trans e3⟩) (fun i σ' H' _ hW => ?_) (fun i x σ' H' hx hW => ?_) fun σ' H' hW => ?_
  · obtain ⟨_, _, ex⟩ := hW
    exact ex_l ex hS
  · obtain ⟨y, rfl, ex⟩ := hW
    obtain ⟨m, hm, rfl⟩ : ∃ m, l[i]? = some m ∧ x = .int m := by
      rw [List.getElem?_map] at hx
      cases hb : l[i]? with
      | none => rw [hb] at hx; cases hx
      | some b =>
        rw [hb] at hx
        exact ⟨b, rfl, (Option.some.inj hx).symm⟩
    have hmb := hb m (List.mem_of_getElem? hm)
    have hv : vec (l.take (i + 1)) = vst (vec (l.take i)) m := by
      rw [List.take_add_one, hm]
      unfold vec
      rw [List.foldl_append]; rfl
    refine ⟨_, rfl, _, rfl, m, _, rfl, rfl, .inl ⟨by omega, by omega⟩, _, rfl, _, _, rfl, rfl, _, rfl, _, _, rfl, some (.int m), ?_, ex⟩
    rw [hv]; rfl
  · obtain ⟨y, rfl, ex⟩ := hW
    rw [List.length_map, List.take_length]
    have hq : RetX (isU [.int (val l).1, .int (val l).2]) H' Q := q.go mo_U ex
    have hval : val l = norm (vec l) := rfl
    rw [hval] at hq
    generalize vec l = v at hq
    refine q_when (et_test (ev_op (ev_var rfl) ev_c (rv_eq rfl))) (fun hc H4 e4 => ?_) fun hc H4 e4 => ?_
    · have e0 : v.2 = 0 := V.int.inj (of_decide_eq_true hc)
      have hn : norm v = (1, 0) := by unfold norm; rw [if_pos e0]
      rw [hn] at hq
      exact s_retX (ex_U (eu_tup (ea_cons ev_c (ea_cons ev_c ea_nil)) (show 2 ≤ 100000 by decide))) (hq.go mo_U e4)
    · have e0 : ¬ v.2 = 0 := fun z => of_decide_eq_false hc (by rw [z])
      refine q_when (et_test (ev_op (ev_var rfl) ev_c rv_I0)) (fun hc2 H5 e5 => ?_) fun hc2 H5 e5 => ?_
      · have e1 : v.2 < 0 := of_decide_eq_true hc2
        have hn : norm v = (-v.1, -v.2) := by unfold norm; rw [if_neg e0, if_pos e1]
        rw [hn] at hq
        exact s_retX (ex_U (eu_tup (ea_cons (ev_un (ev_var rfl) ru_neg) (ea_cons (ev_un (ev_var rfl) ru_neg) ea_nil)) (show 2 ≤ 100000 by decide))) (hq.go mo_U (e4.trans e5))
      · have e1 : ¬ v.2 < 0 := of_decide_eq_false hc2
        have hn : norm v = v := by unfold norm; rw [if_neg e0, if_neg e1]
        rw [hn] at hq
        exact s_retX (ex_U (eu_tup (ea_cons (ev_var rfl) (ea_cons (ev_var rfl) ea_nil)) (show 2 ≤ 100000 by decide))) (hq.go mo_U (e4.trans e5))
end
/-! ### half_twist -/
/-- the way's sign: 1 or -1 -/
def tw (way : Int) (s : Pr) : Pr := if way = 1 then twP s else twM s
def isRep (K : PySem.W.Frag) (n : Nat) (s : Pr) : PV := fun _ v H2 => ∃ t x y l u, v = .ref t ∧ SqT K H2 t [.ref x, .ref y] ∧ PolyAt K H2 x l ∧ PolyAt K H2 y u ∧ Rep n l u s
theorem mo_Rep {K : PySem.W.Frag} {n : Nat} {s : Pr} : Mo (isRep K n s) := fun _ _ _ _ _ e e' ⟨t, x, y, l, u, a, b, c, d, f⟩ => ⟨t, x, y, l, u, a, ex_t e' b, c.mono e', d.mono e', f⟩
def spHalf (K : PySem.W.Frag) : Sp := fun vs H Q _ => ∃ (x y : Addr) (l u : Poly) (way : Int) (n : Nat) (s : Pr), vs = [.ref x, .ref y, .int way] ∧ PolyAt K H x l ∧ PolyAt K H y u ∧ (way = 1 ∨ way = -1) ∧ n ≤ 18 ∧ Rep n l u s ∧ RetX (isRep K (n + 1) (tw way s)) H Q
theorem scHalf : FnScope ["level", "upright", "way"] ["level", "upright", "way"] (defScope sHalf) := ⟨rfl, rfl, rfl, by decide +kernel, rfl, by decide +kernel, by decide +kernel⟩
section
variable {P : Program} {w : World} {K : PySem.W.Frag} {mg : Str → Option Value} {base : Heap}
theorem ex_lifted {σ : L2.St} {H : Hp} {ta tb : TE} {E : XK} {a : Addr} {p : Poly} {m : Int} (hp : PolyAt K H a p) (hz : p.length ≤ 20000) (h1 : Ev ta σ H (.ref a)) (h2 : Ev tb σ H (.int m)) : EvX (tCall (spLifted K) [] E (tCons ta (tCons tb tNil))) σ H (isPoly K fun q => q = lift p m) :=
  ex_call mo_Poly (ea_cons h1 (ea_cons h2 ea_nil)) fun H1 e1 Q' E' k => ⟨a, p, m, rfl, hp.mono e1, hz, k⟩
theorem ok_half {f g1 g2 : Addr} {fd d1 d2 : FuncData} (F : Fun K "half_twist" "half_twist" sHalf f fd) (D1 : Fd K mg "lifted" sLifted ["one", "many"] g1 d1) (G1 : FnOk P w K mg base CX0 1 g1 d1 ["one", "many"] (spLifted K))
    (D2 : Fd K mg "minus" sMinus ["one", "other"] g2 d2) (G2 : FnOk P w K mg base CX0 2 g2 d2 ["one", "other"] (spMinus K)) : FnOk P w K mg base CX0 3 f fd ["level", "upright", "way"] (spHalf K) := by
  refine F.ok scHalf (fun vs H Q E h => ?_) (fun cdv A outer s H vs Q E hr h => ?_)
  · obtain ⟨x, y, l, u, way, n, s, rfl, _⟩ := h
    rfl
  obtain ⟨x, y, l, u, way, n, st, rfl, hx, hy, hway, hn, hrep, q⟩ := h
  have r1 := hr.mono (show 1 ≤ 2 by decide)
  refine ⟨_, pss_one (ps_ret (pe_tup (pa_cons (pe_call G1 r1 (by rfl) D1.m D1.F.kp D1.b .nil pass0 (pa_cons (pv 0) (pa_cons (pe_un un_neg (pv 2)) pa_nil)))
    (pa_cons (pe_call G2 hr (by rfl) D2.m D2.F.kp D2.b .nil pass0 (pa_cons (pe_call G1 r1 (by rfl) D1.m D1.F.kp D1.b .nil pass0 (pa_cons (pv 0) (pa_cons (pv 2) pa_nil)))
      (pa_cons (pe_call G1 r1 (by rfl) D1.m D1.F.kp D1.b .nil pass0 (pa_cons (pv 1) (pa_cons (pe_op op_mul pe_int (pv 2)) pa_nil))) pa_nil))) pa_nil)))), ?_⟩
  have hl1 := canon_len hrep.cl hrep.nl
  have hl2 := canon_len hrep.cu hrep.nu
  have hlift : ∀ m, (lift l m).length = l.length := fun m => List.length_map _
  have hliftu : ∀ m, (lift u m).length = u.length := fun m => List.length_map _
  refine s_retX (P := isU2 (isPoly K fun q => q = lift l (-way)) (isPoly K (Gath (lift l way ++ negp (lift u (3 * way)))))) (ex_tup2 mo_Poly mo_Poly (ex_lifted hx (by omega) (ev_var rfl) (ev_un (ev_var rfl) ru_neg))
    (ex_call2 (R := isPoly K fun q => q = lift l way) (S := isPoly K fun q => q = lift u (3 * way)) mo_Poly mo_Poly (ex_lifted hx (by omega) (ev_var rfl) (ev_var rfl)) (ex_lifted hy (by omega) (ev_var rfl) (ev_op ev_c (ev_var rfl) (rv_I (.inl ⟨by decide, by decide⟩)))) fun H0 H1 v1 v2 e0 e1 h1 h2 Q' E' k => ?_)) fun v H2 e2 hv => ?_
  · obtain ⟨b1, p1, rfl, hb1, rfl⟩ := h1
    obtain ⟨_, _, b2, p2, rfl, hb2, rfl⟩ := h2
    refine ⟨b1, b2, _, _, n + 1, rfl, hb1, hb2, by rw [hlift]; omega, by rw [hliftu]; omega, ?_, ?_, by omega, k⟩
    · rcases hway with rfl | rfl
      · exact near_lift hrep.nl (by decide) (by decide) (by decide)
      · exact near_lift hrep.nl (by decide) (by decide) (by decide)
    · rcases hway with rfl | rfl
      · exact near_lift hrep.nu (by decide) (by decide) (by decide)
      · exact near_lift hrep.nu (by decide) (by decide) (by decide)
  · obtain ⟨t, x1, y1, rfl, _, ht, ⟨a1, p1, rfl, hp1, rfl⟩, ⟨a2, p2, rfl, hp2, hg⟩⟩ := hv
    refine q _ H2 e2 ⟨t, a1, a2, _, p2, rfl, st_of ht, hp1, hp2, ?_⟩
    rcases hway with rfl | rfl
    · exact hrep.plus hg
    · exact hrep.less hg
end

/-! ### twisted_sums -/
theorem for_enum {K : PySem.W.Frag} {a : Addr} {xs : List V} {g : TG} {tb : TS} {D : L2.Ends} {σ : L2.St} {H : Hp} (Pv : Nat → L2.St → Hp → Prop) (h0 : Pv 0 σ H) (hl : ∀ i σ H, i ≤ xs.length → Pv i σ H → SqL K H a xs)
    (hs : ∀ i x σ H T, xs[i]? = some x → Pv i σ H → H T = none → g (.ref T) σ (upd H T (.tup [.int ((i : Nat) : Int), x])) fun σ2 H2 => tb { D with nx := Pv (i + 1), ct := Pv (i + 1), bk := D.nx } σ2 H2) (hd : ∀ σ H, Pv xs.length σ H → D.nx σ H) :
    ∃ W : Nat → Nat → L2.St → Hp → Prop, (∃ m, W 0 m σ H) ∧ ∀ i m σ H, W i m σ H → ((Ite K a).stop i H ∧ D.nx σ H) ∨
      ((Ite K a).go i H ∧ ∃ N : L2.St → Hp → Prop, (∀ σ' H', N σ' H' → ∃ m', m' < m ∧ W (i + 1) m' σ' H') ∧ ∀ x H', (Ite K a).yld i H x H' → g x σ H' fun σ2 H2 => tb { D with nx := N, ct := N, bk := D.nx } σ2 H2) := by
  refine ⟨fun i m σ1 H1 => i + m = xs.length ∧ Pv i σ1 H1, ⟨xs.length, Nat.zero_add _, h0⟩, fun i m σ1 H1 hW => ?_⟩
  obtain ⟨him, hP⟩ := hW
  have hq := hl i σ1 H1 (by omega) hP
  cases m with
  | zero =>
    have hi : i = xs.length := by omega
    rw [hi] at hP
    exact .inl ⟨⟨xs, hq, by omega⟩, hd σ1 H1 hP⟩
  | succ m =>
    have hlt : i < xs.length := by omega
    refine .inr ⟨⟨xs, xs[i], hq, List.getElem?_eq_getElem hlt⟩, Pv (i + 1), fun σ2 H2 h2 => ⟨m, Nat.lt_succ_self m, by omega, h2⟩, fun v H2 hy => ?_⟩
    obtain ⟨T, z, rfl, nT, rfl, hz⟩ := hy
    exact hs i z σ1 H1 T (hz xs hq) hP nT
/-- level, upright = a pair of sums -/
theorem s_asgR {K : PySem.W.Frag} {σ : L2.St} {H : Hp} {D : L2.Ends} {te : TE} {i j n : Nat} {s : Pr} (h : EvX te σ H (isRep K n s)) (k : ∀ x y p u H1, Ex H H1 → PolyAt K H1 x p → PolyAt K H1 y u → Rep n p u s → D.nx ((σ.set i (some (.ref x))).set j (some (.ref y))) H1) :
    tAsg te (gTup K 2 (gCons (gName i) (gCons (gName j) gNil))) D σ H := h H (Ex.refl H) _ fun v H1 e p => by
  obtain ⟨t, x, y, l, u, rfl, h1, h2, h3, h4⟩ := p
  exact ⟨t, _, rfl, h1, rfl, _, _, rfl, _, _, rfl, rfl, k x y l u H1 e h2 h3 h4⟩
def spSums (K : PySem.W.Frag) : Sp := fun vs H Q _ => ∃ (a : Addr) (l : List Int), vs = [.ref a] ∧ SqL K H a (il l) ∧ l ≠ [] ∧ absum l ≤ 18 ∧ RetX (isRep K (absum l) (sem l)) H Q
theorem scSums : FnScope ["twists", "level", "upright", "at", "many", "time"] ["twists"] (defScope sSums) := ⟨rfl, rfl, rfl, by decide +kernel, rfl, by decide +kernel, by decide +kernel⟩
theorem absum_take : ∀ {l : List Int} {i : Nat} {m : Int}, l[i]? = some m → absum (l.take (i + 1)) = absum (l.take i) + m.natAbs ∧ absum (l.take (i + 1)) ≤ absum l
  | [], _, _, h => by simp at h
  | a :: r, 0, m, h => by
    have h : a = m := Option.some.inj h
    subst h
    simp [absum]
  | a :: r, i + 1, m, h => by
    have ih := absum_take (l := r) (i := i) (m := m) (by simpa using h)
    simp only [List.take_succ_cons, absum]
    omega
theorem sem_take {l : List Int} {i : Nat} {m : Int} (h : l[i]? = some m) : sem (l.take (i + 1)) = pw m (swp (sem (l.take i))) := by
  rw [List.take_add_one, h]
  unfold sem
  rw [List.foldl_append]; rfl
/-- the state where the i-th number is met -/
def metS (l : List Int) (i : Nat) : Pr := if i = 0 then S0 else sem (l.take i)
section
variable {P : Program} {w : World} {K : PySem.W.Frag} {mg : Str → Option Value} {base : Heap}
theorem ok_sums {f g1 : Addr} {fd d1 : FuncData} (F : Fun K "twisted_sums" "twisted_sums" sSums f fd) (D1 : Fd K mg "half_twist" sHalf ["level", "upright", "way"] g1 d1) (G1 : FnOk P w K mg base CX0 3 g1 d1 ["level", "upright", "way"] (spHalf K))
    (me : mg "enumerate" = none) (mr : mg "range" = none) (ma : mg "abs" = none) : FnOk P w K mg base CX0 4 f fd ["twists"] (spSums K) := by
  refine F.ok scSums (fun vs H Q E h => ?_) (fun cdv A outer s H vs Q E hr h => ?_)
  · obtain ⟨a, l, rfl, _⟩ := h
    rfl
  obtain ⟨a, l, rfl, hS, hne, hab, q⟩ := h
  refine ⟨_, pss_cons (ps_set (i := 1) scSums.nd rfl (.inl rfl) (pe_tup (pa_cons (pe_tup (pa_cons pe_int (pa_cons pe_int pa_nil))) pa_nil)))
    (pss_cons (ps_set (i := 2) scSums.nd rfl (.inl rfl) (pe_tup pa_nil))
    (pss_cons (ps_for PassesOwn.never rfl (pi_enum (by rfl) me (pa_cons (pv 0) pa_nil)) (pg_tup rfl (pgs_cons (pg_name (i := 3) scSums.nd rfl (.inl rfl)) (pgs_cons (pg_name (i := 4) scSums.nd rfl (.inl rfl)) pgs_nil)))
      (pss_cut (ps_if (pt_cmpR op_gt (pv 3) pe_int (nomark _)) (pss_one (ps_par (i := 1) (j := 2) (by rfl) scSums.nd rfl rfl (by decide) rfl rfl (pa_cons (pv 2) (pa_cons (pv 1) pa_nil)) (by rfl))) pss_nil)
      (pss_one (ps_for PassesOwn.never rfl (pi_range1 (by rfl) mr (pa_cons (pe_callB call_abs (by rfl) ma PyProof.Rows.boot_abs (pa_cons (pv 4) pa_nil)) pa_nil)) (pg_name (i := 5) scSums.nd rfl (.inl rfl))
        (pss_one (ps_asg (pe_call G1 hr (by rfl) D1.m D1.F.kp D1.b .nil pass0 (pa_cons (pv 1) (pa_cons (pv 2) (pa_cons (pe_ifExp (pt_cmpR op_gt (pv 4) pe_int (nomark _)) pe_int (pe_un un_neg pe_int)) pa_nil))))
          (pg_tup (by rfl) (pgs_cons (pg_name (i := 1) scSums.nd rfl (.inl rfl)) (pgs_cons (pg_name (i := 2) scSums.nd rfl (.inl rfl)) pgs_nil)))))))))
    (pss_one (ps_ret (pe_tup (pa_cons (pv 1) (pa_cons (pv 2) pa_nil))))))), ?_⟩
  refine ⟨by show 2 ≤ sizeLine; decide, fun t0 nt0 => ⟨by show 1 ≤ sizeLine; decide, fun x0 nx0 => ?_⟩⟩
  have ex0 : Ex H (upd (upd H t0 (.tup [.int 0, .int 1])) x0 (.tup [.ref t0])) := (Ex.new nt0).trans (Ex.new nx0)
  have hp0 : PolyAt K (upd (upd H t0 (.tup [.int 0, .int 1])) x0 (.tup [.ref t0])) x0 [(0, 1)] := ⟨[t0], st_of upd_same, ex_t (Ex.new nx0) (st_of upd_same), trivial⟩
  generalize hH1 : upd (upd H t0 (.tup [.int 0, .int 1])) x0 (.tup [.ref t0]) = H1 at ex0 hp0 ⊢
  refine q_asgU (eu_tup ea_nil (Nat.zero_le _)) fun y0 H2 ny0 e2 hy0 => ?_
  have hp1 : PolyAt K H2 y0 [] := ⟨[], st_of hy0, trivial⟩
  have ex2 := ex0.trans e2
  refine ⟨_, rfl, a, _, rfl, ex_l ex2 hS, for_enum (xs := il l) (fun i σ' H' => ∃ (x y : Addr) (p u : Poly) (y3 y4 y5 : Option V), σ' = [some (.ref a), some (.ref x), some (.ref y), y3, y4, y5] ∧ Ex H H' ∧ PolyAt K H' x p ∧ PolyAt K H' y u ∧ Rep (absum (l.take i)) p u (metS l i))
    ⟨x0, y0, _, _, none, none, none, rfl, ex2, hp0.mono e2, hp1, rep_start⟩ (fun i σ' H' _ hW => ?_) (fun i x σ' H' T hx hW nT => ?_) fun σ' H' hW => ?_⟩
  · obtain ⟨_, _, _, _, _, _, _, _, ex, _⟩ := hW
    exact ex_l ex hS
  · obtain ⟨x1, y1, p, u, y3, y4, y5, rfl, ex, hp, hu, hrep⟩ := hW
    obtain ⟨m, hm, rfl⟩ : ∃ m, l[i]? = some m ∧ x = .int m := by
      rw [List.getElem?_map] at hx
      cases hb : l[i]? with
      | none => rw [hb] at hx; cases hx
      | some b =>
        rw [hb] at hx
        exact ⟨b, rfl, (Option.some.inj hx).symm⟩
    obtain ⟨ab1, ab2⟩ := absum_take hm
    refine ⟨T, _, rfl, st_of upd_same, rfl, _, _, rfl, _, _, rfl, rfl, ?_⟩
    have eT : Ex H' (upd H' T (.tup [.int ((i : Nat) : Int), .int m])) := Ex.new nT
    -- the swap
    refine q_cut (M := fun σ2 H2 => ∃ (x y : Addr) (p u : Poly), σ2 = [some (.ref a), some (.ref x), some (.ref y), some (.int ((i : Nat) : Int)), some (.int m), y5] ∧ Ex H H2 ∧ PolyAt K H2 x p ∧ PolyAt K H2 y u ∧ Rep (absum (l.take i)) p u (swp (sem (l.take i)))) ?_ fun σ2 H2 hM => ?_
    · refine s_when (b := decide (0 < ((i : Nat) : Int))) (et_test (ev_op (ev_var rfl) ev_c rv_I0)) (fun hb H3 e3 => ?_) fun hb H3 e3 => ?_
      · have hi : ¬ i = 0 := by have := of_decide_eq_true hb; omega
        unfold metS at hrep
        rw [if_neg hi] at hrep
        exact ⟨_, rfl, _, rfl, _, _, rfl, y1, x1, u, p, rfl, (ex.trans eT).trans e3, hu.mono (eT.trans e3), hp.mono (eT.trans e3), hrep.swap⟩
      · have hi : i = 0 := by have := of_decide_eq_false hb; omega
        subst hi
        exact ⟨x1, y1, p, u, rfl, (ex.trans eT).trans e3, hp.mono (eT.trans e3), hu.mono (eT.trans e3), hrep⟩
    · obtain ⟨x2, y2, p2, u2, rfl, ex3, hp3, hu3, hrep3⟩ := hM
      have habs : (if m < 0 then -m else m) = (m.natAbs : Int) := by
        by_cases c : m < 0
        · rw [if_pos c]; omega
        · rw [if_neg c]; omega
      refine s_forR1 (n := (m.natAbs : Int)) (ea_cons (ev_cb (ea_cons (ev_var rfl) ea_nil) (fun H1 _ Q' q' => ⟨m, rfl, by rw [habs]; exact q' H1 (Ex.refl _)⟩)) ea_nil) ⟨by omega, by omega⟩
        (fun j σ' H' => ∃ (x y : Addr) (p u : Poly) (y6 : Option V), σ' = [some (.ref a), some (.ref x), some (.ref y), some (.int ((i : Nat) : Int)), some (.int m), y6] ∧ Ex H H' ∧ PolyAt K H' x p ∧ PolyAt K H' y u ∧
          Rep (absum (l.take i) + j) p u (itr (if 0 < m then twP else twM) j (swp (sem (l.take i))))) (fun H4 e4 => ⟨x2, y2, p2, u2, _, rfl, ex3.trans e4, hp3.mono e4, hu3.mono e4, hrep3⟩) (fun j σ' H5 hj hW2 => ?_) fun σ' H5 hW2 => ?_
      · obtain ⟨x4, y4', p4, u4, y6, rfl, ex4, hp4, hu4, hrep4⟩ := hW2
        refine s_asgR (K := K) (n := absum (l.take i) + j + 1) (s := itr (if 0 < m then twP else twM) (j + 1) (swp (sem (l.take i)))) (ex_call mo_Rep (ea_cons (ev_var rfl) (ea_cons (ev_var rfl) (ea_cons (ev_if (v := .int (if 0 < m then 1 else -1)) (b := decide (0 < m)) (et_test (ev_op (ev_var rfl) ev_c rv_I0)) (fun c => ?_) (fun c => ?_)) ea_nil))) fun H6 e6 Q' E' k => ?_) fun xx yy pp uu H6 e6 hpp huu hrr => ?_
        · rw [if_pos (of_decide_eq_true c)]; exact ev_c
        · rw [if_neg (of_decide_eq_false c)]; exact ev_un ev_c ru_neg
        · refine ⟨x4, y4', p4, u4, _, absum (l.take i) + j, _, rfl, hp4.mono e6, hu4.mono e6, ?_, by omega, hrep4, ?_⟩
          · by_cases c : 0 < m
            · rw [if_pos c]; exact .inl rfl
            · rw [if_neg c]; exact .inr rfl
          · rw [itr_out] at k
            by_cases c : 0 < m
            · rw [if_pos c] at k; rw [if_pos c, if_pos c]; exact k
            · rw [if_neg c] at k; rw [if_neg c, if_neg c]; exact k
        · exact ⟨xx, yy, pp, uu, _, rfl, ex4.trans e6, hpp, huu, hrr⟩
      · obtain ⟨x4, y4', p4, u4, y6, rfl, ex4, hp4, hu4, hrep4⟩ := hW2
        refine ⟨x4, y4', p4, u4, _, _, _, rfl, ex4, hp4, hu4, ?_⟩
        have e1 : metS l (i + 1) = itr (if 0 < m then twP else twM) m.natAbs (swp (sem (l.take i))) := by
          unfold metS
          rw [if_neg (by omega), sem_take hm]
          unfold pw
          by_cases c : 0 < m
          · rw [if_pos c, if_pos c]
          · rw [if_neg c, if_neg c]
        rw [e1, ab1]
        have : ((m.natAbs : Int)).toNat = m.natAbs := by omega
        rw [this] at hrep4
        exact hrep4
  · obtain ⟨x1, y1, p, u, y3, y4, y5, rfl, ex, hp, hu, hrep⟩ := hW
    rw [List.length_map, List.take_length] at hrep
    have hl0 : ¬ l.length = 0 := fun z => hne (List.eq_nil_of_length_eq_zero z)
    unfold metS at hrep
    rw [if_neg hl0, List.take_length] at hrep
    refine s_retX (ex_U (eu_tup (ea_cons (ev_var rfl) (ea_cons (ev_var rfl) ea_nil)) (show 2 ≤ 100000 by decide))) fun v H5 e5 hv => ?_
    obtain ⟨t, rfl, nt, ht⟩ := hv
    exact q _ H5 (ex.trans e5) ⟨t, x1, y1, p, u, rfl, st_of ht, hp.mono e5, hu.mono e5, hrep⟩
end
end Tw
/-! #### WLaw1 -/
namespace Tw
open PySem PySem.Spec PyProof.Rows L2 Evl
abbrev sTwists : Stmt := topS 28
abbrev sOther : Stmt := topS 34
/-! ### _law_twists -/
/-- a new list of n numbers, which come to at most m -/
def isTw (n m : Nat) : PV := fun H1 v H2 => ∃ p l, v = .ref p ∧ H1 p = none ∧ H2 p = some (.lst (il l)) ∧ l.length = n ∧ absum l ≤ m
theorem mo_Tw {n m : Nat} : Mo (isTw n m) := fun _ _ _ _ _ e e' ⟨p, l, a, b, c, d⟩ => ⟨p, l, a, fresh_back e b, e' p _ c, d⟩
def spTwists (K : PySem.W.Frag) : Sp := fun vs H Q _ => ∃ (a : Addr) (cs : List Int), vs = [.ref a, .int 12] ∧ SqL K H a (il cs) ∧ cs.length ≤ 1000 ∧ RetX (isTw cs.length 12) H Q
theorem scTwists : FnScope ["_law_cells", "_law_most", "_law_twists_here", "_law_left", "_law_cell", "_law_many"] ["_law_cells", "_law_most"] (defScope sTwists) := ⟨rfl, rfl, rfl, by decide +kernel, rfl, by decide +kernel, by decide +kernel⟩
theorem absI (m : Int) : (if m < 0 then -m else m) = (m.natAbs : Int) := by
  by_cases c : m < 0
  · rw [if_pos c]; omega
  · rw [if_neg c]; omega
theorem ev_abs {σ : L2.St} {H : Hp} {ta : TE} {m : Int} (h : Ev ta σ H (.int m)) : Ev (tCB (fun xs H Q => ∃ i, xs = [.int i] ∧ Q (.int (if i < 0 then -i else i)) H) (tCons ta tNil)) σ H (.int (m.natAbs : Int)) :=
  ev_cb (ea_cons h ea_nil) fun H1 _ Q q => ⟨m, rfl, by rw [absI]; exact q H1 (Ex.refl _)⟩
section
variable {P : Program} {w : World} {K : PySem.W.Frag} {mg : Str → Option Value} {base : Heap}
theorem ok_twists {f : Addr} {fd : FuncData} (F : Fun K "_law_twists" "_law_twists" sTwists f fd) (ma : mg "abs" = none) : FnOk P w K mg base CX0 1 f fd ["_law_cells", "_law_most"] (spTwists K) := by
  refine F.ok scTwists (fun vs H Q E h => ?_) (fun cdv A outer s H vs Q E hr h => ?_)
  · obtain ⟨a, cs, rfl, _⟩ := h
    rfl
  obtain ⟨a, cs, rfl, hS, hz, q⟩ := h
  refine ⟨_, pss_cons (ps_set (i := 2) scTwists.nd rfl (.inl rfl) (pe_lst pa_nil))
    (pss_cons (ps_set (i := 3) scTwists.nd rfl (.inl rfl) (pv 1))
    (pss_cons (ps_for PassesOwn.never rfl (pi_list (pv 0)) (pg_name (i := 4) scTwists.nd rfl (.inl rfl))
      (pss_cons (ps_set (i := 5) scTwists.nd rfl (.inl rfl) (pe_ix ix_list (pe_lst (pa_cons (pe_op op_sub (pe_op op_mod (pv 4) pe_int) pe_int) (pa_cons (pe_op op_sub (pe_op op_mod (pv 4) pe_int) pe_int)
          (pa_cons (pe_op op_sub (pe_op op_mod (pe_op op_fdiv (pv 4) pe_int) (pe_op op_add (pe_op op_mul pe_int (pv 1)) pe_int)) (pv 1)) pa_nil)))) (pe_op op_mod (pe_op op_fdiv (pv 4) pe_int) pe_int) (fun _ _ => rfl)))
      (pss_cons (ps_if (pt_cmpR op_gt (pe_callB call_abs (by rfl) ma PyProof.Rows.boot_abs (pa_cons (pv 5) pa_nil)) (pv 3) (nomark _)) (pss_one (ps_set (i := 5) scTwists.nd rfl (.inl rfl) pe_int)) pss_nil)
      (pss_cons (ps_expr (pe_bm PySem.F.plainAttrs_list PySem.F.slot_list_append PySem.F.type_list_append mt_append (pv 2) (pa_cons (pv 5) pa_nil)))
      (pss_one (ps_set (i := 3) scTwists.nd rfl (.inl rfl) (pe_op op_sub (pv 3) (pe_callB call_abs (by rfl) ma PyProof.Rows.boot_abs (pa_cons (pv 5) pa_nil)))))))))
    (pss_one (ps_ret (pv 2))))), ?_⟩
  refine q_asgL (el_lst ea_nil (Nat.zero_le _)) fun q0 H1 nq e1 hq0 => ?_
  refine q_asg (ev_var rfl) fun H2 e2 => ?_
  refine q_forLn (K := K) (a := a) (xs := il cs) (ev_var rfl) (ex_l (e1.trans e2) hS) (fun i σ' H' => ∃ (l : List Int) (left : Int) (y4 y5 : Option V), σ' = [some (.ref a), some (.int 12), some (.ref q0), some (.int left), y4, y5] ∧ Ex H H' ∧ H' q0 = some (.lst (il l)) ∧ l.length = i ∧ (absum l : Int) + left = 12 ∧ 0 ≤ left)
    (fun H3 e3 => ⟨[], 12, none, none, rfl, (e1.trans e2).trans e3, (e2.trans e3) q0 _ hq0, rfl, by decide, by decide⟩) (fun i σ' H' _ hW => ?_) (fun i x σ' H' hx hW => ?_) fun σ' H' hW => ?_
  · obtain ⟨_, _, _, _, _, ex, _⟩ := hW
    exact ex_l ex hS
  · obtain ⟨l, left, y4, y5, rfl, ex, hl, hlen, hsum, hpos⟩ := hW
    have hi : i < cs.length := by
      have := (List.getElem?_eq_some_iff.mp hx).1
      rw [List.length_map] at this
      exact this
    obtain ⟨c, rfl⟩ : ∃ c, x = .int c := by
      rw [List.getElem?_map] at hx
      cases hb : cs[i]? with
      | none => rw [hb] at hx; cases hx
      | some b =>
        rw [hb] at hx
        exact ⟨b, (Option.some.inj hx).symm⟩
    have hix : ∃ many : Int, atI (il [c % 7 - 3, c % 3 - 1, c / 21 % (2 * 12 + 1) - 12]) (c / 7 % 3) = some (.int many) := by
      have h0 : 0 ≤ c / 7 % 3 := Int.emod_nonneg _ (by decide)
      have h3 : c / 7 % 3 < 3 := Int.emod_lt_of_pos _ (by decide)
      generalize c / 7 % 3 = k at h0 h3
      obtain rfl | rfl | rfl : k = 0 ∨ k = 1 ∨ k = 2 := by omega
      · exact ⟨_, at_il (j := 0) rfl rfl⟩
      · exact ⟨_, at_il (j := 1) rfl rfl⟩
      · exact ⟨_, at_il (j := 2) rfl rfl⟩
    obtain ⟨many, hmany⟩ := hix
    refine q_asg (v := .int many) (ev_opL1 (xs := il [c % 7 - 3, c % 3 - 1, c / 21 % (2 * 12 + 1) - 12]) (el_lst (ea_cons (ev_op (ev_op (ev_var rfl) ev_c (rv_I (by decide))) ev_c rv_I0) (ea_cons (ev_op (ev_op (ev_var rfl) ev_c (rv_I (by decide))) ev_c rv_I0)
      (ea_cons (ev_op (ev_op (ev_op (ev_var rfl) ev_c (rv_I ⟨by decide, by decide⟩)) (ev_op (ev_op ev_c (ev_var rfl) (rv_I (.inl ⟨by decide, by decide⟩))) ev_c rv_I0) (rv_I (by decide))) (ev_var rfl) rv_I0) ea_nil))) (show 3 ≤ 100000 by decide))
      (fun H1 e1 => ev_op (ev_op (ev_var rfl) ev_c (rv_I ⟨by decide, by decide⟩)) ev_c (rv_I (by decide))) (fun p H1 hp e => rv_ixL (sq_of hp) hmany)) fun H3 e3 => ?_
    refine q_ifAsg (v := .int (if left < (many.natAbs : Int) then 0 else many)) (b := decide (left < (many.natAbs : Int))) (et_test (ev_op (ev_abs (ev_var rfl)) (ev_var rfl) rv_I0)) (fun hb => by rw [if_pos (of_decide_eq_true hb)]; exact ev_c) (fun hb => by rw [if_neg (of_decide_eq_false hb)]; rfl) fun H4 e4 => ?_
    have hm : ((if left < (many.natAbs : Int) then 0 else many).natAbs : Int) ≤ left := by
      by_cases c : left < (many.natAbs : Int)
      · rw [if_pos c]; exact hpos
      · rw [if_neg c]; omega
    generalize (if left < (many.natAbs : Int) then 0 else many) = m at hm
    have hl4 := (e3.trans e4) q0 _ hl
    refine q_app hl4 (ev_var rfl) (ev_var rfl) (by rw [List.length_map]; omega) fun H5 e5 => ?_
    have ex5 : Ex H (upd H5 q0 (.lst (il l ++ [.int m]))) := (((ex.trans e3).trans e4).trans e5).mut nq
    refine s_asg (ev_op (ev_var rfl) (ev_abs (ev_var rfl)) rv_I0) fun H6 e6 => ?_
    refine ⟨l ++ [m], left - (m.natAbs : Int), _, _, rfl, ex5.trans e6, e6 q0 _ ?_, by rw [List.length_append, hlen]; rfl, ?_, by omega⟩
    · rw [upd_same]
      unfold il
      rw [List.map_append]; rfl
    · rw [absum_append]
      simp only [absum]
      omega
  · obtain ⟨l, left, y4, y5, rfl, ex, hl, hlen, hsum, hpos⟩ := hW
    rw [List.length_map] at hlen
    exact s_retX (P := fun _ v H2 => v = .ref q0 ∧ Ex H' H2) (fun H1 e1 Q' k => ⟨_, rfl, k _ H1 (Ex.refl _) ⟨rfl, e1⟩⟩) fun v H2 e2 hv => by
      obtain ⟨rfl, e3⟩ := hv
      exact q _ H2 (ex.trans e3) ⟨q0, l, rfl, nq, e3 q0 _ hl, hlen, by omega⟩
end

/-! ### _law_other -/
/-- a new list of 1 to n numbers, which come to at most m -/
def isOt (n m : Nat) : PV := fun H1 v H2 => ∃ p l, v = .ref p ∧ H1 p = none ∧ H2 p = some (.lst (il l)) ∧ l ≠ [] ∧ l.length ≤ n ∧ absum l ≤ m
def spOther (K : PySem.W.Frag) : Sp := fun vs H Q _ => ∃ (a : Addr) (l : List Int) (c : Int), vs = [.ref a, .int c] ∧ SqL K H a (il l) ∧ l ≠ [] ∧ l.length ≤ 1000 ∧ RetX (isOt (l.length + 2) (absum l + 4)) H Q
theorem scOther : FnScope ["_law_twists_here", "_law_cell", "_law_at", "_law_part"] ["_law_twists_here", "_law_cell"] (defScope sOther) := ⟨rfl, rfl, rfl, by decide +kernel, rfl, by decide +kernel, by decide +kernel⟩
theorem isL_Ot {xs : List Int} {n m : Nat} (h1 : xs ≠ []) (h2 : xs.length ≤ n) (h3 : absum xs ≤ m) : ∀ H1 v H2, isL (il xs) H1 v H2 → isOt n m H1 v H2 := fun _ _ _ ⟨p, a, b, c⟩ => ⟨p, xs, a, b, c, h1, h2, h3⟩
section
variable {P : Program} {w : World} {K : PySem.W.Frag} {mg : Str → Option Value} {base : Heap}
theorem ok_other {f : Addr} {fd : FuncData} (F : Fun K "_law_other" "_law_other" sOther f fd) (ml : mg "len" = none) (mL : mg "list" = none) : FnOk P w K mg base CX0 1 f fd ["_law_twists_here", "_law_cell"] (spOther K) := by
  refine F.ok scOther (fun vs H Q E h => ?_) (fun cdv A outer s H vs Q E hr h => ?_)
  · obtain ⟨a, l, c, rfl, _⟩ := h
    rfl
  obtain ⟨a, l, c, rfl, hS, hne, hz, q⟩ := h
  refine ⟨_, pss_cons (ps_set (i := 2) scOther.nd rfl (.inl rfl) (pe_op op_mod (pe_op op_fdiv (pv 1) pe_int) (pe_callB call_len_seq (by rfl) ml PySem.boot_len (pa_cons (pv 0) pa_nil))))
    (pss_cons (ps_if (pt_cmpR op_eq (pe_op op_mod (pv 1) pe_int) pe_int (nomark _))
      (pss_cons (ps_set (i := 3) scOther.nd rfl (.inl rfl) (pe_op op_sub (pe_op op_mod (pe_op op_fdiv (pv 1) pe_int) pe_int) pe_int))
      (pss_one (ps_ret (pe_op op_cat (pe_op op_cat (pe_slice sl_list (pv 0) po_none (po_some (pv 2))) (pe_lst (pa_cons (pv 3) (pa_cons pe_int (pa_cons (pe_op op_sub (pe_ix ix_list (pv 0) (pv 2) (fun _ _ => rfl)) (pv 3)) pa_nil)))))
        (pe_slice sl_list (pv 0) (po_some (pe_op op_add (pv 2) pe_int)) po_none))))) pss_nil)
    (pss_cons (ps_if (pt_cmpR op_lt (pe_op op_add (pv 2) pe_int) (pe_callB call_len_seq (by rfl) ml PySem.boot_len (pa_cons (pv 0) pa_nil)) (nomark _))
      (pss_one (ps_ret (pe_op op_cat (pe_op op_cat (pe_slice sl_list (pv 0) po_none (po_some (pv 2))) (pe_lst (pa_cons (pe_op op_add (pe_ix ix_list (pv 0) (pv 2) (fun _ _ => rfl)) pe_int) (pa_cons pe_int (pa_cons (pe_op op_add (pe_ix ix_list (pv 0) (pe_op op_add (pv 2) pe_int) (fun _ _ => rfl)) pe_int) pa_nil)))))
        (pe_slice sl_list (pv 0) (po_some (pe_op op_add (pv 2) pe_int)) po_none)))) pss_nil)
    (pss_one (ps_ret (pe_callTy call_list_of (by rfl) mL PyProof.Rows.boot_list (pa_cons (pv 0) pa_nil)))))), ?_⟩
  have hpos : 0 < l.length := List.length_pos_iff.mpr hne
  have hposI : (0 : Int) < (l.length : Int) := by omega
  obtain ⟨k, hk, hkl⟩ : ∃ k : Nat, c / 3 % (l.length : Int) = (k : Int) ∧ k < l.length := by
    have h0 := Int.emod_nonneg (c / 3) (show (l.length : Int) ≠ 0 by omega)
    have h1 := Int.emod_lt_of_pos (c / 3) hposI
    exact ⟨(c / 3 % (l.length : Int)).toNat, by omega, by omega⟩
  have hll : ((il l).length : Int) = (l.length : Int) := by rw [List.length_map]
  refine q_asg (v := .int (k : Int)) (ev_is (ev_op (ev_op (ev_var rfl) ev_c (rv_I ⟨by decide, by decide⟩)) (ev_is (ev_len (K := K) (ev_var rfl) hS) (by rw [hll])) (rv_I hposI)) (by rw [hk])) fun H1 e1 => ?_
  obtain ⟨A1, x, B1, rfl, rfl⟩ : ∃ A1 x B1, l = A1 ++ x :: B1 ∧ A1.length = k := ⟨l.take k, l[k], l.drop (k + 1), by rw [← List.drop_eq_getElem_cons hkl, List.take_append_drop], by rw [List.length_take]; omega⟩
  have hx := il_mid A1 x B1
  have hS1 := ex_l e1 hS
  have hlenA : (A1 ++ x :: B1).length = A1.length + B1.length + 1 := by simp; omega
  have habs : absum (A1 ++ x :: B1) = absum A1 + (x.natAbs + absum B1) := by rw [absum_append]; rfl
  refine q_when (et_test (ev_op (ev_op (ev_var rfl) ev_c (rv_I (by decide))) ev_c (rv_eq rfl))) (fun hb H2 e2 => ?_) fun hb H2 e2 => ?_
  · -- parted by a nought
    obtain ⟨part, hpart, hp1, hp2⟩ : ∃ part : Int, c / 24 % 5 - 2 = part ∧ -2 ≤ part ∧ part ≤ 2 := by
      have h0 := Int.emod_nonneg (c / 24) (show (5 : Int) ≠ 0 by decide)
      have h1 := Int.emod_lt_of_pos (c / 24) (show (0 : Int) < 5 by decide)
      exact ⟨_, rfl, by omega, by omega⟩
    refine q_asg (v := .int part) (ev_is (ev_op (ev_op (ev_op (ev_var rfl) ev_c (rv_I ⟨by decide, by decide⟩)) ev_c (rv_I (by decide))) ev_c rv_I0) (by rw [hpart])) fun H3 e3 => ?_
    have hS3 := ex_l (e2.trans e3) hS1
    refine s_retX ((ex_L (el_catI (el_catI (el_slI (ys := A1) (ev_var rfl) eo_none (eo_some (ev_var rfl)) hS3 ?_) (el_lst (ea_cons (ev_var rfl) (ea_cons ev_c (ea_cons (ev_op (ev_op (ev_var rfl) (ev_var rfl) (rv_ixL hS3 (at_il (j := A1.length) rfl hx))) (ev_var rfl) rv_I0) ea_nil))) ?_ : EvL _ _ _ (il [part, 0, x - part])) ?_)
      (el_slI (ys := B1) (ev_var rfl) (eo_some (ev_op (ev_var rfl) ev_c rv_I0)) eo_none hS3 ?_) ?_)).imp fun H1 v H2 _ _ => isL_Ot ?_ ?_ ?_ H1 v H2) ((q.go ?_ ((e1.trans e2).trans e3)))
    · exact cutI_to rfl (by simp) (take_mid A1 (x :: B1))
    · exact (by decide : 3 ≤ 100000)
    · simp at hz ⊢; omega
    · exact cutI_from (k := A1.length + 1) rfl (drop_mid A1 x B1)
    · simp at hz ⊢; omega
    · simp
    · simp; omega
    · rw [habs, absum_append, absum_append]
      simp only [absum]
      omega
    · exact fun _ _ _ _ _ e e' ⟨p, l, a, b, c, d⟩ => ⟨p, l, a, fresh_back e b, e' p _ c, d⟩
  · have hS2 := ex_l e2 hS1
    refine q_when (et_test (ev_op (ev_op (ev_var rfl) ev_c rv_I0) (ev_len (K := K) (ev_var rfl) hS2) rv_I0)) (fun hb2 H3 e3 => ?_) fun hb2 H3 e3 => ?_
    · have hlt := of_decide_eq_true hb2
      rw [hll, hlenA] at hlt
      have hS3 := ex_l e3 hS2
      cases B1 with
      | nil => exfalso; simp at hlt <;> omega
      | cons y B2 =>
        have hy : (A1 ++ x :: y :: B2)[A1.length + 1]? = some y := il_mid1 A1 x y B2
        refine s_retX ((ex_L (el_catI (el_catI (el_slI (ys := A1) (ev_var rfl) eo_none (eo_some (ev_var rfl)) hS3 ?_) (el_lst (ea_cons (ev_op (ev_op (ev_var rfl) (ev_var rfl) (rv_ixL hS3 (at_il (j := A1.length) rfl hx))) ev_c rv_I0) (ea_cons ev_c (ea_cons (ev_op (ev_op (ev_var rfl) (ev_op (ev_var rfl) ev_c rv_I0) (rv_ixL hS3 (at_il (j := A1.length + 1) rfl hy))) ev_c rv_I0) ea_nil))) ?_ : EvL _ _ _ (il [x + 1, 1, y + 1])) ?_)
          (el_slI (ys := B2) (ev_var rfl) (eo_some (ev_op (ev_var rfl) ev_c rv_I0)) eo_none hS3 ?_) ?_)).imp fun H1 v H2 _ _ => isL_Ot ?_ ?_ ?_ H1 v H2) ((q.go ?_ ((e1.trans e2).trans e3)))
        · exact cutI_to rfl (by simp) (take_mid A1 _)
        · exact (by decide : 3 ≤ 100000)
        · simp at hz ⊢; omega
        · refine cutI_from (k := A1.length + 2) rfl ?_
          have := drop_mid (A1 ++ [x]) y B2
          simpa using this
        · simp at hz ⊢; omega
        · simp
        · simp; omega
        · rw [habs, absum_append, absum_append]
          simp only [absum]
          omega
        · exact fun _ _ _ _ _ e e' ⟨p, l, a, b, c, d⟩ => ⟨p, l, a, fresh_back e b, e' p _ c, d⟩
    · refine s_retX ((ex_L (el_list (K := K) (ev_var rfl) (ex_l e3 hS2))).imp fun H1 v H2 _ _ => isL_Ot hne (by omega) (by omega) H1 v H2) (q.go ?_ ((e1.trans e2).trans e3))
      exact fun _ _ _ _ _ e e' ⟨p, l, a, b, c, d⟩ => ⟨p, l, a, fresh_back e b, e' p _ c, d⟩
end
end Tw
/-! #### WEq -/
namespace Tw
open PySem PySem.Spec PyProof.Rows L2 Evl
/-! ### == of lists of ilD -/
def ilD (l : List Int) : PyData := .list (l.map PyData.int)
theorem dpAll_ints {K : PySem.W.Frag} {H : Hp} : ∀ l : List Int, DpAll K H (il l) (l.map PyData.int)
  | [] => .nil
  | _ :: r => .cons (.int _) (dpAll_ints r)
theorem dp_ints {K : PySem.W.Frag} {H : Hp} {a : Addr} {l : List Int} (h : SqL K H a (il l)) : Dp K H (.ref a) (ilD l) := .lst h (dpAll_ints l)
theorem lay_ints : ∀ l : List Int, PyData.canLayAll0 (l.map PyData.int) = true
  | [] => rfl
  | _ :: r => by simp [PyData.canLayAll0, PyData.canLay0, lay_ints r]
theorem depth_ints : ∀ l : List Int, PyData.depthAll (l.map PyData.int) = 0
  | [] => rfl
  | _ :: r => by simp [PyData.depthAll, PyData.depth, depth_ints r]
theorem shaped_ints (l : List Int) : SeqAt.shaped (ilD l) = true := by
  simp [ilD, SeqAt.shaped, PyData.canLay0, PyData.depth, lay_ints, depth_ints]
theorem eqv_intsAll : ∀ l m : List Int, PyData.eqvAll (l.map PyData.int) (m.map PyData.int) = decide (l = m)
  | [], [] => by simp [PyData.eqvAll]
  | [], _ :: _ => by simp [PyData.eqvAll]
  | _ :: _, [] => by simp [PyData.eqvAll]
  | a :: l, b :: m => by
    simp only [List.map_cons, PyData.eqvAll, PyData.eqv, eqv_intsAll l m]
    by_cases h : a = b <;> by_cases h' : l = m <;> simp [h, h']
theorem eqv_ints (l m : List Int) : PyData.eqv (ilD l) (ilD m) = decide (l = m) := by
  unfold ilD
  simp only [PyData.eqv]
  exact eqv_intsAll l m
theorem rv_eqD {K : PySem.W.Frag} {H : Hp} {p q : Addr} {l m : List Int} (hp : SqL K H p (il l)) (hq : SqL K H q (il m)) : RV (rEqD K) (.ref p) (.ref q) H (.bl (decide (l = m))) := fun H1 e Q k =>
  ⟨_, _, dp_ints (ex_l e hp), dp_ints (ex_l e hq), shaped_ints _, shaped_ints _, by rw [eqv_ints]; exact k H1 (Ex.refl _)⟩
theorem rv_neD {K : PySem.W.Frag} {H : Hp} {p q : Addr} {l m : List Int} (hp : SqL K H p (il l)) (hq : SqL K H q (il m)) : RV (rNeD K) (.ref p) (.ref q) H (.bl (!decide (l = m))) := fun H1 e Q k =>
  ⟨_, _, dp_ints (ex_l e hp), dp_ints (ex_l e hq), shaped_ints _, shaped_ints _, by rw [eqv_ints]; exact k H1 (Ex.refl _)⟩
/-- a list against a written one -/
theorem ev_eqW {K : PySem.W.Frag} {σ : L2.St} {H : Hp} {ta tb : TE} {p : Addr} {l m : List Int} (ha : Ev ta σ H (.ref p)) (hp : SqL K H p (il l)) (hb : EvL tb σ H (il m)) : Ev (tOp (rEqD K) ta tb) σ H (.bl (decide (l = m))) :=
  ev_opL ha hb fun _ _ hq e => rv_eqD (ex_l e hp) (sq_of hq)
theorem ev_neW {K : PySem.W.Frag} {σ : L2.St} {H : Hp} {ta tb : TE} {p : Addr} {l m : List Int} (ha : Ev ta σ H (.ref p)) (hp : SqL K H p (il l)) (hb : EvL tb σ H (il m)) : Ev (tOp (rNeD K) ta tb) σ H (.bl (!decide (l = m))) :=
  ev_opL ha hb fun _ _ hq e => rv_neD (ex_l e hp) (sq_of hq)
/-- both new -/
theorem ev_neLL {K : PySem.W.Frag} {σ : L2.St} {H : Hp} {ta tb : TE} {l m : List Int} (ha : EvL ta σ H (il l)) (hb : EvL tb σ H (il m)) : Ev (tOp (rNeD K) ta tb) σ H (.bl (!decide (l = m))) :=
  ev_opLL ha hb fun _ _ _ hp hq _ => rv_neD (sq_of hp) (sq_of hq)
/-- list(a new list) -/
theorem el_listN {K : PySem.W.Frag} {σ : L2.St} {H : Hp} {ta : TE} {xs : List V} (ha : EvL ta σ H xs) : EvL (tCB (rListS K) (tCons ta tNil)) σ H xs := fun H1 e Q q =>
  ha H1 e _ fun p H2 _ e2 hp => ⟨p, xs, rfl, .inl (sq_of hp), fun l hl => q l _ (fresh_back e2 hl) (e2.trans (Ex.new hl)) upd_same⟩
end Tw
/-! #### WLaw2 -/
namespace Tw
open PySem PySem.Spec PyProof.Rows L2 Evl
abbrev sLStep : Stmt := topS 29
abbrev sLNext : Stmt := topS 31
/-! ### _law_step -/
def spLStep (K : PySem.W.Frag) : Sp := fun vs H Q _ => ∃ (a : Addr) (l : List Int) (u : Wd) (i : Nat) (l' : List Int) (h : Int), vs = [.ref a, .str (wstr u), .int (i : Int)] ∧ LA K H a l ∧ nx l = some (u, i, l', h) ∧ RetX (isP l' h) H Q
theorem scLStep : FnScope ["_law_twists_here", "_law_word", "_law_at", "_law_number", "_law_ahead", "_law_rest"] ["_law_twists_here", "_law_word", "_law_at"] (defScope sLStep) := ⟨rfl, rfl, rfl, by decide +kernel, rfl, by decide +kernel, by decide +kernel⟩
theorem inV_wd (u : Wd) : inV (.str (wstr u)) [.str (wstr .one), .str (wstr .less)] = decide (u = .one ∨ u = .less) := by
  cases u <;> decide +kernel
/-- xs[-1] = e -/
theorem q_setLast {σ : L2.St} {H : Hp} {D : L2.Ends} {tz : TS} {te ta tb : TE} {l : Addr} {xs : List Int} {p v : Int} (hl : H l = some (.lst (il (xs ++ [p])))) (h : Ev te σ H (.int v)) (ho : Ev ta σ H (.ref l)) (hi : Ev tb σ H (.int (-1))) (k : ∀ H1, Ex H H1 → tz D σ (upd H1 l (.lst (il (xs ++ [v]))))) :
    tSeq (tAsg te (gSub ta tb rSetL)) tz D σ H := h H (Ex.refl H) _ fun H1 e1 => ho H1 e1 _ fun H2 e2 => hi H2 (e1.trans e2) _ fun H3 e3 =>
  ⟨l, il (xs ++ [p]), -1, xs.length, rfl, rfl, ((e1.trans e2).trans e3) l _ hl, by
    have hn : (il (xs ++ [p])).length = xs.length + 1 := by simp
    rw [hn]
    unfold ixN
    rw [if_neg (by decide), if_pos (by omega)]
    congr 1
    omega, by
    have e : (il (xs ++ [p])).set xs.length (.int v) = il (xs ++ [v]) := by
      have := set_mid (il xs) (V.int p) (V.int v) []
      rw [List.length_map] at this
      unfold il at this ⊢
      rw [List.map_append, List.map_append]
      exact this
    rw [e]
    exact k H3 ((e1.trans e2).trans e3)⟩
theorem at_last {l : List Int} {p : Int} : atI (il (l ++ [p])) (-1) = some (.int p) := by
  have e : il (l ++ [p]) = il l ++ [V.int p] := by unfold il; rw [List.map_append]; rfl
  rw [e]
  exact atI_last _ _
theorem el_catVV {σ : L2.St} {H : Hp} {ta tb : TE} {p q : Addr} {xs ys : List Int} (ha : Ev ta σ H (.ref p)) (hp : H p = some (.lst (il xs))) (hb : Ev tb σ H (.ref q)) (hq : H q = some (.lst (il ys))) (hz : xs.length + ys.length ≤ 100000) : EvL (tOp rCat ta tb) σ H (il (xs ++ ys)) := fun H1 e Q k =>
  ha H1 e _ fun H2 e2 => hb H2 (e.trans e2) _ fun H3 e3 => ⟨p, q, il xs, il ys, rfl, rfl, ((e.trans e2).trans e3) p _ hp, ((e.trans e2).trans e3) q _ hq, sz_of (by simpa using hz), fun t ht => by
    have g := k t (upd H3 t (.lst (il xs ++ il ys))) (fresh_back (e2.trans e3) ht) ((e2.trans e3).trans (Ex.new ht)) (by rw [upd_same]; unfold il; rw [List.map_append])
    exact g⟩
theorem el_catVL {σ : L2.St} {H : Hp} {ta tb : TE} {p : Addr} {xs ys : List Int} (ha : Ev ta σ H (.ref p)) (hp : H p = some (.lst (il xs))) (hb : EvL tb σ H (il ys)) (hz : xs.length + ys.length ≤ 100000) : EvL (tOp rCat ta tb) σ H (il (xs ++ ys)) := fun H1 e Q k =>
  ha H1 e _ fun H2 e2 => hb H2 (e.trans e2) _ fun q H3 _ e3 hq => ⟨p, q, il xs, il ys, rfl, rfl, ((e.trans e2).trans e3) p _ hp, hq, sz_of (by simpa using hz), fun t ht => by
    have g := k t (upd H3 t (.lst (il xs ++ il ys))) (fresh_back (e2.trans e3) ht) ((e2.trans e3).trans (Ex.new ht)) (by rw [upd_same]; unfold il; rw [List.map_append])
    exact g⟩
theorem out_ol {u : Wd} {x : Int} (h : (u = .one ∧ x = 1) ∨ (u = .less ∧ x = -1)) (b : Int) (r : List Int) : out u [] x b r = ((b - x) :: r, 0) ∧ ∀ p T, out u (p :: T) x b r = (T.reverse ++ (p - x) :: (b - x) :: r, x) := by
  rcases h with ⟨rfl, rfl⟩ | ⟨rfl, rfl⟩
  · exact ⟨rfl, fun _ _ => rfl⟩
  · refine ⟨?_, fun p T => ?_⟩
    · show ((b + 1) :: r, 0) = _
      rw [show b - -1 = b + 1 by omega]
    · show (T.reverse ++ (p + 1) :: (b + 1) :: r, -1) = _
      rw [show b - -1 = b + 1 by omega, show p - -1 = p + 1 by omega]
section
variable {P : Program} {w : World} {K : PySem.W.Frag} {mg : Str → Option Value} {base : Heap}
theorem ok_lstep {f : Addr} {fd : FuncData} (F : Fun K "_law_step" "_law_step" sLStep f fd) (ml : mg "len" = none) (mL : mg "list" = none) (mi : mg "int" = none) : FnOk P w K mg base CX0 1 f fd ["_law_twists_here", "_law_word", "_law_at"] (spLStep K) := by
  refine F.ok scLStep (fun vs H Q E h => ?_) (fun cdv A outer s H vs Q E hr h => ?_)
  · obtain ⟨a, l, u, i, l', h, rfl, _⟩ := h
    rfl
  obtain ⟨a, l, u, i, l', h, rfl, hA, hn, q⟩ := h
  have hu := hr.units
  obtain ⟨T, x, b, r, g1, rfl, hw, g2⟩ := nxz_some l [] u i l' h hn
  have g1 : l = T.reverse ++ x :: b :: r := g1
  subst g1
  have g3 : l' = (out u T x b r).1 := congrArg Prod.fst g2
  have g4 : h = (out u T x b r).2 := congrArg Prod.snd g2
  subst g3; subst g4
  have hz := hA.2
  have hl : (T.reverse ++ x :: b :: r).length = T.length + r.length + 2 := by simp; omega
  have hll : ((il (T.reverse ++ x :: b :: r)).length : Int) = (T.length : Int) + r.length + 2 := by rw [List.length_map, hl]; omega
  have hx : (T.reverse ++ x :: b :: r)[T.length]? = some x := by
    have := il_mid T.reverse x (b :: r)
    rw [List.length_reverse] at this
    exact this
  refine ⟨_, pss_cons (ps_if (PW.pt (pw_or (pt_cmpR op_lt (pv 2) pe_int (nomark _)) (pw_or1 (pt_cmpR op_ge (pe_op op_add (pv 2) pe_int) (pe_callB call_len_seq (by rfl) ml PySem.boot_len (pa_cons (pv 0) pa_nil)) (nomark _))))) pss_never pss_nil)
    (pss_cons (ps_set (i := 3) scLStep.nd rfl (.inl rfl) (pe_ix ix_list (pv 0) (pv 2) (fun _ _ => rfl)))
    (pss_cons (ps_set (i := 4) scLStep.nd rfl (.inl rfl) (pe_callTy call_list_of (by rfl) mL PyProof.Rows.boot_list (pa_cons (pe_slice sl_list (pv 0) po_none (po_some (pv 2))) pa_nil)))
    (pss_cons (ps_set (i := 5) scLStep.nd rfl (.inl rfl) (pe_callTy call_list_of (by rfl) mL PyProof.Rows.boot_list (pa_cons (pe_slice sl_list (pv 0) (po_some (pe_op op_add (pv 2) pe_int)) po_none) pa_nil)))
    (pss_cons (ps_if (PW.pt (pw_and (pt_cmpR op_in_seq (pv 1) (pe_tup (pa_cons pe_str (pa_cons pe_str pa_nil))) (by rfl)) (pw_and1 (pt_cmpR op_eq (pv 3) (pe_ix ix_list (pe_lst (pa_cons pe_int (pa_cons (pe_un un_neg pe_int) pa_nil))) (pe_callTy call_int1 (by rfl) mi PyProof.Rows.boot_int (pa_cons (pe_cmpR op_eq (pv 1) pe_str (nomark _)) pa_nil)) (fun _ _ => rfl)) (nomark _)))))
      (pss_cons (ps_asg (pe_op op_sub (pe_ix ix_list (pv 5) pe_int (fun _ _ => rfl)) (pv 3)) (pg_sub (pv 5) pe_int set_list))
      (pss_cons (ps_if (pt_cmpR (op_eqD hu) (pv 4) (pe_lst pa_nil) (nomark _)) (pss_one (ps_ret (pe_tup (pa_cons (pv 5) (pa_cons pe_int pa_nil))))) pss_nil)
      (pss_cons (ps_asg (pe_op op_sub (pe_ix ix_list (pv 4) (pe_un un_neg pe_int) (fun _ _ => rfl)) (pv 3)) (pg_sub (pv 4) (pe_un un_neg pe_int) set_list))
      (pss_one (ps_ret (pe_tup (pa_cons (pe_op op_cat (pv 4) (pv 5)) (pa_cons (pv 3) pa_nil)))))))) pss_nil)
    (pss_cons (ps_if (PW.pt (pw_and (pt_cmpR op_eq (pv 1) pe_str (nomark _)) (pw_and (pt_cmpR op_eq (pv 3) pe_int (nomark _)) (pw_and1 (pt_cmpR (op_neD hu) (pv 4) (pe_lst pa_nil) (nomark _))))))
      (pss_one (ps_ret (pe_tup (pa_cons (pe_op op_cat (pe_op op_cat (pe_slice sl_list (pv 4) po_none (po_some (pe_un un_neg pe_int))) (pe_lst (pa_cons (pe_op op_add (pe_ix ix_list (pv 4) (pe_un un_neg pe_int) (fun _ _ => rfl)) (pe_ix ix_list (pv 5) pe_int (fun _ _ => rfl))) pa_nil))) (pe_slice sl_list (pv 5) (po_some pe_int) po_none)) (pa_cons pe_int pa_nil))))) pss_nil)
    (pss_cons (ps_if (PW.pt (pw_and (pt_cmpR op_eq (pv 1) pe_str (nomark _)) (pw_and (pt_cmpR op_eq (pv 3) pe_int (nomark _)) (pw_and (pt_cmpR op_eq (pe_ix ix_list (pv 5) pe_int (fun _ _ => rfl)) pe_int (nomark _)) (pw_and1 (pt_cmpR op_gt (pe_callB call_len_seq (by rfl) ml PySem.boot_len (pa_cons (pv 5) pa_nil)) pe_int (nomark _)))))))
      (pss_one (ps_ret (pe_tup (pa_cons (pe_slice sl_list (pv 5) (po_some pe_int) po_none) (pa_cons pe_int pa_nil))))) pss_nil)
    (pss_cons (ps_if (PW.pt (pw_and (pt_cmpR op_eq (pv 1) pe_str (nomark _)) (pw_and (pt_cmpR op_eq (pv 3) pe_int (nomark _)) (pw_and1 (pt_cmpR (op_eqD hu) (pv 4) (pe_lst pa_nil) (nomark _))))))
      (pss_one (ps_ret (pe_tup (pa_cons (pe_op op_cat (pe_lst (pa_cons pe_int (pa_cons pe_int pa_nil))) (pe_slice sl_list (pv 5) (po_some pe_int) po_none)) (pa_cons (pe_ix ix_list (pv 5) pe_int (fun _ _ => rfl)) pa_nil))))) pss_nil)
    (pss_cons (ps_if (PW.pt (pw_and (pt_cmpR op_eq (pv 1) pe_str (nomark _)) (pw_and1 (pt_cmpR op_lt (pv 3) (pe_un un_neg pe_int) (nomark _)))))
      (pss_one (ps_ret (pe_tup (pa_cons (pe_op op_cat (pe_op op_cat (pv 4) (pe_lst (pa_cons (pe_op op_add (pv 3) pe_int) (pa_cons pe_int (pa_cons (pe_op op_add (pe_ix ix_list (pv 5) pe_int (fun _ _ => rfl)) pe_int) pa_nil))))) (pe_slice sl_list (pv 5) (po_some pe_int) po_none)) (pa_cons (pe_un un_neg pe_int) pa_nil))))) pss_nil)
    pss_never))))))))
    , ?_⟩
  have f1 : decide ((T.length : Int) < 0) = false := decide_eq_false (by omega)
  have f2 : decide (((il (T.reverse ++ x :: b :: r)).length : Int) ≤ (T.length : Int) + 1) = false := decide_eq_false (by rw [hll]; omega)
  refine q_when (b := false) (et_is (et_or (et_test (ev_op (ev_var rfl) ev_c rv_I0)) (fun _ => et_test (ev_op (ev_op (ev_var rfl) ev_c rv_I0) (ev_len (K := K) (ev_var rfl) hA.1) rv_I0))) (by rw [f1, f2]; rfl)) (fun z => nomatch z) fun _ H1 e1 => ?_
  refine q_asg (ev_op (ev_var rfl) (ev_var rfl) (rv_ixL (ex_l e1 hA.1) (at_il (j := T.length) rfl hx))) fun H2 e2 => ?_
  refine q_asgL (el_listN (K := K) (el_slI (K := K) (ys := T.reverse) (ev_var rfl) eo_none (eo_some (ev_var rfl)) (ex_l (e1.trans e2) hA.1) (cutI_to (k := T.length) rfl (by simp) (by
    have := take_mid T.reverse (x :: b :: r)
    simpa using this)))) fun p4 H3 n4 e3 h4 => ?_
  refine q_asgL (el_listN (K := K) (el_slI (K := K) (ys := b :: r) (ev_var rfl) (eo_some (ev_op (ev_var rfl) ev_c rv_I0)) eo_none (ex_l ((e1.trans e2).trans e3) hA.1) (cutI_from (k := T.length + 1) rfl (by
    have := drop_mid T.reverse x (b :: r)
    simpa using this)))) fun p5 H4 n5 e4 h5 => ?_
  have h4' := e4 p4 _ h4
  have n45 : p4 ≠ p5 := ne_of_none h4 n5
  have ex4 : Ex H H4 := ((e1.trans e2).trans e3).trans e4
  have n4H : H p4 = none := fresh_back (e1.trans e2) n4
  have n5H : H p5 = none := fresh_back ((e1.trans e2).trans e3) n5
  clear e1 e2 e3 e4 n4 n5 h4
  have hcat : T.reverse.length + (b :: r).length ≤ 100000 := by simp at hz ⊢; omega
  -- one, less
  have hidx : atI (il [1, -1]) (if decide (u = .less) = true then 1 else 0) = some (.int (if u = .less then -1 else 1)) := by
    by_cases c : u = .less
    · rw [if_pos (decide_eq_true c), if_pos c]; exact at_il (j := 1) rfl rfl
    · rw [if_neg (by rw [decide_eq_false c]; decide), if_neg c]; exact at_il (j := 0) rfl rfl
  refine q_when (b := decide (u = .one ∨ u = .less) && decide (V.int x = V.int (if u = .less then -1 else 1))) (et_and (et_is (et_test (ev_inU (ev_var rfl) (eu_tup (ea_cons ev_c (ea_cons ev_c ea_nil)) (show 2 ≤ 100000 by decide)) rfl rfl)) (inV_wd u))
    (fun _ => et_test (ev_op (ev_var rfl) (ev_opL1 (xs := il [1, -1]) (el_lst (ea_cons ev_c (ea_cons (ev_un ev_c ru_neg) ea_nil)) (show 2 ≤ 100000 by decide)) (fun H1 e1 => ev_int1 (ev_wd (ev_var rfl) .less)) (fun p H1 hp e => rv_ixL (sq_of hp) hidx)) (rv_eq rfl)))) (fun hb H5 e5 => ?_) fun hb H5 e5 => ?_
  · have hux : (u = .one ∧ x = 1) ∨ (u = .less ∧ x = -1) := by
      have := (Bool.and_eq_true_iff.mp hb).1
      rcases of_decide_eq_true this with rfl | rfl
      · refine .inl ⟨rfl, ?_⟩
        rcases wordAt_facts hw with ⟨_, h⟩ | ⟨h, _⟩ | ⟨h, _⟩ | ⟨h, _⟩ | ⟨h, _⟩ <;> first | exact h | cases h
      · refine .inr ⟨rfl, ?_⟩
        rcases wordAt_facts hw with ⟨h, _⟩ | ⟨_, h⟩ | ⟨h, _⟩ | ⟨h, _⟩ | ⟨h, _⟩ <;> first | exact h | cases h
    obtain ⟨o1, o2⟩ := out_ol hux b r
    refine q_setL (j := 0) (v := .int (b - x)) (e5 p5 _ h5) (ev_op (ev_op (ev_var rfl) ev_c (rv_ixL (sq_of (e5 p5 _ h5)) (at_il (j := 0) rfl rfl))) (ev_var rfl) rv_I0) (ev_var rfl) ev_c (by simp) fun H6 e6 => ?_
    have ex6 : Ex H (upd H6 p5 (.lst ((il (b :: r)).set 0 (.int (b - x))))) := ((ex4.trans e5).trans e6).mut n5H
    have h56 : (upd H6 p5 (.lst ((il (b :: r)).set 0 (.int (b - x))))) p5 = some (.lst (il ((b - x) :: r))) := upd_same
    have h46 : (upd H6 p5 (.lst ((il (b :: r)).set 0 (.int (b - x))))) p4 = some (.lst (il T.reverse)) := by
      rw [upd_ne n45]; exact (e5.trans e6) p4 _ h4'
    generalize upd H6 p5 (.lst ((il (b :: r)).set 0 (.int (b - x)))) = H7 at ex6 h56 h46 ⊢
    refine q_when (et_test (ev_eqW (ev_var rfl) (sq_of h46) (el_lst ea_nil (Nat.zero_le _) : EvL _ _ _ (il [])))) (fun hb2 H8 e8 => ?_) fun hb2 H8 e8 => ?_
    · have hT : T = [] := List.reverse_eq_nil_iff.mp (of_decide_eq_true hb2)
      subst hT
      rw [o1] at q
      refine s_retX (ex_U (eu_tup (ea_cons (ev_var rfl) (ea_cons ev_c ea_nil)) (show 2 ≤ 100000 by decide))) fun v H9 e9 hv => ?_
      obtain ⟨t, rfl, nt, ht⟩ := hv
      exact q _ H9 ((ex6.trans e8).trans e9) ⟨t, _, _, rfl, fresh_back (ex6.trans e8) nt, ht, ⟨p5, rfl, n5H, (e8.trans e9) p5 _ h56⟩, rfl⟩
    · have hT : T ≠ [] := fun z => of_decide_eq_false hb2 (by rw [z]; rfl)
      obtain ⟨y, T2, rfl⟩ : ∃ y T2, T = y :: T2 := by
        cases T with
        | nil => exact absurd rfl hT
        | cons y T2 => exact ⟨y, T2, rfl⟩
      rw [List.reverse_cons] at h46
      rw [o2] at q
      refine q_setLast (xs := T2.reverse) (p := y) (v := y - x) (e8 p4 _ h46) (ev_op (ev_op (ev_var rfl) (ev_un ev_c ru_neg) (rv_ixL (sq_of (e8 p4 _ h46)) at_last)) (ev_var rfl) rv_I0) (ev_var rfl) (ev_un ev_c ru_neg) fun H9 e9 => ?_
      have ex9 : Ex H (upd H9 p4 (.lst (il (T2.reverse ++ [y - x])))) := ((ex6.trans e8).trans e9).mut n4H
      have h59 : (upd H9 p4 (.lst (il (T2.reverse ++ [y - x])))) p5 = some (.lst (il ((b - x) :: r))) := by
        rw [upd_ne n45.symm]; exact (e8.trans e9) p5 _ h56
      refine s_retX (P := isP (T2.reverse ++ (y - x) :: (b - x) :: r) x) (ex_tup2 mo_L mo_V (ex_L (el_is (el_catVV (ev_var rfl) upd_same (ev_var rfl) h59 ?_) (by simp))) (ex_V (ev_var rfl))) (RetX.go mo_P q ex9)
      simp at hcat ⊢; omega
  have hu1 : u ≠ .one ∧ u ≠ .less := by
    refine ⟨fun z => ?_, fun z => ?_⟩
    · subst z
      have : x = 1 := by
        rcases wordAt_facts hw with ⟨_, h⟩ | ⟨h, _⟩ | ⟨h, _⟩ | ⟨h, _⟩ | ⟨h, _⟩ <;> first | exact h | cases h
      subst this
      exact absurd hb (by decide)
    · subst z
      have : x = -1 := by
        rcases wordAt_facts hw with ⟨h, _⟩ | ⟨_, h⟩ | ⟨h, _⟩ | ⟨h, _⟩ | ⟨h, _⟩ <;> first | exact h | cases h
      subst this
      exact absurd hb (by decide)
  have h45 := e5 p4 _ h4'
  have h55 := e5 p5 _ h5
  have ex5 := ex4.trans e5
  clear h4' h5 ex4 hb e5
  -- nought behind a number
  refine q_when (et_and (et_test (ev_wd (ev_var rfl) .nought)) (fun _ => et_and (et_test (ev_op (ev_var rfl) ev_c (rv_eq rfl))) (fun _ => et_test (ev_neW (ev_var rfl) (sq_of h45) (el_lst ea_nil (Nat.zero_le _) : EvL _ _ _ (il [])))))) (fun hb H6 e6 => ?_) fun hb H6 e6 => ?_
  · have hb' := Bool.and_eq_true_iff.mp hb
    have hu2 : u = .nought := of_decide_eq_true hb'.1
    have hT : T ≠ [] := fun z => by
      have := (Bool.and_eq_true_iff.mp hb'.2).2
      rw [z] at this
      exact absurd this (by decide)
    subst hu2
    obtain ⟨y, T2, rfl⟩ : ∃ y T2, T = y :: T2 := by
      cases T with
      | nil => exact absurd rfl hT
      | cons y T2 => exact ⟨y, T2, rfl⟩
    rw [List.reverse_cons] at h45
    have h46 := e6 p4 _ h45
    have h56 := e6 p5 _ h55
    refine s_retX (P := isP (T2.reverse ++ (y + b) :: r) 0) (ex_tup2 mo_L mo_V (ex_L (el_is (el_catI (el_catI (el_slI (K := K) (ys := T2.reverse) (ev_var rfl) eo_none (eo_some (ev_un ev_c ru_neg)) (sq_of h46) ?_) (el_lst (ea_cons (ev_op (ev_op (ev_var rfl) (ev_un ev_c ru_neg) (rv_ixL (sq_of h46) at_last)) (ev_op (ev_var rfl) ev_c (rv_ixL (sq_of h56) (at_il (j := 0) rfl rfl))) rv_I0) ea_nil) ?_ : EvL _ _ _ (il [y + b])) ?_)
      (el_slI (K := K) (ys := r) (ev_var rfl) (eo_some ev_c) eo_none (sq_of h56) (cutI_from (k := 1) rfl rfl)) ?_) ?_)) (ex_V ev_c)) (RetX.go mo_P q (ex5.trans e6))
    · rw [cut_last]
      unfold il
      rw [← List.map_dropLast, List.dropLast_concat]
    · exact (by decide : 1 ≤ 100000)
    · simp at hcat ⊢; omega
    · simp at hcat ⊢; omega
    · simp
  have h46 := e6 p4 _ h45
  have h56 := e6 p5 _ h55
  have ex6 := ex5.trans e6
  have hn0 : u = .nought → T = [] := fun z => by
    have h0 : x = 0 := by
      subst z
      rcases wordAt_facts hw with ⟨h, _⟩ | ⟨h, _⟩ | ⟨h, _⟩ | ⟨_, h, _⟩ | ⟨h, _⟩ <;> first | exact h | cases h
    by_cases c : T = []
    · exact c
    · exfalso
      subst h0; subst z
      have : T.reverse ≠ [] := fun z => c (List.reverse_eq_nil_iff.mp z)
      rw [decide_eq_false this] at hb
      exact absurd hb (by decide)
  clear h45 h55 ex5 hb e6
  -- two noughts ahead
  refine q_when (et_and (et_test (ev_wd (ev_var rfl) .nought)) (fun _ => et_and (et_test (ev_op (ev_var rfl) ev_c (rv_eq rfl))) (fun _ => et_and (et_test (ev_op (ev_op (ev_var rfl) ev_c (rv_ixL (sq_of h56) (at_il (j := 0) rfl rfl))) ev_c (rv_eq rfl))) (fun _ => et_test (ev_op (ev_len (K := K) (ev_var rfl) (sq_of h56)) ev_c rv_I0))))) (fun hb H7 e7 => ?_) fun hb H7 e7 => ?_
  · have hu2 : u = .nought := of_decide_eq_true (Bool.and_eq_true_iff.mp hb).1
    have hT := hn0 hu2
    subst hu2; subst hT
    exact s_retX (P := isP r 0) (ex_tup2 mo_L mo_V (ex_L (el_slI (K := K) (ys := r) (ev_var rfl) (eo_some ev_c) eo_none (sq_of (e7 p5 _ h56)) (cutI_from (k := 1) rfl rfl))) (ex_V ev_c)) (RetX.go mo_P q (ex6.trans e7))
  have hu3 : u ≠ .nought := fun z => by
    have hT := hn0 z
    subst z; subst hT
    rcases wordAt_facts hw with ⟨h, _⟩ | ⟨h, _⟩ | ⟨h, _⟩ | ⟨_, hx0, h⟩ | ⟨h, _⟩ <;> try cases h
    · rename_i h; exact absurd rfl h
    · rename_i h
      obtain ⟨_, rfl, hr0⟩ := h
      subst hx0
      have : (2 : Int) ≤ ((il (0 :: r)).length : Int) := by
        cases r with
        | nil => exact absurd rfl hr0
        | cons c r => simp; omega
      rw [decide_eq_true (show (1 : Int) < ((il (0 :: r)).length : Int) by omega)] at hb
      exact absurd hb (by decide)
  have h47 := e7 p4 _ h46
  have h57 := e7 p5 _ h56
  have ex7 := ex6.trans e7
  clear h46 h56 ex6 hb e7
  -- loose
  refine q_when (et_and (et_test (ev_wd (ev_var rfl) .loose)) (fun _ => et_and (et_test (ev_op (ev_var rfl) ev_c (rv_eq rfl))) (fun _ => et_test (ev_eqW (ev_var rfl) (sq_of h47) (el_lst ea_nil (Nat.zero_le _) : EvL _ _ _ (il [])))))) (fun hb H8 e8 => ?_) fun hb H8 e8 => ?_
  · have hu2 : u = .loose := of_decide_eq_true (Bool.and_eq_true_iff.mp hb).1
    subst hu2
    have h58 := e8 p5 _ h57
    refine s_retX (P := isP ([0, 0] ++ r) b) (ex_tup2 mo_L mo_V (ex_L (el_catI (el_lst (ea_cons ev_c (ea_cons ev_c ea_nil)) (show 2 ≤ 100000 by decide) : EvL _ _ _ (il [0, 0])) (el_slI (K := K) (ys := r) (ev_var rfl) (eo_some ev_c) eo_none (sq_of h58) (cutI_from (k := 1) rfl rfl)) ?_)) (ex_V (ev_op (ev_var rfl) ev_c (rv_ixL (sq_of h58) (at_il (j := 0) rfl rfl))))) (RetX.go mo_P q (ex7.trans e8))
    simp at hcat ⊢; omega
  have hus : u = .split := by
    cases u with
    | one => exact absurd rfl hu1.1
    | less => exact absurd rfl hu1.2
    | nought => exact absurd rfl hu3
    | split => rfl
    | loose =>
      exfalso
      rcases wordAt_facts hw with ⟨h, _⟩ | ⟨h, _⟩ | ⟨h, _⟩ | ⟨h, _⟩ | ⟨_, rfl, rfl, _⟩ <;> try cases h
      exact absurd hb (by decide)
  subst hus
  have hxs : x < -1 := by
    rcases wordAt_facts hw with ⟨h, _⟩ | ⟨h, _⟩ | ⟨_, h⟩ | ⟨h, _⟩ | ⟨h, _⟩ <;> first | exact h | cases h
  have h48 := e8 p4 _ h47
  have h58 := e8 p5 _ h57
  refine q_when (b := true) (et_is (et_and (et_test (ev_wd (ev_var rfl) .split)) (fun _ => et_test (ev_op (ev_var rfl) (ev_un ev_c ru_neg) rv_I0))) (by rw [decide_eq_true hxs]; rfl)) (fun _ H9 e9 => ?_) (fun z => nomatch z)
  have h49 := e9 p4 _ h48
  have h59 := e9 p5 _ h58
  refine s_retX (P := isP (T.reverse ++ (x + 1) :: 1 :: (b + 1) :: r) (-1)) (ex_tup2 mo_L mo_V (ex_L (el_is (el_catI (el_catVL (ev_var rfl) h49 (el_lst (ea_cons (ev_op (ev_var rfl) ev_c rv_I0) (ea_cons ev_c (ea_cons (ev_op (ev_op (ev_var rfl) ev_c (rv_ixL (sq_of h59) (at_il (j := 0) rfl rfl))) ev_c rv_I0) ea_nil))) ?_ : EvL _ _ _ (il [x + 1, 1, b + 1])) ?_)
    (el_slI (K := K) (ys := r) (ev_var rfl) (eo_some ev_c) eo_none (sq_of h59) (cutI_from (k := 1) rfl rfl)) ?_) ?_)) (ex_V (ev_un ev_c ru_neg))) (RetX.go mo_P q ((ex7.trans e8).trans e9))
  · exact (by decide : 3 ≤ 100000)
  · simp at hcat ⊢; omega
  · simp at hcat ⊢; omega
  · simp
end
end Tw
/-! #### WLaw3 -/
namespace Tw
open PySem PySem.Spec PyProof.Rows L2 Evl
/-! ### _law_next -/
theorem scLNext : FnScope ["_law_twists_here", "_law_at", "_law_number"] ["_law_twists_here"] (defScope sLNext) := ⟨rfl, rfl, rfl, by decide +kernel, rfl, by decide +kernel, by decide +kernel⟩
/-- the word's place in the law's list -/
def wix (x : Int) : Nat := if x = 0 then 0 else if x = 1 then 1 else if x = -1 then 2 else 3
def wat (x : Int) : Wd := if x = 0 then .nought else if x = 1 then .one else if x = -1 then .less else .split
theorem wat_at (x : Int) : ([V.str (wstr .nought), .str (wstr .one), .str (wstr .less), .str (wstr .split)] : List V)[wix x]? = some (.str (wstr (wat x))) := by
  unfold wix wat
  by_cases h0 : x = 0
  · rw [if_pos h0, if_pos h0]; rfl
  rw [if_neg h0, if_neg h0]
  by_cases h1 : x = 1
  · rw [if_pos h1, if_pos h1]; rfl
  rw [if_neg h1, if_neg h1]
  by_cases h2 : x = -1
  · rw [if_pos h2, if_pos h2]; rfl
  rw [if_neg h2, if_neg h2]; rfl
theorem wordAt_wat {S : List Int} {x b : Int} {r : List Int} (h2 : x < 2) (hl : x = 0 → S = [] → b = 0) (hr : x = 0 → S = [] → r ≠ []) : wordAt S x b r = some (wat x) := by
  unfold wordAt
  by_cases h0 : x = 0
  · have e : wat x = .nought := by unfold wat; rw [if_pos h0]
    rw [e, if_neg (by omega), if_neg (by omega), if_neg (by omega), if_pos h0]
    by_cases hS0 : S = []
    · rw [if_pos hS0, if_pos (hl h0 hS0), if_neg (hr h0 hS0)]
    · rw [if_neg hS0]
  by_cases h1 : x = 1
  · have e : wat x = .one := by unfold wat; rw [if_neg h0, if_pos h1]
    rw [e, if_pos h1]
  by_cases h2' : x = -1
  · have e : wat x = .less := by unfold wat; rw [if_neg h0, if_neg h1, if_pos h2']
    rw [e, if_neg h1, if_pos h2']
  have e : wat x = .split := by unfold wat; rw [if_neg h0, if_neg h1, if_neg h2']
  rw [e, if_neg h1, if_neg h2', if_pos (by omega)]
/-- [0, 1, -1, x].index(x) -/
theorem wix_first (x : Int) : (∃ z, ([V.int 0, .int 1, .int (-1), .int x] : List V)[wix x]? = some z ∧ eqV z (.int x) = true) ∧ ∀ (m : Nat) (z : V), m < wix x → ([V.int 0, .int 1, .int (-1), .int x] : List V)[m]? = some z → eqV z (.int x) = false := by
  have ne : ∀ a : Int, a ≠ x → eqV (.int a) (.int x) = false := fun a h => by
    show (a == x) = false
    exact beq_eq_false_iff_ne.mpr h
  have eq : eqV (.int x) (.int x) = true := by
    show (x == x) = true
    exact beq_self_eq_true x
  unfold wix
  by_cases h0 : x = 0
  · rw [if_pos h0]
    refine ⟨⟨_, rfl, by rw [h0]; rfl⟩, fun m z hm _ => absurd hm (Nat.not_lt_zero _)⟩
  rw [if_neg h0]
  by_cases h1 : x = 1
  · rw [if_pos h1]
    refine ⟨⟨_, rfl, by rw [h1]; rfl⟩, fun m z hm hz => ?_⟩
    obtain rfl : m = 0 := by omega
    have : V.int 0 = z := Option.some.inj hz
    subst this
    exact ne 0 (Ne.symm h0)
  rw [if_neg h1]
  by_cases h2 : x = -1
  · rw [if_pos h2]
    refine ⟨⟨_, rfl, by rw [h2]; rfl⟩, fun m z hm hz => ?_⟩
    obtain rfl | rfl : m = 0 ∨ m = 1 := by omega
    · have : V.int 0 = z := Option.some.inj hz
      subst this
      exact ne 0 (Ne.symm h0)
    · have : V.int 1 = z := Option.some.inj hz
      subst this
      exact ne 1 (Ne.symm h1)
  rw [if_neg h2]
  refine ⟨⟨_, rfl, eq⟩, fun m z hm hz => ?_⟩
  obtain rfl | rfl | rfl : m = 0 ∨ m = 1 ∨ m = 2 := by omega
  · have : V.int 0 = z := Option.some.inj hz
    subst this
    exact ne 0 (Ne.symm h0)
  · have : V.int 1 = z := Option.some.inj hz
    subst this
    exact ne 1 (Ne.symm h1)
  · have : V.int (-1) = z := Option.some.inj hz
    subst this
    exact ne (-1) (Ne.symm h2)
/-- the list's own index of a value -/
theorem ev_index {K : PySem.W.Frag} {σ : L2.St} {H : Hp} {ta tb : TE} {ys : List V} {y : V} {j : Nat} (ha : EvL ta σ H ys) (hb : Ev tb σ H y) (fy : flatV y = true) (fs : ys.all flatV = true) (h1 : ∃ z, ys[j]? = some z ∧ eqV z y = true) (h2 : ∀ (m : Nat) (z : V), m < j → ys[m]? = some z → eqV z y = false) :
    Ev (tBM K "list" (rIndex K) ta (tCons tb tNil)) σ H (.int (j : Int)) := fun H1 e Q q =>
  ha H1 e _ fun p H2 _ e2 hp => ⟨.inl ⟨rfl, ys, sq_of hp⟩, hb H2 (e.trans e2) _ fun H3 e3 => by
    obtain ⟨z, hz, ez⟩ := h1
    exact ⟨p, ys, y, j, z, rfl, rfl, sq_of (e3 p _ hp), fy, fs, hz, ez, h2, q H3 (e2.trans e3)⟩⟩
section
variable {P : Program} {w : World} {K : PySem.W.Frag} {mg : Str → Option Value} {base : Heap}
theorem ok_lnext {f : Addr} {fd : FuncData} (F : Fun K "_law_next" "_law_next" sLNext f fd) (ml : mg "len" = none) (mr : mg "range" = none) : FnOk P w K mg base CX0 1 f fd ["_law_twists_here"] (spNext K) := by
  refine F.ok scLNext (fun vs H Q E h => ?_) (fun cdv A outer s H vs Q E hr h => ?_)
  · obtain ⟨a, l, rfl, _⟩ := h
    rfl
  obtain ⟨a, l, rfl, hA, hne, q⟩ := h
  have hu := hr.units
  have hpos : 0 < l.length := List.length_pos_iff.mpr hne
  have hz := hA.2
  refine ⟨_, pss_cons (ps_for PassesOwn.never rfl (pi_range1 (by rfl) mr (pa_cons (pe_op op_sub (pe_callB call_len_seq (by rfl) ml PySem.boot_len (pa_cons (pv 0) pa_nil)) pe_int) pa_nil)) (pg_name (i := 1) scLNext.nd rfl (.inl rfl))
      (pss_cons (ps_set (i := 2) scLNext.nd rfl (.inl rfl) (pe_ix ix_list (pv 0) (pv 1) (fun _ _ => rfl)))
      (pss_cons (ps_if (PW.pt (pw_and (pt_cmpR op_eq (pv 2) pe_int (nomark _)) (pw_and (pt_cmpR op_eq (pv 1) pe_int (nomark _)) (pw_and1 (pt_cmpR op_ne (pe_ix ix_list (pv 0) pe_int (fun _ _ => rfl)) pe_int (nomark _))))))
        (pss_one (ps_ret (pe_tup (pa_cons pe_str (pa_cons pe_int pa_nil))))) pss_nil)
      (pss_one (ps_if (PW.pt (pw_and (pt_cmpR op_lt (pv 2) pe_int (nomark _)) (pw_and1 (PW.pt (pw_or (pt_cmpR (op_neD hu) (pe_slice sl_list (pv 0) (po_some (pv 1)) po_none) (pe_lst (pa_cons pe_int (pa_cons pe_int pa_nil))) (nomark _)) (pw_or1 (pt_cmpR op_gt (pv 1) pe_int (nomark _))))))))
        (pss_one (ps_ret (pe_tup (pa_cons (pe_ix ix_list (pe_lst (pa_cons pe_str (pa_cons pe_str (pa_cons pe_str (pa_cons pe_str pa_nil)))))
          (pe_bm PySem.F.plainAttrs_list PySem.F.slot_list_index PySem.F.type_list_index mt_index (pe_lst (pa_cons pe_int (pa_cons pe_int (pa_cons (pe_un un_neg pe_int) (pa_cons (pv 2) pa_nil))))) (pa_cons (pv 2) pa_nil)) (fun _ _ => rfl)) (pa_cons (pv 1) pa_nil))))) pss_nil)))))
    (pss_one (ps_ret pe_non)), ?_⟩
  refine q_forR1 (n := (l.length : Int) - 1) (ea_cons (ev_is (ev_op (ev_len (K := K) (ev_var rfl) hA.1) ev_c rv_I0) (by rw [List.length_map])) ea_nil) (by omega)
    (fun i σ' H' => ∃ y1 y2, σ' = [some (.ref a), y1, y2] ∧ Ex H H' ∧ (AtI l i ∨ l = [0, 0])) (fun H1 e1 => ⟨none, none, rfl, e1, .inl ⟨[], l, rfl, rfl, fun _ h => nomatch h⟩⟩) (fun i σ' H' hi hW => ?_) fun σ' H' hW => ?_
  · obtain ⟨y1, y2, rfl, e1, hat⟩ := hW
    obtain ⟨S, suf, rfl, hSl, hS⟩ : AtI l i := by
      rcases hat with h | h
      · exact h
      · subst h
        have : i = 0 := by
          have hi' : (i : Int) < (2 : Int) - 1 := hi
          omega
        subst this
        exact ⟨[], [0, 0], rfl, rfl, fun _ h => nomatch h⟩
    have hA1 := hA.mono e1
    rw [List.length_append, List.length_reverse, hSl] at hi
    cases suf with
    | nil => exfalso; simp at hi <;> omega
    | cons x t =>
    cases t with
    | nil => exfalso; simp at hi <;> omega
    | cons b r =>
    subst hSl
    have hx : (S.reverse ++ x :: b :: r)[S.length]? = some x := by
      have := il_mid S.reverse x (b :: r)
      rw [List.length_reverse] at this
      exact this
    obtain ⟨c, hc⟩ : ∃ c, (S.reverse ++ x :: b :: r)[1]? = some c := by
      have : 1 < (S.reverse ++ x :: b :: r).length := by simp; omega
      exact ⟨_, List.getElem?_eq_getElem this⟩
    have hc0 : S = [] → c = b := fun z => by
      subst z
      exact (Option.some.inj hc).symm
    refine q_asg (ev_op (ev_var rfl) (ev_var rfl) (rv_ixL hA1.1 (at_il (j := S.length) rfl hx))) fun H2 e2 => ?_
    have hA2 := hA1.mono e2
    have ret : ∀ (wd : Wd), nxs (S.reverse ++ x :: b :: r) = some (wd, S.length) → ∀ (H3 : Hp), Ex H2 H3 → RetX (isU [.str (wstr wd), .int (S.length : Int)]) H3 Q := fun wd hn H3 e3 => by
      rw [hn] at q
      exact RetX.go mo_U q ((e1.trans e2).trans e3)
    refine q_when (et_and (et_test (ev_op (ev_var rfl) ev_c (rv_eq rfl))) (fun _ => et_and (et_test (ev_op (ev_var rfl) ev_c (rv_eq rfl))) (fun _ => et_test (ev_op (ev_op (ev_var rfl) ev_c (rv_ixL hA2.1 (at_il (j := 1) rfl hc))) ev_c (rv_ne rfl))))) (fun hb H3 e3 => ?_) fun hb H3 e3 => ?_
    · have hb1 := Bool.and_eq_true_iff.mp hb
      have hb2 := Bool.and_eq_true_iff.mp hb1.2
      have e : x = 0 := V.int.inj (of_decide_eq_true hb1.1)
      have eS : S = [] := by
        have : (S.length : Int) = 0 := V.int.inj (of_decide_eq_true hb2.1)
        exact List.eq_nil_of_length_eq_zero (by omega)
      have hb0 : b ≠ 0 := fun z => by
        have h := hb2.2
        rw [hc0 eS, z] at h
        exact absurd h (by decide)
      subst e; subst eS
      exact s_retX (ex_U (eu_tup (ea_cons ev_c (ea_cons ev_c ea_nil)) (show 2 ≤ 100000 by decide))) (ret .loose (nxs_word hS (by decide) (by simp [wordAt, hb0])) H3 e3)
    · have hl : x = 0 → S = [] → b = 0 := fun z1 z2 => by
        by_cases c0 : b = 0
        · exact c0
        · exfalso
          subst z1; subst z2
          rw [hc0 rfl, decide_eq_false (show ¬ V.int b = V.int 0 from fun y => c0 (V.int.inj y))] at hb
          exact absurd hb (by decide)
      have hA3 := hA2.mono e3
      refine s_when (b := decide (x < 2) && (!decide (x :: b :: r = [0, 0]) || decide (0 < (S.length : Int)))) (et_and (et_test (ev_op (ev_var rfl) ev_c rv_I0)) (fun _ => et_or (et_test (ev_neLL (el_slI (K := K) (ys := x :: b :: r) (ev_var rfl) (eo_some (ev_var rfl)) eo_none hA3.1 (cutI_from (k := S.length) rfl (by
          have := List.drop_left (l₁ := S.reverse) (l₂ := x :: b :: r)
          rw [List.length_reverse] at this
          exact this))) (el_lst (ea_cons ev_c (ea_cons ev_c ea_nil)) (show 2 ≤ 100000 by decide) : EvL _ _ _ (il [0, 0])))) (fun _ => et_test (ev_op (ev_var rfl) ev_c rv_I0)))) (fun hb2 H4 e4 => ?_) fun hb2 H4 e4 => ?_
      · have hb3 := Bool.and_eq_true_iff.mp hb2
        have hx2 : x < 2 := of_decide_eq_true hb3.1
        have hn : nxs (S.reverse ++ x :: b :: r) = some (wat x, S.length) := by
          refine nxs_word hS (by omega) (wordAt_wat hx2 hl fun h0 hS0 z => ?_)
          have h := hb3.2
          rw [z, h0, hl h0 hS0, hS0] at h
          exact absurd h (by decide)
        refine s_retX (ex_U (eu_tup (ea_cons (x := .str (wstr (wat x))) (ev_opL1 (xs := [V.str (wstr .nought), .str (wstr .one), .str (wstr .less), .str (wstr .split)]) (el_lst (ea_cons ev_c (ea_cons ev_c (ea_cons ev_c (ea_cons ev_c ea_nil)))) (show 4 ≤ 100000 by decide))
          (fun H1 e1 => ev_index (K := K) (j := wix x) (el_lst (ea_cons ev_c (ea_cons ev_c (ea_cons (ev_un ev_c ru_neg) (ea_cons (ev_var rfl) ea_nil)))) (show 4 ≤ 100000 by decide)) (ev_var rfl) rfl rfl (wix_first x).1 (wix_first x).2)
          (fun p H1 hp e => rv_ixL (sq_of hp) (at_of rfl (wat_at x)))) (ea_cons (ev_var rfl) ea_nil)) (show 2 ≤ 100000 by decide))) (ret _ hn H4 (e3.trans e4))
      · have hx2 : 2 ≤ x ∨ (x = 0 ∧ b = 0 ∧ r = [] ∧ S = []) := by
          by_cases c2 : x < 2
          · refine .inr ?_
            rw [decide_eq_true c2] at hb2
            have hb3 := Bool.or_eq_false_iff.mp hb2
            have h1 : x :: b :: r = [0, 0] := by
              by_cases z : x :: b :: r = [0, 0]
              · exact z
              · rw [decide_eq_false z] at hb3; exact absurd hb3.1 (by decide)
            have h2 : S = [] := List.eq_nil_of_length_eq_zero (by have := of_decide_eq_false hb3.2; omega)
            simp at h1
            exact ⟨h1.1, h1.2.1, h1.2.2, h2⟩
          · exact .inl (by omega)
        refine ⟨_, _, rfl, (((e1.trans e2).trans e3).trans e4), ?_⟩
        rcases hx2 with hx2 | ⟨rfl, rfl, rfl, rfl⟩
        · refine .inl ⟨x :: S, b :: r, by simp, by simp, fun p hp => ?_⟩
          rcases List.mem_cons.mp hp with rfl | hp
          · exact hx2
          · exact hS p hp
        · exact .inr rfl
  · obtain ⟨y1, y2, rfl, e1, hat⟩ := hW
    have hnone : nxs l = none := by
      rcases hat with ⟨S, suf, rfl, hSl, hS⟩ | rfl
      · have hl : suf.length = 1 := by
          rw [List.length_append, List.length_reverse] at hSl hpos
          omega
        obtain ⟨x, rfl⟩ : ∃ x, suf = [x] := by
          cases suf with
          | nil => simp at hl
          | cons x t =>
            cases t with
            | nil => exact ⟨x, rfl⟩
            | cons _ _ => simp at hl
        exact nxs_last hS
      · decide
    rw [hnone] at q
    exact s_retX (ex_V ev_c) (RetX.go mo_V q e1)
end
end Tw
/-! #### WLaw4 -/
namespace Tw
open PySem PySem.Spec PyProof.Rows L2 Evl
abbrev sLLifted : Stmt := topS 30
abbrev sWalked : Stmt := topS 32
abbrev sLLeast : Stmt := topS 33
/-! ### _law_walked -/
/-- a list of steps, a list, a number -/
def isWalk (K : PySem.W.Frag) (ss : List (Wd × Nat)) (e : List Int) (k : Int) : PV := fun _ v H2 => ∃ t s f ps, v = .ref t ∧ SqT K H2 t [.ref s, .ref f, .int k] ∧ SqL K H2 s (ps.map V.ref) ∧ StAll K H2 ps ss ∧ SqL K H2 f (il e)
theorem mo_Walk {K : PySem.W.Frag} {ss : List (Wd × Nat)} {e : List Int} {k : Int} : Mo (isWalk K ss e k) := fun _ _ _ _ _ e e' ⟨t, s, f, ps, a, b, c, d, g⟩ => ⟨t, s, f, ps, a, ex_t e' b, ex_l e' c, d.mono e', ex_l e' g⟩
def spWalked (K : PySem.W.Frag) : Sp := fun vs H Q _ => ∃ (a : Addr) (l e : List Int) (ss : List (Wd × Nat)) (k : Int), vs = [.ref a] ∧ H a = some (.lst (il l)) ∧ l ≠ [] ∧ Go 900 l ss e k ∧ ss.length ≤ 50000 ∧ RetX (isWalk K ss e k) H Q
theorem scWalked : FnScope ["_law_twists_here", "_law_steps", "_law_heft", "_law_one", "_law_more"] ["_law_twists_here"] (defScope sWalked) := ⟨rfl, rfl, rfl, by decide +kernel, rfl, by decide +kernel, by decide +kernel⟩
theorem ex_lstep {K : PySem.W.Frag} {σ : L2.St} {H : Hp} {ta tb tc : TE} {E : XK} {a : Addr} {l l' : List Int} {u : Wd} {i : Nat} {h : Int} (hA : LA K H a l) (hn : nx l = some (u, i, l', h)) (h1 : Ev ta σ H (.ref a)) (h2 : Ev tb σ H (.str (wstr u))) (h3 : Ev tc σ H (.int (i : Int))) :
    EvX (tCall (spLStep K) [] E (tCons ta (tCons tb (tCons tc tNil)))) σ H (isP l' h) :=
  ex_call mo_P (ea_cons h1 (ea_cons h2 (ea_cons h3 ea_nil))) fun H1 e1 Q' E' k => ⟨a, l, u, i, l', h, rfl, hA.mono e1, hn, k⟩
section
variable {P : Program} {w : World} {K : PySem.W.Frag} {mg : Str → Option Value} {base : Heap}
theorem ok_walked {f g1 g2 : Addr} {fd d1 d2 : FuncData} (F : Fun K "_law_walked" "_law_walked" sWalked f fd) (D1 : Fd K mg "_law_next" sLNext ["_law_twists_here"] g1 d1) (G1 : FnOk P w K mg base CX0 1 g1 d1 ["_law_twists_here"] (spNext K))
    (D2 : Fd K mg "_law_step" sLStep ["_law_twists_here", "_law_word", "_law_at"] g2 d2) (G2 : FnOk P w K mg base CX0 1 g2 d2 ["_law_twists_here", "_law_word", "_law_at"] (spLStep K)) : FnOk P w K mg base CX0 2 f fd ["_law_twists_here"] (spWalked K) := by
  refine F.ok scWalked (fun vs H Q E h => ?_) (fun cdv A outer s H vs Q E hr h => ?_)
  · obtain ⟨a, l, e, ss, k, rfl, _⟩ := h
    rfl
  obtain ⟨a, l, e, ss, k, rfl, hS, hne, hg, hlen, q⟩ := h
  refine ⟨_, pss_cons (ps_set (i := 1) scWalked.nd rfl (.inl rfl) (pe_lst pa_nil))
    (pss_cons (ps_set (i := 2) scWalked.nd rfl (.inl rfl) pe_int)
    (pss_cons (ps_set (i := 3) scWalked.nd rfl (.inl rfl) (pe_call G1 hr (by rfl) D1.m D1.F.kp D1.b .nil pass0 (pa_cons (pv 0) pa_nil)))
    (pss_cons (ps_while PassesOwn.never (pt_cmp (pc_notN (pv 3)))
      (pss_cons (ps_expr (pe_bm PySem.F.plainAttrs_list PySem.F.slot_list_append PySem.F.type_list_append mt_append (pv 1) (pa_cons (pv 3) pa_nil)))
      (pss_cons (ps_asg (pe_call G2 hr (by rfl) D2.m D2.F.kp D2.b .nil pass0 (pa_cons (pv 0) (pa_cons (pe_ix ix_tup (pv 3) pe_int (fun _ _ => rfl)) (pa_cons (pe_ix ix_tup (pv 3) pe_int (fun _ _ => rfl)) pa_nil))))
        (pg_tup (by rfl) (pgs_cons (pg_name (i := 0) scWalked.nd rfl (.inl rfl)) (pgs_cons (pg_name (i := 4) scWalked.nd rfl (.inl rfl)) pgs_nil))))
      (pss_cons (ps_set (i := 2) scWalked.nd rfl (.inl rfl) (pe_op op_add (pv 2) (pv 4)))
      (pss_one (ps_set (i := 3) scWalked.nd rfl (.inl rfl) (pe_call G1 hr (by rfl) D1.m D1.F.kp D1.b .nil pass0 (pa_cons (pv 0) pa_nil))))))))
    (pss_one (ps_ret (pe_tup (pa_cons (pv 1) (pa_cons (pv 0) (pa_cons (pv 2) pa_nil))))))))), ?_⟩
  refine q_asgL (el_lst ea_nil (Nat.zero_le _)) fun s0 H1 ns e1 hs => ?_
  refine q_asg ev_c fun H2 e2 => ?_
  refine q_asgX (ex_next (go_la hg (sq_of ((e1.trans e2) a _ hS))) hne (ev_var rfl)) fun v H3 e3 hv => ?_
  refine q_while (fun m σ' H' => ∃ (f1 : Addr) (ps : List Addr) (done rest : List (Wd × Nat)) (cur : List Int) (k1 k' : Int) (v3 : V) (y4 : Option V), σ' = [some (.ref f1), some (.ref s0), some (.int k1), some v3, y4] ∧ Ex H H' ∧ f1 ≠ s0 ∧
      H' f1 = some (.lst (il cur)) ∧ H' s0 = some (.lst (ps.map V.ref)) ∧ StAll K H' ps done ∧ cur ≠ [] ∧ Go 900 cur rest e k' ∧ done ++ rest = ss ∧ k1 + k' = k ∧ m = rest.length ∧ NextAt K (nxs cur) v3 H') ss.length ?_ fun m σ' H' hW => ?_
  · exact ⟨a, [], [], ss, l, 0, k, v, none, rfl, (e1.trans e2).trans e3, ne_of_none hS ns, ((e1.trans e2).trans e3) a _ hS, (e2.trans e3) s0 _ hs, trivial, hne, hg, rfl, by omega, rfl, next_at hv⟩
  obtain ⟨f1, ps, done, rest, cur, k1, k', v3, y4, rfl, ex, nfs, hf1, hs1, hps, hcur, hgo, hdr, hk, rfl, hnx⟩ := hW
  have hpl : ps.length ≤ 50000 := by
    have := hps.len
    have h2 := congrArg List.length hdr
    rw [List.length_append] at h2
    omega
  refine ⟨!decide (v3 = .non), et_B (ev_notN (ev_var rfl)), fun hb H4 e4 => ?_, fun hb H4 e4 => ?_⟩
  · cases hn : nxs cur with
    | none =>
      rw [hn] at hnx
      have : v3 = .non := hnx
      rw [this] at hb; exact absurd hb (by decide)
    | some st =>
      rw [hn] at hnx
      obtain ⟨t, rfl, ht⟩ := hnx
      obtain ⟨l1, h1, k2, ss1, hnxl, rfl, hgo1, rfl⟩ := go_some hgo hn
      refine ⟨_, fun σ2 H2 h => h, ?_⟩
      have hs4 := e4 s0 _ hs1
      refine q_app hs4 (ev_var rfl) (ev_var rfl) (by rw [List.length_map]; omega) fun H5 e5 => ?_
      have hs5 := e5 s0 _ hs4
      have e45 := e4.trans e5
      have hf5 : (upd H5 s0 (.lst (ps.map V.ref ++ [.ref t]))) f1 = some (.lst (il cur)) := by
        rw [upd_ne nfs]; exact e45 f1 _ hf1
      have ht5 : StT K (upd H5 s0 (.lst (ps.map V.ref ++ [.ref t]))) t st := sqT_upd (ht.mono e45) hs5
      have ex5 : Ex H (upd H5 s0 (.lst (ps.map V.ref ++ [.ref t]))) := (ex.trans e45).mut ns
      have hps5 : StAll K (upd H5 s0 (.lst (ps.map V.ref ++ [.ref t]))) (ps ++ [t]) (done ++ [st]) := StAll.snoc ht5 (StAll.upd hs5 (hps.mono e45))
      have hs6 : (upd H5 s0 (.lst (ps.map V.ref ++ [.ref t]))) s0 = some (.lst ((ps ++ [t]).map V.ref)) := by rw [List.map_append]; exact upd_same
      generalize upd H5 s0 (.lst (ps.map V.ref ++ [.ref t])) = H6 at hf5 ht5 ex5 hps5 hs6 ⊢
      refine q_asg2 (K := K) (P := isL (il l1)) (S := isV (.int h1)) (ex_lstep (go_la hgo (sq_of hf5)) hnxl (ev_var rfl) (ev_op (ev_var rfl) ev_c (rv_ixT ht5 (atI_nat (j := 0) rfl))) (ev_op (ev_var rfl) ev_c (rv_ixT ht5 (atI_nat (j := 1) rfl)))) (fun v H2 hv => isU2_SqT hv) fun x y H7 e7 hx7 hy7 => ?_
      obtain ⟨f2, rfl, nf2, hf2⟩ := hx7
      have hy7 : y = .int h1 := hy7
      subst hy7
      have hne1 : l1 ≠ [] := nx_ne hnxl
      refine q_asg (ev_op (ev_var rfl) (ev_var rfl) rv_I0) fun H8 e8 => ?_
      refine s_asgX (ex_next (go_la hgo1 (sq_of (e8 f2 _ hf2))) hne1 (ev_var rfl)) fun v9 H9 e9 hv9 => ?_
      have nfs2 : f2 ≠ s0 := (ne_of_none hs6 nf2).symm
      have e789 := (e7.trans e8).trans e9
      exact ⟨ss1.length, by simp, f2, ps ++ [t], done ++ [st], ss1, l1, k1 + h1, k2, v9, _, rfl, ex5.trans e789, nfs2, (e8.trans e9) f2 _ hf2, e789 s0 _ hs6, hps5.mono e789, hne1, hgo1, by rw [← hdr]; simp, by omega, rfl, next_at hv9⟩
  · cases hn : nxs cur with
    | some st =>
      rw [hn] at hnx
      obtain ⟨t, rfl, ht⟩ := hnx
      exact absurd hb (by simp)
    | none =>
      obtain ⟨rfl, rfl, rfl⟩ := go_none hgo hn
      rw [List.append_nil] at hdr
      subst hdr
      refine s_retX (ex_U (eu_tup (ea_cons (ev_var rfl) (ea_cons (ev_var rfl) (ea_cons (ev_var rfl) ea_nil))) (show 3 ≤ 100000 by decide))) fun v H5 e5 hv => ?_
      obtain ⟨t, rfl, nt, ht⟩ := hv
      have e45 := e4.trans e5
      have : k1 = k := by omega
      subst this
      exact q _ H5 (ex.trans e45) ⟨t, s0, f1, ps, rfl, st_of ht, sq_of (e45 s0 _ hs1), hps.mono e45, sq_of (e45 f1 _ hf1)⟩
end
/-! ### _law_least -/
def spLLeast (K : PySem.W.Frag) : Sp := fun vs H Q _ => ∃ (a : Addr) (e : List Int), vs = [.ref a] ∧ SqL K H a (il e) ∧ Least e ∧ e.length ≤ 1000 ∧ RetX (isV (.bl true)) H Q
theorem scLLeast : FnScope ["_law_twists_here", "_law_many"] ["_law_twists_here"] (defScope sLLeast) := ⟨rfl, rfl, rfl, by decide +kernel, rfl, by decide +kernel, by decide +kernel⟩
section
variable {P : Program} {w : World} {K : PySem.W.Frag} {mg : Str → Option Value} {base : Heap}
theorem ok_lleast {f : Addr} {fd : FuncData} (F : Fun K "_law_least" "_law_least" sLLeast f fd) (ml : mg "len" = none) : FnOk P w K mg base CX0 1 f fd ["_law_twists_here"] (spLLeast K) := by
  refine F.ok scLLeast (fun vs H Q E h => ?_) (fun cdv A outer s H vs Q E hr h => ?_)
  · obtain ⟨a, e, rfl, _⟩ := h
    rfl
  obtain ⟨a, e, rfl, hS, hle, hz, q⟩ := h
  have hu := hr.units
  refine ⟨_, pss_one (ps_ret (pe_or (pe_cmpR (op_eqD hu) (pv 0) (pe_lst (pa_cons pe_int (pa_cons pe_int pa_nil))) (nomark _)) (pe_one (pe_cmpR op_eq (pe_callB call_len_seq (by rfl) ml PySem.boot_len (pa_cons (pe_lc (own := [("_law_many", 1)]) (g := gName 1) rfl scLLeast.nd
    (pi_list (pe_slice sl_list (pv 0) po_none (po_some (pe_un un_neg pe_int))))
    (blkOk_by (own := [("_law_many", 1)]) (N := ["_law_twists_here", "_law_many"]) (sc := defScope sLLeast) (by decide +kernel))
    (fun _ _ _ _ _ => pg_name (i := 1) (hf := .inr rfl) scLLeast.nd rfl (.inl rfl)) (fun _ _ _ _ _ => pts_one (pt_cmpR op_lt (pv 1) pe_int (nomark _))) (fun _ _ _ _ _ => pv 1)) pa_nil)) pe_int (nomark _))))), ?_⟩
  refine s_retX (ex_V (ev_is (ev_orV (b := true) (ev_eqW (ev_var rfl) hS (el_lst (ea_cons ev_c (ea_cons ev_c ea_nil)) (show 2 ≤ 100000 by decide) : EvL _ _ _ (il [0, 0]))) (fun hb => ?_)) (by simp))) q
  have h2 : All2 e.dropLast := hle.resolve_left (of_decide_eq_false hb)
  refine ev_is (ev_op (ev_lenN (K := K) (el_lcNL (K := K) (xs := il e.dropLast) (fun _ => false) (fun _ => .non) (el_slI (K := K) (ys := e.dropLast) (ev_var rfl) eo_none (eo_some (ev_un ev_c ru_neg)) hS (by
      rw [cut_last]
      unfold il
      rw [List.map_dropLast])) (by simp; omega) (fun _ => rfl) (fun i x H1 e1 hx => ?_) (fun i x H1 e1 hx hf => nomatch hf))) ev_c (rv_eq rfl)) ?_
  · obtain ⟨m, hm, rfl⟩ : ∃ m, e.dropLast[i]? = some m ∧ x = .int m := by
      rw [List.getElem?_map] at hx
      cases hb : e.dropLast[i]? with
      | none => rw [hb] at hx; cases hx
      | some b =>
        rw [hb] at hx
        exact ⟨b, rfl, (Option.some.inj hx).symm⟩
    have := h2 m (List.mem_of_getElem? hm)
    exact et_is (et_test (ev_op (ev_var rfl) ev_c rv_I0)) (decide_eq_false (by omega))
  · have : given (il e.dropLast).length (fun _ => false) (fun _ => V.non) = [] := by
      unfold given
      rw [List.filter_eq_nil_iff.mpr (by simp)]
      rfl
    rw [this]
    rfl
end
/-! ### _law_lifted -/
def spLLifted (K : PySem.W.Frag) : Sp := fun vs H Q _ => ∃ (a : Addr) (p : Poly) (h : Int), vs = [.ref a, .int h] ∧ PolyAt K H a p ∧ p.length ≤ 20000 ∧ RetX (isPoly K fun q => q = raise p h) H Q
theorem scLLifted : FnScope ["_law_one", "_law_heft", "_law_power", "_law_number"] ["_law_one", "_law_heft"] (defScope sLLifted) := ⟨rfl, rfl, rfl, by decide +kernel, rfl, by decide +kernel, by decide +kernel⟩
section
variable {P : Program} {w : World} {K : PySem.W.Frag} {mg : Str → Option Value} {base : Heap}
theorem ok_llifted {f : Addr} {fd : FuncData} (F : Fun K "_law_lifted" "_law_lifted" sLLifted f fd) (mt : mg "tuple" = none) : FnOk P w K mg base CX0 1 f fd ["_law_one", "_law_heft"] (spLLifted K) := by
  refine F.ok scLLifted (fun vs H Q E h => ?_) (fun cdv A outer s H vs Q E hr h => ?_)
  · obtain ⟨a, p, m, rfl, _⟩ := h
    rfl
  obtain ⟨a, p, m, rfl, hp, hz, q⟩ := h
  refine ⟨_, pss_one (ps_ret (pe_callTy call_tuple_of (by rfl) mt PyProof.Rows.boot_tuple (pa_cons (pe_lc (own := [("_law_power", 2), ("_law_number", 3)]) (g := gTup K 2 (gCons (gName 2) (gCons (gName 3) gNil))) rfl scLLifted.nd (pi_tup (pv 0))
    (blkOk_by (own := [("_law_power", 2), ("_law_number", 3)]) (N := ["_law_one", "_law_heft", "_law_power", "_law_number"]) (sc := defScope sLLifted) (by decide +kernel))
    (fun _ _ _ _ _ => pg_tup rfl (pgs_cons (pg_name (i := 2) (hf := .inr rfl) scLLifted.nd rfl (.inl rfl)) (pgs_cons (pg_name (i := 3) (hf := .inr rfl) scLLifted.nd rfl (.inl rfl)) pgs_nil))) (fun _ _ _ _ _ => pts_nil)
    (fun _ _ _ _ _ => pe_tup (pa_cons (pe_op op_add (pv 2) (pe_op op_mul pe_int (pv 1))) (pa_cons (pe_op op_mul (pv 3) (pe_op op_sub pe_int (pe_op op_mul pe_int (pe_op op_mod (pv 1) pe_int)))) pa_nil)))) pa_nil))), ?_⟩
  have hm0 : 0 ≤ m % 2 := Int.emod_nonneg _ (by decide)
  have hm2 : m % 2 < 2 := Int.emod_lt_of_pos _ (by decide)
  exact s_retX (ex_tupleT (K := K) (ex_lcT (K := K) (fun t => (t.1 + 3 * m, t.2 * (1 - 2 * (m % 2)))) (ev_var rfl) hp (by omega) (fun _ _ => rfl) (fun t H1 e1 => eu_tup (ea_cons (ev_op (ev_var rfl) (ev_op ev_c (ev_var rfl) (rv_I (.inl ⟨by decide, by decide⟩))) rv_I0)
    (ea_cons (ev_op (ev_var rfl) (ev_op ev_c (ev_op ev_c (ev_op (ev_var rfl) ev_c (rv_I (by decide))) (rv_I (.inl ⟨by decide, by decide⟩))) rv_I0) (rv_I (.inr ⟨by omega, by omega⟩))) ea_nil)) (show 2 ≤ 100000 by decide)))) q
end
end Tw
/-! #### WData -/
namespace Tw
open PySem PySem.Spec PyProof.Rows L2 Evl
/-! ### values as data -/
mutual
theorem dp_mono {K : PySem.W.Frag} {H H' : Hp} (e : Ex H H') : ∀ (d : PyData) (v : V), Dp K H v d → Dp K H' v d
  | .none, _, h => by cases h; exact .non
  | .bool b, _, h => by cases h; exact .bl b
  | .int i, _, h => by cases h; exact .int i
  | .str x, _, h => by cases h; exact .str x
  | .list ds, _, h => by
    cases h with
    | lst hs ha => exact .lst (ex_l e hs) (dpAll_mono e ds _ ha)
  | .tuple ds, _, h => by
    cases h with
    | tup hs ha => exact .tup (ex_t e hs) (dpAll_mono e ds _ ha)
  | .dict _, _, h => by cases h
theorem dpAll_mono {K : PySem.W.Frag} {H H' : Hp} (e : Ex H H') : ∀ (ds : List PyData) (vs : List V), DpAll K H vs ds → DpAll K H' vs ds
  | [], _, h => by cases h; exact .nil
  | d :: ds, _, h => by
    cases h with
    | cons h1 h2 => exact .cons (dp_mono e d _ h1) (dpAll_mono e ds _ h2)
end
def isD (K : PySem.W.Frag) (d : PyData) : PV := fun _ v H2 => Dp K H2 v d
theorem mo_D {K : PySem.W.Frag} {d : PyData} : Mo (isD K d) := fun _ _ v _ _ _ e' h => dp_mono e' d v h
/-- the steps, the polynomial -/
def dStep (s : Wd × Nat) : PyData := .tuple [.str (wstr s.1), .int (s.2 : Int)]
def dSteps (ss : List (Wd × Nat)) : PyData := .list (ss.map dStep)
def dTerm (t : Int × Int) : PyData := .tuple [.int t.1, .int t.2]
def dPoly (p : Poly) : PyData := .tuple (p.map dTerm)
section
variable {K : PySem.W.Frag} {H : Hp}
theorem dp_step {t : Addr} {s : Wd × Nat} (h : StT K H t s) : Dp K H (.ref t) (dStep s) := .tup h (.cons (.str _) (.cons (.int _) .nil))
theorem dp_stAll : ∀ {ps : List Addr} {ss : List (Wd × Nat)}, StAll K H ps ss → DpAll K H (ps.map V.ref) (ss.map dStep)
  | [], [], _ => .nil
  | _ :: _, _ :: _, h => .cons (dp_step h.1) (dp_stAll h.2)
  | [], _ :: _, h => h.elim
  | _ :: _, [], h => h.elim
theorem dp_steps {s : Addr} {ps : List Addr} {ss : List (Wd × Nat)} (h : SqL K H s (ps.map V.ref)) (h2 : StAll K H ps ss) : Dp K H (.ref s) (dSteps ss) := .lst h (dp_stAll h2)
theorem dp_tmAll : ∀ {ps : List Addr} {ss : Poly}, TmAll K H ps ss → DpAll K H (ps.map V.ref) (ss.map dTerm)
  | [], [], _ => .nil
  | _ :: _, _ :: _, h => .cons (.tup h.1 (.cons (.int _) (.cons (.int _) .nil))) (dp_tmAll h.2)
  | [], _ :: _, h => h.elim
  | _ :: _, [], h => h.elim
theorem dp_poly {a : Addr} {p : Poly} (h : PolyAt K H a p) : Dp K H (.ref a) (dPoly p) := by
  obtain ⟨ps, h1, h2⟩ := h
  exact .tup h1 (dp_tmAll h2)
theorem dp_two {t : Addr} {x y : V} {d e : PyData} (h : SqT K H t [x, y]) (hx : Dp K H x d) (hy : Dp K H y e) : Dp K H (.ref t) (.tuple [d, e]) := .tup h (.cons hx (.cons hy .nil))
end
/-! ### shapes -/
theorem lay_wstr (u : Wd) : PyData.canLay0 (.str (wstr u)) = true := by
  cases u <;> decide +kernel
theorem lay_steps : ∀ ss : List (Wd × Nat), PyData.canLayAll0 (ss.map dStep) = true
  | [] => rfl
  | s :: r => by
    have h := lay_wstr s.1
    have h2 := lay_steps r
    cases s with
    | mk u i =>
      have e : PyData.canLay0 (dStep (u, i)) = true := by
        unfold dStep
        rw [PyData.canLay0, PyData.canLayAll0, h]
        simp [PyData.canLayAll0, PyData.canLay0]
      rw [List.map_cons, PyData.canLayAll0, e, h2]; rfl
theorem depth_steps : ∀ ss : List (Wd × Nat), PyData.depthAll (ss.map dStep) ≤ 1
  | [] => by simp [PyData.depthAll]
  | s :: r => by
    have := depth_steps r
    simp [PyData.depthAll, dStep, PyData.depth]; omega
theorem lay_terms : ∀ ss : Poly, PyData.canLayAll0 (ss.map dTerm) = true
  | [] => rfl
  | s :: r => by simp [PyData.canLayAll0, dTerm, PyData.canLay0, lay_terms r]
theorem depth_terms : ∀ ss : Poly, PyData.depthAll (ss.map dTerm) ≤ 1
  | [] => by simp [PyData.depthAll]
  | s :: r => by
    have := depth_terms r
    simp [PyData.depthAll, dTerm, PyData.depth]; omega
theorem shaped_two {d e : PyData} (h1 : d.canLay0 = true) (h2 : e.canLay0 = true) (h3 : d.depth ≤ 20) (h4 : e.depth ≤ 20) : SeqAt.shaped (.tuple [d, e]) = true := by
  unfold SeqAt.shaped
  have c : PyData.canLay0 (.tuple [d, e]) = true := by
    simp only [PyData.canLay0, PyData.canLayAll0, h1, h2, Bool.and_self]
  have g : PyData.depth (.tuple [d, e]) ≤ 64 := by
    simp only [PyData.depth, PyData.depthAll]; omega
  rw [c, decide_eq_true g]; rfl
theorem lay_l (l : List Int) : (ilD l).canLay0 = true := by
  unfold ilD; rw [PyData.canLay0]; exact lay_ints l
theorem dep_l (l : List Int) : (ilD l).depth ≤ 20 := by
  unfold ilD; rw [PyData.depth, depth_ints]; decide
theorem lay_s (ss : List (Wd × Nat)) : (dSteps ss).canLay0 = true := by
  unfold dSteps; rw [PyData.canLay0]; exact lay_steps ss
theorem dep_s (ss : List (Wd × Nat)) : (dSteps ss).depth ≤ 20 := by
  have := depth_steps ss
  unfold dSteps; rw [PyData.depth]; omega
theorem lay_p (p : Poly) : (dPoly p).canLay0 = true := by
  unfold dPoly; rw [PyData.canLay0]; exact lay_terms p
theorem dep_p (p : Poly) : (dPoly p).depth ≤ 20 := by
  have := depth_terms p
  unfold dPoly; rw [PyData.depth]; omega
theorem canLay_of {d : PyData} (h : SeqAt.shaped d = true) : d.canLay0 = true := (Bool.and_eq_true_iff.mp h).1
section
variable {K : PySem.W.Frag} {σ : L2.St} {H : Hp} {ta tb : TE} {d : PyData}
/-- two values of one data -/
theorem ev_neSame (hd : SeqAt.shaped d = true) (ha : EvX ta σ H (isD K d)) (hb : EvX tb σ H (isD K d)) : Ev (tOp (rNeD K) ta tb) σ H (.bl false) := fun H1 e Q q =>
  ha H1 e _ fun x H2 e2 hx => hb H2 (e.trans e2) _ fun y H3 e3 hy => ⟨d, d, dp_mono e3 d x hx, hy, hd, hd, by
    rw [SeqAt.eqv_refl d (canLay_of hd)]
    exact q H3 (e2.trans e3)⟩
theorem ev_eqSame (hd : SeqAt.shaped d = true) (ha : EvX ta σ H (isD K d)) (hb : EvX tb σ H (isD K d)) : Ev (tOp (rEqD K) ta tb) σ H (.bl true) := fun H1 e Q q =>
  ha H1 e _ fun x H2 e2 hx => hb H2 (e.trans e2) _ fun y H3 e3 hy => ⟨d, d, dp_mono e3 d x hx, hy, hd, hd, by
    rw [SeqAt.eqv_refl d (canLay_of hd)]
    exact q H3 (e2.trans e3)⟩
theorem eqv_pair (a b c e : Int) : PyData.eqv (.tuple [.int a, .int b]) (.tuple [.int c, .int e]) = decide ((a, b) = (c, e)) := by
  simp only [PyData.eqv, PyData.eqvAll]
  by_cases h : a = c <;> by_cases h' : b = e <;> simp [h, h']
theorem shaped_pair (a b : Int) : SeqAt.shaped (.tuple [.int a, .int b]) = true := shaped_two rfl rfl (Nat.zero_le _) (Nat.zero_le _)
/-- pairs of numbers -/
theorem ev_eqPair {u v : Int × Int} (ha : EvX ta σ H (isU [.int u.1, .int u.2])) (hb : EvX tb σ H (isU [.int v.1, .int v.2])) : Ev (tOp (rEqD K) ta tb) σ H (.bl (decide (u = v))) := fun H1 e Q q =>
  ha H1 e _ fun x H2 e2 hx => hb H2 (e.trans e2) _ fun y H3 e3 hy => by
    obtain ⟨p, rfl, _, hp⟩ := hx
    obtain ⟨p', rfl, _, hp'⟩ := hy
    refine ⟨_, _, dp_two (st_of (e3 p _ hp)) (.int u.1) (.int u.2), dp_two (st_of hp') (.int v.1) (.int v.2), shaped_pair _ _, shaped_pair _ _, ?_⟩
    rw [eqv_pair]
    exact q H3 (e2.trans e3)
theorem ev_nePair {u v : Int × Int} (ha : EvX ta σ H (isU [.int u.1, .int u.2])) (hb : EvX tb σ H (isU [.int v.1, .int v.2])) : Ev (tOp (rNeD K) ta tb) σ H (.bl (!decide (u = v))) := fun H1 e Q q =>
  ha H1 e _ fun x H2 e2 hx => hb H2 (e.trans e2) _ fun y H3 e3 hy => by
    obtain ⟨p, rfl, _, hp⟩ := hx
    obtain ⟨p', rfl, _, hp'⟩ := hy
    refine ⟨_, _, dp_two (st_of (e3 p _ hp)) (.int u.1) (.int u.2), dp_two (st_of hp') (.int v.1) (.int v.2), shaped_pair _ _, shaped_pair _ _, ?_⟩
    rw [eqv_pair]
    exact q H3 (e2.trans e3)
theorem ev_eqLL {l m : List Int} (ha : EvL ta σ H (il l)) (hb : EvL tb σ H (il m)) : Ev (tOp (rEqD K) ta tb) σ H (.bl (decide (l = m))) :=
  ev_opLL ha hb fun _ _ _ hp hq _ => rv_eqD (sq_of hp) (sq_of hq)
/-- from a new list, a new pair -/
theorem isL_D {l : List Int} {H1 H2 : Hp} {v : V} (h : isL (il l) H1 v H2) : isD K (ilD l) H1 v H2 := by
  obtain ⟨p, rfl, _, hp⟩ := h
  exact dp_ints (sq_of hp)
theorem isSteps_D {ss : List (Wd × Nat)} {H1 H2 : Hp} {v : V} (h : isSteps K ss H1 v H2) : isD K (dSteps ss) H1 v H2 := by
  obtain ⟨s, ps, rfl, _, hs, hp⟩ := h
  exact dp_steps (sq_of hs) hp
theorem isU2_D {P R : PV} {d e : PyData} {H1 H2 : Hp} {v : V} (h : isU2 P R H1 v H2) (hP : ∀ x, P H1 x H2 → isD K d H1 x H2) (hR : ∀ x, R H1 x H2 → isD K e H1 x H2) : isD K (.tuple [d, e]) H1 v H2 := by
  obtain ⟨t, x, y, rfl, _, ht, hx, hy⟩ := h
  exact dp_two (st_of ht) (hP x hx) (hR y hy)
theorem isRep_D {n : Nat} {s : Pr} {l u : Poly} (r : Rep n l u s) {m : Nat} {H1 H2 : Hp} {v : V} (h : isRep K m s H1 v H2) : isD K (.tuple [dPoly l, dPoly u]) H1 v H2 := by
  obtain ⟨t, x, y, l', u', rfl, ht, hx, hy, r'⟩ := h
  obtain ⟨rfl, rfl⟩ := r.ext r'
  exact dp_two ht (dp_poly hx) (dp_poly hy)
end
end Tw
/-! #### WLaw -/
namespace Tw
open PySem PySem.Spec PyProof.Rows L2 Evl
abbrev sLaw : Stmt := topS 35
/-! ### what the law calls -/
structure TLaw (P : Program) (w : World) (K : PySem.W.Frag) (mg : Str → Option Value) (base : Heap) (f1 f2 f3 f4 f5 f6 f7 f8 f9 f0 : Addr) (d1 d2 d3 d4 d5 d6 d7 d8 d9 d0 : FuncData) : Prop where
  D1 : Fd K mg "_law_twists" sTwists ["_law_cells", "_law_most"] f1 d1
  G1 : FnOk P w K mg base CX0 1 f1 d1 ["_law_cells", "_law_most"] (spTwists K)
  D2 : Fd K mg "_law_other" sOther ["_law_twists_here", "_law_cell"] f2 d2
  G2 : FnOk P w K mg base CX0 1 f2 d2 ["_law_twists_here", "_law_cell"] (spOther K)
  D3 : Fd K mg "_law_walked" sWalked ["_law_twists_here"] f3 d3
  G3 : FnOk P w K mg base CX0 2 f3 d3 ["_law_twists_here"] (spWalked K)
  D4 : Fd K mg "eased" sEased ["twists"] f4 d4
  G4 : FnOk P w K mg base CX0 4 f4 d4 ["twists"] (spEased K)
  D5 : Fd K mg "_law_least" sLLeast ["_law_twists_here"] f5 d5
  G5 : FnOk P w K mg base CX0 1 f5 d5 ["_law_twists_here"] (spLLeast K)
  D6 : Fd K mg "least_list" sLeast ["fraction"] f6 d6
  G6 : FnOk P w K mg base CX0 1 f6 d6 ["fraction"] (spLeast K)
  D7 : Fd K mg "value" sValue ["twists"] f7 d7
  G7 : FnOk P w K mg base CX0 1 f7 d7 ["twists"] (spValue K)
  D8 : Fd K mg "led" sLed ["twists", "steps"] f8 d8
  G8 : FnOk P w K mg base CX0 4 f8 d8 ["twists", "steps"] (spLed K)
  D9 : Fd K mg "twisted_sums" sSums ["twists"] f9 d9
  G9 : FnOk P w K mg base CX0 4 f9 d9 ["twists"] (spSums K)
  D0 : Fd K mg "_law_lifted" sLLifted ["_law_one", "_law_heft"] f0 d0
  G0 : FnOk P w K mg base CX0 1 f0 d0 ["_law_one", "_law_heft"] (spLLifted K)
  ml : mg "len" = none
  mL : mg "list" = none
  mm : mg "max" = none
  mt : mg "tuple" = none
section
variable {K : PySem.W.Frag} {σ : L2.St} {H : Hp} {ta tb te : TE} {E : XK} {D : L2.Ends} {tz : TS}
theorem el_slN {tl th : TO} {xs : List V} {lo hi : Option Int} (h : EvL te σ H xs) (h1 : EvO tl σ H lo) (h2 : EvO th σ H hi) : EvL (tSl (rSlL K) te tl th) σ H (cutV xs lo hi) := fun H1 e Q q =>
  h H1 e _ fun p H2 np e2 hp => h1 H2 (e.trans e2) _ fun H3 e3 => h2 H3 ((e.trans e2).trans e3) _ fun H4 e4 =>
    ⟨p, xs, rfl, sq_of ((e3.trans e4) p _ hp), fun t nt => q t _ (fresh_back ((e2.trans e3).trans e4) nt) (((e2.trans e3).trans e4).trans (Ex.new nt)) upd_same⟩
theorem el_slNI {tl th : TO} {xs ys : List Int} {lo hi : Option Int} (h : EvL te σ H (il xs)) (h1 : EvO tl σ H lo) (h2 : EvO th σ H hi) (e : cutV (il xs) lo hi = il ys) : EvL (tSl (rSlL K) te tl th) σ H (il ys) := by
  rw [← e]; exact el_slN h h1 h2
theorem cutI_take {xs : List Int} {z : Int} {k : Nat} (e : z = (k : Int)) : cutV (il xs) none (some z) = il (xs.take k) := by
  by_cases h : k ≤ xs.length
  · exact cutI_to e h rfl
  · subst e
    unfold cutV
    rw [HT.sIx_none, HT.sIx_nat, List.drop_zero, Nat.sub_zero, Nat.min_eq_right (by rw [List.length_map]; omega), List.take_length, List.take_of_length_le (by omega)]
theorem ex_twists {cs : List Int} (h : EvL ta σ H (il cs)) (hz : cs.length ≤ 1000) (h2 : Ev tb σ H (.int 12)) : EvX (tCall (spTwists K) [] E (tCons ta (tCons tb tNil))) σ H (isTw cs.length 12) :=
  ex_call2 mo_Tw mo_L (ex_L h) (ex_V h2) fun H0 H1 x y e0 e1 hx hy Q' E' k => by
    obtain ⟨p, rfl, _, hp⟩ := hx
    obtain ⟨_, _, hy⟩ := hy
    have hy : y = .int 12 := hy
    subst hy
    exact ⟨p, cs, rfl, sq_of hp, hz, k⟩
abbrev isE (K : PySem.W.Frag) (ss : List (Wd × Nat)) (e : List Int) : PV := isU2 (isSteps K ss) (isL (il e))
theorem mo_E {ss : List (Wd × Nat)} {e : List Int} : Mo (isE K ss e) := mo_U2 mo_Steps mo_L
theorem isE_D {ss : List (Wd × Nat)} {e : List Int} {H1 H2 : Hp} {v : V} (h : isE K ss e H1 v H2) : isD K (.tuple [dSteps ss, ilD e]) H1 v H2 := isU2_D h (fun _ => isSteps_D) (fun _ => isL_D)
theorem ex_easedV {a : Addr} {l e : List Int} {ss : List (Wd × Nat)} {k : Int} (ha : SqL K H a (il l)) (h0 : l ≠ []) (g : Go 900 l ss e k) (hf : ss.length ≤ 1000) (h : Ev ta σ H (.ref a)) : EvX (tCall (spEased K) [] E (tCons ta tNil)) σ H (isE K ss e) :=
  ex_call mo_E (ea_cons h ea_nil) fun H1 e1 Q' E' q => ⟨a, l, e, ss, k, rfl, ex_l e1 ha, h0, g, by omega, q⟩
theorem ex_easedN {l e : List Int} {ss : List (Wd × Nat)} {k : Int} (h0 : l ≠ []) (g : Go 900 l ss e k) (hf : ss.length ≤ 1000) (h : EvL ta σ H (il l)) : EvX (tCall (spEased K) [] E (tCons ta tNil)) σ H (isE K ss e) :=
  ex_call1 mo_E (ex_L h) fun H0 H1 x e0 e1 hx Q' E' q => by
    obtain ⟨p, rfl, _, hp⟩ := hx
    exact ⟨p, l, e, ss, k, rfl, sq_of hp, h0, g, by omega, q⟩
theorem ex_ledN {l e : List Int} {s : Addr} {ps : List Addr} {ss : List (Wd × Nat)} {k : Int} (g : Go 900 l ss e k) (hs : SqL K H s (ps.map V.ref)) (hps : StAll K H ps ss) (h : EvL ta σ H (il l)) (h2 : Ev tb σ H (.ref s)) : EvX (tCall (spLed K) [] E (tCons ta (tCons tb tNil))) σ H (isP e k) :=
  ex_call2 mo_P mo_L (ex_L h) (ex_V h2) fun H0 H1 x y e0 e1 hx hy Q' E' q => by
    obtain ⟨p, rfl, _, hp⟩ := hx
    obtain ⟨_, _, hy⟩ := hy
    have hy : y = .ref s := hy
    subst hy
    exact ⟨p, s, l, e, ps, ss, k, rfl, sq_of hp, ex_l (e0.trans e1) hs, hps.mono (e0.trans e1), g, q⟩
theorem ex_value {a : Addr} {l : List Int} (ha : SqL K H a (il l)) (hb : ∀ x ∈ l, x.natAbs ≤ 1000) (h : Ev ta σ H (.ref a)) : EvX (tCall (spValue K) [] E (tCons ta tNil)) σ H (isU [.int (val l).1, .int (val l).2]) :=
  ex_call mo_U (ea_cons h ea_nil) fun H1 e1 Q' E' q => ⟨a, l, rfl, ex_l e1 ha, hb, q⟩
theorem el_least {l e : List Int} {ss : List (Wd × Nat)} {k : Int} (A : Eas l e ss k) (h : EvX ta σ H (isU [.int (val l).1, .int (val l).2])) : EvL (tCall (spLeast K) [] E (tCons ta tNil)) σ H (il e) :=
  el_X (ex_call1 mo_L h fun H0 H1 x e0 e1 hx Q' E' q => by
    obtain ⟨p, rfl, _, hp⟩ := hx
    rw [← A.vl] at hp
    exact ⟨p, e, rfl, st_of hp, A.least, A.ene, by have := A.elen; omega, A.eb, A.bot, q⟩)
theorem ev_lleast {a : Addr} {e : List Int} (ha : SqL K H a (il e)) (hl : Least e) (hz : e.length ≤ 900) (h : Ev ta σ H (.ref a)) : Ev (tCall (spLLeast K) [] E (tCons ta tNil)) σ H (.bl true) :=
  ev_callX (ea_cons h ea_nil) fun H1 e1 Q' E' q => ⟨a, e, rfl, ex_l e1 ha, hl, by omega, q⟩
theorem ex_sums {a : Addr} {l : List Int} (ha : SqL K H a (il l)) (h0 : l ≠ []) (hb : absum l ≤ 16) (h : Ev ta σ H (.ref a)) : EvX (tCall (spSums K) [] E (tCons ta tNil)) σ H (isRep K (absum l) (sem l)) :=
  ex_call mo_Rep (ea_cons h ea_nil) fun H1 e1 Q' E' q => ⟨a, l, rfl, ex_l e1 ha, h0, by omega, q⟩
/-- e.append(..) of a list that is new -/
theorem q_appN {xs : List V} {v : V} (ha : EvX ta σ H (isL xs)) (h : Ev te σ H v) (hz : xs.length < 100000) (k : ∀ p H1, H p = none → Ex H H1 → tz D σ (upd H1 p (.lst (xs ++ [v])))) : tSeq (tDrop (tBM K "list" rAppend ta (tCons te tNil))) tz D σ H :=
  ha H (Ex.refl H) _ fun x H1 e1 hx => by
    obtain ⟨p, rfl, np, hp⟩ := hx
    exact ⟨.inl ⟨rfl, xs, sq_of hp⟩, h H1 e1 _ fun H2 e2 => ⟨p, xs, v, rfl, rfl, e2 p _ hp, sz_lt hz, k p H2 np (e1.trans e2)⟩⟩
/-- (s, e) of things that stand -/
theorem ex_two {x y : V} {d e : PyData} (h1 : Ev ta σ H x) (h2 : Ev tb σ H y) (hx : Dp K H x d) (hy : Dp K H y e) : EvX (tTup (tCons ta (tCons tb tNil))) σ H (isD K (.tuple [d, e])) :=
  (ex_U (eu_tup (ea_cons h1 (ea_cons h2 ea_nil)) (show 2 ≤ 100000 by decide))).imp fun H1 v H2 e1 e2 hv => by
    obtain ⟨p, rfl, _, hp⟩ := hv
    exact dp_two (st_of hp) (dp_mono (e1.trans e2) d x hx) (dp_mono (e1.trans e2) e y hy)
/-- polynomials that stand in a list -/
def PolAll (K : PySem.W.Frag) (H : Hp) : List Addr → List Poly → Prop
  | [], [] => True
  | p :: ps, s :: ss => PolyAt K H p s ∧ PolAll K H ps ss
  | _, _ => False
theorem PolAll.mono {H' : Hp} (e : Ex H H') : ∀ {ps : List Addr} {ss : List Poly}, PolAll K H ps ss → PolAll K H' ps ss
  | [], [], _ => trivial
  | _ :: _, _ :: _, h => ⟨h.1.mono e, PolAll.mono e h.2⟩
  | [], _ :: _, h => h.elim
  | _ :: _, [], h => h.elim
theorem PolyAt.upd {a s : Addr} {p : Poly} {ys : List V} {o : HO} (h : PolyAt K H a p) (hs : H s = some (.lst ys)) : PolyAt K (upd H s o) a p := by
  obtain ⟨ps, h1, h2⟩ := h
  exact ⟨ps, sqT_upd h1 hs, TmAll.upd hs h2⟩
theorem PolAll.upd {s : Addr} {ys : List V} {o : HO} (hs : H s = some (.lst ys)) : ∀ {ps : List Addr} {ss : List Poly}, PolAll K H ps ss → PolAll K (upd H s o) ps ss
  | [], [], _ => trivial
  | _ :: _, _ :: _, h => ⟨h.1.upd hs, PolAll.upd hs h.2⟩
  | [], _ :: _, h => h.elim
  | _ :: _, [], h => h.elim
theorem PolAll.snoc {p : Addr} {s : Poly} (hp : PolyAt K H p s) : ∀ {ps : List Addr} {ss : List Poly}, PolAll K H ps ss → PolAll K H (ps ++ [p]) (ss ++ [s])
  | [], [], _ => ⟨hp, trivial⟩
  | _ :: _, _ :: _, h => ⟨h.1, PolAll.snoc hp h.2⟩
  | [], _ :: _, h => h.elim
  | _ :: _, [], h => h.elim
theorem PolAll.len : ∀ {ps : List Addr} {ss : List Poly}, PolAll K H ps ss → ps.length = ss.length
  | [], [], _ => rfl
  | _ :: _, _ :: _, h => by rw [List.length_cons, List.length_cons, PolAll.len h.2]
  | [], _ :: _, h => h.elim
  | _ :: _, [], h => h.elim
/-- the raised sums -/
def isRai (K : PySem.W.Frag) (n : Nat) (s : Pr) (hh : Int) : PV := fun H1 v H2 => ∃ R q1 q2 l u, v = .ref R ∧ H2 R = some (.lst [.ref q1, .ref q2]) ∧ PolyAt K H2 q1 (raise l hh) ∧ PolyAt K H2 q2 (raise u hh) ∧ Rep n l u s
theorem ex_lcRaise {tl : TE} {j n : Nat} {vs : List Nat} {s : Pr} {hh : Int} (hn : n ≤ 20) (h : EvX tl σ H (isRep K n s)) (hw : ∀ x, wipe ((wipe σ vs).set j (some x)) vs = wipe σ vs)
    (he : ∀ b p H1, Ex H H1 → PolyAt K H1 b p → p.length ≤ 20000 → EvX te ((wipe σ vs).set j (some (.ref b))) H1 (isPoly K fun q => q = raise p hh)) :
    EvX (tLc (iTup K tl) (gName j) tYes te vs) σ H (isRai K n s hh) := fun H0 e Q q => h H0 e _ fun v H1 e1 hv => by
  obtain ⟨t, x, y, l, u, rfl, ht, hx, hy, r⟩ := hv
  have e01 := e.trans e1
  have z1 := canon_len r.cl r.nl
  have z2 := canon_len r.cu r.nu
  refine ⟨t, rfl, ⟨_, ht⟩, fun R nR => lc_tup (xs := [.ref x, .ref y]) (fun n H' => Ex H1 H' ∧ ∃ qs, H' R = some (.lst (qs.map V.ref)) ∧ PolAll K H' qs (([l, u].take n).map fun p => raise p hh)) ⟨Ex.new nR, [], upd_same, trivial⟩ (fun n H' _ hW => ex_t hW.1 ht) (fun n z H' hz hW => ?_) fun H' hW => ?_⟩
  · obtain ⟨eW, qs, hR, hq⟩ := hW
    obtain ⟨b, p, rfl, hbp, hpz, hnp⟩ : ∃ b p, z = .ref b ∧ PolyAt K H' b p ∧ p.length ≤ 20000 ∧ [l, u].take (n + 1) = [l, u].take n ++ [p] := by
      match n, hz with
      | 0, hz =>
        have hz : V.ref x = z := Option.some.inj hz
        exact ⟨x, l, hz.symm, hx.mono eW, by omega, rfl⟩
      | 1, hz =>
        have hz : V.ref y = z := Option.some.inj hz
        exact ⟨y, u, hz.symm, hy.mono eW, by omega, rfl⟩
      | n + 2, hz => simp at hz
    have hql : qs.length ≤ 100 := by
      have := hq.len
      rw [List.length_map, List.length_take] at this
      show _ ≤ 100
      have h2 : ([l, u] : List Poly).length = 2 := rfl
      omega
    refine ⟨hw _, ?_⟩
    show te _ H' _
    refine he b p H' (e01.trans eW) hbp hpz H' (Ex.refl _) _ fun v H4 e4 hv => ?_
    obtain ⟨c, p', rfl, hc, rfl⟩ := hv
    have hR4 := e4 R _ hR
    refine ⟨_, hR4, sz_lt (by rw [List.length_map]; omega), (eW.trans e4).mut nR, qs ++ [c], by rw [List.map_append]; exact upd_same, ?_⟩
    rw [hnp, List.map_append]
    exact PolAll.snoc (hc.upd hR4) (PolAll.upd hR4 (hq.mono e4))
  · obtain ⟨eW, qs, hR, hq⟩ := hW
    match qs, hq with
    | [q1, q2], hq => exact q _ H' (e1.trans eW) ⟨R, q1, q2, l, u, rfl, hR, hq.1, hq.2.1, r⟩
    | [], hq => exact hq.elim
    | [_], hq => exact hq.2.elim
    | _ :: _ :: _ :: _, hq => exact hq.2.2.elim
/-- the law's last comparison -/
theorem ev_eqRaise {n m : Nat} {s r : Pr} {hh : Int} {q1 q2 : Addr} {l u : Poly} (ha : EvX ta σ H (isRep K n s)) (hb : EvU tb σ H [.ref q1, .ref q2]) (h1 : PolyAt K H q1 (raise l hh)) (h2 : PolyAt K H q2 (raise u hh)) (rp : Rep m l u r) (e : s = wt hh r) : Ev (tOp (rEqD K) ta tb) σ H (.bl true) := fun H1 e1 Q q =>
  ha H1 e1 _ fun x H2 e2 hx => hb H2 (e1.trans e2) _ fun p H3 _ e3 hp => by
    obtain ⟨t, x1, y1, l', u', rfl, ht, hx1, hy1, r'⟩ := hx
    obtain ⟨rfl, rfl⟩ := rep_raise r' rp e
    have ex := (e1.trans e2).trans e3
    have sh : SeqAt.shaped (.tuple [dPoly (raise l hh), dPoly (raise u hh)]) = true := shaped_two (lay_p _) (lay_p _) (dep_p _) (dep_p _)
    refine ⟨_, _, dp_two (ex_t e3 ht) (dp_poly (hx1.mono e3)) (dp_poly (hy1.mono e3)), dp_two (st_of hp) (dp_poly (h1.mono ex)) (dp_poly (h2.mono ex)), sh, sh, ?_⟩
    rw [SeqAt.eqv_refl _ (canLay_of sh)]
    exact q H3 (e2.trans e3)
theorem eu_tupleOf {p : Addr} {xs : List V} (h : Ev ta σ H (.ref p)) (hx : SqL K H p xs) : EvU (tCB (fun xs H Q => ∃ p ys, xs = [.ref p] ∧ ((SqL K H p ys ∧ ∀ l, H l = none → Q (.ref l) (upd H l (.tup ys))) ∨ (SqT K H p ys ∧ Q (.ref p) H))) (tCons ta tNil)) σ H xs := fun H1 e Q q =>
  h H1 e _ fun H2 e2 => ⟨p, xs, rfl, .inl ⟨ex_l (e.trans e2) hx, fun l nl => q l _ (fresh_back e2 nl) (e2.trans (Ex.new nl)) upd_same⟩⟩
end
end Tw
/-! #### WMain -/
namespace Tw
open PySem PySem.Spec PyProof.Rows L2 Evl
def spLaw (K : PySem.W.Frag) : Sp := fun vs H Q _ => ∃ (a : Addr) (ns : List Int), vs = [.ref a] ∧ SqL K H a (il ns) ∧ ns.length ≤ 63 ∧ ∀ H', Q (.bl true) H'
abbrev nLaw : List Str := ["_law_script", "_law_half", "_law_one", "_law_other_here", "_law_weights", "_law_twists_here", "_law_steps", "_law_end", "_law_heft", "_law_found", "_law_least_here", "_law_raised", "_law_both"]
theorem scLaw : FnScope ["_law_script", "_law_half", "_law_one", "_law_other_here", "_law_weights", "_law_twists_here", "_law_steps", "_law_end", "_law_heft", "_law_found", "_law_least_here", "_law_raised", "_law_both"] ["_law_script"] (defScope sLaw) := ⟨rfl, rfl, rfl, by decide +kernel, rfl, by decide +kernel, by decide +kernel⟩
/-- what holds of a list in the law's loop -/
structure Rec where
  a : Addr
  l : List Int
  e : List Int
  ss : List (Wd × Nat)
  k : Int
theorem half_nat (n : Nat) : ((n : Int) + 1) / 2 = (((n + 1) / 2 : Nat) : Int) := by omega
theorem max_nat (h : Nat) : (if (h : Int) > 1 then (h : Int) else 1) = ((max 1 h : Nat) : Int) := by
  by_cases c : (h : Int) > 1
  · rw [if_pos c]; omega
  · rw [if_neg c]; omega
def cellsOf (xs : List Int) (k : Nat) : List Int := ((xs ++ [0]).take (max 1 k)).take 8
theorem cellsOf_len (xs : List Int) (k : Nat) : 1 ≤ (cellsOf xs k).length ∧ (cellsOf xs k).length ≤ 8 := by
  unfold cellsOf
  rw [List.length_take, List.length_take, List.length_append]
  show 1 ≤ min 8 (min (max 1 k) (xs.length + 1)) ∧ min 8 (min (max 1 k) (xs.length + 1)) ≤ 8
  omega
theorem mo_Ot {n m : Nat} : Mo (isOt n m) := fun _ _ _ _ _ e e' ⟨p, l, a, b, c, d⟩ => ⟨p, l, a, fresh_back e b, e' p _ c, d⟩
section
variable {P : Program} {w : World} {K : PySem.W.Frag} {mg : Str → Option Value} {base : Heap}
theorem ok_law {f f1 f2 f3 f4 f5 f6 f7 f8 f9 f0 : Addr} {fd d1 d2 d3 d4 d5 d6 d7 d8 d9 d0 : FuncData} (F : Fun K "law" "law" sLaw f fd) (Z : TLaw P w K mg base f1 f2 f3 f4 f5 f6 f7 f8 f9 f0 d1 d2 d3 d4 d5 d6 d7 d8 d9 d0) : FnOk P w K mg base CX0 5 f fd ["_law_script"] (spLaw K) := by
  refine F.ok scLaw (fun vs H Q E h => ?_) (fun cdv A outer s H vs Q E hr h => ?_)
  · obtain ⟨a, ns, rfl, _⟩ := h
    rfl
  obtain ⟨a, ns, rfl, hS, hz, q⟩ := h
  have hu := hr.units
  have r1 := hr.mono (show 1 ≤ 4 by decide)
  have r2 := hr.mono (show 2 ≤ 4 by decide)
  refine ⟨_, (pss_cons (ps_set (i := 1) scLaw.nd rfl (.inl rfl) (pe_op op_fdiv (pe_op op_add (pe_callB call_len_seq (by rfl) Z.ml PySem.boot_len (pa_cons (pv 0) pa_nil)) pe_int) pe_int))
      (pss_cons (ps_set (i := 2) scLaw.nd rfl (.inl rfl) (pe_call Z.G1 r1 (by rfl) Z.D1.m Z.D1.F.kp Z.D1.b .nil pass0 (pa_cons (pe_slice sl_list (pe_slice sl_list (pe_op op_cat (pe_slice sl_list (pv 0) po_none (po_some (pv 1))) (pe_lst (pa_cons pe_int pa_nil))) po_none (po_some (pe_callB (call_max2 rfl) (by rfl) Z.mm PyProof.Rows.boot_max (pa_cons pe_int (pa_cons (pv 1) pa_nil))))) po_none (po_some pe_int)) (pa_cons pe_int pa_nil))))
      (pss_cons (ps_set (i := 3) scLaw.nd rfl (.inl rfl) (pe_call Z.G1 r1 (by rfl) Z.D1.m Z.D1.F.kp Z.D1.b .nil pass0 (pa_cons (pe_slice sl_list (pe_slice sl_list (pe_op op_cat (pe_slice sl_list (pv 0) (po_some (pv 1)) po_none) (pe_lst (pa_cons pe_int pa_nil))) po_none (po_some (pe_callB (call_max2 rfl) (by rfl) Z.mm PyProof.Rows.boot_max (pa_cons pe_int (pa_cons (pe_op op_sub (pe_callB call_len_seq (by rfl) Z.ml PySem.boot_len (pa_cons (pv 0) pa_nil)) (pv 1)) pa_nil))))) po_none (po_some pe_int)) (pa_cons pe_int pa_nil))))
      (pss_cut (ps_if (PW.pt (pw_and (pt_cmpR op_gt (pe_callB call_len_seq (by rfl) Z.ml PySem.boot_len (pa_cons (pv 0) pa_nil)) pe_int (nomark _)) (pw_and1 (pt_cmpR op_eq (pe_op op_mod (pe_ix ix_list (pv 0) (pe_un un_neg pe_int) (fun _ _ => rfl)) pe_int) pe_int (nomark _))))) (pss_one (ps_set (i := 3) scLaw.nd rfl (.inl rfl) (pe_call Z.G2 r1 (by rfl) Z.D2.m Z.D2.F.kp Z.D2.b .nil pass0 (pa_cons (pv 2) (pa_cons (pe_op op_fdiv (pe_ix ix_list (pv 0) (pe_un un_neg pe_int) (fun _ _ => rfl)) pe_int) pa_nil))))) pss_nil)
      (pss_cons (ps_set (i := 4) scLaw.nd rfl (.inr rfl) (pe_lst pa_nil))
      (pss_cons (ps_for PassesOwn.never rfl (pi_list (pe_lst (pa_cons (pv 2) (pa_cons (pv 3) pa_nil)))) (pg_name (i := 5) scLaw.nd rfl (.inl rfl))
      (pss_cons (ps_asg (pe_call Z.G3 r2 (by rfl) Z.D3.m Z.D3.F.kp Z.D3.b .nil pass0 (pa_cons (pv 5) pa_nil)) (pg_tup (by rfl) (pgs_cons (pg_name (i := 6) scLaw.nd rfl (.inl rfl)) (pgs_cons (pg_name (i := 7) scLaw.nd rfl (.inl rfl)) (pgs_cons (pg_name (i := 8) scLaw.nd rfl (.inl rfl)) pgs_nil)))))
      (pss_cons (ps_if (PW.pt (pw_or (pt_cmpR (op_neD hu) (pe_call Z.G4 hr (by rfl) Z.D4.m Z.D4.F.kp Z.D4.b .nil pass0 (pa_cons (pe_callTy call_list_of (by rfl) Z.mL PyProof.Rows.boot_list (pa_cons (pv 5) pa_nil)) pa_nil)) (pe_tup (pa_cons (pv 6) (pa_cons (pv 7) pa_nil))) (nomark _)) (pw_or (pt_not (pt_val (pe_call Z.G5 r1 (by rfl) Z.D5.m Z.D5.F.kp Z.D5.b .nil pass0 (pa_cons (pv 7) pa_nil)))) (pw_or1 (pt_cmpR (op_neD hu) (pe_call Z.G6 r1 (by rfl) Z.D6.m Z.D6.F.kp Z.D6.b .nil pass0 (pa_cons (pe_call Z.G7 r1 (by rfl) Z.D7.m Z.D7.F.kp Z.D7.b .nil pass0 (pa_cons (pv 5) pa_nil)) pa_nil)) (pv 7) (nomark _)))))) pss_never pss_nil)
      (pss_cons (ps_if (PW.pt (pw_or (pt_cmpR (op_neD hu) (pe_call Z.G4 hr (by rfl) Z.D4.m Z.D4.F.kp Z.D4.b .nil pass0 (pa_cons (pv 7) pa_nil)) (pe_tup (pa_cons (pe_lst pa_nil) (pa_cons (pv 7) pa_nil))) (nomark _)) (pw_or1 (pt_cmpR (op_neD hu) (pe_call Z.G8 hr (by rfl) Z.D8.m Z.D8.F.kp Z.D8.b .nil pass0 (pa_cons (pe_callTy call_list_of (by rfl) Z.mL PyProof.Rows.boot_list (pa_cons (pv 5) pa_nil)) (pa_cons (pv 6) pa_nil))) (pe_tup (pa_cons (pv 7) (pa_cons (pv 8) pa_nil))) (nomark _))))) pss_never pss_nil)
      (pss_cons (ps_set (i := 9) scLaw.nd rfl (.inl rfl) (pe_call Z.G4 hr (by rfl) Z.D4.m Z.D4.F.kp Z.D4.b .nil pass0 (pa_cons (pe_callTy call_list_of (by rfl) Z.mL PyProof.Rows.boot_list (pa_cons (pv 5) pa_nil)) pa_nil)))
      (pss_cons (ps_expr (pe_bm PySem.F.plainAttrs_list PySem.F.slot_list_append PySem.F.type_list_append mt_append (pe_ix ix_tup (pv 9) pe_int (fun _ _ => rfl)) (pa_cons (pe_tup (pa_cons pe_str (pa_cons pe_int pa_nil))) pa_nil)))
      (pss_cons (ps_expr (pe_bm PySem.F.plainAttrs_list PySem.F.slot_list_append PySem.F.type_list_append mt_append (pe_ix ix_tup (pv 9) pe_int (fun _ _ => rfl)) (pa_cons pe_int pa_nil)))
      (pss_cons (ps_set (i := 10) scLaw.nd rfl (.inl rfl) (pe_callTy call_list_of (by rfl) Z.mL PyProof.Rows.boot_list (pa_cons (pv 7) pa_nil)))
      (pss_cons (ps_expr (pe_bm PySem.F.plainAttrs_list PySem.F.slot_list_append PySem.F.type_list_append mt_append (pe_ix ix_tup (pe_call Z.G4 hr (by rfl) Z.D4.m Z.D4.F.kp Z.D4.b .nil pass0 (pa_cons (pv 7) pa_nil)) pe_int (fun _ _ => rfl)) (pa_cons pe_int pa_nil)))
      (pss_cons (ps_if (PW.pt (pw_or (pt_cmpR (op_neD hu) (pv 7) (pv 10) (nomark _)) (pw_or1 (pt_cmpR (op_neD hu) (pe_call Z.G4 hr (by rfl) Z.D4.m Z.D4.F.kp Z.D4.b .nil pass0 (pa_cons (pe_callTy call_list_of (by rfl) Z.mL PyProof.Rows.boot_list (pa_cons (pv 5) pa_nil)) pa_nil)) (pe_tup (pa_cons (pv 6) (pa_cons (pv 7) pa_nil))) (nomark _))))) pss_never pss_nil)
      (pss_one (ps_expr (pe_bm PySem.F.plainAttrs_list PySem.F.slot_list_append PySem.F.type_list_append mt_append (pv 4) (pa_cons (pv 8) pa_nil))))))))))))))
      (pss_cons (ps_if (pt_cmpR op_ne (pe_cmpR (op_eqD hu) (pe_call Z.G7 r1 (by rfl) Z.D7.m Z.D7.F.kp Z.D7.b .nil pass0 (pa_cons (pv 2) pa_nil)) (pe_call Z.G7 r1 (by rfl) Z.D7.m Z.D7.F.kp Z.D7.b .nil pass0 (pa_cons (pv 3) pa_nil)) (nomark _)) (pe_cmpR (op_eqD hu) (pe_ix ix_tup (pe_call Z.G4 hr (by rfl) Z.D4.m Z.D4.F.kp Z.D4.b .nil pass0 (pa_cons (pv 2) pa_nil)) pe_int (fun _ _ => rfl)) (pe_ix ix_tup (pe_call Z.G4 hr (by rfl) Z.D4.m Z.D4.F.kp Z.D4.b .nil pass0 (pa_cons (pv 3) pa_nil)) pe_int (fun _ _ => rfl)) (nomark _)) (nomark _)) pss_never pss_nil)
      (pss_cons (ps_if (pt_cmpR (op_neD hu) (pe_call Z.G7 r1 (by rfl) Z.D7.m Z.D7.F.kp Z.D7.b .nil pass0 (pa_cons (pv 2) pa_nil)) (pe_call Z.G7 r1 (by rfl) Z.D7.m Z.D7.F.kp Z.D7.b .nil pass0 (pa_cons (pv 3) pa_nil)) (nomark _)) (pss_one (ps_ret pe_bl)) pss_nil)
      (pss_cons (ps_setLc (i := 11) (own := [("_law_both", 12)]) (g := gName 12) rfl scLaw.nd rfl rfl (sw_true rfl rfl rfl (by decide +kernel)) (pi_tup (pe_call Z.G9 hr (by rfl) Z.D9.m Z.D9.F.kp Z.D9.b .nil pass0 (pa_cons (pv 3) pa_nil)))
      (blkOk_by (own := [("_law_both", 12)]) (N := nLaw) (sc := defScope sLaw) (by decide +kernel))
      (fun _ _ _ _ _ => pg_name (i := 12) (hf := .inr rfl) scLaw.nd rfl (.inl rfl)) (fun _ _ _ _ _ => pts_nil)
      (fun _ _ _ _ _ => (pe_call Z.G0 r1 (by rfl) Z.D0.m Z.D0.F.kp Z.D0.b .nil pass0 (pa_cons (pv 12) (pa_cons (pe_op op_sub (pe_ix (r := rIxL K) ix_list (pv 4) pe_int (fun _ _ => rfl)) (pe_ix (r := rIxL K) ix_list (pv 4) pe_int (fun _ _ => rfl))) pa_nil)))))
      (pss_one (ps_ret (pe_cmpR (op_eqD hu) (pe_call Z.G9 hr (by rfl) Z.D9.m Z.D9.F.kp Z.D9.b .nil pass0 (pa_cons (pv 2) pa_nil)) (pe_callTy call_tuple_of (by rfl) Z.mt PyProof.Rows.boot_tuple (pa_cons (pv 11) pa_nil)) (nomark _))))))))))))), ?_⟩
  -- the halves
  obtain ⟨hf, hhf, hfn⟩ : ∃ hf : Nat, (((il ns).length : Int) + 1) / 2 = (hf : Int) ∧ hf ≤ ns.length := ⟨(ns.length + 1) / 2, by rw [List.length_map]; omega, by omega⟩
  refine q_asg (v := .int (hf : Int)) (ev_is (ev_op (ev_op (ev_len (K := K) (ev_var rfl) hS) ev_c rv_I0) ev_c (rv_I ⟨by decide, by decide⟩)) (by rw [hhf])) fun H1 e1 => ?_
  have S1 := ex_l e1 hS
  obtain ⟨c1a, c1b⟩ := cellsOf_len (ns.take hf) hf
  refine q_asgX (ex_twists (K := K) (cs := cellsOf (ns.take hf) hf) (el_slNI (K := K) (xs := (ns.take hf ++ [0]).take (max 1 hf)) (el_slNI (K := K) (xs := ns.take hf ++ [0]) (el_catI (el_slI (K := K) (ys := ns.take hf) (ev_var rfl) eo_none (eo_some (ev_var rfl)) S1 (cutI_take rfl)) (el_lst (ea_cons ev_c ea_nil) (show 1 ≤ 100000 by decide) : EvL _ _ _ (il [0])) (by rw [List.length_take]; show _ + 1 ≤ _; omega))
    eo_none (eo_some (ev_max2 ev_c (ev_var rfl))) (cutI_take (max_nat hf))) eo_none (eo_some ev_c) (cutI_take rfl)) (by omega) ev_c) fun v H2 e2 hv => ?_
  obtain ⟨a1, l1, rfl, n1, h1, len1, ab1⟩ := hv
  have S2 := ex_l e2 S1
  obtain ⟨c2a, c2b⟩ := cellsOf_len (ns.drop hf) (ns.length - hf)
  refine q_asgX (ex_twists (K := K) (cs := cellsOf (ns.drop hf) (ns.length - hf)) (el_slNI (K := K) (xs := (ns.drop hf ++ [0]).take (max 1 (ns.length - hf))) (el_slNI (K := K) (xs := ns.drop hf ++ [0]) (el_catI (el_slI (K := K) (ys := ns.drop hf) (ev_var rfl) (eo_some (ev_var rfl)) eo_none S2 (cutI_from rfl rfl)) (el_lst (ea_cons ev_c ea_nil) (show 1 ≤ 100000 by decide) : EvL _ _ _ (il [0])) (by rw [List.length_drop]; show _ + 1 ≤ _; omega))
    eo_none (eo_some (ev_max2 (j := ((ns.length - hf : Nat) : Int)) ev_c (ev_is (ev_op (ev_len (K := K) (ev_var rfl) S2) (ev_var rfl) rv_I0) (by rw [List.length_map]; congr 1; omega)))) (cutI_take (max_nat (ns.length - hf)))) eo_none (eo_some ev_c) (cutI_take rfl)) (by omega) ev_c) fun v H3 e3 hv => ?_
  obtain ⟨a2', l2', rfl, n2, h2, len2, ab2⟩ := hv
  have S3 := ex_l e3 S2
  have h13 := e3 a1 _ h1
  have l1ne : l1 ≠ [] := fun z => by rw [z] at len1; have : (0 : Nat) = _ := len1; omega
  have l2ne : l2' ≠ [] := fun z => by rw [z] at len2; have : (0 : Nat) = _ := len2; omega
  -- the other one
  refine q_cut (M := fun σ2 H4 => ∃ (a2 : Addr) (l2 : List Int), σ2 = [some (.ref a), some (.int (hf : Int)), some (.ref a1), some (.ref a2), none, none, none, none, none, none, none, none, none] ∧ H4 a1 = some (.lst (il l1)) ∧ H4 a2 = some (.lst (il l2)) ∧ l2 ≠ [] ∧ l2.length ≤ 10 ∧ absum l2 ≤ 16) ?_ fun σ2 H4 hM => ?_
  · have hlast : ns ≠ [] → atI (il ns) (-1) = some (.int (ns.getLastD 0)) := fun hne => by
      rcases snoc_cases ns with h | ⟨A, x, h⟩
      · exact absurd h hne
      · rw [h, List.getLastD_concat]; exact at_last
    have hne : decide (0 < ((il ns).length : Int)) = true → ns ≠ [] := fun h z => by subst z; exact absurd h (by decide)
    refine s_when (et_and (et_test (ev_op (ev_len (K := K) (ev_var rfl) S3) ev_c rv_I0)) (fun hp => et_test (ev_op (ev_op (ev_op (ev_var rfl) (ev_un ev_c ru_neg) (rv_ixL S3 (hlast (hne hp)))) ev_c (rv_I (by decide))) ev_c (rv_eq rfl)))) (fun hb H4 e4 => ?_) fun hb H4 e4 => ?_
    · have hp := (Bool.and_eq_true_iff.mp hb).1
      refine s_asgX (ex_call (P := isOt (l1.length + 2) (absum l1 + 4)) mo_Ot (ea_cons (ev_var rfl) (ea_cons (ev_op (ev_op (ev_var rfl) (ev_un ev_c ru_neg) (rv_ixL (ex_l e4 S3) (hlast (hne hp)))) ev_c (rv_I ⟨by decide, by decide⟩)) ea_nil)) fun H5 e5 Q' E' k' => ⟨a1, l1, _, rfl, sq_of ((e4.trans e5) a1 _ h13), l1ne, by omega, k'⟩) fun v H5 e5 hv => ?_
      obtain ⟨a2, l2, rfl, _, h, hne2, hlen, hab⟩ := hv
      exact ⟨a2, l2, rfl, (e4.trans e5) a1 _ h13, h, hne2, by omega, by omega⟩
    · exact ⟨a2', l2', rfl, e4 a1 _ h13, e4 a2' _ h2, l2ne, by omega, by omega⟩
  obtain ⟨a2, l2, rfl, h1w, h2w, l2ne', len2', ab2'⟩ := hM
  obtain ⟨E1, ss1, k1, A1⟩ := eas l1ne (by omega) (show absum l1 ≤ 16 by omega)
  obtain ⟨E2, ss2, k2, A2⟩ := eas l2ne' len2' ab2'
  clear h1 h2 h13 n1 n2 S1 S2 S3 len1 len2 c1a c1b c2a c2b
  refine q_asgL (el_lst ea_nil (Nat.zero_le _)) fun w0 H5 nw e5 hw => ?_
  -- both lists
  refine q_forNLn (K := K) (xs := [.ref a1, .ref a2]) (el_lst (ea_cons (ev_var rfl) (ea_cons (ev_var rfl) ea_nil)) (show 2 ≤ 100000 by decide)) (fun p i σ' H' => ∃ (y5 y6 y7 y8 y9 y10 : Option V), σ' = [some (.ref a), some (.int (hf : Int)), some (.ref a1), some (.ref a2), some (.ref w0), y5, y6, y7, y8, y9, y10, none, none] ∧
      Ex H4 H' ∧ H' p = some (.lst [.ref a1, .ref a2]) ∧ p ≠ w0 ∧ H' w0 = some (.lst (il ([k1, k2].take i)))) (fun p H6 np e6 hp => ⟨none, none, none, none, none, none, rfl, e5.trans e6, hp, (ne_of_none hw np).symm, e6 w0 _ hw⟩) (fun p i σ' H' _ hW => ?_) (fun p i x σ' H' hx hW => ?_) fun p σ' H' hW => ?_
  · obtain ⟨_, _, _, _, _, _, _, _, hp, _⟩ := hW
    exact sq_of hp
  · obtain ⟨y5, y6, y7, y8, y9, y10, rfl, ex, hp, npw, hws⟩ := hW
    obtain ⟨ar, l, e, ss, k, rfl, har, A, hks⟩ : ∃ ar l e ss k, x = .ref ar ∧ H4 ar = some (.lst (il l)) ∧ Eas l e ss k ∧ [k1, k2].take (i + 1) = [k1, k2].take i ++ [k] := by
      match i, hx with
      | 0, hx => exact ⟨a1, l1, E1, ss1, k1, (Option.some.inj hx).symm, h1w, A1, rfl⟩
      | 1, hx => exact ⟨a2, l2, E2, ss2, k2, (Option.some.inj hx).symm, h2w, A2, rfl⟩
      | i + 2, hx => simp at hx
    have few := A.few
    have elen := A.elen
    have shE : SeqAt.shaped (.tuple [dSteps ss, ilD e]) = true := shaped_two (lay_s ss) (lay_l e) (dep_s ss) (dep_l e)
    have shE0 : SeqAt.shaped (.tuple [dSteps [], ilD e]) = true := shaped_two (lay_s []) (lay_l e) (dep_s []) (dep_l e)
    have shP : SeqAt.shaped (.tuple [ilD e, .int k]) = true := shaped_two (lay_l e) rfl (dep_l e) (Nat.zero_le _)
    have hil : ([k1, k2].take i).length ≤ 2 := by rw [List.length_take]; show min i 2 ≤ 2; omega
    refine (ex_call (P := isWalk K ss e k) mo_Walk (ea_cons (ev_var rfl) ea_nil) fun H1 e1 Q' E' k' => ⟨ar, l, e, ss, k, rfl, (ex.trans e1) ar _ har, A.ne, A.go, by omega, k'⟩) H' (Ex.refl _) _ fun v H7 e7 hv => ?_
    obtain ⟨t, s, f, ps, rfl, ht, hs, hps, hfL⟩ := hv
    refine ⟨t, _, rfl, ht, rfl, _, _, rfl, _, _, rfl, _, _, rfl, rfl, ?_⟩
    have ex7 := ex.trans e7
    have hp7 := e7 p _ hp
    have hw7 := e7 w0 _ hws
    clear ht hp hws ex e7
    have har7 := ex7 ar _ har
    -- the first test
    refine q_when (b := false) (et_is (et_or (et_test (ev_neSame shE ((ex_easedN (K := K) A.ne A.go A.few (el_list (K := K) (ev_var rfl) (sq_of har7))).imp fun _ _ _ _ _ hv => isE_D hv) (ex_two (ev_var rfl) (ev_var rfl) (dp_steps hs hps) (dp_ints hfL))))
      (fun _ => et_or (et_not (et_B (ev_lleast hfL A.least A.elen (ev_var rfl)))) (fun _ => et_test (ev_opL1 (xs := il e) (z := .bl (!decide (e = e))) (el_least A (ex_value (sq_of har7) A.num (ev_var rfl))) (fun _ _ => ev_var rfl) (fun p H1 hp e1 => rv_neD (sq_of hp) (ex_l e1 hfL)))))) (by simp)) (fun z => nomatch z) fun _ H8 e8 => ?_
    have hfL8 := ex_l e8 hfL
    have hs8 := ex_l e8 hs
    have hps8 := hps.mono e8
    have har8 := e8 ar _ har7
    -- the second
    refine q_when (b := false) (et_is (et_or (et_test (ev_neSame shE0 ((ex_easedV (K := K) hfL8 A.ene A.again (Nat.zero_le _) (ev_var rfl)).imp fun _ _ _ _ _ hv => isE_D hv) ((ex_tup2 mo_L mo_V (ex_L (el_lst ea_nil (Nat.zero_le _) : EvL _ _ _ (il []))) (ex_V (ev_var rfl))).imp fun H1 v H2 g1 g2 hv => isU2_D (d := ilD []) hv (fun _ hx => isL_D hx) (fun x hx => by
        have hx : x = .ref f := hx
        subst hx
        exact dp_ints (ex_l (g1.trans g2) hfL8)))))
      (fun _ => et_test (ev_neSame shP ((ex_ledN (K := K) A.go hs8 hps8 (el_list (K := K) (ev_var rfl) (sq_of har8)) (ev_var rfl)).imp fun H1 v H2 g1 g2 hv => isU2_D (e := .int k) hv (fun _ hx => isL_D hx) (fun x hx => by
        have hx : x = .int k := hx
        subst hx
        exact .int k)) (ex_two (ev_var rfl) (ev_var rfl) (dp_ints hfL8) (.int k))))) rfl) (fun z => nomatch z) fun _ H9 e9 => ?_
    have e89 := e8.trans e9
    have hfL9 := ex_l e9 hfL8
    have hs9 := ex_l e9 hs8
    have hps9 := hps8.mono e9
    have har9 := e9 ar _ har8
    have ex9 := ex7.trans e89
    have hp9 := e89 p _ hp7
    have hw9 := e89 w0 _ hw7
    clear hfL hs hps har7 hfL8 hs8 hps8 har8 ex7 hp7 hw7 e89 e8 e9
    -- found, changed
    refine q_asgX (ex_easedN (K := K) A.ne A.go A.few (el_list (K := K) (ev_var rfl) (sq_of har9))) fun v H10 e10 hv => ?_
    obtain ⟨t2, x2, y2, rfl, _, ht2, ⟨s2, ps2, rfl, ns2, hs2, hps2⟩, ⟨f2, rfl, nf2, hf2⟩⟩ := hv
    have nfs2 : f2 ≠ s2 := ne_of hf2 hs2 (fun z => by
      have z : il e = ps2.map V.ref := HO.lst.inj z
      match e, A.ene, ps2, z with
      | [], h, _, _ => exact h rfl
      | _ :: _, _, [], z => cases z
      | _ :: _, _, _ :: _, z => cases z)
    have nts2 : t2 ≠ s2 := ne_of ht2 hs2 (by intro z; cases z)
    have ntf2 : t2 ≠ f2 := ne_of ht2 hf2 (by intro z; cases z)
    refine q_appU (K := K) hs2 (ev_op (ev_var rfl) ev_c (rv_ixT (st_of ht2) (atI_nat (j := 0) rfl))) (eu_tup (ea_cons ev_c (ea_cons ev_c ea_nil)) (show 2 ≤ 100000 by decide)) (by rw [List.length_map, hps2.len]; omega) fun p1 H11 np1 e11 hp1 => ?_
    have ex11 : Ex H9 (upd H11 s2 (.lst (ps2.map V.ref ++ [.ref p1]))) := (e10.trans e11).mut ns2
    have ht11 : (upd H11 s2 (.lst (ps2.map V.ref ++ [.ref p1]))) t2 = some (.tup [.ref s2, .ref f2]) := by rw [upd_ne nts2]; exact e11 t2 _ ht2
    have hf11 : (upd H11 s2 (.lst (ps2.map V.ref ++ [.ref p1]))) f2 = some (.lst (il e)) := by rw [upd_ne nfs2]; exact e11 f2 _ hf2
    generalize upd H11 s2 (.lst (ps2.map V.ref ++ [.ref p1])) = H12 at ex11 ht11 hf11 ⊢
    refine q_app (K := K) hf11 (ev_op (ev_var rfl) ev_c (rv_ixT (st_of ht11) (atI_nat (j := 1) rfl))) ev_c (by rw [List.length_map]; omega) fun H13 e13 => ?_
    have ex13 : Ex H9 (upd H13 f2 (.lst (il e ++ [.int 7]))) := (ex11.trans e13).mut nf2
    generalize upd H13 f2 (.lst (il e ++ [.int 7])) = H14 at ex13 ⊢
    -- least_here, eased(end) changed
    refine q_asgL (el_list (K := K) (ev_var rfl) (ex_l ex13 hfL9)) fun p10 H15 np10 e15 h10 => ?_
    have ex15 := ex13.trans e15
    refine q_appN (K := K) (xs := il e) (ex_ix1 (K := K) (P := isL (il e)) mo_E (fun H1 v H2 hv => by
      obtain ⟨t', x', y', rfl, _, c', _, d'⟩ := hv
      exact ⟨t', [x', y'], y', rfl, st_of c', rfl, d'⟩) (ex_easedV (K := K) (ex_l ex15 hfL9) A.ene A.again (Nat.zero_le _) (ev_var rfl))) ev_c (by rw [List.length_map]; omega) fun p11 H16 np11 e16 => ?_
    have ex16 : Ex H15 (upd H16 p11 (.lst (il e ++ [.int 7]))) := e16.mut np11
    generalize upd H16 p11 (.lst (il e ++ [.int 7])) = H17 at ex16 ⊢
    have ex17 := ex15.trans ex16
    have hfL17 := ex_l ex17 hfL9
    -- the third
    refine q_when (b := false) (et_is (et_or (et_test (ev_op (ev_var rfl) (ev_var rfl) (rv_neD hfL17 (sq_of (ex16 p10 _ h10))))) (fun _ => et_test (ev_neSame shE ((ex_easedN (K := K) A.ne A.go A.few (el_list (K := K) (ev_var rfl) (sq_of (ex17 ar _ har9)))).imp fun _ _ _ _ _ hv => isE_D hv) (ex_two (ev_var rfl) (ev_var rfl) (dp_steps (ex_l ex17 hs9) (hps9.mono ex17)) (dp_ints hfL17))))) (by simp)) (fun z => nomatch z) fun _ H18 e18 => ?_
    have ex18 := ex17.trans e18
    -- weights
    refine s_app (K := K) (ex18 w0 _ hw9) (ev_var rfl) (ev_var rfl) (by rw [List.length_map]; omega) fun H19 e19 => ?_
    refine ⟨_, _, _, _, _, _, rfl, ((ex9.trans ex18).trans e19).mut nw, ?_, npw, ?_⟩
    · rw [upd_ne npw]; exact (ex18.trans e19) p _ hp9
    · rw [upd_same, hks]
      unfold il
      rw [List.map_append]; rfl
  · obtain ⟨y5, y6, y7, y8, y9, y10, rfl, ex, hp, npw, hws⟩ := hW
    have h1' := ex a1 _ h1w
    have h2' := ex a2 _ h2w
    have pick : ∀ (H : Hp) (e : List Int) (ss : List (Wd × Nat)) (σ : L2.St) (te : TE), EvX te σ H (isE K ss e) → EvL (tOp (rIxT K) te (tC (.int 1))) σ H (il e) := fun H e ss σ te h =>
      el_X (ex_ix1 (K := K) (P := isL (il e)) mo_E (fun H1 v H2 hv => by
        obtain ⟨t', x', y', rfl, _, c', _, d'⟩ := hv
        exact ⟨t', [x', y'], y', rfl, st_of c', rfl, d'⟩) h)
    have hiff := eas_iff A1 A2
    refine q_when (b := false) (et_is (et_test (ev_op (ev_eqPair (K := K) (ex_value (sq_of h1') A1.num (ev_var rfl)) (ex_value (sq_of h2') A2.num (ev_var rfl))) (ev_eqLL (K := K) (pick _ _ _ _ _ (ex_easedV (K := K) (sq_of h1') A1.ne A1.go A1.few (ev_var rfl))) (pick _ _ _ _ _ (ex_easedV (K := K) (sq_of h2') A2.ne A2.go A2.few (ev_var rfl)))) (rv_ne rfl))) (by
      by_cases c : E1 = E2
      · rw [decide_eq_true c, decide_eq_true (hiff.mpr c)]; rfl
      · rw [decide_eq_false c, decide_eq_false (fun z => c (hiff.mp z))]; rfl)) (fun z => nomatch z) fun _ H6 e6 => ?_
    refine q_when (et_test (ev_nePair (K := K) (ex_value (sq_of (e6 a1 _ h1')) A1.num (ev_var rfl)) (ex_value (sq_of (e6 a2 _ h2')) A2.num (ev_var rfl)))) (fun hb H7 e7 => s_ret ev_c fun H8 _ => q H8) fun hb H7 e7 => ?_
    have hval : val l1 = val l2 := by
      by_cases c : val l1 = val l2
      · exact c
      · rw [decide_eq_false c] at hb; cases hb
    have hE := hiff.mp hval
    subst hE
    have e67 := e6.trans e7
    have hw7 := e67 w0 _ hws
    refine q_asgX (ex_lcRaise (K := K) (n := absum l2) (s := sem l2) (hh := k1 - k2) (by omega) (ex_sums (sq_of (e67 a2 _ h2')) A2.ne A2.ab (ev_var rfl)) (fun _ => rfl) (fun b p' H8 e8 hbp hpz => ex_call mo_Poly (ea_cons (ev_var rfl) (ea_cons (ev_op (ev_op (ev_var rfl) ev_c (rv_ixL (sq_of (e8 w0 _ hw7)) (at_il (j := 0) rfl rfl))) (ev_op (ev_var rfl) ev_c (rv_ixL (sq_of (e8 w0 _ hw7)) (at_il (j := 1) rfl rfl))) rv_I0) ea_nil)) fun H9 e9 Q' E' k' => ⟨b, p', k1 - k2, rfl, hbp.mono e9, hpz, k'⟩)) fun v H8 e8 hv => ?_
    obtain ⟨R, q1, q2, p1, u1, rfl, hR, hq1, hq2, hrep⟩ := hv
    exact s_ret (ev_eqRaise (K := K) (ex_sums (sq_of ((e67.trans e8) a1 _ h1')) A1.ne A1.ab (ev_var rfl)) (eu_tupleOf (K := K) (ev_var rfl) (sq_of hR)) hq1 hq2 hrep (sem_two A1.go A2.go)) fun H9 _ => q H9
end
end Tw
/-! #### WEnd -/
namespace Tw
open PySem PySem.Spec PyProof.Rows L2 Evl
/-! ### what the top has written -/
theorem all_mk {l : PySem.W.OpenLaw} {w : World} {K : PySem.W.Frag} {h : Heap} {mg : Str → Option Value} {fa f1 f2 f3 f4 f5 f6 f7 f8 f9 f10 f11 f12 f13 f14 f15 f16 f17 f18 f19 f20 f21 f22 f23 f24 f25 f26 : Addr} (X : K.In h) (G : h.Ns mainGlobals mg) (hfa : mg "law" = some (.ref fa))
    {od1 an1 od2 an2 od3 an3 od4 an4 od5 an5 od6 an6 od7 an7 od8 an8 od9 an9 od10 an10 od11 an11 od12 an12 od13 an13 od14 an14 od15 an15 od16 an16 od17 an17 od18 an18 od19 an19 od20 an20 od21 an21 od22 an22 od23 an23 od24 an24 od25 an25 od26 an26 : Option Addr} {sl1 sl2 sl3 sl4 sl5 sl6 sl7 sl8 sl9 sl10 sl11 sl12 sl13 sl14 sl15 sl16 sl17 sl18 sl19 sl20 sl21 sl22 sl23 sl24 sl25 sl26 : Array (Option Value)} {oc1 kV1 dc1 pm1 cd1 ct1 oc2 kV2 dc2 pm2 cd2 ct2 oc3 kV3 dc3 pm3 cd3 ct3 oc4 kV4 dc4 pm4 cd4 ct4 oc5 kV5 dc5 pm5 cd5 ct5 oc6 kV6 dc6 pm6 cd6 ct6 oc7 kV7 dc7 pm7 cd7 ct7 oc8 kV8 dc8 pm8 cd8 ct8 oc9 kV9 dc9 pm9 cd9 ct9 oc10 kV10 dc10 pm10 cd10 ct10 oc11 kV11 dc11 pm11 cd11 ct11 oc12 kV12 dc12 pm12 cd12 ct12 oc13 kV13 dc13 pm13 cd13 ct13 oc14 kV14 dc14 pm14 cd14 ct14 oc15 kV15 dc15 pm15 cd15 ct15 oc16 kV16 dc16 pm16 cd16 ct16 oc17 kV17 dc17 pm17 cd17 ct17 oc18 kV18 dc18 pm18 cd18 ct18 oc19 kV19 dc19 pm19 cd19 ct19 oc20 kV20 dc20 pm20 cd20 ct20 oc21 kV21 dc21 pm21 cd21 ct21 oc22 kV22 dc22 pm22 cd22 ct22 oc23 kV23 dc23 pm23 cd23 ct23 oc24 kV24 dc24 pm24 cd24 ct24 oc25 kV25 dc25 pm25 cd25 ct25 oc26 kV26 dc26 pm26 cd26 ct26 : Value}
    (a1 : PySem.W.nsIn K mainGlobals "less_beside" = some (some (.ref f1))) (l1 : K.lookup f1 = some ⟨oc1, od1, .func (PySem.W.fnOf "less_beside" "less_beside" (defArgs sBeside) (defBody sBeside) (defScope sBeside) .none kV1 dc1 pm1 an1 cd1 ct1), sl1⟩) (c1 : PySem.W.codeIn K cd1 "less_beside" = true) (k1 : PySem.W.keepIn K (.ref f1) = true)
    (a2 : PySem.W.nsIn K mainGlobals "by_one" = some (some (.ref f2))) (l2 : K.lookup f2 = some ⟨oc2, od2, .func (PySem.W.fnOf "by_one" "by_one" (defArgs sByOne) (defBody sByOne) (defScope sByOne) .none kV2 dc2 pm2 an2 cd2 ct2), sl2⟩) (c2 : PySem.W.codeIn K cd2 "by_one" = true) (k2 : PySem.W.keepIn K (.ref f2) = true)
    (a3 : PySem.W.nsIn K mainGlobals "by_less" = some (some (.ref f3))) (l3 : K.lookup f3 = some ⟨oc3, od3, .func (PySem.W.fnOf "by_less" "by_less" (defArgs sByLess) (defBody sByLess) (defScope sByLess) .none kV3 dc3 pm3 an3 cd3 ct3), sl3⟩) (c3 : PySem.W.codeIn K cd3 "by_less" = true) (k3 : PySem.W.keepIn K (.ref f3) = true)
    (a4 : PySem.W.nsIn K mainGlobals "by_nought" = some (some (.ref f4))) (l4 : K.lookup f4 = some ⟨oc4, od4, .func (PySem.W.fnOf "by_nought" "by_nought" (defArgs sByNought) (defBody sByNought) (defScope sByNought) .none kV4 dc4 pm4 an4 cd4 ct4), sl4⟩) (c4 : PySem.W.codeIn K cd4 "by_nought" = true) (k4 : PySem.W.keepIn K (.ref f4) = true)
    (a5 : PySem.W.nsIn K mainGlobals "by_loose" = some (some (.ref f5))) (l5 : K.lookup f5 = some ⟨oc5, od5, .func (PySem.W.fnOf "by_loose" "by_loose" (defArgs sByLoose) (defBody sByLoose) (defScope sByLoose) .none kV5 dc5 pm5 an5 cd5 ct5), sl5⟩) (c5 : PySem.W.codeIn K cd5 "by_loose" = true) (k5 : PySem.W.keepIn K (.ref f5) = true)
    (a6 : PySem.W.nsIn K mainGlobals "by_split" = some (some (.ref f6))) (l6 : K.lookup f6 = some ⟨oc6, od6, .func (PySem.W.fnOf "by_split" "by_split" (defArgs sBySplit) (defBody sBySplit) (defScope sBySplit) .none kV6 dc6 pm6 an6 cd6 ct6), sl6⟩) (c6 : PySem.W.codeIn K cd6 "by_split" = true) (k6 : PySem.W.keepIn K (.ref f6) = true)
    (a7 : PySem.W.nsIn K mainGlobals "fits" = some (some (.ref f7))) (l7 : K.lookup f7 = some ⟨oc7, od7, .func (PySem.W.fnOf "fits" "fits" (defArgs sFits) (defBody sFits) (defScope sFits) .none kV7 dc7 pm7 an7 cd7 ct7), sl7⟩) (c7 : PySem.W.codeIn K cd7 "fits" = true) (k7 : PySem.W.keepIn K (.ref f7) = true)
    (a8 : PySem.W.nsIn K mainGlobals "step" = some (some (.ref f8))) (l8 : K.lookup f8 = some ⟨oc8, od8, .func (PySem.W.fnOf "step" "step" (defArgs sStep) (defBody sStep) (defScope sStep) .none kV8 dc8 pm8 an8 cd8 ct8), sl8⟩) (c8 : PySem.W.codeIn K cd8 "step" = true) (k8 : PySem.W.keepIn K (.ref f8) = true)
    (a9 : PySem.W.nsIn K mainGlobals "led" = some (some (.ref f9))) (l9 : K.lookup f9 = some ⟨oc9, od9, .func (PySem.W.fnOf "led" "led" (defArgs sLed) (defBody sLed) (defScope sLed) .none kV9 dc9 pm9 an9 cd9 ct9), sl9⟩) (c9 : PySem.W.codeIn K cd9 "led" = true) (k9 : PySem.W.keepIn K (.ref f9) = true)
    (a10 : PySem.W.nsIn K mainGlobals "least_list" = some (some (.ref f10))) (l10 : K.lookup f10 = some ⟨oc10, od10, .func (PySem.W.fnOf "least_list" "least_list" (defArgs sLeast) (defBody sLeast) (defScope sLeast) .none kV10 dc10 pm10 an10 cd10 ct10), sl10⟩) (c10 : PySem.W.codeIn K cd10 "least_list" = true) (k10 : PySem.W.keepIn K (.ref f10) = true)
    (a11 : PySem.W.nsIn K mainGlobals "next_step" = some (some (.ref f11))) (l11 : K.lookup f11 = some ⟨oc11, od11, .func (PySem.W.fnOf "next_step" "next_step" (defArgs sNext) (defBody sNext) (defScope sNext) .none kV11 dc11 pm11 an11 cd11 ct11), sl11⟩) (c11 : PySem.W.codeIn K cd11 "next_step" = true) (k11 : PySem.W.keepIn K (.ref f11) = true)
    (a12 : PySem.W.nsIn K mainGlobals "eased" = some (some (.ref f12))) (l12 : K.lookup f12 = some ⟨oc12, od12, .func (PySem.W.fnOf "eased" "eased" (defArgs sEased) (defBody sEased) (defScope sEased) .none kV12 dc12 pm12 an12 cd12 ct12), sl12⟩) (c12 : PySem.W.codeIn K cd12 "eased" = true) (k12 : PySem.W.keepIn K (.ref f12) = true)
    (a13 : PySem.W.nsIn K mainGlobals "gathered" = some (some (.ref f13))) (l13 : K.lookup f13 = some ⟨oc13, od13, .func (PySem.W.fnOf "gathered" "gathered" (defArgs sGathered) (defBody sGathered) (defScope sGathered) .none kV13 dc13 pm13 an13 cd13 ct13), sl13⟩) (c13 : PySem.W.codeIn K cd13 "gathered" = true) (k13 : PySem.W.keepIn K (.ref f13) = true)
    (a14 : PySem.W.nsIn K mainGlobals "minus" = some (some (.ref f14))) (l14 : K.lookup f14 = some ⟨oc14, od14, .func (PySem.W.fnOf "minus" "minus" (defArgs sMinus) (defBody sMinus) (defScope sMinus) .none kV14 dc14 pm14 an14 cd14 ct14), sl14⟩) (c14 : PySem.W.codeIn K cd14 "minus" = true) (k14 : PySem.W.keepIn K (.ref f14) = true)
    (a15 : PySem.W.nsIn K mainGlobals "lifted" = some (some (.ref f15))) (l15 : K.lookup f15 = some ⟨oc15, od15, .func (PySem.W.fnOf "lifted" "lifted" (defArgs sLifted) (defBody sLifted) (defScope sLifted) .none kV15 dc15 pm15 an15 cd15 ct15), sl15⟩) (c15 : PySem.W.codeIn K cd15 "lifted" = true) (k15 : PySem.W.keepIn K (.ref f15) = true)
    (a16 : PySem.W.nsIn K mainGlobals "value" = some (some (.ref f16))) (l16 : K.lookup f16 = some ⟨oc16, od16, .func (PySem.W.fnOf "value" "value" (defArgs sValue) (defBody sValue) (defScope sValue) .none kV16 dc16 pm16 an16 cd16 ct16), sl16⟩) (c16 : PySem.W.codeIn K cd16 "value" = true) (k16 : PySem.W.keepIn K (.ref f16) = true)
    (a17 : PySem.W.nsIn K mainGlobals "half_twist" = some (some (.ref f17))) (l17 : K.lookup f17 = some ⟨oc17, od17, .func (PySem.W.fnOf "half_twist" "half_twist" (defArgs sHalf) (defBody sHalf) (defScope sHalf) .none kV17 dc17 pm17 an17 cd17 ct17), sl17⟩) (c17 : PySem.W.codeIn K cd17 "half_twist" = true) (k17 : PySem.W.keepIn K (.ref f17) = true)
    (a18 : PySem.W.nsIn K mainGlobals "twisted_sums" = some (some (.ref f18))) (l18 : K.lookup f18 = some ⟨oc18, od18, .func (PySem.W.fnOf "twisted_sums" "twisted_sums" (defArgs sSums) (defBody sSums) (defScope sSums) .none kV18 dc18 pm18 an18 cd18 ct18), sl18⟩) (c18 : PySem.W.codeIn K cd18 "twisted_sums" = true) (k18 : PySem.W.keepIn K (.ref f18) = true)
    (a19 : PySem.W.nsIn K mainGlobals "_law_twists" = some (some (.ref f19))) (l19 : K.lookup f19 = some ⟨oc19, od19, .func (PySem.W.fnOf "_law_twists" "_law_twists" (defArgs sTwists) (defBody sTwists) (defScope sTwists) .none kV19 dc19 pm19 an19 cd19 ct19), sl19⟩) (c19 : PySem.W.codeIn K cd19 "_law_twists" = true) (k19 : PySem.W.keepIn K (.ref f19) = true)
    (a20 : PySem.W.nsIn K mainGlobals "_law_step" = some (some (.ref f20))) (l20 : K.lookup f20 = some ⟨oc20, od20, .func (PySem.W.fnOf "_law_step" "_law_step" (defArgs sLStep) (defBody sLStep) (defScope sLStep) .none kV20 dc20 pm20 an20 cd20 ct20), sl20⟩) (c20 : PySem.W.codeIn K cd20 "_law_step" = true) (k20 : PySem.W.keepIn K (.ref f20) = true)
    (a21 : PySem.W.nsIn K mainGlobals "_law_lifted" = some (some (.ref f21))) (l21 : K.lookup f21 = some ⟨oc21, od21, .func (PySem.W.fnOf "_law_lifted" "_law_lifted" (defArgs sLLifted) (defBody sLLifted) (defScope sLLifted) .none kV21 dc21 pm21 an21 cd21 ct21), sl21⟩) (c21 : PySem.W.codeIn K cd21 "_law_lifted" = true) (k21 : PySem.W.keepIn K (.ref f21) = true)
    (a22 : PySem.W.nsIn K mainGlobals "_law_next" = some (some (.ref f22))) (l22 : K.lookup f22 = some ⟨oc22, od22, .func (PySem.W.fnOf "_law_next" "_law_next" (defArgs sLNext) (defBody sLNext) (defScope sLNext) .none kV22 dc22 pm22 an22 cd22 ct22), sl22⟩) (c22 : PySem.W.codeIn K cd22 "_law_next" = true) (k22 : PySem.W.keepIn K (.ref f22) = true)
    (a23 : PySem.W.nsIn K mainGlobals "_law_walked" = some (some (.ref f23))) (l23 : K.lookup f23 = some ⟨oc23, od23, .func (PySem.W.fnOf "_law_walked" "_law_walked" (defArgs sWalked) (defBody sWalked) (defScope sWalked) .none kV23 dc23 pm23 an23 cd23 ct23), sl23⟩) (c23 : PySem.W.codeIn K cd23 "_law_walked" = true) (k23 : PySem.W.keepIn K (.ref f23) = true)
    (a24 : PySem.W.nsIn K mainGlobals "_law_least" = some (some (.ref f24))) (l24 : K.lookup f24 = some ⟨oc24, od24, .func (PySem.W.fnOf "_law_least" "_law_least" (defArgs sLLeast) (defBody sLLeast) (defScope sLLeast) .none kV24 dc24 pm24 an24 cd24 ct24), sl24⟩) (c24 : PySem.W.codeIn K cd24 "_law_least" = true) (k24 : PySem.W.keepIn K (.ref f24) = true)
    (a25 : PySem.W.nsIn K mainGlobals "_law_other" = some (some (.ref f25))) (l25 : K.lookup f25 = some ⟨oc25, od25, .func (PySem.W.fnOf "_law_other" "_law_other" (defArgs sOther) (defBody sOther) (defScope sOther) .none kV25 dc25 pm25 an25 cd25 ct25), sl25⟩) (c25 : PySem.W.codeIn K cd25 "_law_other" = true) (k25 : PySem.W.keepIn K (.ref f25) = true)
    (a26 : PySem.W.nsIn K mainGlobals "law" = some (some (.ref f26))) (l26 : K.lookup f26 = some ⟨oc26, od26, .func (PySem.W.fnOf "law" "law" (defArgs sLaw) (defBody sLaw) (defScope sLaw) .none kV26 dc26 pm26 an26 cd26 ct26), sl26⟩) (c26 : PySem.W.codeIn K cd26 "law" = true) (k26 : PySem.W.keepIn K (.ref f26) = true)
    (z1 : PySem.W.nsIn K mainGlobals "list" = some none) (z2 : PySem.W.nsIn K mainGlobals "len" = some none) (z3 : PySem.W.nsIn K mainGlobals "int" = some none) (z4 : PySem.W.nsIn K mainGlobals "range" = some none) (z5 : PySem.W.nsIn K mainGlobals "tuple" = some none) (z6 : PySem.W.nsIn K mainGlobals "sorted" = some none) (z7 : PySem.W.nsIn K mainGlobals "enumerate" = some none) (z8 : PySem.W.nsIn K mainGlobals "abs" = some none) (z9 : PySem.W.nsIn K mainGlobals "max" = some none) :
    ∃ fd : FuncData, (∀ (s : Shared) (v : Value), BindsTo s fd ⟨[v], []⟩ [("_law_script", v)]) ∧ ∀ base : Heap, K.In base → base.Ns mainGlobals mg → FnOk l.prog w K mg base CX0 5 fa fd ["_law_script"] (spLaw K) := by
  have e := hfa.symm.trans (PySem.W.mg_of X G a26)
  cases e
  have F1 := fun_mk (st := sBeside) l1 c1 k1
  have F2 := fun_mk (st := sByOne) l2 c2 k2
  have F3 := fun_mk (st := sByLess) l3 c3 k3
  have F4 := fun_mk (st := sByNought) l4 c4 k4
  have F5 := fun_mk (st := sByLoose) l5 c5 k5
  have F6 := fun_mk (st := sBySplit) l6 c6 k6
  have F7 := fun_mk (st := sFits) l7 c7 k7
  have F8 := fun_mk (st := sStep) l8 c8 k8
  have F9 := fun_mk (st := sLed) l9 c9 k9
  have F10 := fun_mk (st := sLeast) l10 c10 k10
  have F11 := fun_mk (st := sNext) l11 c11 k11
  have F12 := fun_mk (st := sEased) l12 c12 k12
  have F13 := fun_mk (st := sGathered) l13 c13 k13
  have F14 := fun_mk (st := sMinus) l14 c14 k14
  have F15 := fun_mk (st := sLifted) l15 c15 k15
  have F16 := fun_mk (st := sValue) l16 c16 k16
  have F17 := fun_mk (st := sHalf) l17 c17 k17
  have F18 := fun_mk (st := sSums) l18 c18 k18
  have F19 := fun_mk (st := sTwists) l19 c19 k19
  have F20 := fun_mk (st := sLStep) l20 c20 k20
  have F21 := fun_mk (st := sLLifted) l21 c21 k21
  have F22 := fun_mk (st := sLNext) l22 c22 k22
  have F23 := fun_mk (st := sWalked) l23 c23 k23
  have F24 := fun_mk (st := sLLeast) l24 c24 k24
  have F25 := fun_mk (st := sOther) l25 c25 k25
  have F26 := fun_mk (st := sLaw) l26 c26 k26
  have D1 : Fd K mg "less_beside" sBeside ["twists", "at", "by"] f1 _ := ⟨F1, F1.binds (ps := ["twists", "at", "by"]) fun _ _ _ _ _ _ us hl => match us, hl with | [_, _, _], _ => rfl, PySem.W.mg_of X G a1⟩
  have D2 : Fd K mg "by_one" sByOne ["twists", "at"] f2 _ := ⟨F2, F2.binds (ps := ["twists", "at"]) fun _ _ _ _ _ _ us hl => match us, hl with | [_, _], _ => rfl, PySem.W.mg_of X G a2⟩
  have D3 : Fd K mg "by_less" sByLess ["twists", "at"] f3 _ := ⟨F3, F3.binds (ps := ["twists", "at"]) fun _ _ _ _ _ _ us hl => match us, hl with | [_, _], _ => rfl, PySem.W.mg_of X G a3⟩
  have D4 : Fd K mg "by_nought" sByNought ["twists", "at"] f4 _ := ⟨F4, F4.binds (ps := ["twists", "at"]) fun _ _ _ _ _ _ us hl => match us, hl with | [_, _], _ => rfl, PySem.W.mg_of X G a4⟩
  have D5 : Fd K mg "by_loose" sByLoose ["twists", "at"] f5 _ := ⟨F5, F5.binds (ps := ["twists", "at"]) fun _ _ _ _ _ _ us hl => match us, hl with | [_, _], _ => rfl, PySem.W.mg_of X G a5⟩
  have D6 : Fd K mg "by_split" sBySplit ["twists", "at"] f6 _ := ⟨F6, F6.binds (ps := ["twists", "at"]) fun _ _ _ _ _ _ us hl => match us, hl with | [_, _], _ => rfl, PySem.W.mg_of X G a6⟩
  have D7 : Fd K mg "fits" sFits ["word", "number"] f7 _ := ⟨F7, F7.binds (ps := ["word", "number"]) fun _ _ _ _ _ _ us hl => match us, hl with | [_, _], _ => rfl, PySem.W.mg_of X G a7⟩
  have D8 : Fd K mg "step" sStep ["twists", "one"] f8 _ := ⟨F8, F8.binds (ps := ["twists", "one"]) fun _ _ _ _ _ _ us hl => match us, hl with | [_, _], _ => rfl, PySem.W.mg_of X G a8⟩
  have D9 : Fd K mg "led" sLed ["twists", "steps"] f9 _ := ⟨F9, F9.binds (ps := ["twists", "steps"]) fun _ _ _ _ _ _ us hl => match us, hl with | [_, _], _ => rfl, PySem.W.mg_of X G a9⟩
  have D10 : Fd K mg "least_list" sLeast ["fraction"] f10 _ := ⟨F10, F10.binds (ps := ["fraction"]) fun _ _ _ _ _ _ us hl => match us, hl with | [_], _ => rfl, PySem.W.mg_of X G a10⟩
  have D11 : Fd K mg "next_step" sNext ["twists"] f11 _ := ⟨F11, F11.binds (ps := ["twists"]) fun _ _ _ _ _ _ us hl => match us, hl with | [_], _ => rfl, PySem.W.mg_of X G a11⟩
  have D12 : Fd K mg "eased" sEased ["twists"] f12 _ := ⟨F12, F12.binds (ps := ["twists"]) fun _ _ _ _ _ _ us hl => match us, hl with | [_], _ => rfl, PySem.W.mg_of X G a12⟩
  have D13 : Fd K mg "gathered" sGathered ["terms"] f13 _ := ⟨F13, F13.binds (ps := ["terms"]) fun _ _ _ _ _ _ us hl => match us, hl with | [_], _ => rfl, PySem.W.mg_of X G a13⟩
  have D14 : Fd K mg "minus" sMinus ["one", "other"] f14 _ := ⟨F14, F14.binds (ps := ["one", "other"]) fun _ _ _ _ _ _ us hl => match us, hl with | [_, _], _ => rfl, PySem.W.mg_of X G a14⟩
  have D15 : Fd K mg "lifted" sLifted ["one", "many"] f15 _ := ⟨F15, F15.binds (ps := ["one", "many"]) fun _ _ _ _ _ _ us hl => match us, hl with | [_, _], _ => rfl, PySem.W.mg_of X G a15⟩
  have D16 : Fd K mg "value" sValue ["twists"] f16 _ := ⟨F16, F16.binds (ps := ["twists"]) fun _ _ _ _ _ _ us hl => match us, hl with | [_], _ => rfl, PySem.W.mg_of X G a16⟩
  have D17 : Fd K mg "half_twist" sHalf ["level", "upright", "way"] f17 _ := ⟨F17, F17.binds (ps := ["level", "upright", "way"]) fun _ _ _ _ _ _ us hl => match us, hl with | [_, _, _], _ => rfl, PySem.W.mg_of X G a17⟩
  have D18 : Fd K mg "twisted_sums" sSums ["twists"] f18 _ := ⟨F18, F18.binds (ps := ["twists"]) fun _ _ _ _ _ _ us hl => match us, hl with | [_], _ => rfl, PySem.W.mg_of X G a18⟩
  have D19 : Fd K mg "_law_twists" sTwists ["_law_cells", "_law_most"] f19 _ := ⟨F19, F19.binds (ps := ["_law_cells", "_law_most"]) fun _ _ _ _ _ _ us hl => match us, hl with | [_, _], _ => rfl, PySem.W.mg_of X G a19⟩
  have D20 : Fd K mg "_law_step" sLStep ["_law_twists_here", "_law_word", "_law_at"] f20 _ := ⟨F20, F20.binds (ps := ["_law_twists_here", "_law_word", "_law_at"]) fun _ _ _ _ _ _ us hl => match us, hl with | [_, _, _], _ => rfl, PySem.W.mg_of X G a20⟩
  have D21 : Fd K mg "_law_lifted" sLLifted ["_law_one", "_law_heft"] f21 _ := ⟨F21, F21.binds (ps := ["_law_one", "_law_heft"]) fun _ _ _ _ _ _ us hl => match us, hl with | [_, _], _ => rfl, PySem.W.mg_of X G a21⟩
  have D22 : Fd K mg "_law_next" sLNext ["_law_twists_here"] f22 _ := ⟨F22, F22.binds (ps := ["_law_twists_here"]) fun _ _ _ _ _ _ us hl => match us, hl with | [_], _ => rfl, PySem.W.mg_of X G a22⟩
  have D23 : Fd K mg "_law_walked" sWalked ["_law_twists_here"] f23 _ := ⟨F23, F23.binds (ps := ["_law_twists_here"]) fun _ _ _ _ _ _ us hl => match us, hl with | [_], _ => rfl, PySem.W.mg_of X G a23⟩
  have D24 : Fd K mg "_law_least" sLLeast ["_law_twists_here"] f24 _ := ⟨F24, F24.binds (ps := ["_law_twists_here"]) fun _ _ _ _ _ _ us hl => match us, hl with | [_], _ => rfl, PySem.W.mg_of X G a24⟩
  have D25 : Fd K mg "_law_other" sOther ["_law_twists_here", "_law_cell"] f25 _ := ⟨F25, F25.binds (ps := ["_law_twists_here", "_law_cell"]) fun _ _ _ _ _ _ us hl => match us, hl with | [_, _], _ => rfl, PySem.W.mg_of X G a25⟩
  have m1 := PySem.W.mg_none_of X G z1
  have m2 := PySem.W.mg_none_of X G z2
  have m3 := PySem.W.mg_none_of X G z3
  have m4 := PySem.W.mg_none_of X G z4
  have m5 := PySem.W.mg_none_of X G z5
  have m6 := PySem.W.mg_none_of X G z6
  have m7 := PySem.W.mg_none_of X G z7
  have m8 := PySem.W.mg_none_of X G z8
  have m9 := PySem.W.mg_none_of X G z9
  refine ⟨PySem.W.fnOf "law" "law" (defArgs sLaw) (defBody sLaw) (defScope sLaw) .none kV26 dc26 pm26 an26 cd26 ct26, fun s v => .of_eq rfl, fun base _ _ => ?_⟩
  have G1 := ok_beside (P := l.prog) (w := w) (mg := mg) (base := base) F1 m1
  have G2 := ok_byOne (P := l.prog) (w := w) (mg := mg) (base := base) F2 D1 G1 m3
  have G3 := ok_byLess (P := l.prog) (w := w) (mg := mg) (base := base) F3 D1 G1 m3
  have G4 := ok_byNought (P := l.prog) (w := w) (mg := mg) (base := base) F4 m2
  have G5 := ok_byLoose (P := l.prog) (w := w) (mg := mg) (base := base) F5
  have G6 := ok_bySplit (P := l.prog) (w := w) (mg := mg) (base := base) F6
  have G7 := ok_fits (P := l.prog) (w := w) (mg := mg) (base := base) F7
  have G8 := ok_step (P := l.prog) (w := w) (mg := mg) (base := base) F8 ⟨D2, G2, D3, G3, D4, G4, D5, G5, D6, G6, D7, G7⟩ m2 m1
  have G9 := ok_led (P := l.prog) (w := w) (mg := mg) (base := base) F9 D8 G8 m1
  have G10 := ok_least (P := l.prog) (w := w) (mg := mg) (base := base) F10
  have G11 := ok_next (P := l.prog) (w := w) (mg := mg) (base := base) F11 m2 m4
  have G12 := ok_eased (P := l.prog) (w := w) (mg := mg) (base := base) F12 D11 G11 D8 G8 m1
  have G13 := ok_gathered (P := l.prog) (w := w) (mg := mg) (base := base) F13 m5 m6
  have G14 := ok_minus (P := l.prog) (w := w) (mg := mg) (base := base) F14 D13 G13 m5
  have G15 := ok_lifted (P := l.prog) (w := w) (mg := mg) (base := base) F15 m5
  have G16 := ok_value (P := l.prog) (w := w) (mg := mg) (base := base) F16
  have G17 := ok_half (P := l.prog) (w := w) (mg := mg) (base := base) F17 D15 G15 D14 G14
  have G18 := ok_sums (P := l.prog) (w := w) (mg := mg) (base := base) F18 D17 G17 m7 m4 m8
  have G19 := ok_twists (P := l.prog) (w := w) (mg := mg) (base := base) F19 m8
  have G20 := ok_lstep (P := l.prog) (w := w) (mg := mg) (base := base) F20 m2 m1 m3
  have G21 := ok_llifted (P := l.prog) (w := w) (mg := mg) (base := base) F21 m5
  have G22 := ok_lnext (P := l.prog) (w := w) (mg := mg) (base := base) F22 m2 m4
  have G23 := ok_walked (P := l.prog) (w := w) (mg := mg) (base := base) F23 D22 G22 D20 G20
  have G24 := ok_lleast (P := l.prog) (w := w) (mg := mg) (base := base) F24 m2
  have G25 := ok_other (P := l.prog) (w := w) (mg := mg) (base := base) F25 m2 m1
  exact ok_law F26 ⟨D19, G19, D25, G25, D23, G23, D12, G12, D24, G24, D10, G10, D16, G16, D9, G9, D18, G18, D21, G21, m2, m1, m9, m5⟩
end Tw
open PySem PySem.W PyProof.Rows
set_option maxRecDepth 100000 in
set_option maxHeartbeats 0 in
theorem PySem.Challenge.cw_tanglehouse_k70_whole_eased_holds : PySem.Challenge.rw_tanglehouse_k70_whole_eased.Holds := by
  w_on; o_law; k_head; (case hw => w_witness2)
  k_fill
  refine L2.walk_of (l := PySem.Challenge.rw_tanglehouse_k70_whole_eased) (n := 63) (k := 5) (x := "_law_script") (CX := fun _ => L2.CX0) (sp := fun w => Tw.spLaw _) rfl (by decide) rfl ⟨rfl, by decide, by decide⟩ (fun w h Y => PySem.W.kIn_of Y) ?F (fun _ _ a ns hl _ hS => ⟨a, ns, rfl, hS, hl, fun _ => rfl⟩) (fun _ _ _ _ _ h => h)
  case F =>
    intro w mg fa h KX G hmg
    refine' Tw.all_mk KX G hmg ?a1 ?l1 ?c1 ?k1 ?a2 ?l2 ?c2 ?k2 ?a3 ?l3 ?c3 ?k3 ?a4 ?l4 ?c4 ?k4 ?a5 ?l5 ?c5 ?k5 ?a6 ?l6 ?c6 ?k6 ?a7 ?l7 ?c7 ?k7 ?a8 ?l8 ?c8 ?k8 ?a9 ?l9 ?c9 ?k9 ?a10 ?l10 ?c10 ?k10 ?a11 ?l11 ?c11 ?k11 ?a12 ?l12 ?c12 ?k12 ?a13 ?l13 ?c13 ?k13 ?a14 ?l14 ?c14 ?k14 ?a15 ?l15 ?c15 ?k15 ?a16 ?l16 ?c16 ?k16 ?a17 ?l17 ?c17 ?k17 ?a18 ?l18 ?c18 ?k18 ?a19 ?l19 ?c19 ?k19 ?a20 ?l20 ?c20 ?k20 ?a21 ?l21 ?c21 ?k21 ?a22 ?l22 ?c22 ?k22 ?a23 ?l23 ?c23 ?k23 ?a24 ?l24 ?c24 ?k24 ?a25 ?l25 ?c25 ?k25 ?a26 ?l26 ?c26 ?k26 ?z1 ?z2 ?z3 ?z4 ?z5 ?z6 ?z7 ?z8 ?z9
    (case a1 => k_is); (case l1 => k_is); (case c1 => k_is); (case k1 => k_is); (case a2 => k_is); (case l2 => k_is); (case c2 => k_is); (case k2 => k_is)
    (case a3 => k_is); (case l3 => k_is); (case c3 => k_is); (case k3 => k_is); (case a4 => k_is); (case l4 => k_is); (case c4 => k_is); (case k4 => k_is)
    (case a5 => k_is); (case l5 => k_is); (case c5 => k_is); (case k5 => k_is); (case a6 => k_is); (case l6 => k_is); (case c6 => k_is); (case k6 => k_is)
    (case a7 => k_is); (case l7 => k_is); (case c7 => k_is); (case k7 => k_is); (case a8 => k_is); (case l8 => k_is); (case c8 => k_is); (case k8 => k_is)
    (case a9 => k_is); (case l9 => k_is); (case c9 => k_is); (case k9 => k_is); (case a10 => k_is); (case l10 => k_is); (case c10 => k_is); (case k10 => k_is)
    (case a11 => k_is); (case l11 => k_is); (case c11 => k_is); (case k11 => k_is); (case a12 => k_is); (case l12 => k_is); (case c12 => k_is); (case k12 => k_is)
    (case a13 => k_is); (case l13 => k_is); (case c13 => k_is); (case k13 => k_is); (case a14 => k_is); (case l14 => k_is); (case c14 => k_is); (case k14 => k_is)
    (case a15 => k_is); (case l15 => k_is); (case c15 => k_is); (case k15 => k_is); (case a16 => k_is); (case l16 => k_is); (case c16 => k_is); (case k16 => k_is)
    (case a17 => k_is); (case l17 => k_is); (case c17 => k_is); (case k17 => k_is); (case a18 => k_is); (case l18 => k_is); (case c18 => k_is); (case k18 => k_is)
    (case a19 => k_is); (case l19 => k_is); (case c19 => k_is); (case k19 => k_is); (case a20 => k_is); (case l20 => k_is); (case c20 => k_is); (case k20 => k_is)
    (case a21 => k_is); (case l21 => k_is); (case c21 => k_is); (case k21 => k_is); (case a22 => k_is); (case l22 => k_is); (case c22 => k_is); (case k22 => k_is)
    (case a23 => k_is); (case l23 => k_is); (case c23 => k_is); (case k23 => k_is); (case a24 => k_is); (case l24 => k_is); (case c24 => k_is); (case k24 => k_is)
    (case a25 => k_is); (case l25 => k_is); (case c25 => k_is); (case k25 => k_is); (case a26 => k_is); (case l26 => k_is); (case c26 => k_is); (case k26 => k_is)
    (case z1 => k_is); (case z2 => k_is); (case z3 => k_is); (case z4 => k_is); (case z5 => k_is); (case z6 => k_is); (case z7 => k_is); (case z8 => k_is)
    (case z9 => k_is)
