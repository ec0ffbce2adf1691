import PyProof.Rows.All
import Wide.All
import OpenK.AllK
import Wide.FinOn
import HandS.ForMost
import KE.GoesEnumKw
import HandS.Walk
import HandS.Evl
import HandS.Wide
import HandS.WideBits
import HandS.WideMore
import HandS.Flow
import HandS.Style
import HandS.SortInts
import HandS.SortRule
import HandS.ListItems
import HandS.IsInst
import HandS.SetFor
import HandS.NoneIn
import HandS.Conv
import HandS.Defaults
import HandS.TryOnly
import HandS.Exc
import HandS.HeadHook1
import HandS.HeadHook2
import KE.LtSeq
import HandS.SortOrd
import HandS.RaiseMore
import HandS.Ends
import PyProof.ReprBulk
import PyProof.ReprRoads
import KE.KDictZip
import KE.KItemsList
import HandS.Zip
import HandS.HeadEnd
import HandS.Head0
import HandS.Head1
import HandS.Head2
import PySem.Challenge.RW_anyplaces_k31_whole_closures
set_option Elab.async false
set_option linter.all false
set_option maxRecDepth 100000
set_option maxHeartbeats 0
namespace Ap
/-! ### polynomials: lists of coefficients, the constant one first -/
def ev : List Int → Int → Int
  | [], _ => 0
  | c :: cs, x => c + x * ev cs x
def padd : List Int → List Int → List Int
  | [], ds => ds
  | cs, [] => cs
  | c :: cs, d :: ds => (c + d) :: padd cs ds
def psc (k : Int) (cs : List Int) : List Int := cs.map (k * ·)
theorem ev_padd : ∀ cs ds x, ev (padd cs ds) x = ev cs x + ev ds x
  | [], ds, x => by simp [padd, ev]
  | c :: cs, [], x => by simp [padd, ev]
  | c :: cs, d :: ds, x => by
    have ih := ev_padd cs ds x
    simp only [padd, ev, ih]; grind
theorem len_padd : ∀ (cs ds : List Int), (padd cs ds).length = max cs.length ds.length
  | [], ds => by simp [padd]
  | c :: cs, [] => by simp [padd]
  | c :: cs, d :: ds => by
    have ih := len_padd cs ds
    simp only [padd, List.length_cons, ih]; omega
theorem ev_psc (k : Int) : ∀ cs x, ev (psc k cs) x = k * ev cs x
  | [], x => by simp [psc, ev]
  | c :: cs, x => by
    have ih := ev_psc k cs x
    unfold psc at ih
    simp only [psc, List.map_cons, ev, ih]; grind
theorem len_psc (k : Int) (cs : List Int) : (psc k cs).length = cs.length := by simp [psc]
/-- synthetic division by (x - a) -/
def quo : List Int → Int → List Int
  | [], _ => []
  | c :: cs, a => padd cs (psc a (quo cs a))
theorem len_quo : ∀ cs a, (quo cs a).length ≤ cs.length - 1
  | [], a => by simp [quo]
  | c :: cs, a => by
    have ih := len_quo cs a
    simp only [quo, len_padd, len_psc, List.length_cons]; omega
theorem ev_quo : ∀ cs a x, ev cs x = ev cs a + (x - a) * ev (quo cs a) x
  | [], a, x => by simp [quo, ev]
  | c :: cs, a, x => by
    have ih := ev_quo cs a x
    simp only [quo, ev, ev_padd, ev_psc]
    rw [ih]; grind
/-- (x - a) times a polynomial -/
def pmul (a : Int) (cs : List Int) : List Int := padd (0 :: cs) (psc (-a) cs)
theorem ev_pmul (a : Int) (cs : List Int) (x : Int) : ev (pmul a cs) x = (x - a) * ev cs x := by
  simp only [pmul, ev_padd, ev_psc, ev]; grind
theorem len_pmul (a : Int) (cs : List Int) : (pmul a cs).length = cs.length + 1 := by
  simp only [pmul, len_padd, len_psc, List.length_cons]; omega
/-- the product of x less each place -/
def prd : List Int → Int → Int
  | [], _ => 1
  | a :: as, x => (x - a) * prd as x
theorem prd_snoc (as : List Int) (a x : Int) : prd (as ++ [a]) x = prd as x * (x - a) := by
  induction as with
  | nil => simp [prd]
  | cons b as ih => simp only [List.cons_append, prd, ih]; grind
theorem prd_mem {as : List Int} {x : Int} (h : x ∈ as) : prd as x = 0 := by
  induction as with
  | nil => cases h
  | cons b as ih =>
    rcases List.mem_cons.mp h with rfl | h
    · simp [prd]
    · simp [prd, ih h]

/-! ### twos -/
def twosN : Nat → Int → Nat
  | 0, _ => 0
  | f + 1, n => if n % 2 = 0 then twosN f (n / 2) + 1 else 0
def twos (n : Int) : Nat := twosN n.natAbs n
theorem twosN_enough : ∀ (f g : Nat) (n : Int), n ≠ 0 → n.natAbs ≤ f → n.natAbs ≤ g → twosN f n = twosN g n
  | 0, _, n, h0, h1, _ => by omega
  | _, 0, n, h0, _, h2 => by omega
  | f + 1, g + 1, n, h0, h1, h2 => by
    simp only [twosN]
    split
    · rename_i he
      have ih := twosN_enough f g (n / 2) (by omega) (by omega) (by omega)
      rw [ih]
    · rfl
theorem twos_even {n : Int} (h0 : n ≠ 0) (h : n % 2 = 0) : twos n = twos (n / 2) + 1 := by
  have hp : n.natAbs = (n.natAbs - 1) + 1 := by omega
  unfold twos
  rw [hp, twosN, if_pos h, twosN_enough (n.natAbs - 1) (n / 2).natAbs (n / 2) (by omega) (by omega) (Nat.le_refl _)]
theorem twos_odd {n : Int} (h : n % 2 ≠ 0) : twos n = 0 := by
  unfold twos
  cases n.natAbs with
  | zero => rfl
  | succ k => rw [twosN, if_neg h]
theorem twos_spec (n : Int) (h0 : n ≠ 0) : ∃ u : Int, n = 2 ^ twos n * u ∧ u % 2 = 1 := by
  have key : ∀ (k : Nat) (n : Int), n.natAbs ≤ k → n ≠ 0 → ∃ u : Int, n = 2 ^ twos n * u ∧ u % 2 = 1 := by
    intro k
    induction k with
    | zero => intro n h1 h2; omega
    | succ k ih =>
      intro n h1 h2
      by_cases he : n % 2 = 0
      · obtain ⟨u, e, ho⟩ := ih (n / 2) (by omega) (by omega)
        refine ⟨u, ?_, ho⟩
        rw [twos_even h2 he, Int.pow_succ]
        have : n = 2 * (n / 2) := by omega
        grind
      · refine ⟨n, ?_, by omega⟩
        rw [twos_odd he]; simp
  exact key n.natAbs n (Nat.le_refl _) h0
/-- how often 2 divides the product -/
def cost : List Int → Int → Nat
  | [], _ => 0
  | a :: as, x => twos (x - a) + cost as x
theorem cost_snoc (as : List Int) (a x : Int) : cost (as ++ [a]) x = cost as x + twos (x - a) := by
  induction as with
  | nil => simp [cost]
  | cons b as ih => simp only [List.cons_append, cost, ih]; omega
theorem prd_cost {as : List Int} {x : Int} (h : x ∉ as) : ∃ u : Int, prd as x = 2 ^ cost as x * u ∧ u % 2 = 1 := by
  induction as with
  | nil => exact ⟨1, by simp [prd, cost], rfl⟩
  | cons b as ih =>
    obtain ⟨u, e, o⟩ := ih fun z => h (List.mem_cons_of_mem _ z)
    have hb : x - b ≠ 0 := fun z => h (by rw [show x = b by omega]; exact List.mem_cons_self)
    obtain ⟨v, e2, o2⟩ := twos_spec _ hb
    refine ⟨v * u, ?_, by rw [Int.mul_emod, o, o2]; rfl⟩
    simp only [prd, cost, Int.pow_add, e]
    grind

/-! ### powers of 2 -/
theorem two_pos (n : Nat) : (0 : Int) < 2 ^ n := Int.pow_pos (by decide)
theorem pow_dvd {a b : Nat} (h : a ≤ b) : (2 : Int) ^ a ∣ 2 ^ b := ⟨2 ^ (b - a), by rw [← Int.pow_add]; congr 1; omega⟩
/-- an odd number is undone -/
theorem odd_inv (w : Nat) (u : Int) (h : u % 2 = 1) : ∃ v : Int, (2 : Int) ^ w ∣ u * v - 1 := by
  induction w with
  | zero => exact ⟨0, by rw [Int.pow_zero]; exact Int.one_dvd _⟩
  | succ w ih =>
    obtain ⟨v, c, e⟩ := ih
    refine ⟨v + (c % 2) * (2 ^ w), ?_⟩
    obtain ⟨q, hq⟩ : ∃ q, c = 2 * q + c % 2 := ⟨c / 2, by omega⟩
    obtain ⟨r, hr⟩ : ∃ r, u = 2 * r + 1 := ⟨u / 2, by omega⟩
    have hc : c % 2 = 0 ∨ c % 2 = 1 := by omega
    rw [Int.pow_succ]
    rcases hc with hc | hc
    · rw [hc] at hq ⊢
      refine ⟨q, ?_⟩
      have : u * v - 1 = 2 ^ w * (2 * q) := by rw [e]; grind
      grind
    · rw [hc] at hq ⊢
      refine ⟨q + r + 1, ?_⟩
      have : u * v - 1 = 2 ^ w * (2 * q + 1) := by rw [e]; grind
      grind
theorem odd_cancel {w : Nat} {u x : Int} (h : u % 2 = 1) (d : (2 : Int) ^ w ∣ u * x) : (2 : Int) ^ w ∣ x := by
  obtain ⟨v, hv⟩ := odd_inv w u h
  have h1 : (2 : Int) ^ w ∣ v * (u * x) := Int.dvd_mul_of_dvd_right d
  have h2 : (2 : Int) ^ w ∣ x * (u * v - 1) := Int.dvd_mul_of_dvd_right hv
  have e : x = v * (u * x) - x * (u * v - 1) := by grind
  rw [e]
  exact Int.dvd_sub h1 h2
/-- 2 ^ w divides 2 ^ o times odd times d -/
theorem part_dvd {w o : Nat} {u d : Int} (h : u % 2 = 1) (k : (2 : Int) ^ w ∣ 2 ^ o * u * d) : (2 : Int) ^ (w - o) ∣ d := by
  by_cases hw : w ≤ o
  · rw [show w - o = 0 by omega]; exact ⟨d, by simp⟩
  · obtain ⟨c, e⟩ := k
    refine odd_cancel (u := u) h ⟨c, ?_⟩
    have e2 : (2 : Int) ^ w = 2 ^ o * 2 ^ (w - o) := by rw [← Int.pow_add]; congr 1; omega
    rw [e2] at e
    have hp : (2 : Int) ^ o ≠ 0 := by have := two_pos o; omega
    have : (2 : Int) ^ o * (u * d) = 2 ^ o * (2 ^ (w - o) * c) := by grind
    exact Int.eq_of_mul_eq_mul_left hp this
/-! ### good orders -/
/-- a good order (rest of it, behind pre) with its numbers -/
def GoodR : List Int → List Int → List Nat → Prop
  | _, [], [] => True
  | pre, a :: as, o :: os => o = cost pre a ∧ a ∉ pre ∧ (∀ x, x ∈ as → o ≤ cost pre x) ∧ GoodR (pre ++ [a]) as os
  | _, _, _ => False
/-- how many low bits are told at p (p none of the places) -/
def bitsGo (w : Nat) (p : Int) : Nat → List Int → List Nat → Nat → Nat → Nat
  | 0, _, _, _, found => found
  | _ + 1, [], _, c, found => min found c
  | _ + 1, _ :: _, [], c, found => min found c
  | m + 1, a :: as, o :: os, c, found => bitsGo w p m as os (c + twos (p - a)) (min found ((w - o) + c))
def bitsAt (w m : Nat) (as : List Int) (os : List Nat) (p : Int) : Nat := if p ∈ as then w else bitsGo w p m as os 0 w
theorem bitsGo_le (w : Nat) (p : Int) : ∀ (m : Nat) (as : List Int) (os : List Nat) (c found : Nat), bitsGo w p m as os c found ≤ found
  | 0, _, _, _, found => by cases (‹List Int› : List Int) <;> simp [bitsGo]
  | _ + 1, [], _, c, found => by simp only [bitsGo]; omega
  | _ + 1, _ :: _, [], c, found => by simp only [bitsGo]; omega
  | m + 1, a :: as, o :: os, c, found => by
    have ih := bitsGo_le w p m as os (c + twos (p - a)) (min found ((w - o) + c))
    simp only [bitsGo]; omega
theorem bitsAt_le (w m : Nat) (as : List Int) (os : List Nat) (p : Int) : bitsAt w m as os p ≤ w := by
  unfold bitsAt
  split
  · exact Nat.le_refl _
  · exact bitsGo_le ..
/-- what is 0 at the places leaves the told bits 0 -/
theorem bits_low {w : Nat} {p : Int} : ∀ (m : Nat) (as : List Int) (os : List Nat) (pre g : List Int) (found : Nat), GoodR pre as os → p ∉ pre → p ∉ as → g.length ≤ m →
    (∀ a, a ∈ as → (2 : Int) ^ w ∣ prd pre a * ev g a) → (2 : Int) ^ (bitsGo w p m as os (cost pre p) found) ∣ prd pre p * ev g p := by
  intro m
  induction m with
  | zero =>
    intro as os pre g found hG h1 h2 hg hz
    have : g = [] := List.eq_nil_of_length_eq_zero (by omega)
    subst this
    simp [ev]
  | succ m ih =>
    intro as os pre g found hG h1 h2 hg hz
    cases as with
    | nil =>
      obtain ⟨u, e, o⟩ := prd_cost h1
      have hle : bitsGo w p (m + 1) [] os (cost pre p) found ≤ cost pre p := by simp only [bitsGo]; omega
      refine Int.dvd_trans (pow_dvd hle) ?_
      rw [e]
      exact ⟨u * ev g p, by grind⟩
    | cons a as =>
      cases os with
      | nil => exact hG.elim
      | cons o os =>
        obtain ⟨ho, ha, hle, hG'⟩ := hG
        have hpa : p ≠ a := fun z => h2 (by rw [z]; exact List.mem_cons_self)
        have hp1 : p ∉ pre ++ [a] := fun z => by
          rcases List.mem_append.mp z with z | z
          · exact h1 z
          · exact hpa (List.mem_singleton.mp z)
        -- the constant at a
        obtain ⟨u, eu, ou⟩ := prd_cost ha
        have hd : (2 : Int) ^ (w - o) ∣ ev g a := by
          have h0 := hz a List.mem_cons_self
          rw [eu, ← ho] at h0
          exact part_dvd ou h0
        have hq := len_quo g a
        have ih' := ih as os (pre ++ [a]) (quo g a) (min found ((w - o) + cost pre p)) hG' hp1 (fun z => h2 (List.mem_cons_of_mem _ z)) (by omega) (fun x hx => by
          by_cases hxp : x ∈ pre
          · rw [prd_snoc, prd_mem hxp]; simp
          have h0 := hz x (List.mem_cons_of_mem _ hx)
          obtain ⟨v, ev', ov⟩ := prd_cost hxp
          have h3 : (2 : Int) ^ w ∣ prd pre x * ev g a := by
            have hox := hle x hx
            obtain ⟨k, hk⟩ := hd
            have h4 : (2 : Int) ^ w ∣ 2 ^ cost pre x * 2 ^ (w - o) := by rw [← Int.pow_add]; exact pow_dvd (by omega)
            rw [ev', hk]
            obtain ⟨l, hl⟩ := h4
            exact ⟨l * v * k, by grind⟩
          have e : prd (pre ++ [a]) x * ev (quo g a) x = prd pre x * ev g x - prd pre x * ev g a := by
            rw [prd_snoc, ev_quo g a x]; grind
          rw [e]
          exact Int.dvd_sub h0 h3)
        rw [cost_snoc] at ih'
        show (2 : Int) ^ (bitsGo w p m as os (cost pre p + twos (p - a)) (min found ((w - o) + cost pre p))) ∣ prd pre p * ev g p
        have e : prd pre p * ev g p = prd pre p * ev g a + prd (pre ++ [a]) p * ev (quo g a) p := by
          rw [prd_snoc, ev_quo g a p]; grind
        rw [e]
        refine Int.dvd_add ?_ ih'
        have hb := bitsGo_le w p m as os (cost pre p + twos (p - a)) (min found ((w - o) + cost pre p))
        obtain ⟨v, e2, _⟩ := prd_cost h1
        obtain ⟨k, hk⟩ := hd
        refine Int.dvd_trans (pow_dvd (show _ ≤ (w - o) + cost pre p by omega)) ?_
        rw [e2, hk, Int.pow_add]
        exact ⟨v * k, by grind⟩
/-- and some polynomial that is 0 at the places has just these -/
theorem bits_high {w : Nat} {p : Int} : ∀ (m : Nat) (as : List Int) (os : List Nat) (pre : List Int) (found : Nat), GoodR pre as os → p ∉ pre → p ∉ as →
    bitsGo w p m as os (cost pre p) found = found ∨ ∃ (h : List Int) (u : Int), h.length ≤ m ∧ (∀ a, a ∈ as → (2 : Int) ^ w ∣ prd pre a * ev h a) ∧ prd pre p * ev h p = 2 ^ (bitsGo w p m as os (cost pre p) found) * u ∧ u % 2 = 1 := by
  intro m
  induction m with
  | zero => intro as os pre found _ _ _; exact .inl (by cases as <;> simp [bitsGo])
  | succ m ih =>
    intro as os pre found hG h1 h2
    cases as with
    | nil =>
      by_cases hc : found ≤ cost pre p
      · exact .inl (by simp only [bitsGo]; omega)
      · obtain ⟨u, e, o⟩ := prd_cost h1
        refine .inr ⟨[1], u, by simp, (fun a ha => by cases ha), ?_, o⟩
        have : bitsGo w p (m + 1) [] os (cost pre p) found = cost pre p := by simp only [bitsGo]; omega
        rw [this, e]
        simp [ev]
    | cons a as =>
      cases os with
      | nil => exact hG.elim
      | cons o os =>
        obtain ⟨ho, ha, hle, hG'⟩ := hG
        have hpa : p ≠ a := fun z => h2 (by rw [z]; exact List.mem_cons_self)
        have hp1 : p ∉ pre ++ [a] := fun z => by
          rcases List.mem_append.mp z with z | z
          · exact h1 z
          · exact hpa (List.mem_singleton.mp z)
        have ih' := ih as os (pre ++ [a]) (min found ((w - o) + cost pre p)) hG' hp1 (fun z => h2 (List.mem_cons_of_mem _ z))
        rw [cost_snoc] at ih'
        show bitsGo w p m as os (cost pre p + twos (p - a)) (min found ((w - o) + cost pre p)) = found ∨ ∃ (h : List Int) (u : Int), h.length ≤ m + 1 ∧ (∀ x, x ∈ a :: as → (2 : Int) ^ w ∣ prd pre x * ev h x) ∧
          prd pre p * ev h p = 2 ^ (bitsGo w p m as os (cost pre p + twos (p - a)) (min found ((w - o) + cost pre p))) * u ∧ u % 2 = 1
        rcases ih' with ih' | ⟨h, u, hl, hz, he, hu⟩
        · by_cases hc : found ≤ (w - o) + cost pre p
          · exact .inl (by rw [ih']; omega)
          · have e0 : min found ((w - o) + cost pre p) = (w - o) + cost pre p := by omega
            rw [ih', e0]
            obtain ⟨u, e, ou⟩ := prd_cost h1
            refine .inr ⟨[2 ^ (w - o)], u, by simp, fun x hx => ?_, by rw [e, Int.pow_add]; simp only [ev]; grind, ou⟩
            by_cases hxp : x ∈ pre
            · rw [prd_mem hxp]; simp
            obtain ⟨v, e1, ov⟩ := prd_cost hxp
            have hox : o ≤ cost pre x := by
              rcases List.mem_cons.mp hx with rfl | hx
              · omega
              · exact hle x hx
            have h4 : (2 : Int) ^ w ∣ 2 ^ cost pre x * 2 ^ (w - o) := by rw [← Int.pow_add]; exact pow_dvd (by omega)
            obtain ⟨l, hl⟩ := h4
            rw [e1]
            exact ⟨l * v, by simp only [ev]; grind⟩
        · refine .inr ⟨pmul a h, u, by rw [len_pmul]; omega, fun x hx => ?_, ?_, hu⟩
          · rw [ev_pmul]
            rcases List.mem_cons.mp hx with rfl | hx
            · exact ⟨0, by grind⟩
            · have := hz x hx
              rw [prd_snoc] at this
              obtain ⟨l, hl⟩ := this
              exact ⟨l, by grind⟩
          · rw [← he, prd_snoc, ev_pmul]; grind
end Ap

namespace Ap
/-! ### what is told at a place, by its meaning -/
/-- t low bits at p are told by the words at S -/
structure Told (w m : Nat) (S : List Int) (p : Int) (t : Nat) : Prop where
  le : t ≤ w
  low : ∀ f : List Int, f.length ≤ m → (∀ a, a ∈ S → (2 : Int) ^ w ∣ ev f a) → (2 : Int) ^ t ∣ ev f p
  high : t < w → ∃ (h : List Int) (u : Int), h.length ≤ m ∧ (∀ a, a ∈ S → (2 : Int) ^ w ∣ ev h a) ∧ ev h p = 2 ^ t * u ∧ u % 2 = 1
theorem told_of {w m : Nat} {as : List Int} {os : List Nat} (G : GoodR [] as os) (p : Int) : Told w m as p (bitsAt w m as os p) := by
  by_cases hp : p ∈ as
  · have e : bitsAt w m as os p = w := if_pos hp
    rw [e]
    exact ⟨Nat.le_refl _, fun f _ h => h p hp, fun z => absurd z (Nat.lt_irrefl _)⟩
  · have e : bitsAt w m as os p = bitsGo w p m as os 0 w := if_neg hp
    rw [e]
    refine ⟨bitsGo_le .., fun f hf h => ?_, fun ht => ?_⟩
    · have := bits_low m as os [] f w G (List.not_mem_nil) hp hf fun a ha => by
        have := h a ha
        simpa [prd] using this
      simpa [prd, cost] using this
    · rcases bits_high (w := w) m as os [] w G (List.not_mem_nil) hp with h | ⟨h, u, h1, h2, h3, h4⟩
      · have h' : bitsGo w p m as os 0 w = w := h
        omega
      · refine ⟨h, u, h1, fun a ha => ?_, ?_, h4⟩
        · have := h2 a ha
          simpa [prd] using this
        · simpa [prd, cost] using h3
theorem Told.congr {w m : Nat} {S S' : List Int} {p : Int} {t : Nat} (h : Told w m S p t) (e : ∀ x, x ∈ S ↔ x ∈ S') : Told w m S' p t :=
  ⟨h.le, fun f hf hz => h.low f hf fun a ha => hz a ((e a).mp ha), fun ht => by
    obtain ⟨g, u, h1, h2, h3, h4⟩ := h.high ht
    exact ⟨g, u, h1, fun a ha => h2 a ((e a).mpr ha), h3, h4⟩⟩
theorem not_dvd_odd {t t' : Nat} {u : Int} (hu : u % 2 = 1) (h : t < t') : ¬ (2 : Int) ^ t' ∣ 2 ^ t * u := by
  rintro ⟨c, e⟩
  have e2 : (2 : Int) ^ t' = 2 ^ t * (2 * 2 ^ (t' - t - 1)) := by
    rw [← Int.pow_succ', ← Int.pow_add]; congr 1; omega
  rw [e2] at e
  have hp := two_pos t
  have : (2 : Int) ^ t * u = 2 ^ t * (2 * (2 ^ (t' - t - 1) * c)) := by rw [e]; grind
  have := Int.eq_of_mul_eq_mul_left (by omega) this
  omega
theorem Told.unique {w m : Nat} {S : List Int} {p : Int} {t t' : Nat} (h : Told w m S p t) (h' : Told w m S p t') : t = t' := by
  have key : ∀ t t', Told w m S p t → Told w m S p t' → ¬ t < t' := fun t t' h h' hlt => by
    obtain ⟨g, u, h1, h2, h3, h4⟩ := h.high (Nat.lt_of_lt_of_le hlt h'.le)
    have := h'.low g h1 h2
    rw [h3] at this
    exact not_dvd_odd h4 hlt this
  have a := key t t' h h'
  have b := key t' t h' h
  omega

/-! ### counting -/
def Dif (w : Nat) (S : List Int) (f g : List Int) : Prop := ∃ a, a ∈ S ∧ ¬ (2 : Int) ^ w ∣ ev f a - ev g a
def Lik (w : Nat) (S : List Int) (f g : List Int) : Prop := ∀ a, a ∈ S → (2 : Int) ^ w ∣ ev f a - ev g a
structure Sys (w m : Nat) (S : List Int) (R : List (List Int)) : Prop where
  len : ∀ f, f ∈ R → f.length ≤ m
  dif : R.Pairwise (Dif w S)
  all : ∀ f : List Int, f.length ≤ m → ∃ r, r ∈ R ∧ Lik w S f r
theorem Lik.symm {w : Nat} {S : List Int} {f g : List Int} (h : Lik w S f g) : Lik w S g f := fun a ha => by
  have := h a ha
  rw [show ev g a - ev f a = -(ev f a - ev g a) by omega]
  exact Int.dvd_neg.mpr this
theorem Lik.trans {w : Nat} {S : List Int} {f g h : List Int} (h1 : Lik w S f g) (h2 : Lik w S g h) : Lik w S f h := fun a ha => by
  rw [show ev f a - ev h a = (ev f a - ev g a) + (ev g a - ev h a) by omega]
  exact Int.dvd_add (h1 a ha) (h2 a ha)
theorem Dif.not {w : Nat} {S : List Int} {f g : List Int} (h : Dif w S f g) : ¬ Lik w S f g := fun l => by
  obtain ⟨a, ha, h⟩ := h
  exact h (l a ha)
/-- pigeons -/
theorem pigeon (w : Nat) (S : List Int) : ∀ (R R' : List (List Int)), R.Pairwise (Dif w S) → (∀ f, f ∈ R → ∃ r, r ∈ R' ∧ Lik w S f r) → R.length ≤ R'.length
  | [], R', _, _ => Nat.zero_le _
  | f :: R, R', hd, ha => by
    obtain ⟨h1, h2⟩ := List.pairwise_cons.mp hd
    obtain ⟨r, hr, hl⟩ := ha f List.mem_cons_self
    obtain ⟨A, B, e⟩ := List.append_of_mem hr
    subst e
    have ih := pigeon w S R (A ++ B) h2 fun g hg => by
      obtain ⟨s, hs, hl2⟩ := ha g (List.mem_cons_of_mem _ hg)
      rcases List.mem_append.mp hs with hs | hs
      · exact ⟨s, List.mem_append_left _ hs, hl2⟩
      · rcases List.mem_cons.mp hs with rfl | hs
        · exact absurd (hl.trans hl2.symm) (h1 g hg).not
        · exact ⟨s, List.mem_append_right _ hs, hl2⟩
    simp only [List.length_append, List.length_cons] at ih ⊢
    omega
theorem Sys.le {w m : Nat} {S S' : List Int} {R R' : List (List Int)} (h : Sys w m S R) (h' : Sys w m S' R') (e : ∀ x, x ∈ S → x ∈ S') : R.length ≤ R'.length :=
  pigeon w S R R' h.dif fun f hf => by
    obtain ⟨r, hr, hl⟩ := h'.all f (h.len f hf)
    exact ⟨r, hr, fun a ha => hl a (e a ha)⟩
theorem sys_nil (w m : Nat) : Sys w m [] [[]] := ⟨fun f hf => by
  rw [List.mem_singleton.mp hf]; exact Nat.zero_le _, by simp, fun f _ => ⟨[], List.mem_singleton.mpr rfl, fun a ha => by cases ha⟩⟩
theorem sys_step {w m : Nat} {S S' : List Int} {R : List (List Int)} {p : Int} {t : Nat} (h : Sys w m S R) (ht : Told w m S p t) (e : ∀ x, x ∈ S' ↔ x = p ∨ x ∈ S) : ∃ R', Sys w m S' R' ∧ R'.length = R.length * 2 ^ (w - t) := by
  obtain ⟨g, u, g1, g2, g3, g4⟩ : ∃ (g : List Int) (u : Int), g.length ≤ m ∧ (∀ a, a ∈ S → (2 : Int) ^ w ∣ ev g a) ∧ (t < w → ev g p = 2 ^ t * u) ∧ u % 2 = 1 := by
    by_cases hlt : t < w
    · obtain ⟨g, u, a, b, c, d⟩ := ht.high hlt
      exact ⟨g, u, a, b, fun _ => c, d⟩
    · exact ⟨[], 1, Nat.zero_le _, fun a _ => by simp [ev], fun z => absurd z hlt, rfl⟩
  have hev : ∀ (r : List Int) (i : Nat) (x : Int), ev (padd r (psc (i : Int) g)) x = ev r x + (i : Int) * ev g x := fun r i x => by rw [ev_padd, ev_psc]
  refine ⟨R.flatMap fun r => (List.range (2 ^ (w - t))).map fun (i : Nat) => padd r (psc (i : Int) g), ⟨fun f hf => ?_, ?_, fun f hf => ?_⟩, ?_⟩
  · obtain ⟨r, hr, hf⟩ := List.mem_flatMap.mp hf
    obtain ⟨i, _, rfl⟩ := List.mem_map.mp hf
    have := h.len r hr
    rw [len_padd, len_psc]; omega
  · refine List.pairwise_flatMap.mpr ⟨fun r hr => ?_, ?_⟩
    · refine List.pairwise_map.mpr ?_
      refine List.Pairwise.imp_of_mem ?_ List.pairwise_lt_range
      intro i j hi hj hij
      refine ⟨p, (e p).mpr (.inl rfl), fun hd => ?_⟩
      rw [hev, hev] at hd
      have hjl := List.mem_range.mp hj
      have hlt : t < w := by
        by_cases hlt : t < w
        · exact hlt
        · have : w - t = 0 := by omega
          rw [this] at hjl
          simp at hjl
          omega
      rw [g3 hlt] at hd
      have e1 : ev r p + (i : Int) * (2 ^ t * u) - (ev r p + (j : Int) * (2 ^ t * u)) = 2 ^ t * u * ((i : Int) - j) := by grind
      rw [e1] at hd
      have h5 := part_dvd g4 hd
      obtain ⟨c, hc⟩ := h5
      have hjl' : (j : Int) < 2 ^ (w - t) := by
        have : ((2 ^ (w - t) : Nat) : Int) = (2 : Int) ^ (w - t) := by simp
        omega
      have hb : c < 0 := by
        have hp := two_pos (w - t)
        by_cases hc0 : c < 0
        · exact hc0
        · have : 0 ≤ (2 : Int) ^ (w - t) * c := Int.mul_nonneg (by omega) (by omega)
          omega
      have : (2 : Int) ^ (w - t) * c ≤ (2 : Int) ^ (w - t) * (-1) := Int.mul_le_mul_of_nonneg_left (by omega) (by have := two_pos (w - t); omega)
      omega
    · refine h.dif.imp ?_
      intro r r' hd f hf f' hf'
      obtain ⟨i, _, rfl⟩ := List.mem_map.mp hf
      obtain ⟨j, _, rfl⟩ := List.mem_map.mp hf'
      obtain ⟨a, ha, hn⟩ := hd
      refine ⟨a, (e a).mpr (.inr ha), fun hd => hn ?_⟩
      rw [hev, hev] at hd
      have h2 : (2 : Int) ^ w ∣ ((i : Int) - j) * ev g a := Int.dvd_trans (g2 a ha) (Int.dvd_mul_left _ _)
      have e1 : ev r a - ev r' a = (ev r a + (i : Int) * ev g a - (ev r' a + (j : Int) * ev g a)) - ((i : Int) - j) * ev g a := by grind
      rw [e1]
      exact Int.dvd_sub hd h2
  · obtain ⟨r, hr, hl⟩ := h.all f hf
    have hr' := h.len r hr
    have hlow := ht.low (padd f (psc (-1) r)) (by rw [len_padd, len_psc]; omega) fun a ha => by
      have := hl a ha
      rw [ev_padd, ev_psc]
      rw [show ev f a + -1 * ev r a = ev f a - ev r a by omega]
      exact this
    obtain ⟨c, hc⟩ := hlow
    rw [ev_padd, ev_psc] at hc
    obtain ⟨v, hv⟩ := odd_inv (w - t) u g4
    -- the turn
    have hp := two_pos (w - t)
    have hm0 := Int.emod_nonneg (c * v) (show (2 : Int) ^ (w - t) ≠ 0 by omega)
    have hm1 := Int.emod_lt_of_pos (c * v) hp
    refine ⟨padd r (psc (((c * v % 2 ^ (w - t)).toNat : Nat) : Int) g), List.mem_flatMap.mpr ⟨r, hr, List.mem_map.mpr ⟨(c * v % 2 ^ (w - t)).toNat, List.mem_range.mpr ?_, rfl⟩⟩, fun a ha => ?_⟩
    · have : ((2 ^ (w - t) : Nat) : Int) = (2 : Int) ^ (w - t) := by simp
      omega
    · rw [hev, Int.toNat_of_nonneg hm0]
      rcases (e a).mp ha with rfl | ha
      · by_cases hlt : t < w
        · rw [g3 hlt]
          have e2 : (2 : Int) ^ w = 2 ^ t * 2 ^ (w - t) := by rw [← Int.pow_add]; congr 1; omega
          obtain ⟨k, hk⟩ := hv
          have hdm := Int.mul_ediv_add_emod (c * v) (2 ^ (w - t))
          have e3 : ev f a = 2 ^ t * c + ev r a := by omega
          rw [e2, e3]
          have e4 : u * v = 2 ^ (w - t) * k + 1 := by omega
          have e5 : c * v % 2 ^ (w - t) = c * v - 2 ^ (w - t) * (c * v / 2 ^ (w - t)) := by omega
          rw [e5]
          refine ⟨-(c * k) + u * (c * v / 2 ^ (w - t)), ?_⟩
          have e6 : u * (c * v) = c * (2 ^ (w - t) * k + 1) := by rw [← e4]; grind
          generalize c * v / 2 ^ (w - t) = q at *
          grind
        · have h0 : w - t = 0 := by omega
          rw [h0]
          have htw : t = w := by have := ht.le; omega
          rw [htw] at hc
          rw [Int.pow_zero, Int.emod_one]
          exact ⟨c, by omega⟩
      · have h1 := hl a ha
        have h2 : (2 : Int) ^ w ∣ (c * v % 2 ^ (w - t)) * ev g a := Int.dvd_trans (g2 a ha) (Int.dvd_mul_left _ _)
        rw [show ev f a - (ev r a + c * v % 2 ^ (w - t) * ev g a) = (ev f a - ev r a) - c * v % 2 ^ (w - t) * ev g a by omega]
        exact Int.dvd_sub h1 h2
  · rw [List.length_flatMap]
    have : (R.map fun r => ((List.range (2 ^ (w - t))).map fun (i : Nat) => padd r (psc (i : Int) g)).length) = R.map fun _ => 2 ^ (w - t) := by
      apply List.map_congr_left
      intro r _
      simp
    rw [this]
    clear this
    generalize 2 ^ (w - t) = N
    clear h
    induction R with
    | nil => simp
    | cons r R ih =>
      simp only [List.map_cons, List.sum_cons, List.length_cons, ih, Nat.add_mul]
      omega
end Ap

namespace Ap
/-! ### a good order's beginnings -/
theorem good_at {w m : Nat} : ∀ (as : List Int) (os : List Nat) (pre : List Int) (k : Nat) (a : Int), GoodR pre as os → as[k]? = some a →
    ∃ o, os[k]? = some o ∧ o = cost (pre ++ as.take k) a ∧ a ∉ pre ∧ a ∉ as.take k ∧ GoodR pre (as.take k) (os.take k) ∧
      ∀ (m found : Nat), found ≤ w → bitsGo w a m (as.take k) (os.take k) (cost pre a) found = if k < m then min found o else found
  | [], _, _, k, a, _, h => by simp at h
  | b :: as, [], _, _, _, hG, _ => hG.elim
  | b :: as, o :: os, pre, 0, a, hG, h => by
    have e : b = a := by simpa using h
    subst e
    obtain ⟨ho, ha, hle, hG'⟩ := hG
    refine ⟨o, rfl, by simpa using ho, ha, by simp, by simp [GoodR], fun m found hf => ?_⟩
    cases m with
    | zero => simp [bitsGo]
    | succ m => simp only [List.take_zero, bitsGo, ho]; rw [if_pos (by omega)]
  | b :: as, o :: os, pre, k + 1, a, hG, h => by
    obtain ⟨ho, hb, hle, hG'⟩ := hG
    have h' : as[k]? = some a := by simpa using h
    obtain ⟨o', e1, e2, n1, n2, g, hbits⟩ := good_at (w := w) (m := m) as os (pre ++ [b]) k a hG' h'
    have hna : a ∉ pre := fun z => n1 (List.mem_append_left _ z)
    have hab : a ≠ b := fun z => n1 (by rw [z]; exact List.mem_append_right _ (List.mem_singleton.mpr rfl))
    have hmem : a ∈ as := List.mem_of_getElem? h'
    refine ⟨o', by simpa using e1, by rw [e2]; simp, hna, ?_, ⟨ho, hb, fun x hx => hle x (List.mem_of_mem_take hx), g⟩, fun m found hf => ?_⟩
    · rw [List.take_succ_cons]
      intro z
      rcases List.mem_cons.mp z with z | z
      · exact hab z
      · exact n2 z
    · cases m with
      | zero => simp [bitsGo]
      | succ m =>
        simp only [List.take_succ_cons, bitsGo]
        have hoa := hle a hmem
        rw [← cost_snoc, hbits m _ (by omega)]
        have : min found (w - o + cost pre a) = found := by omega
        rw [this]
        by_cases hk : k < m
        · rw [if_pos hk, if_pos (by omega)]
        · rw [if_neg hk, if_neg (by omega)]
theorem good_len : ∀ (pre as : List Int) (os : List Nat), GoodR pre as os → as.length = os.length
  | _, [], [], _ => rfl
  | pre, a :: as, o :: os, h => by simp [good_len (pre ++ [a]) as os h.2.2.2]
  | _, [], _ :: _, h => h.elim
  | _, _ :: _, [], h => h.elim
/-- the number A -/
def amt (w m : Nat) (os : List Nat) : Nat := ((os.take m).map fun o => w - o).sum
theorem sys_good {w m : Nat} {as : List Int} {os : List Nat} (G : GoodR [] as os) : ∃ R, Sys w m as R ∧ R.length = 2 ^ amt w m os := by
  have key : ∀ k, k ≤ as.length → ∃ R, Sys w m (as.take k) R ∧ R.length = 2 ^ amt w m (os.take k) := by
    intro k
    induction k with
    | zero => intro _; exact ⟨[[]], by rw [List.take_zero]; exact sys_nil w m, by simp [amt]⟩
    | succ k ih =>
      intro hk
      obtain ⟨R, hS, hl⟩ := ih (by omega)
      have hg : as[k]? = some as[k] := List.getElem?_eq_getElem (by omega)
      obtain ⟨o, e1, e2, n1, n2, g, hb⟩ := good_at (w := w) (m := m) as os [] k _ G hg
      have ht := told_of (w := w) (m := m) g as[k]
      rw [show bitsAt w m (as.take k) (os.take k) as[k] = bitsGo w as[k] m (as.take k) (os.take k) 0 w from if_neg n2] at ht
      have hb' := hb m w (Nat.le_refl _)
      rw [show cost [] as[k] = 0 from rfl] at hb'
      rw [hb'] at ht
      obtain ⟨R', hS', hl'⟩ := sys_step (S' := as.take (k + 1)) hS ht fun x => by
        rw [List.take_add_one, hg]
        simp only [Option.toList, List.mem_append, List.mem_singleton]
        exact Or.comm
      refine ⟨R', hS', ?_⟩
      rw [hl', hl, ← Nat.pow_add]
      congr 1
      have e3 : os.take (k + 1) = os.take k ++ [o] := by rw [List.take_add_one, e1]; rfl
      rw [e3]
      unfold amt
      rw [List.take_append]
      have hlen : (os.take k).length = k := by
        have := good_len _ _ _ G
        rw [List.length_take]; omega
      rw [hlen, List.map_append, List.sum_append]
      by_cases hkm : k < m
      · rw [if_pos hkm]
        have : List.take (m - k) [o] = [o] := List.take_of_length_le (by simp; omega)
        rw [this]
        simp only [List.map_cons, List.map_nil, List.sum_cons, List.sum_nil]
        omega
      · rw [if_neg hkm, show m - k = 0 by omega]
        simp
  have := key as.length (Nat.le_refl _)
  have hlen := good_len _ _ _ G
  rw [List.take_length, hlen, List.take_length] at this
  exact this
theorem pow_inj {a b : Nat} (h : 2 ^ a = 2 ^ b) : a = b := (Nat.pow_right_inj (by decide)).mp h
theorem amt_step {w m : Nat} {S S' : List Int} {os os' : List Nat} {p : Int} {t : Nat} (G : GoodR [] S os) (G' : GoodR [] S' os') (ht : Told w m S p t) (e : ∀ x, x ∈ S' ↔ x = p ∨ x ∈ S) :
    amt w m os' = amt w m os + (w - t) := by
  obtain ⟨R, h, hl⟩ := sys_good (w := w) (m := m) G
  obtain ⟨R', h', hl'⟩ := sys_good (w := w) (m := m) G'
  obtain ⟨R2, h2, hl2⟩ := sys_step h ht e
  have a := h'.le h2 fun x hx => hx
  have b := h2.le h' fun x hx => hx
  apply pow_inj
  rw [Nat.pow_add, ← hl, ← hl']
  omega
theorem amt_mono {w m : Nat} {S S' : List Int} {os os' : List Nat} (G : GoodR [] S os) (G' : GoodR [] S' os') (e : ∀ x, x ∈ S → x ∈ S') : amt w m os ≤ amt w m os' := by
  obtain ⟨R, h, hl⟩ := sys_good (w := w) (m := m) G
  obtain ⟨R', h', hl'⟩ := sys_good (w := w) (m := m) G'
  have a := h.le h' e
  rw [hl, hl'] at a
  exact (Nat.pow_le_pow_iff_right (by decide)).mp a
theorem amt_le (w m : Nat) (os : List Nat) : amt w m os ≤ w * m := by
  unfold amt
  have h : ∀ l : List Nat, (l.map fun o => w - o).sum ≤ w * l.length := by
    intro l
    induction l with
    | nil => simp
    | cons o l ih =>
      simp only [List.map_cons, List.sum_cons, List.length_cons, Nat.mul_add]; omega
  refine Nat.le_trans (h _) (Nat.mul_le_mul_left _ ?_)
  rw [List.length_take]; omega

/-! ### the greedy order -/
def minL : List Nat → Nat
  | [] => 0
  | [x] => x
  | x :: y :: r => min x (minL (y :: r))
theorem minL_mem : ∀ l : List Nat, l ≠ [] → minL l ∈ l
  | [], h => absurd rfl h
  | [x], _ => by simp [minL]
  | x :: y :: r, _ => by
    have ih := minL_mem (y :: r) (by simp)
    simp only [minL]
    rcases Nat.le_total x (minL (y :: r)) with h | h
    · rw [Nat.min_eq_left h]; exact List.mem_cons_self
    · rw [Nat.min_eq_right h]; exact List.mem_cons_of_mem _ ih
theorem minL_le : ∀ (l : List Nat) (x : Nat), x ∈ l → minL l ≤ x
  | [], x, h => by cases h
  | [y], x, h => by
    rw [List.mem_singleton.mp h]; exact Nat.le_refl _
  | y :: z :: r, x, h => by
    have ih := minL_le (z :: r)
    simp only [minL]
    rcases List.mem_cons.mp h with rfl | h
    · exact Nat.min_le_left _ _
    · exact Nat.le_trans (Nat.min_le_right _ _) (ih x h)
theorem minL_eq {l : List Nat} {k : Nat} (h : k ∈ l) (hl : ∀ x, x ∈ l → k ≤ x) : minL l = k := by
  have hne : l ≠ [] := fun z => by rw [z] at h; cases h
  have a := hl _ (minL_mem l hne)
  have b := minL_le l k h
  omega
def fidx (k : Nat) : List Nat → Nat
  | [] => 0
  | x :: r => if x = k then 0 else fidx k r + 1
theorem fidx_at (k : Nat) : ∀ l : List Nat, k ∈ l → l[fidx k l]? = some k
  | [], h => by cases h
  | x :: r, h => by
    unfold fidx
    split
    · rename_i e; rw [e]; rfl
    · rename_i e
      rcases List.mem_cons.mp h with h | h
      · exact absurd h.symm e
      · simpa using fidx_at k r h
theorem fidx_lt (k : Nat) (l : List Nat) (h : k ∈ l) : fidx k l < l.length := by
  have := fidx_at k l h
  exact (List.getElem?_eq_some_iff.mp this).1
theorem fidx_no (k : Nat) : ∀ (l : List Nat) (j : Nat), j < fidx k l → l[j]? ≠ some k
  | [], j, h => by simp [fidx] at h
  | x :: r, j, h => by
    unfold fidx at h
    split at h
    · omega
    · rename_i e
      cases j with
      | zero => simpa using e
      | succ j => simpa using fidx_no k r j (by omega)
theorem fidx_eq {k : Nat} {l : List Nat} {j : Nat} (h : l[j]? = some k) (hn : ∀ i, i < j → l[i]? ≠ some k) : fidx k l = j := by
  have hm : k ∈ l := List.mem_of_getElem? h
  have h1 := fidx_at k l hm
  have h2 := fidx_no k l
  by_cases a : fidx k l < j
  · exact absurd h1 (hn _ a)
  · by_cases b : j < fidx k l
    · exact absurd h (h2 _ b)
    · omega
def costs (pre left : List Int) : List Nat := left.map (cost pre)
def pickAt (pre left : List Int) : Nat := fidx (minL (costs pre left)) (costs pre left)
def goodGo : Nat → List Int → List Int → List Int × List Nat
  | 0, _, _ => ([], [])
  | _ + 1, _, [] => ([], [])
  | f + 1, pre, left@(_ :: _) =>
    let a := left.getD (pickAt pre left) 0
    let r := goodGo f (pre ++ [a]) (left.eraseIdx (pickAt pre left))
    (a :: r.1, cost pre a :: r.2)
def goodRow (S : List Int) : List Int × List Nat := goodGo S.length [] S
theorem pick_spec (pre left : List Int) (h : left ≠ []) : ∃ a, left[pickAt pre left]? = some a ∧ cost pre a = minL (costs pre left) ∧ ∀ x, x ∈ left → cost pre a ≤ cost pre x := by
  have hne : costs pre left ≠ [] := by simpa [costs] using h
  have hm := minL_mem _ hne
  have h1 := fidx_at _ _ hm
  unfold costs at h1
  rw [List.getElem?_map] at h1
  obtain ⟨a, e1, e2⟩ := Option.map_eq_some_iff.mp h1
  refine ⟨a, e1, e2, fun x hx => ?_⟩
  rw [e2]
  exact minL_le _ _ (List.mem_map.mpr ⟨x, hx, rfl⟩)
theorem goodGo_cons (f : Nat) (pre left : List Int) (h : left ≠ []) : goodGo (f + 1) pre left =
    (left.getD (pickAt pre left) 0 :: (goodGo f (pre ++ [left.getD (pickAt pre left) 0]) (left.eraseIdx (pickAt pre left))).1,
     cost pre (left.getD (pickAt pre left) 0) :: (goodGo f (pre ++ [left.getD (pickAt pre left) 0]) (left.eraseIdx (pickAt pre left))).2) := by
  cases left with
  | nil => exact absurd rfl h
  | cons b left => rfl
theorem mem_erase_iff {l : List Int} {j : Nat} {a : Int} (hj : l[j]? = some a) (x : Int) : x ∈ l ↔ x = a ∨ x ∈ l.eraseIdx j := by
  obtain ⟨hlt, e⟩ := List.getElem?_eq_some_iff.mp hj
  have hp : l = l.take j ++ a :: l.drop (j + 1) := by
    rw [← e, List.getElem_cons_drop, List.take_append_drop]
  rw [List.eraseIdx_eq_take_drop_succ]
  constructor
  · intro h
    rw [hp] at h
    rcases List.mem_append.mp h with h | h
    · exact .inr (List.mem_append_left _ h)
    · rcases List.mem_cons.mp h with h | h
      · exact .inl h
      · exact .inr (List.mem_append_right _ h)
  · rintro (h | h)
    · rw [h]; exact List.mem_of_getElem? hj
    · rcases List.mem_append.mp h with h | h
      · exact List.mem_of_mem_take h
      · exact List.mem_of_mem_drop h
theorem nodup_erase {l : List Int} (h : l.Nodup) {j : Nat} {a : Int} (hj : l[j]? = some a) : (l.eraseIdx j).Nodup ∧ a ∉ l.eraseIdx j := by
  obtain ⟨hlt, e⟩ := List.getElem?_eq_some_iff.mp hj
  have hp : l = l.take j ++ a :: l.drop (j + 1) := by
    rw [← e, List.getElem_cons_drop, List.take_append_drop]
  rw [List.eraseIdx_eq_take_drop_succ]
  rw [hp] at h
  have h2 := List.nodup_append.mp h
  obtain ⟨h3, h4, h5⟩ := h2
  obtain ⟨h6, h7⟩ := List.nodup_cons.mp h4
  refine ⟨List.nodup_append.mpr ⟨h3, h7, fun x hx y hy => h5 x hx y (List.mem_cons_of_mem _ hy)⟩, fun hm => ?_⟩
  rcases List.mem_append.mp hm with hm | hm
  · exact h5 a hm a List.mem_cons_self rfl
  · exact h6 hm
theorem goodGo_good : ∀ (f : Nat) (pre left : List Int), left.length ≤ f → left.Nodup → (∀ x, x ∈ left → x ∉ pre) →
    GoodR pre (goodGo f pre left).1 (goodGo f pre left).2 ∧ (∀ x, x ∈ (goodGo f pre left).1 ↔ x ∈ left) ∧ (goodGo f pre left).1.length = left.length ∧ (goodGo f pre left).2.length = left.length
  | 0, pre, left, hl, _, _ => by
    have : left = [] := List.eq_nil_of_length_eq_zero (by omega)
    subst this
    simp [goodGo, GoodR]
  | f + 1, pre, [], _, _, _ => by simp [goodGo, GoodR]
  | f + 1, pre, b :: left, hl, hn, hd => by
    obtain ⟨a, e, ec, hle⟩ := pick_spec pre (b :: left) (by simp)
    rw [goodGo_cons f pre (b :: left) (by simp)]
    have eg : (b :: left).getD (pickAt pre (b :: left)) 0 = a := by
      rw [List.getD_eq_getElem?_getD, e]; rfl
    rw [eg]
    obtain ⟨n1, n2⟩ := nodup_erase hn e
    have hm := mem_erase_iff e
    have hlt := (List.getElem?_eq_some_iff.mp e).1
    have hlen : ((b :: left).eraseIdx (pickAt pre (b :: left))).length = left.length := by
      rw [List.length_eraseIdx_of_lt hlt, List.length_cons]; omega
    obtain ⟨i1, i2, i3, i4⟩ := goodGo_good f (pre ++ [a]) ((b :: left).eraseIdx (pickAt pre (b :: left))) (by rw [hlen]; simp at hl; omega) n1 fun x hx => by
      intro z
      rcases List.mem_append.mp z with z | z
      · exact hd x ((hm x).mpr (.inr hx)) z
      · rw [List.mem_singleton.mp z] at hx; exact n2 hx
    refine ⟨⟨rfl, hd a ((hm a).mpr (.inl rfl)), fun x hx => hle x ((hm x).mpr (.inr ((i2 x).mp hx))), i1⟩, fun x => ?_, ?_, ?_⟩
    · show x ∈ a :: _ ↔ _
      rw [List.mem_cons, i2 x, hm x]
    · simp only [List.length_cons, i3, hlen]
    · simp only [List.length_cons, i4, hlen]
theorem goodRow_good {S : List Int} (h : S.Nodup) : GoodR [] (goodRow S).1 (goodRow S).2 := (goodGo_good S.length [] S (Nat.le_refl _) h fun _ _ => List.not_mem_nil).1
theorem goodRow_mem {S : List Int} (h : S.Nodup) (x : Int) : x ∈ (goodRow S).1 ↔ x ∈ S := (goodGo_good S.length [] S (Nat.le_refl _) h fun _ _ => List.not_mem_nil).2.1 x
theorem goodRow_len {S : List Int} (h : S.Nodup) : (goodRow S).1.length = S.length ∧ (goodRow S).2.length = S.length := (goodGo_good S.length [] S (Nat.le_refl _) h fun _ _ => List.not_mem_nil).2.2
/-- the number A of places, the bits told -/
def Amt (w m : Nat) (S : List Int) : Nat := amt w m (goodRow S).2
def Bits (w m : Nat) (S : List Int) (p : Int) : Nat := bitsAt w m (goodRow S).1 (goodRow S).2 p
theorem bits_told {w m : Nat} {S : List Int} (h : S.Nodup) (p : Int) : Told w m S p (Bits w m S p) := (told_of (goodRow_good h) p).congr (goodRow_mem h)
theorem Amt_step {w m : Nat} {S S' : List Int} {p : Int} (h : S.Nodup) (h' : S'.Nodup) (e : ∀ x, x ∈ S' ↔ x = p ∨ x ∈ S) : Amt w m S' = Amt w m S + (w - Bits w m S p) :=
  amt_step (S := (goodRow S).1) (S' := (goodRow S').1) (p := p) (goodRow_good h) (goodRow_good h') (told_of (goodRow_good h) p) fun x => by rw [goodRow_mem h', goodRow_mem h, e]
theorem Amt_mono {w m : Nat} {S S' : List Int} (h : S.Nodup) (h' : S'.Nodup) (e : ∀ x, x ∈ S → x ∈ S') : Amt w m S ≤ Amt w m S' :=
  amt_mono (goodRow_good h) (goodRow_good h') fun x hx => (goodRow_mem h' x).mpr (e x ((goodRow_mem h x).mp hx))
theorem Bits_congr {w m : Nat} {S S' : List Int} (h : S.Nodup) (h' : S'.Nodup) (e : ∀ x, x ∈ S ↔ x ∈ S') (p : Int) : Bits w m S p = Bits w m S' p :=
  ((bits_told h p).congr e).unique (bits_told h' p)
theorem Amt_congr {w m : Nat} {S S' : List Int} (h : S.Nodup) (h' : S'.Nodup) (e : ∀ x, x ∈ S ↔ x ∈ S') : Amt w m S = Amt w m S' := by
  have a := Amt_mono (w := w) (m := m) h h' fun x hx => (e x).mp hx
  have b := Amt_mono (w := w) (m := m) h' h fun x hx => (e x).mpr hx
  omega
theorem Bits_le (w m : Nat) (S : List Int) (p : Int) : Bits w m S p ≤ w := bitsAt_le ..
theorem Bits_mem {w m : Nat} {S : List Int} (h : S.Nodup) {p : Int} (hp : p ∈ S) : Bits w m S p = w := if_pos ((goodRow_mem h p).mpr hp)
/-- told whole, by its meaning -/
theorem Bits_whole {w m : Nat} {S : List Int} (h : S.Nodup) (p : Int) : Bits w m S p = w ↔ ∀ f : List Int, f.length ≤ m → (∀ a, a ∈ S → (2 : Int) ^ w ∣ ev f a) → (2 : Int) ^ w ∣ ev f p := by
  have ht := bits_told (w := w) (m := m) h p
  constructor
  · intro e; rw [e] at ht; exact ht.low
  · intro hf
    by_cases hlt : Bits w m S p < w
    · obtain ⟨g, u, h1, h2, h3, h4⟩ := ht.high hlt
      have := hf g h1 h2
      rw [h3] at this
      exact absurd this (not_dvd_odd h4 hlt)
    · have := Bits_le w m S p; omega
end Ap

namespace Ap
/-! ### sums of items times products -/
def nw : List Int → List Int → Int → Int
  | d :: ds, a :: as, x => d + (x - a) * nw ds as x
  | _, _, _ => 0
theorem nw_nil (as : List Int) (x : Int) : nw [] as x = 0 := by cases as <;> rfl
theorem nw_snoc : ∀ (ds as : List Int) (d x : Int), ds.length < as.length → nw (ds ++ [d]) as x = nw ds as x + d * prd (as.take ds.length) x
  | ds, [], d, x, h => by simp at h
  | [], a :: as, d, x, h => by simp [nw, nw_nil, prd]
  | e :: ds, a :: as, d, x, h => by
    have ih := nw_snoc ds as d x (by simpa using h)
    simp only [List.cons_append, nw, List.length_cons, List.take_succ_cons, prd, ih]; grind
def npoly : List Int → List Int → List Int
  | d :: ds, a :: as => padd [d] (pmul a (npoly ds as))
  | _, _ => []
theorem ev_npoly : ∀ ds as x, ev (npoly ds as) x = nw ds as x
  | [], as, x => by cases as <;> rfl
  | d :: ds, [], x => rfl
  | d :: ds, a :: as, x => by simp only [npoly, ev_padd, ev_pmul, ev_npoly ds as x, nw, ev]; grind
theorem len_npoly : ∀ ds as, (npoly ds as).length ≤ ds.length
  | [], as => by cases as <;> simp [npoly]
  | d :: ds, [] => by simp [npoly]
  | d :: ds, a :: as => by
    have ih := len_npoly ds as
    simp only [npoly, len_padd, len_pmul, List.length_cons, List.length_nil]; omega
theorem nw_zeros : ∀ (ds as : List Int) (x : Int), (∀ d, d ∈ ds → d = 0) → nw ds as x = 0
  | [], as, x, _ => nw_nil as x
  | d :: ds, [], x, _ => rfl
  | d :: ds, a :: as, x, h => by
    simp only [nw, h d List.mem_cons_self, nw_zeros ds as x fun e he => h e (List.mem_cons_of_mem _ he)]; simp
theorem nw_take : ∀ (m : Nat) (ds as : List Int) (x : Int), (∀ j, m ≤ j → ∀ d, ds[j]? = some d → d = 0) → nw ds as x = nw (ds.take m) as x
  | 0, ds, as, x, h => by
    rw [List.take_zero, nw_nil, nw_zeros]
    intro d hd
    obtain ⟨j, hj⟩ := List.mem_iff_getElem?.mp hd
    exact h j (Nat.zero_le _) d hj
  | m + 1, [], as, x, _ => by simp
  | m + 1, d :: ds, [], x, _ => by simp [nw]
  | m + 1, d :: ds, a :: as, x, h => by
    simp only [List.take_succ_cons, nw]
    rw [nw_take m ds as x fun j hj e he => h (j + 1) (by omega) e (by simpa using he)]
/-! ### known words -/
def Fit (w m : Nat) (kv : List (Int × Int)) (f : List Int) : Prop := f.length ≤ m ∧ ∀ q, q ∈ kv → (2 : Int) ^ w ∣ ev f q.1 - q.2
structure ItemsOk (w m : Nat) (order : List Int) (wd : Int → Int) (k : Nat) (items : List Int) : Prop where
  len : items.length = k
  val : ∀ (j : Nat) a, j < k → order[j]? = some a → (2 : Int) ^ w ∣ nw items order a - wd a
  zero : ∀ (j : Nat) d, m ≤ j → items[j]? = some d → d = 0
theorem ItemsOk.poly {w m : Nat} {order : List Int} {wd : Int → Int} {k : Nat} {items : List Int} (h : ItemsOk w m order wd k items) : ∃ g : List Int, g.length ≤ m ∧ ∀ x, ev g x = nw items order x :=
  ⟨npoly (items.take m) order, Nat.le_trans (len_npoly _ _) (by rw [List.length_take]; omega), fun x => by rw [ev_npoly, ← nw_take m items order x fun j hj d hd => h.zero j d hj hd]⟩
theorem items_nil (w m : Nat) (order : List Int) (wd : Int → Int) : ItemsOk w m order wd 0 [] := ⟨rfl, fun _ _ h => by omega, fun j d _ h => by simp at h⟩
/-- what is lacking at the next place is a multiple of its step -/
theorem item_lack {w m : Nat} {order : List Int} {os : List Nat} {wd : Int → Int} {k : Nat} {items f : List Int} {a : Int} (G : GoodR [] order os) (hf : f.length ≤ m) (hv : ∀ b, b ∈ order → (2 : Int) ^ w ∣ ev f b - wd b)
    (h : ItemsOk w m order wd k items) (ha : order[k]? = some a) : ∃ o u, os[k]? = some o ∧ prd (order.take k) a = 2 ^ o * u ∧ u % 2 = 1 ∧ (2 : Int) ^ (min w (if k < m then o else w)) ∣ wd a - nw items order a := by
  obtain ⟨o, e1, e2, n1, n2, g, hb⟩ := good_at (w := w) (m := m) order os [] k a G ha
  obtain ⟨u, eu, ou⟩ := prd_cost n2
  refine ⟨o, u, e1, by rw [eu, e2]; rfl, ou, ?_⟩
  obtain ⟨q, hq, hqe⟩ := h.poly
  have ht := told_of (w := w) (m := m) g a
  rw [show bitsAt w m (order.take k) (os.take k) a = bitsGo w a m (order.take k) (os.take k) 0 w from if_neg n2] at ht
  have hb' := hb m w (Nat.le_refl _)
  rw [show cost [] a = 0 from rfl] at hb'
  rw [hb'] at ht
  have e3 : min w (if k < m then o else w) = if k < m then min w o else w := by split <;> omega
  rw [e3]
  have hlow := ht.low (padd f (psc (-1) q)) (by rw [len_padd, len_psc]; omega) fun b hb => by
    rw [ev_padd, ev_psc, hqe]
    have h1 := hv b (List.mem_of_mem_take hb)
    obtain ⟨j, hj⟩ := List.mem_iff_getElem?.mp hb
    have hjk : j < k := by
      have := (List.getElem?_eq_some_iff.mp hj).1
      rw [List.length_take] at this; omega
    have hj' : order[j]? = some b := by rw [List.getElem?_take, if_pos hjk] at hj; exact hj
    have h2 := h.val j b hjk hj'
    rw [show ev f b + -1 * nw items order b = (ev f b - wd b) - (nw items order b - wd b) by omega]
    exact Int.dvd_sub h1 h2
  rw [ev_padd, ev_psc, hqe] at hlow
  have h1 := hv a (List.mem_of_getElem? ha)
  have hle := ht.le
  rw [show wd a - nw items order a = (ev f a + -1 * nw items order a) - (ev f a - wd a) by omega]
  exact Int.dvd_sub hlow (Int.dvd_trans (pow_dvd hle) h1)
theorem item_next {w m : Nat} {order : List Int} {wd : Int → Int} {k : Nat} {items : List Int} {a d : Int} (h : ItemsOk w m order wd k items) (ha : order[k]? = some a)
    (hz : m ≤ k → d = 0) (hd : (2 : Int) ^ w ∣ nw items order a + d * prd (order.take k) a - wd a) : ItemsOk w m order wd (k + 1) (items ++ [d]) := by
  have hk : k < order.length := (List.getElem?_eq_some_iff.mp ha).1
  have es : ∀ x, nw (items ++ [d]) order x = nw items order x + d * prd (order.take k) x := fun x => by
    rw [nw_snoc _ _ _ _ (by rw [h.len]; exact hk), h.len]
  refine ⟨by simp [h.len], fun j b hj hb => ?_, fun j e hj he => ?_⟩
  · rw [es]
    by_cases hjk : j < k
    · have hm : b ∈ order.take k := List.mem_iff_getElem?.mpr ⟨j, by rw [List.getElem?_take, if_pos hjk]; exact hb⟩
      rw [prd_mem hm]
      have := h.val j b hjk hb
      simpa using this
    · have : j = k := by omega
      subst this
      rw [ha] at hb
      cases hb
      exact hd
  · by_cases hjk : j < k
    · rw [List.getElem?_append_left (by rw [h.len]; exact hjk)] at he
      exact h.zero j e hj he
    · have hj2 : j < (items ++ [d]).length := (List.getElem?_eq_some_iff.mp he).1
      have : j = k := by simp [h.len] at hj2; omega
      subst this
      rw [List.getElem?_append_right (by rw [h.len]; exact Nat.le_refl _), h.len] at he
      simp at he
      rw [← he]
      exact hz hj
/-- the item of a step below the width -/
theorem item_make {w o : Nat} {u v L D : Int} (ho : o < w) (hl : (2 : Int) ^ o ∣ L) (hu : u % 2 = 1) (hi : v * u % 2 ^ (w - o) = 1 % 2 ^ (w - o)) (hD : D = L / 2 ^ o * v % 2 ^ (w - o)) : (2 : Int) ^ w ∣ D * (2 ^ o * u) - L := by
  obtain ⟨l, rfl⟩ := hl
  have hp := two_pos o
  rw [Int.mul_ediv_cancel_left _ (by omega)] at hD
  have e2 : (2 : Int) ^ w = 2 ^ o * 2 ^ (w - o) := by rw [← Int.pow_add]; congr 1; omega
  have d1 : (2 : Int) ^ (w - o) ∣ D - l * v := by
    rw [hD]
    have := Int.mul_ediv_add_emod (l * v) (2 ^ (w - o))
    exact ⟨-(l * v / 2 ^ (w - o)), by grind⟩
  have d2 : (2 : Int) ^ (w - o) ∣ v * u - 1 := Int.dvd_of_emod_eq_zero (Int.emod_eq_emod_iff_emod_sub_eq_zero.mp hi)
  obtain ⟨x, hx⟩ := d1
  obtain ⟨y, hy⟩ := d2
  rw [e2]
  exact ⟨x * u + l * y, by grind⟩
/-- the word that items make -/
theorem items_word {w m : Nat} {S order : List Int} {wd : Int → Int} {items f : List Int} {p : Int} {t : Nat} (hS : ∀ x, x ∈ S ↔ x ∈ order) (h : ItemsOk w m order wd order.length items) (hf : f.length ≤ m) (hv : ∀ b, b ∈ order → (2 : Int) ^ w ∣ ev f b - wd b)
    (ht : Told w m S p t) : nw items order p % 2 ^ t = ev f p % 2 ^ t := by
  obtain ⟨q, hq, hqe⟩ := h.poly
  have := ht.low (padd f (psc (-1) q)) (by rw [len_padd, len_psc]; omega) fun b hb => by
    rw [ev_padd, ev_psc, hqe]
    have hb' := (hS b).mp hb
    have h1 := hv b hb'
    obtain ⟨j, hj⟩ := List.mem_iff_getElem?.mp hb'
    have h2 := h.val j b (List.getElem?_eq_some_iff.mp hj).1 hj
    rw [show ev f b + -1 * nw items order b = (ev f b - wd b) - (nw items order b - wd b) by omega]
    exact Int.dvd_sub h1 h2
  rw [ev_padd, ev_psc, hqe] at this
  refine (Int.emod_eq_emod_iff_emod_sub_eq_zero.mpr (Int.emod_eq_zero_of_dvd ?_)).symm
  rw [show ev f p - nw items order p = ev f p + -1 * nw items order p by omega]
  exact this
/-! ### the words that can stand at a place -/
def keys (kv : List (Int × Int)) : List Int := kv.map (·.1)
theorem fit_low {w m : Nat} {kv : List (Int × Int)} {f g : List Int} {p : Int} {t : Nat} (ht : Told w m (keys kv) p t) (hf : Fit w m kv f) (hg : Fit w m kv g) : ev f p % 2 ^ t = ev g p % 2 ^ t := by
  have := ht.low (padd f (psc (-1) g)) (by have := hf.1; have := hg.1; rw [len_padd, len_psc]; omega) fun b hb => by
    obtain ⟨q, hq, rfl⟩ := List.mem_map.mp hb
    rw [ev_padd, ev_psc]
    have h1 := hf.2 q hq
    have h2 := hg.2 q hq
    rw [show ev f q.1 + -1 * ev g q.1 = (ev f q.1 - q.2) - (ev g q.1 - q.2) by omega]
    exact Int.dvd_sub h1 h2
  rw [ev_padd, ev_psc] at this
  refine Int.emod_eq_emod_iff_emod_sub_eq_zero.mpr (Int.emod_eq_zero_of_dvd ?_)
  rw [show ev f p - ev g p = ev f p + -1 * ev g p by omega]
  exact this
/-- each word with the told bits stands there -/
theorem fit_more {w m : Nat} {kv : List (Int × Int)} {f : List Int} {p v : Int} {t : Nat} (ht : Told w m (keys kv) p t) (hf : Fit w m kv f) (hv : v % 2 ^ t = ev f p % 2 ^ t) : ∃ g, Fit w m ((p, v) :: kv) g := by
  by_cases hlt : t < w
  · obtain ⟨h, u, h1, h2, h3, h4⟩ := ht.high hlt
    obtain ⟨c, hc⟩ := Int.dvd_of_emod_eq_zero (Int.emod_eq_emod_iff_emod_sub_eq_zero.mp hv)
    obtain ⟨z, hz⟩ := odd_inv w u h4
    refine ⟨padd f (psc (c * z) h), by have := hf.1; rw [len_padd, len_psc]; omega, fun q hq => ?_⟩
    rw [ev_padd, ev_psc]
    rcases List.mem_cons.mp hq with rfl | hq
    · obtain ⟨k, hk⟩ := hz
      show (2 : Int) ^ w ∣ ev f p + c * z * ev h p - v
      rw [h3]
      exact ⟨2 ^ t * c * k, by grind⟩
    · have a := hf.2 q hq
      have b : (2 : Int) ^ w ∣ c * z * ev h q.1 := Int.dvd_trans (h2 q.1 (List.mem_map.mpr ⟨q, hq, rfl⟩)) (Int.dvd_mul_left _ _)
      rw [show ev f q.1 + c * z * ev h q.1 - q.2 = (ev f q.1 - q.2) + c * z * ev h q.1 by omega]
      exact Int.dvd_add a b
  · have e : t = w := by have := ht.le; omega
    subst e
    refine ⟨f, hf.1, fun q hq => ?_⟩
    rcases List.mem_cons.mp hq with rfl | hq
    · exact Int.dvd_of_emod_eq_zero (Int.emod_eq_emod_iff_emod_sub_eq_zero.mp hv.symm)
    · exact hf.2 q hq
/-! ### the first codeword -/
def rowOf (w : Nat) (places f : List Int) : List Int := places.map fun a => ev f a % 2 ^ w
/-- f's row is ahead of g's by its k-th word -/
def LexAt (w : Nat) (places : List Int) (k : Nat) (f g : List Int) : Prop :=
  (∀ (j : Nat) a, j < k → places[j]? = some a → ev f a % 2 ^ w = ev g a % 2 ^ w) ∧ ∃ a, places[k]? = some a ∧ ev f a % 2 ^ w < ev g a % 2 ^ w
structure First (w m : Nat) (places : List Int) (kv : List (Int × Int)) (row : List Int) : Prop where
  code : ∃ f, Fit w m kv f ∧ row = rowOf w places f
  least : ∀ f g, Fit w m kv f → row = rowOf w places f → Fit w m kv g → rowOf w places f = rowOf w places g ∨ ∃ k, LexAt w places k f g
theorem lex_no {w : Nat} {places : List Int} {k l : Nat} {f g : List Int} (h : LexAt w places k f g) (h' : LexAt w places l g f) : False := by
  obtain ⟨h1, a, h2, h3⟩ := h
  obtain ⟨i1, b, i2, i3⟩ := h'
  by_cases e : k < l
  · have := i1 k a e h2; omega
  · by_cases e2 : l < k
    · have := h1 l b e2 i2; omega
    · have : k = l := by omega
      subst this
      rw [h2] at i2
      cases i2
      omega
theorem lex_ne {w : Nat} {places : List Int} {k : Nat} {f g : List Int} (h : LexAt w places k f g) : rowOf w places f ≠ rowOf w places g := fun e => by
  obtain ⟨h1, a, h2, h3⟩ := h
  have e2 : (rowOf w places f)[k]? = (rowOf w places g)[k]? := by rw [e]
  unfold rowOf at e2
  rw [List.getElem?_map, List.getElem?_map, h2] at e2
  simp at e2
  omega
theorem First.unique {w m : Nat} {places : List Int} {kv : List (Int × Int)} {row row' : List Int} (h : First w m places kv row) (h' : First w m places kv row') : row = row' := by
  obtain ⟨f, hf, ef⟩ := h.code
  obtain ⟨g, hg, eg⟩ := h'.code
  rcases h.least f g hf ef hg with e | ⟨k, hk⟩
  · rw [ef, eg, e]
  · rcases h'.least g f hg eg hf with e | ⟨l, hl⟩
    · rw [ef, eg, e]
    · exact (lex_no hk hl).elim
theorem Fit.perm {w m : Nat} {kv kv' : List (Int × Int)} (e : ∀ q, q ∈ kv ↔ q ∈ kv') {f : List Int} : Fit w m kv f ↔ Fit w m kv' f :=
  ⟨fun h => ⟨h.1, fun q hq => h.2 q ((e q).mpr hq)⟩, fun h => ⟨h.1, fun q hq => h.2 q ((e q).mp hq)⟩⟩
theorem First.perm {w m : Nat} {places : List Int} {kv kv' : List (Int × Int)} (e : ∀ q, q ∈ kv ↔ q ∈ kv') {row : List Int} (h : First w m places kv row) : First w m places kv' row := by
  obtain ⟨f, hf, ef⟩ := h.code
  exact ⟨⟨f, (Fit.perm e).mp hf, ef⟩, fun f g hf ef hg => h.least f g ((Fit.perm e).mpr hf) ef ((Fit.perm e).mpr hg)⟩
/-- while the places are filled one by one: known, what is kept at turn i -/
structure Fill (w m : Nat) (places : List Int) (known : List (Int × Int)) (i : Nat) (kv : List (Int × Int)) : Prop where
  sub : ∀ q, q ∈ known → q ∈ kv
  nodup : (keys kv).Nodup
  mem : ∀ x, x ∈ keys kv ↔ x ∈ keys known ∨ ∃ j, j < i ∧ places[j]? = some x
  word : ∀ q, q ∈ kv → 0 ≤ q.2 ∧ q.2 < 2 ^ w
  code : ∃ f, Fit w m kv f
  least : ∀ f g, Fit w m kv f → Fit w m known g → Fit w m kv g ∨ ∃ k, k < i ∧ LexAt w places k f g
theorem fill_zero {w m : Nat} {places : List Int} {known : List (Int × Int)} (h1 : (keys known).Nodup) (h2 : ∀ q, q ∈ known → 0 ≤ q.2 ∧ q.2 < 2 ^ w) (h3 : ∃ f, Fit w m known f) : Fill w m places known 0 known :=
  ⟨fun _ h => h, h1, fun x => ⟨.inl, fun h => by rcases h with h | ⟨j, h, _⟩; exact h; omega⟩, h2, h3, fun f g hf hg => .inl hg⟩
theorem fill_skip {w m : Nat} {places : List Int} {known kv : List (Int × Int)} {i : Nat} {p : Int} (h : Fill w m places known i kv) (hp : places[i]? = some p) (hk : p ∈ keys kv) : Fill w m places known (i + 1) kv :=
  ⟨h.sub, h.nodup, fun x => by
    rw [h.mem]
    constructor
    · rintro (a | ⟨j, a, b⟩)
      · exact .inl a
      · exact .inr ⟨j, by omega, b⟩
    · rintro (a | ⟨j, a, b⟩)
      · exact .inl a
      · by_cases e : j < i
        · exact .inr ⟨j, e, b⟩
        · have : j = i := by omega
          subst this
          rw [hp] at b
          cases b
          exact (h.mem p).mp hk, h.word, h.code, fun f g hf hg => by
    rcases h.least f g hf hg with a | ⟨k, a, b⟩
    · exact .inl a
    · exact .inr ⟨k, by omega, b⟩⟩
theorem emod_emod_pow {a : Int} {t w : Nat} (h : t ≤ w) : a % 2 ^ w % 2 ^ t = a % 2 ^ t := Int.emod_emod_of_dvd _ (pow_dvd h)
theorem word_lt {t w : Nat} (h : t ≤ w) (a : Int) : 0 ≤ a % 2 ^ t ∧ a % 2 ^ t < 2 ^ w := by
  have hp := two_pos t
  refine ⟨Int.emod_nonneg _ (by omega), ?_⟩
  have := Int.emod_lt_of_pos a hp
  have h2 : (2 : Int) ^ t ≤ 2 ^ w := Int.le_of_dvd (two_pos w) (pow_dvd h)
  omega
theorem fill_put {w m : Nat} {places : List Int} {known kv : List (Int × Int)} {i : Nat} {p v : Int} {t : Nat} (h : Fill w m places known i kv) (hp : places[i]? = some p) (hk : p ∉ keys kv) (ht : Told w m (keys kv) p t)
    (hv : ∃ f, Fit w m kv f ∧ v = ev f p % 2 ^ t) : Fill w m places known (i + 1) (kv ++ [(p, v)]) := by
  obtain ⟨f0, hf0, ev0⟩ := hv
  have hvw := word_lt ht.le (ev f0 p)
  rw [← ev0] at hvw
  have ek : keys (kv ++ [(p, v)]) = keys kv ++ [p] := by simp [keys]
  refine ⟨fun q hq => List.mem_append_left _ (h.sub q hq), ?_, fun x => ?_, fun q hq => ?_, ?_, fun f g hf hg => ?_⟩
  · rw [ek]
    exact List.nodup_append.mpr ⟨h.nodup, List.pairwise_singleton _ _, fun a ha b hb e => hk (by rw [List.mem_singleton.mp hb] at e; rw [← e]; exact ha)⟩
  · rw [ek, List.mem_append, h.mem, List.mem_singleton]
    constructor
    · rintro ((a | ⟨j, a, b⟩) | rfl)
      · exact .inl a
      · exact .inr ⟨j, by omega, b⟩
      · exact .inr ⟨i, by omega, hp⟩
    · rintro (a | ⟨j, a, b⟩)
      · exact .inl (.inl a)
      · by_cases e : j < i
        · exact .inl (.inr ⟨j, e, b⟩)
        · have : j = i := by omega
          subst this
          rw [hp] at b
          exact .inr (Option.some.inj b).symm
  · rcases List.mem_append.mp hq with hq | hq
    · exact h.word q hq
    · rw [List.mem_singleton.mp hq]; exact hvw
  · obtain ⟨g, hg⟩ := fit_more (v := v) ht hf0 (by rw [ev0, Int.emod_emod_of_dvd _ (Int.dvd_refl _)])
    exact ⟨g, hg.1, fun q hq => hg.2 q (by
      rcases List.mem_append.mp hq with hq | hq
      · exact List.mem_cons_of_mem _ hq
      · rw [List.mem_singleton.mp hq]; exact List.mem_cons_self)⟩
  · have hf' : Fit w m kv f := ⟨hf.1, fun q hq => hf.2 q (List.mem_append_left _ hq)⟩
    rcases h.least f g hf' hg with a | ⟨k, a, b⟩
    · by_cases hd : (2 : Int) ^ w ∣ ev g p - v
      · refine .inl ⟨a.1, fun q hq => ?_⟩
        rcases List.mem_append.mp hq with hq | hq
        · exact a.2 q hq
        · rw [List.mem_singleton.mp hq]; exact hd
      · refine .inr ⟨i, by omega, fun j b hj hb => ?_, p, hp, ?_⟩
        · have hb' : b ∈ keys kv := (h.mem b).mpr (.inr ⟨j, hj, hb⟩)
          obtain ⟨q, hq, rfl⟩ := List.mem_map.mp hb'
          have h1 := hf'.2 q hq
          have h2 := a.2 q hq
          have e1 := Int.emod_eq_emod_iff_emod_sub_eq_zero.mpr (Int.emod_eq_zero_of_dvd h1)
          have e2 := Int.emod_eq_emod_iff_emod_sub_eq_zero.mpr (Int.emod_eq_zero_of_dvd h2)
          rw [e1, e2]
        · have hfp : ev f p % 2 ^ w = v := by
            have h1 := hf.2 (p, v) (List.mem_append_right _ (List.mem_singleton.mpr rfl))
            have e1 := Int.emod_eq_emod_iff_emod_sub_eq_zero.mpr (Int.emod_eq_zero_of_dvd h1)
            rw [e1]
            exact Int.emod_eq_of_lt hvw.1 hvw.2
          rw [hfp]
          have e2 : ev g p % 2 ^ w % 2 ^ t = v := by
            rw [emod_emod_pow ht.le, ev0]
            exact fit_low ht a hf0
          have hg0 := word_lt (Nat.le_refl w) (ev g p)
          have hne : ev g p % 2 ^ w ≠ v := fun e => hd (Int.dvd_of_emod_eq_zero (by
            have e3 : ev g p % 2 ^ w = v % 2 ^ w := by rw [e]; exact (Int.emod_eq_of_lt hvw.1 hvw.2).symm
            exact Int.emod_eq_emod_iff_emod_sub_eq_zero.mp e3))
          have hle : ev g p % 2 ^ w % 2 ^ t ≤ ev g p % 2 ^ w := by
            have := Int.mul_ediv_add_emod (ev g p % 2 ^ w) (2 ^ t)
            have h5 : 0 ≤ ev g p % 2 ^ w / 2 ^ t := Int.ediv_nonneg hg0.1 (by have := two_pos t; omega)
            have h6 : 0 ≤ (2 : Int) ^ t * (ev g p % 2 ^ w / 2 ^ t) := Int.mul_nonneg (by have := two_pos t; omega) h5
            omega
          omega
    · exact .inr ⟨k, by omega, b⟩
/-- all places filled: the first codeword -/
theorem fill_end {w m : Nat} {places : List Int} {known kv : List (Int × Int)} {row : List Int} (h : Fill w m places known places.length kv) (hr : row.length = places.length) (hv : ∀ (j : Nat) p v, places[j]? = some p → row[j]? = some v → (p, v) ∈ kv) : First w m places known row := by
  have hrow : ∀ f, Fit w m kv f → row = rowOf w places f := fun f hf => by
    apply List.ext_getElem?
    intro j
    unfold rowOf
    rw [List.getElem?_map]
    by_cases hj : j < places.length
    · have e1 := List.getElem?_eq_getElem hj
      have e2 := List.getElem?_eq_getElem (show j < row.length by omega)
      rw [e1, e2]
      have hq := hv j _ _ e1 e2
      have h1 := hf.2 _ hq
      have e3 := Int.emod_eq_emod_iff_emod_sub_eq_zero.mpr (Int.emod_eq_zero_of_dvd h1)
      have h2 := h.word _ hq
      simp only [Option.map_some]
      congr 1
      have e4 : row[j] % 2 ^ w = row[j] := Int.emod_eq_of_lt h2.1 h2.2
      have e5 : ev f places[j] % 2 ^ w = row[j] % 2 ^ w := e3
      omega
    · rw [List.getElem?_eq_none (by omega), List.getElem?_eq_none (by omega)]; rfl
  obtain ⟨f, hf⟩ := h.code
  have hfk : Fit w m known f := ⟨hf.1, fun q hq => hf.2 q (h.sub q hq)⟩
  refine ⟨⟨f, hfk, hrow f hf⟩, fun f' g hf' ef' hg => ?_⟩
  have er : rowOf w places f' = rowOf w places f := by rw [← ef', ← hrow f hf]
  rw [er]
  rcases h.least f g hf hg with a | ⟨k, a, b⟩
  · left; rw [← hrow f hf, ← hrow g a]
  · right
    refine ⟨k, fun j c hj hc => ?_, ?_⟩
    · have e2 : (rowOf w places f')[j]? = (rowOf w places f)[j]? := by rw [er]
      unfold rowOf at e2
      rw [List.getElem?_map, List.getElem?_map, hc] at e2
      have e3 : ev f' c % 2 ^ w = ev f c % 2 ^ w := by simpa using e2
      rw [e3]
      exact b.1 j c hj hc
    · obtain ⟨c, hc, hlt⟩ := b.2
      have e2 : (rowOf w places f')[k]? = (rowOf w places f)[k]? := by rw [er]
      unfold rowOf at e2
      rw [List.getElem?_map, List.getElem?_map, hc] at e2
      have e3 : ev f' c % 2 ^ w = ev f c % 2 ^ w := by simpa using e2
      exact ⟨c, hc, by rw [e3]; exact hlt⟩
/-- the words of the first codeword are the least ones, place by place -/
theorem first_least {w m : Nat} {places : List Int} {known kv : List (Int × Int)} {row f : List Int} {i : Nat} {p v : Int} {t : Nat} (h : First w m places known row) (hf : Fit w m known f) (er : row = rowOf w places f) (hp : places[i]? = some p)
    (hv : row[i]? = some v) (hfk : Fit w m kv f) (hsub : ∀ q, q ∈ known → q ∈ kv) (hahead : ∀ (j : Nat) a, j < i → places[j]? = some a → a ∈ keys kv) (ht : Told w m (keys kv) p t) : ev f p % 2 ^ t = v := by
  have hvv : v = ev f p % 2 ^ w := by
    rw [er] at hv
    unfold rowOf at hv
    rw [List.getElem?_map, hp] at hv
    simpa using hv.symm
  obtain ⟨g, hg⟩ := fit_more (v := ev f p % 2 ^ t) ht hfk (Int.emod_emod_of_dvd _ (Int.dvd_refl _))
  have hgk : Fit w m known g := ⟨hg.1, fun q hq => hg.2 q (List.mem_cons_of_mem _ (hsub q hq))⟩
  have hgp : ev g p % 2 ^ w = ev f p % 2 ^ t := by
    have h1 := hg.2 _ List.mem_cons_self
    have e1 := Int.emod_eq_emod_iff_emod_sub_eq_zero.mpr (Int.emod_eq_zero_of_dvd h1)
    have hw := word_lt ht.le (ev f p)
    rw [show ev g p % 2 ^ w = ev f p % 2 ^ t % 2 ^ w from e1]
    exact Int.emod_eq_of_lt hw.1 hw.2
  have hagree : ∀ (j : Nat) a, j < i → places[j]? = some a → ev f a % 2 ^ w = ev g a % 2 ^ w := fun j a hj ha => by
    obtain ⟨q, hq, rfl⟩ := List.mem_map.mp (hahead j a hj ha)
    have e1 := Int.emod_eq_emod_iff_emod_sub_eq_zero.mpr (Int.emod_eq_zero_of_dvd (hfk.2 q hq))
    have e2 := Int.emod_eq_emod_iff_emod_sub_eq_zero.mpr (Int.emod_eq_zero_of_dvd (hg.2 q (List.mem_cons_of_mem _ hq)))
    rw [e1, e2]
  have hle : ev f p % 2 ^ w ≤ ev f p % 2 ^ t := by
    rcases h.least f g hf er hgk with e | ⟨k, h1, a, h2, h3⟩
    · have e2 : (rowOf w places f)[i]? = (rowOf w places g)[i]? := by rw [e]
      unfold rowOf at e2
      rw [List.getElem?_map, List.getElem?_map, hp] at e2
      have e3 : ev f p % 2 ^ w = ev g p % 2 ^ w := by simpa using e2
      omega
    · by_cases hk : k < i
      · have := hagree k a hk h2; omega
      · by_cases hk2 : i < k
        · have := h1 i p hk2 hp; omega
        · have : k = i := by omega
          subst this
          rw [hp] at h2
          cases h2
          omega
  have e2 : ev f p % 2 ^ w % 2 ^ t = ev f p % 2 ^ t := emod_emod_pow ht.le
  have hw := word_lt (Nat.le_refl w) (ev f p)
  have hge : ev f p % 2 ^ w % 2 ^ t ≤ ev f p % 2 ^ w := by
    have := Int.mul_ediv_add_emod (ev f p % 2 ^ w) (2 ^ t)
    have h5 : 0 ≤ ev f p % 2 ^ w / 2 ^ t := Int.ediv_nonneg hw.1 (by have := two_pos t; omega)
    have h6 : 0 ≤ (2 : Int) ^ t * (ev f p % 2 ^ w / 2 ^ t) := Int.mul_nonneg (by have := two_pos t; omega) h5
    omega
  omega
end Ap

/-! zip(xs, ys, strict=b): made, drawn, walked -/
namespace Zst
open PySem PySem.Spec PyProof.Rows
open PySem.Sem (wp)
theorem typeCall_zs (a b : Value) (k : Bool) : checkTypeCall "zip" ⟨[a, b], [(Str.ofString "strict", .bool k)]⟩ = pure () := by kernel_rfl
theorem newCall_zs (a b : Value) (k : Bool) : checkBuiltinCall "zip.__new__" ⟨[.type "zip", a, b], [(Str.ofString "strict", .bool k)]⟩ = pure () := by kernel_rfl
theorem initArgs_zs (x a b : Value) (k : Bool) : argsOk "object.__init__" ⟨[x, a, b], [(Str.ofString "strict", .bool k)]⟩ := by
  unfold argsOk; rw [signature?_of (id := "object.__init__") (n := ['_', '_', 't', 'i', 'n', 'i', '_', '_']) (o := ['t', 'c', 'e', 'j', 'b', 'o']) (by kernel_rfl) F.owner_object]; kernel_rfl
/-- a zip object that is strict or not -/
abbrev ZipB (h : Heap) (z TI TO : Addr) (f0 : Value) (k : Bool) : Prop :=
  h.get? z = some { cls := .type "zip", dict := none, data := .fields #[f0, .bool false, .bool k, .ref TI, .ref TO], slots := #[] }
abbrev g1 (h : Heap) (p : Addr) : Heap := h.push { cls := .type "list_iterator", data := .fields #[.ref p, .int 0 0] }
abbrev g2 (h : Heap) (p q : Addr) : Heap := (g1 h p).push { cls := .type "list_iterator", data := .fields #[.ref q, .int 0 0] }
abbrev g3 (h : Heap) (p q : Addr) : Heap := (g2 h p q).push { cls := .type "tuple", data := .seq #[.ref h.objs.size, .ref (g1 h p).objs.size] }
abbrev g4 (h : Heap) (p q : Addr) : Heap := (g3 h p q).push { cls := .type "tuple", data := .seq #[.none, .none] }
abbrev g5 (h : Heap) (p q : Addr) (k : Bool) : Heap := (g4 h p q).push { cls := .type "zip", data := .fields #[.none, .bool false, .bool k, .ref (g2 h p q).objs.size, .ref (g3 h p q).objs.size] }
theorem new_meets (p q : Addr) (xs ys : Array Value) (k : Bool) :
    Meets (Builtin.«zip.__new__» ⟨[.type "zip", .ref p, .ref q], [(Str.ofString "strict", .bool k)]⟩) (fun _ R s => s.heap.IsList p xs ∧ s.heap.IsList q ys ∧
      R (.ok (.ret (.ref (g4 s.heap p q).objs.size))) { s with heap := g5 s.heap p q k }) :=
  .of_wp fun prog w A R s h => by
    obtain ⟨hp, g, d, tk, os⟩ := s
    obtain ⟨e1, e2, h⟩ := h
    have hsub := sub_zip
    have w1 : (Str.ofString "strict" != ("strict" : Str)) = false := by decide +kernel
    have l1 : Heap.IsList (Shared.heap ⟨hp, g, d, tk, os⟩) p xs := e1
    have l2 : Heap.IsList (Shared.heap ⟨hp.push { cls := .type "list_iterator", data := .fields #[.ref p, .int 0 0] }, g, d, tk, os⟩) q ys := Heap.IsList.push e2 _
    wp_walk using wpAny_pyIter_list l1, wpAny_pyIter_list l2
    exact ⟨_, rfl, h⟩
section
variable {prog : Program} {w : World} {A : Around} {E : Value → Shared → Prop} {s : Shared}
theorem made {p q : Addr} {xs ys : Array Value} {k : Bool} {Q : Value → Shared → Prop} (e1 : s.heap.IsList p xs) (e2 : s.heap.IsList q ys)
    (h : ∀ h', ZipB h' (s.heap.objs.size + 4) (s.heap.objs.size + 2) (s.heap.objs.size + 3) .none k → IsPair h' (s.heap.objs.size + 2) (.ref s.heap.objs.size) (.ref (s.heap.objs.size + 1)) →
      IsPair h' (s.heap.objs.size + 3) .none .none → h'.IsListIter s.heap.objs.size p 0 → h'.IsListIter (s.heap.objs.size + 1) q 0 → h'.objs.size = s.heap.objs.size + 5 →
      (∀ c o, s.heap.get? c = some o → h'.get? c = some o) → Q (.ref (s.heap.objs.size + 4)) { s with heap := h' }) :
    wpAny (model prog w) A (call (.type "zip") [.ref p, .ref q] [(Str.ofString "strict", .bool k)]) Q E s := by
  refine callType_newKw F.called_zip (by decide) (typeCall_zs _ _ k) (newCall_zs _ _ k) (fun x => initArgs_zs x _ _ k) F.entry_zip_new (new_meets p q xs ys k) ⟨e1, e2, ?_⟩
  have n1 : (g1 s.heap p).objs.size = s.heap.objs.size + 1 := Heap.size_push ..
  have n2 : (g2 s.heap p q).objs.size = s.heap.objs.size + 2 := by rw [Heap.size_push, n1]
  have n3 : (g3 s.heap p q).objs.size = s.heap.objs.size + 3 := by rw [Heap.size_push, n2]
  have n4 : (g4 s.heap p q).objs.size = s.heap.objs.size + 4 := by rw [Heap.size_push, n3]
  have n5 : (g5 s.heap p q k).objs.size = s.heap.objs.size + 5 := by rw [Heap.size_push, n4]
  have at4 : (g5 s.heap p q k).get? (g4 s.heap p q).objs.size = some _ := Heap.get?_push_size _ rfl
  have at3 : (g5 s.heap p q k).get? (g3 s.heap p q).objs.size = some _ := Heap.get?_push_of_some _ (Heap.get?_push_size _ rfl)
  have at2 : (g5 s.heap p q k).get? (g2 s.heap p q).objs.size = some _ := Heap.get?_push_of_some _ (Heap.get?_push_of_some _ (Heap.get?_push_size _ rfl))
  have at1 : (g5 s.heap p q k).get? (g1 s.heap p).objs.size = some _ := Heap.get?_push_of_some _ (Heap.get?_push_of_some _ (Heap.get?_push_of_some _ (Heap.get?_push_size _ rfl)))
  have at0 : (g5 s.heap p q k).get? s.heap.objs.size = some _ := Heap.get?_push_of_some _ (Heap.get?_push_of_some _ (Heap.get?_push_of_some _ (Heap.get?_push_of_some _ (Heap.get?_push_size _ rfl))))
  show _ ∧ _
  rw [n2, n3, n4] at at4
  rw [n1, n2] at at2
  rw [n3] at at3
  rw [n1] at at1
  rw [n4]
  refine ⟨⟨_, at4, rfl⟩, h _ at4 at2 at3 ⟨_, at0, rfl, rfl⟩ ⟨_, at1, rfl, rfl⟩ n5 fun c o z => ?_⟩
  exact Heap.get?_push_of_some _ (Heap.get?_push_of_some _ (Heap.get?_push_of_some _ (Heap.get?_push_of_some _ (Heap.get?_push_of_some _ z))))
/-! ### the next one, strict -/
theorem draw_item {it l : Addr} {i : Nat} {items : Array Value} {x : Value} {Q : Option Value → Shared → Prop} (e1 : s.heap.IsListIter it l i) (e2 : s.heap.IsList l items) (hx : items[i]? = some x)
    (k : ∀ h', h'.IsListIter it l (i + 1) → Heap.SameBut it s.heap h' → Q (some x) { s with heap := h' }) : wpAny (model prog w) A (Builtin.SmallTypes.nextOrEnd (.ref it)) Q E s := by
  unfold Builtin.SmallTypes.nextOrEnd
  exact wpAny_bind (wpAny_attempt (wpAny_nextOf_list_item e1 e2 hx fun h' a b => wpAny_pure (k h' a b)))
theorem draw_end {it l : Addr} {i : Nat} {items : Array Value} {Q : Option Value → Shared → Prop} (hh : A.handled = none) (e1 : s.heap.IsListIter it l i) (e2 : s.heap.IsList l items) (hx : items[i]? = none)
    (k : ∀ h', Heap.ExtBut it s.heap h' → Q none { s with heap := h' }) : wpAny (model prog w) A (Builtin.SmallTypes.nextOrEnd (.ref it)) Q E s := by
  unfold Builtin.SmallTypes.nextOrEnd
  refine wpAny_bind (wpAny_attempt (wpAny_nextOf_list_end hh e1 e2 hx fun h' e a b => ?_))
  obtain ⟨o, ho, hc⟩ := b
  refine wpAny_bind (wpAny_isInstance (T := "StopIteration") (b := true) ⟨o, ho, hc⟩ isSubtype_stop ?_)
  exact wpAny_pure (k h' a)
end
end Zst

namespace Zst
open PySem PySem.Spec PyProof.Rows
open PySem.Sem (wp)
section
variable {prog : Program} {w : World} {A : Around} {E : Value → Shared → Prop} {s : Shared}
/-- what a drawn pair leaves -/
abbrev Apart4 (z TO i1 i2 : Addr) (h h' : Heap) : Prop := ∀ c o, c ≠ z → c ≠ TO → c ≠ i1 → c ≠ i2 → h.get? c = some o → h'.get? c = some o
theorem body_item {z TI TO i1 i2 p q : Addr} {n1 n2 : Nat} {xs ys : Array Value} {x y a b : Value} {Q : Value → Shared → Prop} (D : ZipApart z TI TO i1 i2 p q)
    (hz : ZipB s.heap z TI TO .none true) (hI : IsPair s.heap TI (.ref i1) (.ref i2)) (hO : IsPair s.heap TO a b)
    (c1 : s.heap.IsListIter i1 p n1) (c2 : s.heap.IsListIter i2 q n2) (e1 : s.heap.IsList p xs) (e2 : s.heap.IsList q ys) (hx : xs[n1]? = some x) (hy : ys[n2]? = some y)
    (k : ∀ h', ZipB h' z TI TO (rawInt s.heap.objs.size) true → IsPair h' TO x y → h'.IsListIter i1 p (n1 + 1) → h'.IsListIter i2 q (n2 + 1) → IsPair h' s.heap.objs.size x y → h'.objs.size = s.heap.objs.size + 1 →
      Apart4 z TO i1 i2 s.heap h' → Q (.ref s.heap.objs.size) { s with heap := h' }) :
    wpAny (model prog w) A (Builtin.«zip.__next__» ⟨[.ref z], []⟩) (fun fin s' => ∃ v, fin = .done (.ret v) ∧ Q v s') E s := by
  show wpAny _ _ (field (.ref z) 2 >>= _) _ _ _
  refine wpAny_bind (wpAny_field hz rfl (x := .bool true) rfl ?_)
  show wpAny _ _ (field (.ref z) 3 >>= _) _ _ _
  refine wpAny_bind (wpAny_field hz rfl (x := .ref TI) rfl (wpAny_bind (wpAny_seqItems hI rfl ?_)))
  show wpAny _ _ (Builtin.SmallTypes.ownedTupleIsFree (.ref z) >>= _) _ _ _
  refine wpAny_bind ?_
  unfold Builtin.SmallTypes.ownedTupleIsFree
  refine wpAny_bind (wpAny_field hz rfl (x := .none) rfl (wpAny_pure ?_))
  simp only [if_true]
  refine wpAny_bind (wpAny_rule (wpAny_bind (wpAny_field hz rfl (x := .ref TO) rfl (wpAny_bind (wpAny_setField_rec hz (by simp) fun ha za sa => ?_)))))
  have za : ZipB ha z TI TO .ellipsis true := za
  refine wpAny_bind ?_
  simp only [List.zipIdx_cons, List.zipIdx_nil, List.forIn_cons, List.forIn_nil]
  -- the first list
  refine wpAny_bind (wpAny_bind (wpAny_onRaise ?_))
  show wpAny _ _ (Builtin.SmallTypes.nextOrEnd (.ref i1)) _ _ _
  refine draw_item (c1.extBut sa.extBut D.i1z) (e1.extBut sa.extBut D.l1z) hx fun hb c1b sb => ?_
  have Ob : IsPair hb TO a b := sb.extBut _ _ D.TOi1 (sa.extBut _ _ D.TOz hO)
  refine wpAny_bind (wpAny_seqItems Ob rfl (wpAny_bind (wpAny_updateSeq_pair Ob fun hc Oc sc => ?_)))
  have Oc : IsPair hc TO x b := Oc
  refine wpAny_bind (wpAny_letGo (wpAny_pure ?_))
  -- the second list
  refine wpAny_bind (wpAny_bind (wpAny_onRaise ?_))
  show wpAny _ _ (Builtin.SmallTypes.nextOrEnd (.ref i2)) _ _ _
  have c2c : hc.IsListIter i2 q n2 := ((c2.extBut sa.extBut D.i2z).extBut sb.extBut D.i12.symm).extBut sc.extBut D.TOi2.symm
  have e2c : hc.IsList q ys := ((e2.extBut sa.extBut D.l2z).extBut sb.extBut D.l2i1).extBut sc.extBut D.l2TO
  refine draw_item c2c e2c hy fun hd c2d sd => ?_
  have Od : IsPair hd TO x b := sd.extBut _ _ D.TOi2 Oc
  refine wpAny_bind (wpAny_seqItems Od rfl (wpAny_bind (wpAny_updateSeq_pair Od fun he Oe se => ?_)))
  have Oe : IsPair he TO x y := Oe
  refine wpAny_bind (wpAny_letGo (wpAny_pure (wpAny_pure ?_)))
  refine wpAny_bind (wpAny_seqItems Oe rfl (wpAny_bind (wpAny_newTuple ?_)))
  have size_e : he.objs.size = s.heap.objs.size := by rw [se.1, sd.1, sc.1, sb.1, sa.1]
  have ze : ZipB he z TI TO .ellipsis true := se.extBut _ _ D.TOz.symm (sd.extBut _ _ D.i2z.symm (sc.extBut _ _ D.TOz.symm (sb.extBut _ _ D.i1z.symm za)))
  have stay : Apart4 z TO i1 i2 s.heap he := fun c o k1 k2 k3 k4 r => se.extBut _ _ k2 (sd.extBut _ _ k4 (sc.extBut _ _ k2 (sb.extBut _ _ k3 (sa.extBut _ _ k1 r))))
  have c1e : he.IsListIter i1 p (n1 + 1) := ((c1b.extBut sc.extBut D.TOi1.symm).extBut sd.extBut D.i12).extBut se.extBut D.TOi1.symm
  have c2e : he.IsListIter i2 q (n2 + 1) := c2d.extBut se.extBut D.TOi2.symm
  have zlt : z < he.objs.size := Heap.lt_size ze
  show wpAny _ _ (Builtin.SmallTypes.ownedTupleHandOut (.ref z) (.ref he.objs.size) >>= _) _ _ _
  refine wpAny_bind ?_
  unfold Builtin.SmallTypes.ownedTupleHandOut
  have zf : ZipB (he.push { cls := .type "tuple", data := .seq #[x, y] }) z TI TO .ellipsis true := Heap.get?_push_of_some _ ze
  refine wpAny_bind (wpAny_setField_rec zf (by simp) fun hg zg sg => ?_)
  have zg : ZipB hg z TI TO (rawInt he.objs.size) true := zg
  refine wpAny_setField_rec zg (by simp) fun hi zi si => ?_
  have zi : ZipB hi z TI TO (rawInt he.objs.size) true := zi
  have lift : ∀ c o, c ≠ z → he.get? c = some o → hi.get? c = some o := fun c o ne r => si.extBut _ _ ne (sg.extBut _ _ ne (Heap.get?_push_of_some _ r))
  have Ti : IsPair hi he.objs.size x y := si.extBut _ _ (Nat.ne_of_gt zlt) (sg.extBut _ _ (Nat.ne_of_gt zlt) (Heap.get?_push_size _ rfl))
  have size_i : hi.objs.size = he.objs.size + 1 := by rw [si.1, sg.1, Heap.size_push]
  rw [size_e] at zi Ti size_i
  refine wpAny_pure ⟨_, rfl, ?_⟩
  show Q (.ref he.objs.size) _
  rw [size_e]
  exact k hi zi (lift _ _ D.TOz Oe) (c1e.at fun o r => lift _ o D.i1z r) (c2e.at fun o r => lift _ o D.i2z r) Ti size_i fun c o k1 k2 k3 k4 r => lift c o k1 (stay c o k1 k2 k3 k4 r)
/-- StopIteration is raised -/
theorem stop_raised {Q : Fin → Shared → Prop} (hh : A.handled = none) (k : ∀ h' e, (∀ c o, s.heap.get? c = some o → h'.get? c = some o) → (∃ o, h'.get? e = some o ∧ o.cls = .type "StopIteration") → E (.ref e) { s with heap := h' }) :
    wpAny (model prog w) A (Builtin.SmallTypes.stopIteration) Q E s := by
  show wpAny _ _ (newExc (.type "StopIteration") [] >>= _) _ _ _
  refine wpAny_bind ?_
  simp only [newExc, newTuple]
  refine wpAny_bind (wpAny_newObj_type (wpAny_bind (m := firstArgMember _ _) (wpAny_of_eq (a := Value.none) (by first | rfl | (simp only [firstArgMember]; rfl)) (wpAny_newObj_type ?_ (by size_fits)))) (by size_fits))
  simp only [raiseNew]
  refine wpAny_bind (wpAny_handled ?_)
  rw [hh]
  refine wpAny_bind (wpAny_pure (wpAny_throw ?_))
  exact k _ _ (fun c o r => Heap.get?_push_of_some _ (Heap.get?_push_of_some _ r)) ⟨_, Heap.get?_push_size _ rfl, rfl⟩
/-- both lists end at once -/
theorem body_end {z TI TO i1 i2 p q : Addr} {n1 n2 : Nat} {xs ys : Array Value} {a b : Value} {Q : Fin → Shared → Prop} (hh : A.handled = none) (D : ZipApart z TI TO i1 i2 p q)
    (hz : ZipB s.heap z TI TO .none true) (hI : IsPair s.heap TI (.ref i1) (.ref i2)) (hO : IsPair s.heap TO a b)
    (c1 : s.heap.IsListIter i1 p n1) (c2 : s.heap.IsListIter i2 q n2) (e1 : s.heap.IsList p xs) (e2 : s.heap.IsList q ys) (hx : xs[n1]? = none) (hy : ys[n2]? = none)
    (k : ∀ h' e, Apart4 z TO i1 i2 s.heap h' → (∃ o, h'.get? e = some o ∧ o.cls = .type "StopIteration") → E (.ref e) { s with heap := h' }) :
    wpAny (model prog w) A (Builtin.«zip.__next__» ⟨[.ref z], []⟩) Q E s := by
  show wpAny _ _ (field (.ref z) 2 >>= _) _ _ _
  refine wpAny_bind (wpAny_field hz rfl (x := .bool true) rfl ?_)
  show wpAny _ _ (field (.ref z) 3 >>= _) _ _ _
  refine wpAny_bind (wpAny_field hz rfl (x := .ref TI) rfl (wpAny_bind (wpAny_seqItems hI rfl ?_)))
  show wpAny _ _ (Builtin.SmallTypes.ownedTupleIsFree (.ref z) >>= _) _ _ _
  refine wpAny_bind ?_
  unfold Builtin.SmallTypes.ownedTupleIsFree
  refine wpAny_bind (wpAny_field hz rfl (x := .none) rfl (wpAny_pure ?_))
  simp only [if_true]
  refine wpAny_bind (wpAny_rule (wpAny_bind (wpAny_field hz rfl (x := .ref TO) rfl (wpAny_bind (wpAny_setField_rec hz (by simp) fun ha za sa => ?_)))))
  have za : ZipB ha z TI TO .ellipsis true := za
  refine wpAny_bind ?_
  simp only [List.zipIdx_cons, List.zipIdx_nil, List.forIn_cons, List.forIn_nil]
  refine wpAny_bind (wpAny_bind (wpAny_onRaise ?_))
  show wpAny _ _ (Builtin.SmallTypes.nextOrEnd (.ref i1)) _ _ _
  refine draw_end hh (c1.extBut sa.extBut D.i1z) (e1.extBut sa.extBut D.l1z) hx fun hb sb => ?_
  have zb : ZipB hb z TI TO .ellipsis true := sb _ _ D.i1z.symm za
  have c2b : hb.IsListIter i2 q n2 := (c2.extBut sa.extBut D.i2z).extBut sb D.i12.symm
  have e2b : hb.IsList q ys := (e2.extBut sa.extBut D.l2z).extBut sb D.l2i1
  refine wpAny_bind (wpAny_setField_rec zb (by simp) fun hc zc sc => ?_)
  have c2c : hc.IsListIter i2 q n2 := c2b.extBut sc.extBut D.i2z
  have e2c : hc.IsList q ys := e2b.extBut sc.extBut D.l2z
  have stay : Apart4 z TO i1 i2 s.heap hc := fun c o k1 k2 k3 k4 r => sc.extBut _ _ k1 (sb _ _ k3 (sa.extBut _ _ k1 r))
  refine wpAny_bind ?_
  show wpAny _ _ (forIn (([Value.ref i1, Value.ref i2].drop 1).zipIdx 1) PUnit.unit _ >>= _) _ _ _
  refine wpAny_bind ?_
  simp only [List.drop_succ_cons, List.drop_zero, List.zipIdx_cons, List.zipIdx_nil, List.forIn_cons, List.forIn_nil]
  refine wpAny_bind (wpAny_bind (draw_end hh c2c e2c hy fun hd sd => ?_))
  simp only [Option.isSome_none, Bool.false_eq_true, if_false]
  refine wpAny_pure (wpAny_pure (wpAny_bind (wpAny_rule ?_)))
  exact stop_raised hh fun h' e k1 k2 => k h' e (fun c o p1 p2 p3 p4 r => k1 c o (sd c o p4 (stay c o p1 p2 p3 p4 r))) k2
end
end Zst

namespace Zst
open PySem PySem.Spec PyProof.Rows L2
section
variable {prog : Program} {w : World} {A : Around} {E : Value → Shared → Prop} {s : Shared}
theorem next_item {z TI TO i1 i2 p q : Addr} {n1 n2 : Nat} {xs ys : Array Value} {x y a b : Value} {Q : Option Value → Shared → Prop} (D : ZipApart z TI TO i1 i2 p q)
    (hz : ZipB s.heap z TI TO .none true) (hI : IsPair s.heap TI (.ref i1) (.ref i2)) (hO : IsPair s.heap TO a b)
    (c1 : s.heap.IsListIter i1 p n1) (c2 : s.heap.IsListIter i2 q n2) (e1 : s.heap.IsList p xs) (e2 : s.heap.IsList q ys) (hx : xs[n1]? = some x) (hy : ys[n2]? = some y)
    (k : ∀ h', ZipB h' z TI TO (rawInt s.heap.objs.size) true → IsPair h' TO x y → h'.IsListIter i1 p (n1 + 1) → h'.IsListIter i2 q (n2 + 1) → IsPair h' s.heap.objs.size x y → h'.objs.size = s.heap.objs.size + 1 →
      Apart4 z TO i1 i2 s.heap h' → Q (some (.ref s.heap.objs.size)) { s with heap := h' }) :
    wpAny (model prog w) A (pyNext (.ref z)) Q E s := by
  have ty : s.TypeIs (.ref z) "zip" := ⟨_, hz, rfl⟩
  unfold pyNext
  refine wpAny_bind (wpAny_attempt (wpAny_callSpecial?_slot (name := Str.ofString "__next__") ty F.slot_zip_next (wpAny_call_entry F.slot_zip_next ty F.entry_zip_next ?_ (F.args_zip_next_1 _))))
  exact body_item D hz hI hO c1 c2 e1 e2 hx hy fun h' a1 a2 a3 a4 a5 a6 a7 => wpAny_pure (k h' a1 a2 a3 a4 a5 a6 a7)
theorem next_end {z TI TO i1 i2 p q : Addr} {n1 n2 : Nat} {xs ys : Array Value} {a b : Value} {Q : Option Value → Shared → Prop} (hh : A.handled = none) (D : ZipApart z TI TO i1 i2 p q)
    (hz : ZipB s.heap z TI TO .none true) (hI : IsPair s.heap TI (.ref i1) (.ref i2)) (hO : IsPair s.heap TO a b)
    (c1 : s.heap.IsListIter i1 p n1) (c2 : s.heap.IsListIter i2 q n2) (e1 : s.heap.IsList p xs) (e2 : s.heap.IsList q ys) (hx : xs[n1]? = none) (hy : ys[n2]? = none)
    (k : ∀ h', Apart4 z TO i1 i2 s.heap h' → Q none { s with heap := h' }) : wpAny (model prog w) A (pyNext (.ref z)) Q E s := by
  have ty : s.TypeIs (.ref z) "zip" := ⟨_, hz, rfl⟩
  unfold pyNext
  refine wpAny_bind (wpAny_attempt (wpAny_callSpecial?_slot (name := Str.ofString "__next__") ty F.slot_zip_next (wpAny_call_entry F.slot_zip_next ty F.entry_zip_next (body_end hh D hz hI hO c1 c2 e1 e2 hx hy fun h' e st he => ?_) (F.args_zip_next_1 _))))
  obtain ⟨o, ho, hc⟩ := he
  exact wpAny_bind (wpAny_isInstance (T := "StopIteration") (b := true) ⟨o, ho, hc⟩ isSubtype_stop (wpAny_pure (k h' st)))
theorem pair_go {elts : List Expr} {x1} {pos : Pos} {z TI TO T : Addr} {k : Bool} {Q : Unit → Shared → Prop} (hz : ZipB s.heap z TI TO (rawInt T) k)
    (hQ : ∀ h', ZipB h' z TI TO .none k → Heap.SameBut z s.heap h' → Q () { s with heap := h' }) : wpAny (model prog w) A (letOwnedTupleGo (.Tuple elts x1 pos) (.ref z) (.ref T)) Q E s := by
  unfold letOwnedTupleGo
  refine wpAny_bind (wpAny_load hz ?_)
  show wpAny _ _ (if (["enumerate", "zip", "dict_itemiterator", "dict_reverseitemiterator", "odict_iterator", "itertools.zip_longest", "itertools.pairwise"].contains "zip" &&
      (#[rawInt T, .bool false, .bool k, .ref TI, .ref TO] : Array Value)[0]? == some (rawInt T)) = true then _ else _) Q E s
  rw [if_pos (by simp)]
  exact wpAny_bind (wpAny_rule (wpAny_setField_rec hz (by simp) fun h' a b => hQ h' a b))
theorem iter_self {z TI TO : Addr} {f0 : Value} {k : Bool} {Q : Value → Shared → Prop} (hz : ZipB s.heap z TI TO f0 k) (h : Q (.ref z) s) : wpAny (model prog w) A (pyIter (.ref z)) Q E s := by
  have ty : s.TypeIs (.ref z) "zip" := ⟨_, hz, rfl⟩
  refine wpAny_pyIter_slot ty F.slot_zip_iter (wpAny_call_entry F.slot_zip_iter ty F.entry_zip_iter ?_ (F.args_zip_iter_1 _))
  show wpAny _ _ (ret (.ref z)) _ _ s
  exact wpAny_pure ⟨_, rfl, "zip", _, ty, F.slot_zip_next.lookup, h⟩
end
/-- two lists of one length, in new pairs -/
def Its2 (K : PySem.W.Frag) (a b : Addr) : It :=
  ⟨(Itz K a b).go, (Itz K a b).yld, fun i H => ∃ xs ys : List V, SqL K H a xs ∧ SqL K H b ys ∧ xs.length ≤ i ∧ ys.length ≤ i⟩
abbrev St5 (a b z TI TO i1 i2 : Addr) (i : Nat) (h : Heap) : Prop :=
  ZipB h z TI TO .none true ∧ IsPair h TI (.ref i1) (.ref i2) ∧ (∃ x y, IsPair h TO x y) ∧ h.IsListIter i1 a i ∧ h.IsListIter i2 b i
theorem in5 {c z TI TO i1 i2 : Addr} (h : c ∈ [z, TI, TO, i1, i2]) : c = z ∨ c = TI ∨ c = TO ∨ c = i1 ∨ c = i2 := by simpa using h
theorem turn_s {P : Program} {w : World} {K : PySem.W.Frag} {elts : List Expr} {kk : Nat} {tpos : Pos} {a b z TI TO i1 i2 : Addr} (D : ZipApart z TI TO i1 i2 a b) :
    Turn P w K (.Tuple elts kk tpos) (Its2 K a b) [z, TI, TO, i1, i2] z (St5 a b z TI TO i1 i2) where
  mem := List.mem_cons_self
  obj := fun i h st c hc => by
    obtain ⟨s1, s2, ⟨x, y, s3⟩, ⟨o1, e1, _, d1⟩, ⟨o2, e2, _, d2⟩⟩ := st
    rcases in5 hc with r | r | r | r | r <;> subst r
    · exact ⟨_, s1, fun v r => nomatch r⟩
    · exact ⟨_, s2, fun v r => nomatch r⟩
    · exact ⟨_, s3, fun v r => nomatch r⟩
    · exact ⟨o1, e1, fun v r => by rw [d1] at r; cases r⟩
    · exact ⟨o2, e2, fun v r => by rw [d2] at r; cases r⟩
  keep := fun i h h' st k => by
    obtain ⟨s1, s2, ⟨x, y, s3⟩, s4, s5⟩ := st
    exact ⟨k z (by simp) _ s1, k TI (by simp) _ s2, ⟨x, y, k TO (by simp) _ s3⟩, s4.at fun o r => k i1 (by simp) o r, s5.at fun o r => k i2 (by simp) o r⟩
  item := by
    intro X hP hw hK hc i pins s σ H E I hf st hg
    subst hP hw hK
    obtain ⟨s1, s2, ⟨x0, y0, s3⟩, s4, s5⟩ := st
    obtain ⟨xs, ys, x, y, qx, qy, hx, hy⟩ := hg
    obtain ⟨us, ru, pu, _⟩ := I.list qx
    obtain ⟨vs, rv, pv, _⟩ := I.list qy
    obtain ⟨u, hu, ru1⟩ := ru.get hx
    obtain ⟨v, hv, rv1⟩ := rv.get hy
    have zl : z < s.heap.objs.size := Heap.lt_size s1
    refine next_item D s1 s2 s3 s4 s5 pu.isList pv.isList (x := u) (y := v) (by simpa using hu) (by simpa using hv) fun h1 t1 t2 t3 t4 t5 t6 t7 => ?_
    refine ⟨_, rfl, pair_go (s := { s with heap := h1 }) t1 fun h2 w1 sb => ?_⟩
    have new2 : h2.get? s.heap.objs.size = some { cls := .type "tuple", data := .seq #[u, v] } := (sb.2 _ (Nat.ne_of_gt zl)).trans t5
    have ok2 : ObjOk X.prog X.w (upd H s.heap.objs.size (.tup [x, y])) h2 s.heap.objs.size (.tup [x, y]) := ⟨by show 2 ≤ sizeLine; decide, [u, v], .cons ru1 (.cons rv1 .nil), ⟨_, new2, rfl, _, rfl⟩⟩
    have I2 : Inv X pins σ (upd H s.heap.objs.size (.tup [x, y])) { s with heap := h2 } :=
      I.turnedNew (t' := s.toks) (ch := [z, TI, TO, i1, i2]) (fun c o hb r => (sb.2 c (fun e => hb (by simp [e]))).trans (t7 c o (fun e => hb (by simp [e])) (fun e => hb (by simp [e])) (fun e => hb (by simp [e])) (fun e => hb (by simp [e])) r)) hf (Nat.le_refl _) ok2
    refine ⟨.ref s.heap.objs.size, _, I2, rfl, ⟨_, x, y, rfl, I.hok.fresh (Nat.le_refl _), rfl, fun l hl => by rw [I.list_inj hl qx]; exact hx, fun l hl => by rw [I.list_inj hl qy]; exact hy⟩, ⟨w1, ?_, ⟨u, v, ?_⟩, ?_, ?_⟩, fun c hcm => ?_⟩
    · exact (sb.2 _ D.TIz).trans (t7 _ _ D.TIz D.TITO D.TIi1 D.TIi2 s2)
    · exact (sb.2 _ D.TOz).trans t2
    · exact t3.at fun o r => (sb.2 _ D.i1z).trans r
    · exact t4.at fun o r => (sb.2 _ D.i2z).trans r
    · have lt : c < s.heap.objs.size := by
        rcases in5 hcm with r | r | r | r | r <;> subst r
        · exact zl
        · exact Heap.lt_size s2
        · exact Heap.lt_size s3
        · obtain ⟨_, e1, _⟩ := s4; exact Heap.lt_size e1
        · obtain ⟨_, e1, _⟩ := s5; exact Heap.lt_size e1
      rw [upd_ne (Nat.ne_of_lt lt)]
      exact (hf c hcm).1
  done := by
    intro X hP hw hK hc i pins s σ H E I hf st hg
    subst hP hw hK
    obtain ⟨s1, s2, ⟨x0, y0, s3⟩, s4, s5⟩ := st
    obtain ⟨xs, ys, qx, qy, l1, l2⟩ := hg
    obtain ⟨us, ru, pu, _⟩ := I.list qx
    obtain ⟨vs, rv, pv, _⟩ := I.list qy
    have n1 := ru.length
    have n2 := rv.length
    exact next_end (I.ok.hd hc) D s1 s2 s3 s4 s5 pu.isList pv.isList (by simp; omega) (by simp; omega) fun h1 st1 => ⟨rfl, I.turnedL (t' := s.toks) (ch := [z, TI, TO, i1, i2]) (fun c o hb r =>
      st1 c o (fun e => hb (by simp [e])) (fun e => hb (by simp [e])) (fun e => hb (by simp [e])) (fun e => hb (by simp [e])) r) hf⟩
  self := fun A i s Q E st h => iter_self st.1 h
/-! ### the call with its keyword -/
section
variable {M : Model} {A : Around} {E : Value → Shared → Prop} {s : Shared} {env : Env}
theorem with_kw {pos : Pos} {T : String} {e : Expr} {rest : List Expr} {kws : List Keyword} {Q : Value → Shared → Prop}
    (h : wpAny M A (spliced (backTo pos (starEach (e :: rest) env))) (fun vs s1 => wpAny M A (evalAll ((backToKw pos (keywordEach kws env)).map (·.2)))
      (fun ks s2 => wpAny M A (call (.type T) vs (((backToKw pos (keywordEach kws env)).filterMap (·.1)).zip ks)) Q E s2) E s1) E s)
    (he : backTo pos (starEach (e :: rest) env) = (false, eval e env) :: backTo pos (starEach rest env))
    (hpl : (backTo pos (starEach (e :: rest) env)).any (·.1) = false) (hall : (backToKw pos (keywordEach kws env)).all (·.1.isSome) = true) (hno : (backToKw pos (keywordEach kws env)).any (·.1.isNone) = false) :
    wpAny M A (callWith pos (.type T) [] (backTo pos (starEach (e :: rest) env)) (backToKw pos (keywordEach kws env))) Q E s := by
  have go : wpAny M A (evalArgs (.type T) true (backTo pos (starEach (e :: rest) env)) (backToKw pos (keywordEach kws env))) (fun a s1 => wpAny M A (call (.type T) ([] ++ a.pos) a.kw) Q E s1) E s := by
    rw [he] at h ⊢
    exact PyProof.Rows.evalArgs_kwB hall h
  unfold callWith
  refine wpAny_bind (wpAny_holding (wpAny_mono go (fun a s1 h1 => wpAny_bind (wpAny_standAt ?_)) fun _ _ x => x))
  simp only [hpl, hno, Bool.or_false]
  exact wpAny_bind (wpAny_pure (wpAny_bind (wpAny_mono h1 (fun r s2 hr => wpAny_bind (wpAny_holding (wpAny_point (wpAny_pure hr)))) fun _ _ x => x)))
end
def iZs (K : PySem.W.Frag) (k : Bool) (ta : TA) : TI := fun σ H R => ta σ H fun vs H1 => ∃ a b xs ys, vs = [.ref a, .ref b] ∧ SqL K H1 a xs ∧ SqL K H1 b ys ∧ R (if k then Its2 K a b else Itz K a b) H1
theorem pi_zs {X : Cx} {e e2 : Expr} {k : Bool} {j} {ta : TA} {p pos tpos kpos cpos : Pos} {elts : List Expr} {kk : Nat} (hg : Gl X "zip") (hm : X.mg "zip" = none) (ha : PA X [e, e2] ta)
    (he : backTo pos (starEach [e, e2] X.env) = (false, eval e X.env) :: backTo pos (starEach [e2] X.env) := by rfl) (hpl : (backTo pos (starEach [e, e2] X.env)).any (·.1) = false := by rfl) :
    PI X (.Tuple elts kk tpos) (.Call (.Name "zip" p) [e, e2] [⟨some (Str.ofString "strict"), .Constant (.bool k) j cpos, kpos⟩] pos) (iZs X.K k ta) := by
  refine ⟨fun pins s σ H R I h => ?_⟩
  refine wpAny_Call_Name_kw (ld_blt I hg hm PyProof.Rows.boot_zip (with_kw (thn (ha.run pos pins s σ H _ I h) fun us s1 ⟨vs, H1, I1, r1, q1⟩ => ?_) he hpl rfl rfl))
  refine thn ((pk_cons (nm := some (Str.ofString "strict")) (kpos := kpos) (pe_bl (X := X) (b := k) (j := j) (pos := cpos)) pk_nil).run pos pins s1 σ H1 (fun zs H2 => zs = [.bl k] ∧ H2 = H1) I1 ⟨rfl, rfl⟩) fun ws s2 ⟨zs, H2, I2, r2, q2, q3⟩ => ?_
  subst q2 q3
  obtain ⟨a, b, xs, ys, ex, hqx, hqy, q⟩ := q1
  subst ex
  cases r1 with
  | cons r rr =>
    cases rr with
    | cons r' rr =>
      cases rr; cases r; cases r'
      cases r2 with
      | cons r3 rr3 =>
        cases rr3
        have e3 : _ = Value.bool k := r3
        subst e3
        obtain ⟨us, ru, pu, _⟩ := I2.list hqx
        obtain ⟨vs, rv, pv, _⟩ := I2.list hqy
        have la : a < s2.heap.objs.size := pu.lt
        have lb : b < s2.heap.objs.size := pv.lt
        show wpAny _ _ (call (.type "zip") [.ref a, .ref b] [(Str.ofString "strict", .bool k)]) _ _ _
        refine made pu.isList pv.isList fun h1 t1 t2 t3 t4 t5 t6 t7 => iter_self t1 ?_
        have I3 : Inv X pins σ H2 { s2 with heap := h1 } := I2.kept (t' := s2.toks) t7
        have fr : ∀ c ∈ [s2.heap.objs.size + 4, s2.heap.objs.size + 2, s2.heap.objs.size + 3, s2.heap.objs.size, s2.heap.objs.size + 1], FpOk X pins H2 c := fun c hcm => by
          have hle : s2.heap.objs.size ≤ c := by rcases in5 hcm with r | r | r | r | r <;> rw [r] <;> first | exact Nat.le_add_right _ _ | exact Nat.le_refl _
          exact I2.fpOk hle (I2.hok.fresh hle)
        have ap := PySem.W.ktu_apart s2.heap.objs.size a b la lb
        cases k with
        | true => exact ⟨s2.heap.objs.size + 4, [s2.heap.objs.size + 4, s2.heap.objs.size + 2, s2.heap.objs.size + 3, s2.heap.objs.size, s2.heap.objs.size + 1], _, _, H2, rfl, I3, turn_s ap, ⟨t1, t2, ⟨_, _, t3⟩, t4, t5⟩, fr, q⟩
        | false => exact ⟨s2.heap.objs.size + 4, [s2.heap.objs.size + 4, s2.heap.objs.size + 2, s2.heap.objs.size + 3, s2.heap.objs.size, s2.heap.objs.size + 1], _, _, H2, rfl, I3, turn_zip ap, ⟨t1, t2, ⟨_, _, t3⟩, t4, t5⟩, fr, q⟩
theorem walk_s {K : PySem.W.Frag} {a b : Addr} {xs ys : List V} (hl : xs.length = ys.length) : Walk (Its2 K a b) xs.length (fun H => SqL K H a xs ∧ SqL K H b ys) (YPair (fun i => xs[i]?) (fun i => ys[i]?)) := by
  refine ⟨fun i _ hi q => ?_, fun _ q => ⟨xs, ys, q.1, q.2, Nat.le_refl _, by omega⟩, fun i H v H' _ q y => ?_⟩
  · exact ⟨xs, ys, xs[i], ys[i]'(by omega), q.1, q.2, by simp [hi], by simp [show i < ys.length by omega]⟩
  · obtain ⟨T, x, z, h1, h2, h3, h4, h5⟩ := y
    exact ⟨T, x, z, h1, h2, h3, h4 xs q.1, h5 ys q.2⟩
end Zst

namespace Ap
open PySem PySem.Spec PyProof.Rows L2 Evl
/-! ### the text -/
def topS (i : Nat) : Stmt := PySem.Challenge.pw_anyplaces_k31_whole_closures.main.body.getD i (.Pass ⟨0, 0, 0, 0⟩)
abbrev sIsWhole : Stmt := topS 10
abbrev sIsBetween : Stmt := topS 11
abbrev sCheckNumber : Stmt := topS 12
abbrev sPowerOfTwo : Stmt := topS 13
abbrev sTwos : Stmt := topS 14
abbrev sGoodRow : Stmt := topS 15
abbrev sIsWidth : Stmt := topS 17
abbrev sCheckWidth : Stmt := topS 18
abbrev sIsOfWidth : Stmt := topS 19
abbrev sRises : Stmt := topS 20
abbrev sArePlaces : Stmt := topS 21
abbrev sCheckPlaces : Stmt := topS 22
abbrev sAreWords : Stmt := topS 23
abbrev sCheckWords : Stmt := topS 24
abbrev sIsKnownItem : Stmt := topS 25
abbrev sAreKnown : Stmt := topS 26
abbrev sCheckKnown : Stmt := topS 27
abbrev sCheckCode : Stmt := topS 29
abbrev sAmount : Stmt := topS 30
abbrev sBitsAt : Stmt := topS 31
abbrev sWordOf : Stmt := topS 32
abbrev sInverse : Stmt := topS 33
abbrev sItemOf : Stmt := topS 34
abbrev sBased : Stmt := topS 35
abbrev sIsFit : Stmt := topS 36
abbrev sManyFit : Stmt := topS 37
abbrev sFits : Stmt := topS 38
abbrev sWordPossible : Stmt := topS 39
abbrev sNumbered : Stmt := topS 40
abbrev sHowManyAhead : Stmt := topS 41
abbrev sCheckPart : Stmt := topS 43
abbrev sCheckPlace : Stmt := topS 44
abbrev sBitsList : Stmt := topS 45
abbrev sToldBits : Stmt := topS 46
abbrev sBitsTold : Stmt := topS 47
abbrev sClosure : Stmt := topS 48
abbrev sUntold : Stmt := topS 49
abbrev sLawHash : Stmt := topS 51
abbrev sLawRandom : Stmt := topS 52
abbrev sLawCell : Stmt := topS 53
abbrev sLawGenerator : Stmt := topS 54
abbrev sLawTwos : Stmt := topS 55
abbrev sLawSpots : Stmt := topS 56
abbrev sLawOrder : Stmt := topS 57
abbrev sLawAmount : Stmt := topS 58
abbrev sLawPower : Stmt := topS 59
abbrev sLawSome : Stmt := topS 60
abbrev sLawAll : Stmt := topS 61
abbrev sLawFitting : Stmt := topS 62
abbrev sLawSmall : Stmt := topS 63
abbrev sLawUntoldDue : Stmt := topS 65
abbrev sLawSmallRight : Stmt := topS 66
abbrev sLawGreatRight : Stmt := topS 67
abbrev sLaw : Stmt := topS 68
abbrev FnP (K : PySem.W.Frag) (x : Str) (st : Stmt) (f : Addr) (fd : FuncData) : Prop := FunD K x x (defArgs st) (defBody st) (defScope st) [] [] f fd
/-- what the top has left: each def, the built-ins that stay -/
structure Txt (K : PySem.W.Frag) (mg : Str → Option Value) : Prop where
  dIsWhole : ∃ fd, FnP K "is_whole" sIsWhole (He.ga K "is_whole") fd
  dIsBetween : ∃ fd, FnP K "is_between" sIsBetween (He.ga K "is_between") fd
  dCheckNumber : ∃ fd, FnP K "check_number" sCheckNumber (He.ga K "check_number") fd
  dPowerOfTwo : ∃ fd, FnP K "power_of_two" sPowerOfTwo (He.ga K "power_of_two") fd
  dTwos : ∃ fd, FnP K "twos" sTwos (He.ga K "twos") fd
  dGoodRow : ∃ fd, FnP K "good_row" sGoodRow (He.ga K "good_row") fd
  dIsWidth : ∃ fd, FnP K "is_width" sIsWidth (He.ga K "is_width") fd
  dCheckWidth : ∃ fd, FnP K "check_width" sCheckWidth (He.ga K "check_width") fd
  dIsOfWidth : ∃ fd, FnP K "is_of_width" sIsOfWidth (He.ga K "is_of_width") fd
  dRises : ∃ fd, FnP K "rises" sRises (He.ga K "rises") fd
  dArePlaces : ∃ fd, FnP K "are_places" sArePlaces (He.ga K "are_places") fd
  dCheckPlaces : ∃ fd, FnP K "check_places" sCheckPlaces (He.ga K "check_places") fd
  dAreWords : ∃ fd, FnP K "are_words" sAreWords (He.ga K "are_words") fd
  dCheckWords : ∃ fd, FnP K "check_words" sCheckWords (He.ga K "check_words") fd
  dIsKnownItem : ∃ fd, FnP K "is_known_item" sIsKnownItem (He.ga K "is_known_item") fd
  dAreKnown : ∃ fd, FnP K "are_known" sAreKnown (He.ga K "are_known") fd
  dCheckKnown : ∃ fd, FnP K "check_known" sCheckKnown (He.ga K "check_known") fd
  dCheckCode : ∃ fd, FnP K "check_code" sCheckCode (He.ga K "check_code") fd
  dAmount : ∃ fd, FnP K "amount" sAmount (He.ga K "amount") fd
  dBitsAt : ∃ fd, FnP K "bits_at" sBitsAt (He.ga K "bits_at") fd
  dWordOf : ∃ fd, FnP K "word_of" sWordOf (He.ga K "word_of") fd
  dInverse : ∃ fd, FnP K "inverse" sInverse (He.ga K "inverse") fd
  dItemOf : ∃ fd, FnP K "item_of" sItemOf (He.ga K "item_of") fd
  dBased : ∃ fd, FnP K "based" sBased (He.ga K "based") fd
  dIsFit : ∃ fd, FnP K "is_fit" sIsFit (He.ga K "is_fit") fd
  dManyFit : ∃ fd, FnP K "many_fit" sManyFit (He.ga K "many_fit") fd
  dFits : ∃ fd, FnP K "fits" sFits (He.ga K "fits") fd
  dWordPossible : ∃ fd, FnP K "word_possible" sWordPossible (He.ga K "word_possible") fd
  dNumbered : ∃ fd, FnP K "numbered" sNumbered (He.ga K "numbered") fd
  dHowManyAhead : ∃ fd, FnP K "how_many_ahead" sHowManyAhead (He.ga K "how_many_ahead") fd
  dCheckPart : ∃ fd, FnP K "check_part" sCheckPart (He.ga K "check_part") fd
  dCheckPlace : ∃ fd, FnP K "check_place" sCheckPlace (He.ga K "check_place") fd
  dBitsList : ∃ fd, FnP K "bits_list" sBitsList (He.ga K "bits_list") fd
  dToldBits : ∃ fd, FnP K "told_bits" sToldBits (He.ga K "told_bits") fd
  dBitsTold : ∃ fd, FnP K "bits_told" sBitsTold (He.ga K "bits_told") fd
  dClosure : ∃ fd, FnP K "closure" sClosure (He.ga K "closure") fd
  dUntold : ∃ fd, FnP K "untold" sUntold (He.ga K "untold") fd
  dLawHash : ∃ fd, FnP K "_law_hash" sLawHash (He.ga K "_law_hash") fd
  dLawRandom : ∃ fd, FnP K "_law_random" sLawRandom (He.ga K "_law_random") fd
  dLawCell : ∃ fd, FnP K "_law_cell" sLawCell (He.ga K "_law_cell") fd
  dLawGenerator : ∃ fd, FnP K "_law_generator" sLawGenerator (He.ga K "_law_generator") fd
  dLawTwos : ∃ fd, FnP K "_law_twos" sLawTwos (He.ga K "_law_twos") fd
  dLawSpots : ∃ fd, FnP K "_law_spots" sLawSpots (He.ga K "_law_spots") fd
  dLawOrder : ∃ fd, FnP K "_law_order" sLawOrder (He.ga K "_law_order") fd
  dLawAmount : ∃ fd, FnP K "_law_amount" sLawAmount (He.ga K "_law_amount") fd
  dLawPower : ∃ fd, FnP K "_law_power" sLawPower (He.ga K "_law_power") fd
  dLawSome : ∃ fd, FnP K "_law_some" sLawSome (He.ga K "_law_some") fd
  dLawAll : ∃ fd, FnP K "_law_all" sLawAll (He.ga K "_law_all") fd
  dLawFitting : ∃ fd, FnP K "_law_fitting" sLawFitting (He.ga K "_law_fitting") fd
  dLawSmall : ∃ fd, FnP K "_law_small" sLawSmall (He.ga K "_law_small") fd
  dLawUntoldDue : ∃ fd, FnP K "_law_untold_due" sLawUntoldDue (He.ga K "_law_untold_due") fd
  dLawSmallRight : ∃ fd, FnP K "_law_small_right" sLawSmallRight (He.ga K "_law_small_right") fd
  dLawGreatRight : ∃ fd, FnP K "_law_great_right" sLawGreatRight (He.ga K "_law_great_right") fd
  dLaw : ∃ fd, FnP K "law" sLaw (He.ga K "law") fd
  gIsWhole : mg "is_whole" = some (.ref (He.ga K "is_whole"))
  gIsBetween : mg "is_between" = some (.ref (He.ga K "is_between"))
  gCheckNumber : mg "check_number" = some (.ref (He.ga K "check_number"))
  gPowerOfTwo : mg "power_of_two" = some (.ref (He.ga K "power_of_two"))
  gTwos : mg "twos" = some (.ref (He.ga K "twos"))
  gGoodRow : mg "good_row" = some (.ref (He.ga K "good_row"))
  gIsWidth : mg "is_width" = some (.ref (He.ga K "is_width"))
  gCheckWidth : mg "check_width" = some (.ref (He.ga K "check_width"))
  gIsOfWidth : mg "is_of_width" = some (.ref (He.ga K "is_of_width"))
  gRises : mg "rises" = some (.ref (He.ga K "rises"))
  gArePlaces : mg "are_places" = some (.ref (He.ga K "are_places"))
  gCheckPlaces : mg "check_places" = some (.ref (He.ga K "check_places"))
  gAreWords : mg "are_words" = some (.ref (He.ga K "are_words"))
  gCheckWords : mg "check_words" = some (.ref (He.ga K "check_words"))
  gIsKnownItem : mg "is_known_item" = some (.ref (He.ga K "is_known_item"))
  gAreKnown : mg "are_known" = some (.ref (He.ga K "are_known"))
  gCheckKnown : mg "check_known" = some (.ref (He.ga K "check_known"))
  gCheckCode : mg "check_code" = some (.ref (He.ga K "check_code"))
  gAmount : mg "amount" = some (.ref (He.ga K "amount"))
  gBitsAt : mg "bits_at" = some (.ref (He.ga K "bits_at"))
  gWordOf : mg "word_of" = some (.ref (He.ga K "word_of"))
  gInverse : mg "inverse" = some (.ref (He.ga K "inverse"))
  gItemOf : mg "item_of" = some (.ref (He.ga K "item_of"))
  gBased : mg "based" = some (.ref (He.ga K "based"))
  gIsFit : mg "is_fit" = some (.ref (He.ga K "is_fit"))
  gManyFit : mg "many_fit" = some (.ref (He.ga K "many_fit"))
  gFits : mg "fits" = some (.ref (He.ga K "fits"))
  gWordPossible : mg "word_possible" = some (.ref (He.ga K "word_possible"))
  gNumbered : mg "numbered" = some (.ref (He.ga K "numbered"))
  gHowManyAhead : mg "how_many_ahead" = some (.ref (He.ga K "how_many_ahead"))
  gCheckPart : mg "check_part" = some (.ref (He.ga K "check_part"))
  gCheckPlace : mg "check_place" = some (.ref (He.ga K "check_place"))
  gBitsList : mg "bits_list" = some (.ref (He.ga K "bits_list"))
  gToldBits : mg "told_bits" = some (.ref (He.ga K "told_bits"))
  gBitsTold : mg "bits_told" = some (.ref (He.ga K "bits_told"))
  gClosure : mg "closure" = some (.ref (He.ga K "closure"))
  gUntold : mg "untold" = some (.ref (He.ga K "untold"))
  gLawHash : mg "_law_hash" = some (.ref (He.ga K "_law_hash"))
  gLawRandom : mg "_law_random" = some (.ref (He.ga K "_law_random"))
  gLawCell : mg "_law_cell" = some (.ref (He.ga K "_law_cell"))
  gLawGenerator : mg "_law_generator" = some (.ref (He.ga K "_law_generator"))
  gLawTwos : mg "_law_twos" = some (.ref (He.ga K "_law_twos"))
  gLawSpots : mg "_law_spots" = some (.ref (He.ga K "_law_spots"))
  gLawOrder : mg "_law_order" = some (.ref (He.ga K "_law_order"))
  gLawAmount : mg "_law_amount" = some (.ref (He.ga K "_law_amount"))
  gLawPower : mg "_law_power" = some (.ref (He.ga K "_law_power"))
  gLawSome : mg "_law_some" = some (.ref (He.ga K "_law_some"))
  gLawAll : mg "_law_all" = some (.ref (He.ga K "_law_all"))
  gLawFitting : mg "_law_fitting" = some (.ref (He.ga K "_law_fitting"))
  gLawSmall : mg "_law_small" = some (.ref (He.ga K "_law_small"))
  gLawUntoldDue : mg "_law_untold_due" = some (.ref (He.ga K "_law_untold_due"))
  gLawSmallRight : mg "_law_small_right" = some (.ref (He.ga K "_law_small_right"))
  gLawGreatRight : mg "_law_great_right" = some (.ref (He.ga K "_law_great_right"))
  gLaw : mg "law" = some (.ref (He.ga K "law"))
  z_isinstance : mg "isinstance" = none
  z_int : mg "int" = none
  z_bool : mg "bool" = none
  z_list : mg "list" = none
  z_tuple : mg "tuple" = none
  z_len : mg "len" = none
  z_range : mg "range" = none
  z_zip : mg "zip" = none
  z_sum : mg "sum" = none
  z_max : mg "max" = none
  z_min : mg "min" = none
  z_dict : mg "dict" = none
  z_enumerate : mg "enumerate" = none
  z_sorted : mg "sorted" = none
  z_repr : mg "repr" = none
  gMost : ∃ t, mg "MOST_WIDTH" = some (.int 64 t)
/-! ### a def that keeps its promise, as callers take it -/
structure Has (P : Program) (w : World) (K : PySem.W.Frag) (mg : Str → Option Value) (base : Heap) (x : Str) (ps : List Str) (k : Nat) (sp : Sp) : Prop where
  ex : ∃ fd, FnOk P w K mg base CX0 k (He.ga K x) fd ps sp ∧ Binds K fd ps [] ∧ PySem.W.keepIn K (.ref (He.ga K x)) = true
  mg : mg x = some (.ref (He.ga K x))
section
variable {P : Program} {w : World} {K : PySem.W.Frag} {mg : Str → Option Value} {base : Heap}
theorem Has.of {x : Str} {ps : List Str} {k : Nat} {sp : Sp} {st : Stmt} (g : mg x = some (.ref (He.ga K x))) (d : ∃ fd, FnP K x st (He.ga K x) fd) (ok : ∀ fd, FnP K x st (He.ga K x) fd → FnOk P w K mg base CX0 k (He.ga K x) fd ps sp)
    (hb : ∀ (kV doc pm : Value) (an : Option Addr) (cdv ct : Value) (us : List Value), us.length = ps.length → bindArgs (PySem.W.fnOf x x (defArgs st) (defBody st) (defScope st) .none kV doc pm an cdv ct) ⟨us, []⟩ = pure (ps.zip us)) : Has P w K mg base x ps k sp := by
  obtain ⟨fd, F⟩ := d
  exact ⟨⟨fd, ok fd F, FunD.bindsN F hb, F.kp⟩, g⟩
theorem pe_has {X : Cx} {x : Str} {ps : List Str} {k : Nat} {sp : Sp} {e : Expr} {es : List Expr} {p pos : Pos} {t : TA} (h : Has X.prog X.w X.K X.mg X.base x ps k sp) (hr : Room k X.A) (ha : PA X (e :: es) t) (hg : Gl X x := by rfl)
    (hdb : (x == ("__debug__" : Str)) = false := by decide) (he : starEach (e :: es) X.env = (false, eval e X.env) :: starEach es X.env := by rfl) (hpl : (backTo pos (starEach es X.env)).any (·.1) = false := by rfl) :
    PE X (.Call (.Name x p) (e :: es) [] pos) (tCall sp [] E0 t) := by
  obtain ⟨fd, F, hb, hk⟩ := h.ex
  exact pe_call F hr hg h.mg hk hb .nil pass0 ha hdb he hpl
end
end Ap

namespace Ap
open PySem PySem.Spec PyProof.Rows L2 Evl
local macro_rules | `(tactic| walk_at "ev") => `(tactic| first
  | exact ev_var rfl
  | exact ev_c
  | exact ea_nil
  | (refine ea_cons ?_ ?_ <;> walk_at "ev")
  | (refine ev_op ?_ ?_ ?_ <;> walk_at "ev")
  | exact rv_I0
  | (refine rv_I ?_)
  | (refine et_test ?_ <;> walk_at "ev")
  | (refine et_B ?_ <;> walk_at "ev")
  | skip)
theorem rv_isN {x : V} {H : Hp} : RV (fun x y H Q => y = V.non ∧ Q (V.bl (decide (x = V.non))) H) x .non H (.bl (decide (x = .non))) := fun H1 _ _ q => ⟨rfl, q H1 (Ex.refl H1)⟩
/-! ### whole numbers told apart -/
theorem isi_int {K : PySem.W.Frag} {H : Hp} {i : Int} : RC (rIsi K) [.int i, .ty "int"] H (.bl true) := fun H1 _ _ q => ⟨_, _, _, _, true, rfl, .ty _, .base (.int _), kit_ty (by decide +kernel), q H1 (Ex.refl H1)⟩
theorem isi_bool {K : PySem.W.Frag} {H : Hp} {i : Int} : RC (rIsi K) [.int i, .ty "bool"] H (.bl false) := fun H1 _ _ q => ⟨_, _, _, _, false, rfl, .ty _, .base (.int _), kit_ty (by decide +kernel), q H1 (Ex.refl H1)⟩
def sp_is_whole (K : PySem.W.Frag) : Sp := fun vs H Q _ => ∃ i : Int, vs = [.int i] ∧ RetV (.bl true) H Q
theorem sv_is_whole {K : PySem.W.Frag} {H : Hp} {i : Int} : SpV (sp_is_whole K) [.int i] H (.bl true) := fun H1 _ Q q _ => ⟨i, rfl, q⟩
theorem sc_is_whole : FnScope ["value"] ["value"] (defScope sIsWhole) := ⟨rfl, rfl, rfl, by decide +kernel, rfl, by decide +kernel, by decide +kernel⟩
theorem has_is_whole {P : Program} {w : World} {K : PySem.W.Frag} {mg : Str → Option Value} {base : Heap} (T : Txt K mg) : Has P w K mg base "is_whole" ["value"] 1 (sp_is_whole K) := by
  refine Has.of T.gIsWhole T.dIsWhole (fun fd F => FunD.ok F sc_is_whole (fun vs H Q E h => ?_) (fun cdv A outer s H vs Q E hr h => ?_)) fun _ _ _ _ _ _ us hl => match us, hl with | [_], _ => rfl
  · obtain ⟨i, rfl, k⟩ := h
    rfl
  · have hr : Room 0 _ := hr

    obtain ⟨i, rfl, k⟩ := h
    refine ⟨(tRet (tAndV (tCB (rIsi K) (tCons (tVar 0) (tCons (tC _) tNil))) (tNotV (tCB (rIsi K) (tCons (tVar 0) (tCons (tC _) tNil)))))), PSs.nox (pss_one (ps_ret (pe_and (pe_callB call_isi (by rfl) T.z_isinstance (by decide +kernel) (pa_cons (pv 0) (pa_cons (pe_bltn (v := .ty "int") (by rfl) T.z_int (by decide +kernel) rfl) pa_nil))) (pe_one (pe_not (pe_callB call_isi (by rfl) T.z_isinstance (by decide +kernel) (pa_cons (pv 0) (pa_cons (pe_bltn (v := .ty "bool") (by rfl) T.z_bool (by decide +kernel) rfl) pa_nil)))))))), ?_⟩
    refine s_ret (v := .bl true) ?_ k
    exact ev_andV (a := true) (b := true) (ev_cb (ea_cons (ev_var rfl) (ea_cons ev_c ea_nil)) isi_int) fun _ => ev_notV (a := false) (ev_cb (ea_cons (ev_var rfl) (ea_cons ev_c ea_nil)) isi_bool)

/-- a bound, or none -/
def oi : Option Int → V
  | none => .non
  | some i => .int i
def sp_is_between (K : PySem.W.Frag) : Sp := fun vs H Q _ => ∃ (v : Int) (lo hi : Option Int), vs = [.int v, oi lo, oi hi] ∧ (∀ l, lo = some l → l ≤ v) ∧ (∀ h, hi = some h → v ≤ h) ∧ RetV (.bl true) H Q
theorem sv_is_between {K : PySem.W.Frag} {H : Hp} {v : Int} {lo hi : Option Int} (h1 : ∀ l, lo = some l → l ≤ v) (h2 : ∀ h, hi = some h → v ≤ h) : SpV (sp_is_between K) [.int v, oi lo, oi hi] H (.bl true) := fun H1 _ Q q _ => ⟨v, lo, hi, rfl, h1, h2, q⟩
theorem sc_is_between : FnScope ["value", "low", "high"] ["value", "low", "high"] (defScope sIsBetween) := ⟨rfl, rfl, rfl, by decide +kernel, rfl, by decide +kernel, by decide +kernel⟩
theorem has_is_between {P : Program} {w : World} {K : PySem.W.Frag} {mg : Str → Option Value} {base : Heap} (T : Txt K mg) : Has P w K mg base "is_between" ["value", "low", "high"] 2 (sp_is_between K) := by
  refine Has.of T.gIsBetween T.dIsBetween (fun fd F => FunD.ok F sc_is_between (fun vs H Q E h => ?_) (fun cdv A outer s H vs Q E hr h => ?_)) fun _ _ _ _ _ _ us hl => match us, hl with | [_, _, _], _ => rfl
  · obtain ⟨v, lo, hi, rfl, h1, h2, k⟩ := h
    rfl
  · have hr : Room 1 _ := hr
    have h_is_whole := has_is_whole (P := P) (w := w) (base := base) T
    obtain ⟨v, lo, hi, rfl, h1, h2, k⟩ := h
    refine ⟨(tSeq (tIfS (tNot (tB (tCall _ [] E0 (tCons (tVar 0) tNil)))) (tRet (tC _)) tNext)
      (tRet (tAndV (tOrV (tOp _ (tVar 1) (tC _)) (tOp _ (tVar 0) (tVar 1))) (tOrV (tOp _ (tVar 2) (tC _)) (tOp _ (tVar 0) (tVar 2)))))), PSs.nox (pss_cons (ps_if (pt_not (pt_val (pe_has h_is_whole (hr.mono (by decide)) (pa_cons (pv 0) pa_nil)))) (pss_one (ps_ret pe_bl)) pss_nil)
    (pss_one (ps_ret (pe_and (pe_or (pe_cmpR op_isN (pv 1) pe_non (nomark _)) (pe_one (pe_cmpR op_ge (pv 0) (pv 1) (nomark _)))) (pe_one (pe_or (pe_cmpR op_isN (pv 2) pe_non (nomark _)) (pe_one (pe_cmpR op_le (pv 0) (pv 2) (nomark _))))))))), ?_⟩
    refine q_when (b := false) ?_ (fun h => by cases h) fun _ H1 e1 => ?_
    · exact et_not (a := true) (et_B (ev_call (ea_cons (ev_var rfl) ea_nil) sv_is_whole))
    · refine s_ret (v := .bl true) ?_ fun H2 e2 => k.go (e1.trans e2)
      have go : ∀ {H0 : Hp} {i j : Nat} {o : Option Int} {b : Int → Bool} {σ : L2.St} {r : R2}, σ[i]? = some (some (oi o)) → (∀ l, o = some l → RV r (.int v) (oi o) H0 (.bl (b l)) ∧ b l = true) → σ[j]? = some (some (.int v)) →
          Ev (tOrV (tOp (fun x y H Q => y = V.non ∧ Q (V.bl (decide (x = V.non))) H) (tVar i) (tC V.non)) (tOp r (tVar j) (tVar i))) σ H0 (.bl true) := by
        intro H0 i j o b σ r hi ho hj
        cases o with
        | none => exact ev_orV (a := true) (b := true) (ev_op (ev_var hi) ev_c rv_isN) fun h => by cases h
        | some l =>
          obtain ⟨h3, h4⟩ := ho l rfl
          rw [h4] at h3
          exact ev_orV (a := false) (b := true) (ev_op (ev_var hi) ev_c rv_isN) fun _ => ev_op (ev_var hj) (ev_var hi) h3
      exact ev_andV (a := true) (b := true) (go (b := fun l => decide (l ≤ v)) rfl (fun l hl => ⟨by rw [hl]; exact rv_I0, decide_eq_true (h1 l hl)⟩) rfl)
        fun _ => go (b := fun l => decide (v ≤ l)) rfl (fun l hl => ⟨by rw [hl]; exact rv_I0, decide_eq_true (h2 l hl)⟩) rfl

/-! ### powers, twos -/
def sp_power_of_two (K : PySem.W.Frag) : Sp := fun vs H Q _ => ∃ n : Nat, vs = [.int (n : Int)] ∧ n ≤ 1000000 ∧ RetV (.int (2 ^ n)) H Q
theorem sv_power_of_two {K : PySem.W.Frag} {H : Hp} {n : Nat} (h : n ≤ 1000000) : SpV (sp_power_of_two K) [.int (n : Int)] H (.int (2 ^ n)) := fun H1 _ Q q _ => ⟨n, rfl, h, q⟩
theorem sc_power_of_two : FnScope ["many"] ["many"] (defScope sPowerOfTwo) := ⟨rfl, rfl, rfl, by decide +kernel, rfl, by decide +kernel, by decide +kernel⟩
theorem has_power_of_two {P : Program} {w : World} {K : PySem.W.Frag} {mg : Str → Option Value} {base : Heap} (T : Txt K mg) : Has P w K mg base "power_of_two" ["many"] 1 (sp_power_of_two K) := by
  refine Has.of T.gPowerOfTwo T.dPowerOfTwo (fun fd F => FunD.ok F sc_power_of_two (fun vs H Q E h => ?_) (fun cdv A outer s H vs Q E hr h => ?_)) fun _ _ _ _ _ _ us hl => match us, hl with | [_], _ => rfl
  · obtain ⟨n, rfl, h, k⟩ := h
    rfl
  · have hr : Room 0 _ := hr

    obtain ⟨n, rfl, h, k⟩ := h
    refine ⟨(tRet (tOp _ (tC _) (tVar 0))), PSs.nox (pss_one (ps_ret (pe_op op_oneShl pe_int (pv 0)))), ?_⟩
    refine s_ret (v := .int (2 ^ n)) ?_ k
    exact ev_op ev_c (ev_var rfl) (fun H1 _ Q q => ⟨n, rfl, rfl, by omega, q H1 (Ex.refl H1)⟩)

def sp_twos (K : PySem.W.Frag) : Sp := fun vs H Q _ => ∃ n : Int, vs = [.int n] ∧ n ≠ 0 ∧ RetV (.int (twos n : Nat)) H Q
theorem sv_twos {K : PySem.W.Frag} {H : Hp} {n : Int} (h : n ≠ 0) : SpV (sp_twos K) [.int n] H (.int (twos n : Nat)) := fun H1 _ Q q _ => ⟨n, rfl, h, q⟩
theorem div2 {n : Int} : CDivW n 2 := wide_div (b := 2) (by decide) (by decide) (by decide) (by decide)
theorem sc_twos : FnScope ["number", "found"] ["number"] (defScope sTwos) := ⟨rfl, rfl, rfl, by decide +kernel, rfl, by decide +kernel, by decide +kernel⟩
theorem has_twos {P : Program} {w : World} {K : PySem.W.Frag} {mg : Str → Option Value} {base : Heap} (T : Txt K mg) : Has P w K mg base "twos" ["number"] 1 (sp_twos K) := by
  refine Has.of T.gTwos T.dTwos (fun fd F => FunD.ok F sc_twos (fun vs H Q E h => ?_) (fun cdv A outer s H vs Q E hr h => ?_)) fun _ _ _ _ _ _ us hl => match us, hl with | [_], _ => rfl
  · obtain ⟨n, rfl, h, k⟩ := h
    rfl
  · have hr : Room 0 _ := hr

    obtain ⟨n, rfl, h, k⟩ := h
    refine ⟨(tSeq (tAsg (tC _) (gName 1))
      (tSeq (tWhile (tTest (tOp _ (tOp _ (tVar 0) (tC _)) (tC _))) (tPar 0 1 (tCons (tOp _ (tVar 0) (tC _)) (tCons (tOp _ (tVar 1) (tC _)) tNil))))
      (tRet (tVar 1)))), PSs.nox (pss_cons (ps_set (i := 1) sc_twos.nd rfl (Or.inl rfl) pe_int)
    (pss_cons (ps_while PassesOwn.never (pt_cmpR op_eq (pe_op op_mod (pv 0) pe_int) pe_int (nomark _)) (pss_one (ps_par (i := 0) (j := 1) (by rfl) sc_twos.nd rfl rfl (by decide) rfl rfl (pa_cons (pe_op op_fdivW (pv 0) pe_int) (pa_cons (pe_op op_add (pv 1) pe_int) pa_nil)) (by rfl))))
    (pss_one (ps_ret (pv 1))))), ?_⟩
    refine q_asg (v := .int 0) ev_c fun H1 e1 => ?_
    refine q_while (fun m σ H' => ∃ (a : Int) (c : Nat), σ = [some (.int a), some (.int (c : Int))] ∧ a ≠ 0 ∧ c + twos a = twos n ∧ m = twos a ∧ Ex H H') (twos n) ⟨n, 0, rfl, h, by omega, rfl, e1⟩ ?_
    rintro m σ' H' ⟨a, c, rfl, ha, hc, rfl, e⟩
    refine ⟨decide (a % 2 = 0), et_test (ev_is (ev_op (ev_op (ev_var rfl) ev_c (rv_I (by decide))) ev_c (rv_eq rfl)) (by simp)), fun hb H2 e2 => ?_, fun hb H2 e2 => ?_⟩
    · have hb : a % 2 = 0 := of_decide_eq_true hb
      have ht := twos_even ha hb
      refine ⟨fun σ H' => ∃ (a' : Int) (c : Nat), σ = [some (.int a'), some (.int (c : Int))] ∧ a' ≠ 0 ∧ c + twos a' = twos n ∧ twos a' < twos a ∧ Ex H H', fun σ2 H3 ⟨a', c', r1, r2, r3, r4, r5⟩ => ⟨twos a', r4, a', c', r1, r2, r3, rfl, r5⟩, ?_⟩
      refine (ea_cons (ev_op (ev_var rfl) ev_c (rv_I div2)) (ea_cons (ev_op (ev_var rfl) ev_c rv_I0) ea_nil)) H2 (Ex.refl H2) _ fun H3 e3 => ?_
      exact ⟨_, _, rfl, a / 2, c + 1, rfl, by omega, by omega, by omega, (e.trans e2).trans e3⟩
    · have hb : a % 2 ≠ 0 := of_decide_eq_false hb
      have ht := twos_odd hb
      refine s_ret (v := .int (c : Int)) (ev_var rfl) fun H3 e3 => ?_
      have : c = twos n := by omega
      rw [this]
      exact k.go ((e.trans e2).trans e3)

end Ap


namespace Ap
open PySem PySem.Spec PyProof.Rows L2 Evl
/-! ### lists of whole numbers -/
def iL (l : List Int) : List V := l.map V.int
def nL (l : List Nat) : List V := l.map fun (n : Nat) => V.int (n : Int)
theorem iL_len (l : List Int) : (iL l).length = l.length := by unfold iL; exact List.length_map _
theorem nL_len (l : List Nat) : (nL l).length = l.length := by unfold nL; exact List.length_map _
theorem iL_get {l : List Int} {i : Nat} {x : Int} (h : l[i]? = some x) : (iL l)[i]? = some (.int x) := by unfold iL; rw [List.getElem?_map, h]; rfl
theorem nL_get {l : List Nat} {i : Nat} {x : Nat} (h : l[i]? = some x) : (nL l)[i]? = some (.int (x : Int)) := by unfold nL; rw [List.getElem?_map, h]; rfl
theorem iL_of {l : List Int} {i : Nat} {v : V} (h : (iL l)[i]? = some v) : ∃ x, l[i]? = some x ∧ v = .int x := by
  unfold iL at h; rw [List.getElem?_map] at h
  obtain ⟨x, a, b⟩ := Option.map_eq_some_iff.mp h
  exact ⟨x, a, b.symm⟩
theorem nL_of {l : List Nat} {i : Nat} {v : V} (h : (nL l)[i]? = some v) : ∃ x : Nat, l[i]? = some x ∧ v = .int (x : Int) := by
  unfold nL at h; rw [List.getElem?_map] at h
  obtain ⟨x, a, b⟩ := Option.map_eq_some_iff.mp h
  exact ⟨x, a, b.symm⟩
theorem nL_iL (l : List Nat) : nL l = iL (l.map fun (n : Nat) => (n : Int)) := by
  unfold nL iL; rw [List.map_map]; rfl
theorem iL_flat (l : List Int) : (iL l).all flatV = true := by
  unfold iL; rw [List.all_map, List.all_eq_true]; intro x _; rfl
theorem nL_flat (l : List Nat) : (nL l).all flatV = true := by rw [nL_iL]; exact iL_flat _
theorem iL_app (l : List Int) (x : Int) : iL (l ++ [x]) = iL l ++ [.int x] := by simp [iL]
theorem nL_app (l : List Nat) (x : Nat) : nL (l ++ [x]) = nL l ++ [.int (x : Int)] := by simp [nL]
theorem iL_erase (l : List Int) (j : Nat) : (iL l).eraseIdx j = iL (l.eraseIdx j) := erase_mapI l j
theorem nL_erase (l : List Nat) (j : Nat) : (nL l).eraseIdx j = nL (l.eraseIdx j) := by
  rw [nL_iL, nL_iL, iL_erase]
  congr 1
  induction l generalizing j with
  | nil => rfl
  | cons a l ih => cases j with
    | zero => rfl
    | succ j => simp only [List.map_cons, List.eraseIdx_cons_succ, ih]
/-! ### lists compared -/
theorem dp_iL {K : PySem.W.Frag} {H : Hp} : ∀ l : List Int, DpAll K H (iL l) (l.map PyData.int)
  | [] => .nil
  | x :: l => .cons (.int x) (dp_iL l)
theorem lay_all : ∀ l : List Int, PyData.canLayAll0 (l.map PyData.int) = true
  | [] => by simp [PyData.canLayAll0]
  | x :: l => by simp [PyData.canLayAll0, PyData.canLay0, lay_all l]
theorem dep_all : ∀ l : List Int, PyData.depthAll (l.map PyData.int) = 0
  | [] => by simp [PyData.depthAll]
  | x :: l => by simp [PyData.depthAll, PyData.depth, dep_all l]
theorem shaped_iL (l : List Int) : SeqAt.shaped (.list (l.map PyData.int)) = true := by
  unfold SeqAt.shaped
  rw [show (PyData.list (l.map PyData.int)).canLay0 = true by simp [PyData.canLay0, lay_all], show (PyData.list (l.map PyData.int)).depth = 1 by simp [PyData.depth, dep_all]]
  rfl
theorem eqv_all : ∀ l k : List Int, PyData.eqvAll (l.map PyData.int) (k.map PyData.int) = decide (l = k)
  | [], [] => by simp [PyData.eqvAll]
  | [], y :: k => by simp [PyData.eqvAll]
  | x :: l, [] => by simp [PyData.eqvAll]
  | x :: l, y :: k => by
    simp only [List.map_cons, PyData.eqvAll, PyData.eqv, eqv_all l k, List.cons.injEq, Bool.decide_and]
    rfl
theorem eqv_iL (l k : List Int) : PyData.eqv (.list (l.map PyData.int)) (.list (k.map PyData.int)) = decide (l = k) := by
  simp only [PyData.eqv, eqv_all]
section
variable {K : PySem.W.Frag} {σ : L2.St} {H H' : Hp} {ta tb te tx : TE} {t u : TT} {x y z v : V} {D : Ends} {tu tw tz : TS} {g : TG}
theorem rv_neL {p q : Addr} {l k : List Int} (hp : H p = some (.lst (iL l))) (hq : H q = some (.lst (iL k))) : RV (rNeD K) (.ref p) (.ref q) H (.bl (!decide (l = k))) := fun H1 e _ Q =>
  ⟨_, _, .lst (.of (e p _ hp)) (dp_iL l), .lst (.of (e q _ hq)) (dp_iL k), shaped_iL l, shaped_iL k, by rw [eqv_iL]; exact Q H1 (Ex.refl H1)⟩
theorem rv_eqL {p q : Addr} {l k : List Int} (hp : H p = some (.lst (iL l))) (hq : H q = some (.lst (iL k))) : RV (rEqD K) (.ref p) (.ref q) H (.bl (decide (l = k))) := fun H1 e _ Q =>
  ⟨_, _, .lst (.of (e p _ hp)) (dp_iL l), .lst (.of (e q _ hq)) (dp_iL k), shaped_iL l, shaped_iL k, by rw [eqv_iL]; exact Q H1 (Ex.refl H1)⟩
theorem el_nil : EvL (tLst tNil) σ H (iL []) := el_lst ea_nil (by decide)
theorem el_is {xs ys : List V} (h : EvL te σ H xs) (e : xs = ys) : EvL te σ H ys := by rw [← e]; exact h
/-- xs != [], xs == [] -/
theorem ev_neN {p : Addr} {l : List Int} (ha : Ev ta σ H (.ref p)) (hp : H p = some (.lst (iL l))) : Ev (tOp (rNeD K) ta (tLst tNil)) σ H (.bl (!decide (l = []))) := ev_opL ha el_nil fun q H1 hq e => rv_neL (e p _ hp) hq
theorem ev_eqN {p : Addr} {l : List Int} (ha : Ev ta σ H (.ref p)) (hp : H p = some (.lst (iL l))) : Ev (tOp (rEqD K) ta (tLst tNil)) σ H (.bl (decide (l = []))) := ev_opL ha el_nil fun q H1 hq e => rv_eqL (e p _ hp) hq
/-- a new list == [] -/
theorem ev_eqNN {l : List Int} (ha : EvL ta σ H (iL l)) : Ev (tOp (rEqD K) ta (tLst tNil)) σ H (.bl (decide (l = []))) := ev_opLL ha el_nil fun p q H1 hp hq _ => rv_eqL hp hq
theorem ev_neNN {l : List Int} (ha : EvL ta σ H (iL l)) : Ev (tOp (rNeD K) ta (tLst tNil)) σ H (.bl (!decide (l = []))) := ev_opLL ha el_nil fun p q H1 hp hq _ => rv_neL hp hq
/-! ### methods of lists -/
theorem ty_list {p : Addr} {xs : List V} (h : H p = some (.lst xs)) : tyV K "list" (.ref p) H := Or.inl ⟨rfl, _, Or.inl (Or.inl h)⟩
/-- sums.index(min(sums)) -/
theorem ev_minN {p : Addr} {l : List Nat} (ha : Ev ta σ H (.ref p)) (hp : H p = some (.lst (nL l))) (hl : l ≠ []) : Ev (tCB (rMin K) (tCons ta tNil)) σ H (.int (minL l : Nat)) :=
  ev_cb (ea_cons ha ea_nil) fun H1 e Q q => ⟨p, l.map fun (n : Nat) => (n : Int), rfl, .of (by have := e p _ hp; rw [nL_iL] at this; exact this), by cases l with | nil => exact absurd rfl hl | cons => simp, fun m hm hle => by
    obtain ⟨n, hn, rfl⟩ := List.mem_map.mp hm
    have : minL l = n := minL_eq hn fun x hx => by
      have := hle (x : Int) (List.mem_map.mpr ⟨x, hx, rfl⟩)
      omega
    rw [← this]; exact q H1 (Ex.refl H1)⟩
theorem eqV_int (a b : Int) : eqV (.int a) (.int b) = decide (a = b) := by
  first
  | rfl
  | (unfold eqV; rfl)
  | simp [eqV]
theorem ev_indexN {p : Addr} {l : List Nat} {k : Nat} (ha : Ev ta σ H (.ref p)) (hb : Ev tb σ H (.int (k : Int))) (hp : H p = some (.lst (nL l))) (hk : k ∈ l) : Ev (tBM K "list" (rIndex K) ta (tCons tb tNil)) σ H (.int (fidx k l : Nat)) := fun H1 e Q q =>
  ha H1 e _ fun H2 e2 => ⟨ty_list (e2 p _ (e p _ hp)), hb H2 (e.trans e2) _ fun H3 e3 => ⟨p, nL l, .int (k : Int), fidx k l, .int (k : Int), rfl, rfl, .of (e3 p _ (e2 p _ (e p _ hp))), rfl, nL_flat l, nL_get (fidx_at k l hk), by simp [eqV_int], fun m z' hm hz => by
    obtain ⟨n, hn, rfl⟩ := nL_of hz
    have := fidx_no k l m hm
    rw [eqV_int, decide_eq_false_iff_not]
    intro e4
    have : n = k := by omega
    subst this
    exact fidx_no n l m hm hn, q H3 (e2.trans e3)⟩⟩
/-- the first place of a number in a list of numbers -/
def zidx (k : Int) : List Int → Nat
  | [] => 0
  | x :: r => if x = k then 0 else zidx k r + 1
theorem zidx_at (k : Int) : ∀ l : List Int, k ∈ l → l[zidx k l]? = some k
  | [], h => by cases h
  | x :: r, h => by
    unfold zidx
    split
    · rename_i e; rw [e]; rfl
    · rename_i e
      rcases List.mem_cons.mp h with h | h
      · exact absurd h.symm e
      · simpa using zidx_at k r h
theorem zidx_no (k : Int) : ∀ (l : List Int) (j : Nat), j < zidx k l → l[j]? ≠ some k
  | [], j, h => by simp [zidx] at h
  | x :: r, j, h => by
    unfold zidx at h
    split at h
    · omega
    · rename_i e
      cases j with
      | zero => simpa using e
      | succ j => simpa using zidx_no k r j (by omega)
theorem zidx_eq {k : Int} {l : List Int} (hn : l.Nodup) {j : Nat} (h : l[j]? = some k) : zidx k l = j := nd_ix hn (zidx_at k l (List.mem_of_getElem? h)) h
theorem ev_indexI {p : Addr} {l : List Int} {k : Int} (ha : Ev ta σ H (.ref p)) (hb : Ev tb σ H (.int k)) (hp : H p = some (.lst (iL l))) (hk : k ∈ l) : Ev (tBM K "list" (rIndex K) ta (tCons tb tNil)) σ H (.int (zidx k l : Nat)) := fun H1 e Q q =>
  ha H1 e _ fun H2 e2 => ⟨ty_list (e2 p _ (e p _ hp)), hb H2 (e.trans e2) _ fun H3 e3 => ⟨p, iL l, .int k, zidx k l, .int k, rfl, rfl, .of (e3 p _ (e2 p _ (e p _ hp))), rfl, iL_flat l, iL_get (zidx_at k l hk), by simp [eqV_int], fun m z' hm hz => by
    obtain ⟨n, hn, rfl⟩ := iL_of hz
    rw [eqV_int, decide_eq_false_iff_not]
    intro e4
    subst e4
    exact zidx_no n l m hm hn, q H3 (e2.trans e3)⟩⟩
theorem seqIx {n j : Nat} (h : j < n) : seqIndex? (j : Int) n = some j := by
  unfold seqIndex?
  first
  | (rw [if_pos (by omega)]; simp <;> omega)
  | (simp; omega)
/-- x = l.pop(j) -/
theorem q_pop {l : Addr} {xs : List V} {i j : Nat} {y : V} (hl : H l = some (.lst xs)) (ha : Ev ta σ H (.ref l)) (hi : Ev tb σ H (.int (j : Int))) (hj : xs[j]? = some y) (hs : xs.length ≤ 100000) (k : ∀ H1, Ex H H1 → tz D (σ.set i (some y)) (upd H1 l (.lst (xs.eraseIdx j)))) :
    tSeq (tAsg (tBM K "list" rPopAt ta (tCons tb tNil)) (gName i)) tz D σ H := by
  have hlt := (List.getElem?_eq_some_iff.mp hj).1
  exact ha H (Ex.refl H) _ fun H1 e1 => ⟨ty_list (e1 l _ hl), hi H1 e1 _ fun H2 e2 => ⟨l, xs, (j : Int), j, y, rfl, rfl, e2 l _ (e1 l _ hl), by omega, by omega, seqIx hlt, hj, k H2 (e1.trans e2)⟩⟩
/-- m.append(l.pop(j)) -/
theorem q_appPop {l m : Addr} {xs ys : List V} {j : Nat} {y : V} (hl : H l = some (.lst xs)) (hm : H m = some (.lst ys)) (hne : m ≠ l) (hx : Ev tx σ H (.ref m)) (ha : Ev ta σ H (.ref l)) (hi : Ev tb σ H (.int (j : Int))) (hj : xs[j]? = some y) (hs : xs.length ≤ 100000) (hz : ys.length < 100000)
    (k : ∀ H1, Ex H H1 → tz D σ (upd (upd H1 l (.lst (xs.eraseIdx j))) m (.lst (ys ++ [y])))) : tSeq (tDrop (tBM K "list" rAppend tx (tCons (tBM K "list" rPopAt ta (tCons tb tNil)) tNil))) tz D σ H := by
  have hlt := (List.getElem?_eq_some_iff.mp hj).1
  refine hx H (Ex.refl H) _ fun H0 e0 => ⟨ty_list (e0 m _ hm), ha H0 e0 _ fun H1 e1 => ⟨ty_list (e1 l _ (e0 l _ hl)), hi H1 (e0.trans e1) _ fun H2 e2 => ?_⟩⟩
  exact ⟨l, xs, (j : Int), j, y, rfl, rfl, e2 l _ (e1 l _ (e0 l _ hl)), by omega, by omega, seqIx hlt, hj, m, ys, y, rfl, rfl, (upd_ne hne).trans (e2 m _ (e1 m _ (e0 m _ hm))), sz_lt hz, k H2 ((e0.trans e1).trans e2)⟩
/-! ### comprehensions over pairs -/
theorem given_all {n : Nat} (v : Nat → V) : given n (fun _ => true) v = (List.range n).map v := by
  unfold given; rw [List.filter_eq_self.mpr (fun _ _ => rfl)]
theorem given_none {n : Nat} (v : Nat → V) : given n (fun _ => false) v = [] := by
  unfold given; rw [List.filter_eq_nil_iff.mpr (fun _ _ => by decide)]; rfl
theorem range_getD {α : Type} (l : List α) (d : α) : (List.range l.length).map (fun i => l.getD i d) = l := by
  apply List.ext_getElem?
  intro i
  rw [List.getElem?_map]
  by_cases h : i < l.length
  · rw [List.getElem?_range h, Option.map_some, List.getD_eq_getElem?_getD, List.getElem?_eq_getElem h]; rfl
  · rw [List.getElem?_eq_none (by simpa using h), List.getElem?_eq_none (by omega)]; rfl
theorem given_iL (l : List Int) : given l.length (fun _ => true) (fun i => .int (l.getD i 0)) = iL l := by
  rw [given_all]
  have := congrArg (List.map V.int) (range_getD l 0)
  rw [List.map_map] at this
  exact this
theorem given_nL (l : List Nat) : given l.length (fun _ => true) (fun i => .int ((l.getD i 0 : Nat) : Int)) = nL l := by
  rw [given_all]
  have := congrArg (List.map fun (n : Nat) => V.int (n : Int)) (range_getD l 0)
  rw [List.map_map] at this
  exact this
theorem given_filter (l : List Int) (f : Nat → Bool) (p : Int → Bool) (h : ∀ i x, l[i]? = some x → f i = p x) : given l.length f (fun i => .int (l.getD i 0)) = iL (l.filter p) := by
  have key : ∀ n, n ≤ l.length → given n f (fun i => .int (l.getD i 0)) = iL ((l.take n).filter p) := by
    intro n
    induction n with
    | zero => intro _; simp [given, iL]
    | succ n ih =>
      intro hn
      have hg : l[n]? = some l[n] := List.getElem?_eq_getElem (by omega)
      have hd : l.getD n 0 = l[n] := by rw [List.getD_eq_getElem?_getD, hg]; rfl
      rw [List.take_add_one, hg, List.filter_append]
      have hp := h n _ hg
      cases hf : f n with
      | true =>
        rw [given_yes hf, ih (by omega), hd]
        rw [hf] at hp
        simp [← hp, iL]
      | false =>
        rw [given_no hf, ih (by omega)]
        rw [hf] at hp
        simp [← hp, iL]
  have := key l.length (Nat.le_refl _)
  rwa [List.take_length] at this
/-- over zip(xs, ys, strict=True) -/
theorem el_lcZip {p q : Addr} {xs ys : List V} {j1 j2 : Nat} {ta : TA} {vs : List Nat} (f : Nat → Bool) (v : Nat → V) (h : EvA ta σ H [.ref p, .ref q]) (hp : H p = some (.lst xs)) (hq : H q = some (.lst ys)) (hl : xs.length = ys.length) (hz : xs.length ≤ 40000)
    (hw : ∀ x y, wipe (((wipe σ vs).set j1 (some x)).set j2 (some y)) vs = wipe σ vs)
    (ht : ∀ (i : Nat) (x y : V) H1, Ex H H1 → xs[i]? = some x → ys[i]? = some y → EvT t (((wipe σ vs).set j1 (some x)).set j2 (some y)) H1 (f i))
    (he : ∀ (i : Nat) (x y : V) H1, Ex H H1 → xs[i]? = some x → ys[i]? = some y → f i = true → Ev te (((wipe σ vs).set j1 (some x)).set j2 (some y)) H1 (v i)) :
    EvL (tLc (Zst.iZs K true ta) (gTup K 2 (gCons (gName j1) (gCons (gName j2) gNil))) t te vs) σ H (given xs.length f v) := fun H0 e Q k => h H0 e _ fun H1 e1 => ⟨p, q, xs, ys, rfl, .of ((e.trans e1) p _ hp), .of ((e.trans e1) q _ hq), fun Dl hD =>
  lc_it (Zst.walk_s (K := K) (a := p) (b := q) hl) (Cw H1 f v Dl) ⟨hD, Ex.new hD, upd_same⟩ (fun i H2 _ c => ⟨.of (c.2.1 p _ ((e.trans e1) p _ hp)), .of (c.2.1 q _ ((e.trans e1) q _ hq))⟩) (fun i w H2 H3 hi c y => by
    obtain ⟨T, a, b, rfl, hT, rfl, ha, hb⟩ := y
    refine ⟨T, [a, b], rfl, .of upd_same, rfl, a, [b], rfl, b, [], rfl, rfl, hw a b, ?_⟩
    have c' : Cw H1 f v Dl i (upd H2 T (.tup [a, b])) := ⟨c.1, c.2.1.trans (Ex.new hT), by rw [upd_ne (ne_of_none c.2.2 hT)]; exact c.2.2⟩
    exact cw_turn c' (by omega) (ht i a b H1 (e.trans e1) ha hb) (fun hf => he i a b H1 (e.trans e1) ha hb hf))
    (fun H2 c => k Dl H2 (fresh_back e1 c.1) (e1.trans c.2.1) c.2.2)⟩
end
end Ap


namespace Ap
open PySem PySem.Spec PyProof.Rows L2 Evl
theorem upd_none {H : Hp} {p q : Addr} {o : HO} (h : upd H p o q = none) : q ≠ p ∧ H q = none := by
  have hne : q ≠ p := fun e => by rw [e, upd_same] at h; cases h
  exact ⟨hne, by rw [upd_ne hne] at h; exact h⟩
/-- a new pair of two new lists: an order and its numbers -/
def RetRow (order : List Int) (nums : List Nat) (H : Hp) (Q : VK) : Prop := ∀ p q r H', H p = none → H q = none → H r = none → q ≠ r → Ex H H' → H' p = some (.tup [.ref q, .ref r]) → H' q = some (.lst (iL order)) → H' r = some (.lst (nL nums)) → Q (.ref p) H'
def sp_good_row (K : PySem.W.Frag) : Sp := fun vs H Q _ => ∃ (a : Addr) (S : List Int), vs = [.ref a] ∧ H a = some (.lst (iL S)) ∧ S.Nodup ∧ S.length ≤ 1000 ∧ RetRow (goodRow S).1 (goodRow S).2 H Q
/-- behind each turn of good_row -/
structure GrW (H H' : Hp) (S : List Int) (po pn pl ps : Addr) (pre left : List Int) (nums : List Nat) : Prop where
  ex : Ex H H'
  o : H' po = some (.lst (iL pre))
  n : H' pn = some (.lst (nL nums))
  l : H' pl = some (.lst (iL left))
  s : H' ps = some (.lst (nL (costs pre left)))
  e1 : pre ++ (goodGo left.length pre left).1 = (goodRow S).1
  e2 : nums ++ (goodGo left.length pre left).2 = (goodRow S).2
  sz : pre.length + left.length ≤ 1000
  nn : nums.length = pre.length
  nd : left.Nodup
  dj : ∀ x, x ∈ left → x ∉ pre
structure GrA (H : Hp) (po pn pl ps : Addr) : Prop where
  o : H po = none
  n : H pn = none
  l : H pl = none
  s : H ps = none
  on : po ≠ pn
  ol : po ≠ pl
  os : po ≠ ps
  nl : pn ≠ pl
  ns : pn ≠ ps
  ls : pl ≠ ps
theorem costs_step (pre left : List Int) (j : Nat) (a : Int) (ha : left[j]? = some a) : (costs pre left).eraseIdx j = costs pre (left.eraseIdx j) := by
  unfold costs
  induction left generalizing j with
  | nil => rfl
  | cons b left ih =>
    cases j with
    | zero => rfl
    | succ j => simp only [List.map_cons, List.eraseIdx_cons_succ]; rw [ih j (by simpa using ha)]
theorem sc_good_row : FnScope ["places", "order", "numbers", "left", "sums", "at", "taken", "have", "place"] ["places"] (defScope sGoodRow) := ⟨rfl, rfl, rfl, by decide +kernel, rfl, by decide +kernel, by decide +kernel⟩
theorem has_good_row {P : Program} {w : World} {K : PySem.W.Frag} {mg : Str → Option Value} {base : Heap} (T : Txt K mg) : Has P w K mg base "good_row" ["places"] 2 (sp_good_row K) := by
  refine Has.of T.gGoodRow T.dGoodRow (fun fd F => FunD.ok F sc_good_row (fun vs H Q E h => ?_) (fun cdv A outer s H vs Q E hr h => ?_)) fun _ _ _ _ _ _ us hl => match us, hl with | [_], _ => rfl
  · obtain ⟨a, S, rfl, hS, hnd, hlen, k⟩ := h
    rfl
  · have hr : Room 1 _ := hr
    have h_twos := has_twos (P := P) (w := w) (base := base) T
    obtain ⟨a, S, rfl, hS, hnd, hlen, k⟩ := h
    refine ⟨(tSeq (tAsg (tTup (tCons (tLst tNil) (tCons (tLst tNil) (tCons (tCB (Evl.rListS K) (tCons (tVar 0) tNil)) (tCons (tOp _ (tLst (tCons (tC _) tNil)) (tCB (Evl.rLenS K) (tCons (tVar 0) tNil))) tNil))))) (gTup K 4 (gCons (gName 1) (gCons (gName 2) (gCons (gName 3) (gCons (gName 4) gNil))))))
      (tSeq (tWhile (tTest (tOp (rNeD K) (tVar 3) (tLst tNil))) (tSeq (tAsg (tBM K "list" (rIndex K) (tVar 4) (tCons (tCB (rMin K) (tCons (tVar 4) tNil)) tNil)) (gName 5))
      (tSeq (tAsg (tBM K "list" rPopAt (tVar 3) (tCons (tVar 5) tNil)) (gName 6))
      (tSeq (tDrop (tBM K "list" rAppend (tVar 1) (tCons (tVar 6) tNil)))
      (tSeq (tDrop (tBM K "list" rAppend (tVar 2) (tCons (tBM K "list" rPopAt (tVar 4) (tCons (tVar 5) tNil)) tNil)))
      (tAsg (tLc (Zst.iZs K true (tCons (tVar 4) (tCons (tVar 3) tNil))) (gTup K 2 (gCons (gName 7) (gCons (gName 8) gNil))) tYes (tOp _ (tVar 7) (tCall _ [] E0 (tCons (tOp _ (tVar 8) (tVar 6)) tNil))) [7, 8]) (gName 4)))))))
      (tRet (tTup (tCons (tVar 1) (tCons (tVar 2) tNil)))))), PSs.nox (pss_cons (ps_asg (pe_tup (pa_cons (pe_lst pa_nil) (pa_cons (pe_lst pa_nil) (pa_cons (pe_callTy call_list_of (by rfl) T.z_list (by decide +kernel) (pa_cons (pv 0) pa_nil)) (pa_cons (pe_op op_rep (pe_lst (pa_cons pe_int pa_nil)) (pe_callB call_len_seq (by rfl) T.z_len (by decide +kernel) (pa_cons (pv 0) pa_nil))) pa_nil))))) (pg_tup (by rfl) (pgs_cons (pg_name (i := 1) sc_good_row.nd rfl (Or.inl rfl)) (pgs_cons (pg_name (i := 2) sc_good_row.nd rfl (Or.inl rfl)) (pgs_cons (pg_name (i := 3) sc_good_row.nd rfl (Or.inl rfl)) (pgs_cons (pg_name (i := 4) sc_good_row.nd rfl (Or.inl rfl)) pgs_nil))))))
    (pss_cons (ps_while PassesOwn.never (pt_cmpR (op_neD hr.units) (pv 3) (pe_lst pa_nil) (nomark _)) (pss_cons (ps_set (i := 5) sc_good_row.nd rfl (Or.inl rfl) (pe_bm PySem.F.plainAttrs_list PySem.F.slot_list_index PySem.F.type_list_index mt_index (pv 4) (pa_cons (pe_callB (cr_min (by rfl)) (by rfl) T.z_min (by decide +kernel) (pa_cons (pv 4) pa_nil)) pa_nil)))
    (pss_cons (ps_set (i := 6) sc_good_row.nd rfl (Or.inr rfl) (pe_bm PySem.F.plainAttrs_list PySem.F.slot_list_pop PySem.F.type_list_pop mt_popAt (pv 3) (pa_cons (pv 5) pa_nil)))
    (pss_cons (ps_expr (pe_bm PySem.F.plainAttrs_list PySem.F.slot_list_append PySem.F.type_list_append mt_append (pv 1) (pa_cons (pv 6) pa_nil)))
    (pss_cons (ps_expr (pe_bm PySem.F.plainAttrs_list PySem.F.slot_list_append PySem.F.type_list_append mt_append (pv 2) (pa_cons (pe_bm PySem.F.plainAttrs_list PySem.F.slot_list_pop PySem.F.type_list_pop mt_popAt (pv 4) (pa_cons (pv 5) pa_nil)) pa_nil)))
    (pss_one (ps_setLc (i := 4) (own := [("have", 7), ("place", 8)]) (g := (gTup K 2 (gCons (gName 7) (gCons (gName 8) gNil)))) (tt := tYes) (te := (tOp _ (tVar 7) (tCall _ [] E0 (tCons (tOp _ (tVar 8) (tVar 6)) tNil)))) (by rfl) sc_good_row.nd rfl rfl (sw_true rfl rfl rfl (by decide +kernel)) (Zst.pi_zs (by rfl) T.z_zip (pa_cons (pv 4) (pa_cons (pv 3) pa_nil))) (blkOk_by (own := [("have", 7), ("place", 8)]) (N := ["places", "order", "numbers", "left", "sums", "at", "taken", "have", "place"]) (sc := defScope sGoodRow) (by decide +kernel)) (fun _ _ _ _ _ => (pg_tup (by rfl) (pgs_cons (pg_name (i := 7) sc_good_row.nd rfl (Or.inl rfl)) (pgs_cons (pg_name (i := 8) sc_good_row.nd rfl (Or.inl rfl)) pgs_nil)))) (fun _ _ _ _ _ => pts_nil) (fun _ _ _ _ _ => (pe_op op_add (pv 7) (pe_has h_twos (hr.mono (by decide)) (pa_cons (pe_op op_sub (pv 8) (pv 6)) pa_nil)))))))))))
    (pss_one (ps_ret (pe_tup (pa_cons (pv 1) (pa_cons (pv 2) pa_nil))))))), ?_⟩
    -- order, numbers, left, sums = [], [], list(places), [0] * len(places)
    refine ⟨Nat.zero_le _, fun po ho => ⟨Nat.zero_le _, fun pn hn => ?_⟩⟩
    have x1 : Ex H (upd H po (.lst [])) := Ex.new ho
    have x2 : Ex (upd H po (.lst [])) (upd (upd H po (.lst [])) pn (.lst [])) := Ex.new hn
    refine ⟨.ref a, rfl, a, iL S, rfl, .inl (.of (x2 a _ (x1 a _ hS))), fun pl hl => ?_⟩
    have x3 := Ex.new (o := .lst (iL S)) hl
    refine ⟨by show 1 ≤ sizeLine; decide, fun pz hz => ?_⟩
    have x4 := Ex.new (o := .lst [V.int 0]) hz
    have x5 := ((x1.trans x2).trans x3).trans x4
    refine ⟨.ref a, rfl, a, iL S, rfl, .inl (.of (x5 a _ hS)), pz, _, [V.int 0], rfl, rfl, upd_same, by omega, by rw [iL_len]; omega, sz_of (by rw [iL_len]; simp; omega), fun ps hs => ?_⟩
    have er : (List.replicate ((iL S).length : Int).toNat [V.int 0]).flatten = nL (costs [] S) := by
      rw [iL_len, Int.toNat_natCast]
      unfold nL costs
      clear hS hnd hlen k x1 x2 x3 x4 x5 hl hz hs
      induction S with
      | nil => rfl
      | cons b S ih => simp only [List.length_cons, List.replicate_succ, List.flatten_cons, List.map_cons, cost]; rw [ih]; rfl
    rw [er]
    have x6 := Ex.new (o := .lst (nL (costs [] S))) hs
    refine ⟨by show 4 ≤ sizeLine; decide, fun pt ht => ⟨pt, _, rfl, .of upd_same, rfl, _, _, rfl, _, _, rfl, _, _, rfl, _, _, rfl, rfl, ?_⟩⟩
    have x7 := Ex.new (o := .tup [V.ref po, V.ref pn, V.ref pl, V.ref ps]) ht
    obtain ⟨n1, hn'⟩ := upd_none hn
    obtain ⟨l1, hl'⟩ := upd_none hl
    obtain ⟨l2, hl''⟩ := upd_none hl'
    obtain ⟨s1, hs'⟩ := upd_none hs
    obtain ⟨s2, hs''⟩ := upd_none hs'
    obtain ⟨s3, hs3⟩ := upd_none hs''
    obtain ⟨s4, hs4⟩ := upd_none hs3
    obtain ⟨z2, hz'⟩ := upd_none hz
    obtain ⟨z3, hz''⟩ := upd_none hz'
    obtain ⟨z4, _⟩ := upd_none hz''
    obtain ⟨t1, ht'⟩ := upd_none ht
    obtain ⟨t2, ht''⟩ := upd_none ht'
    obtain ⟨t3, ht3⟩ := upd_none ht''
    obtain ⟨t4, ht4⟩ := upd_none ht3
    obtain ⟨t5, _⟩ := upd_none ht4
    have hA : GrA H po pn pl ps := ⟨ho, hn', hl'', hs4, n1.symm, l2.symm, s4.symm, l1.symm, s3.symm, s2.symm⟩
    refine q_while (fun m σ H' => ∃ (pre left : List Int) (nums : List Nat) (ps : Addr) (y5 y6 : Option V), σ = [some (.ref a), some (.ref po), some (.ref pn), some (.ref pl), some (.ref ps), y5, y6, none, none] ∧ m = left.length ∧ GrW H H' S po pn pl ps pre left nums ∧ GrA H po pn pl ps)
      S.length ⟨[], S, [], ps, none, none, rfl, rfl, ⟨(x5.trans x6).trans x7, ?_, ?_, ?_, ?_, rfl, rfl, by simpa using hlen, rfl, hnd, fun _ _ => List.not_mem_nil⟩, hA⟩ ?_
    · rw [upd_ne t5.symm, upd_ne s4.symm, upd_ne z4.symm, upd_ne l2.symm, upd_ne n1.symm, upd_same]; rfl
    · rw [upd_ne t4.symm, upd_ne s3.symm, upd_ne z3.symm, upd_ne l1.symm, upd_same]; rfl
    · rw [upd_ne t3.symm, upd_ne s2.symm, upd_ne z2.symm, upd_same]
    · rw [upd_ne t1.symm, upd_same]
    clear x1 x2 x3 x4 x5 x6 x7 hn hl hz hs ht n1 hn' l1 hl' l2 hl'' s1 hs' s2 hs'' s3 hs3 s4 hs4 z2 hz' z3 hz'' z4 t1 ht' t2 ht'' t3 ht3 t4 ht4 t5 hA er
    rintro m σ' H' ⟨pre, left, nums, ps, y5, y6, rfl, rfl, W, hA⟩
    refine ⟨!decide (left = []), et_test (ev_neN (ev_var rfl) W.l), fun hb H1 e1 => ?_, fun hb H1 e1 => ?_⟩
    · have hne : left ≠ [] := by simpa using hb
      obtain ⟨a0, ha0, hc, hle⟩ := pick_spec pre left hne
      have hcn : costs pre left ≠ [] := by simpa [costs] using hne
      have hlt := (List.getElem?_eq_some_iff.mp ha0).1
      have hsz := W.sz
      obtain ⟨nd1, nd2⟩ := nodup_erase W.nd ha0
      have hmem := mem_erase_iff ha0
      have hcl : (costs pre left).length = left.length := List.length_map _
      have hca : (costs pre left)[pickAt pre left]? = some (cost pre a0) := by unfold costs; rw [List.getElem?_map, ha0]; rfl
      have hle' : (left.eraseIdx (pickAt pre left)).length = left.length - 1 := List.length_eraseIdx_of_lt hlt
      have eg : goodGo left.length pre left = (a0 :: (goodGo (left.length - 1) (pre ++ [a0]) (left.eraseIdx (pickAt pre left))).1, cost pre a0 :: (goodGo (left.length - 1) (pre ++ [a0]) (left.eraseIdx (pickAt pre left))).2) := by
        have e0 : left.length = (left.length - 1) + 1 := by omega
        have e1 : left.getD (pickAt pre left) 0 = a0 := by rw [List.getD_eq_getElem?_getD, ha0]; rfl
        conv => lhs; rw [e0]
        rw [goodGo_cons _ _ _ hne, e1]
      refine ⟨fun σ H' => ∃ (pre' left' : List Int) (nums : List Nat) (ps : Addr) (y5 y6 : Option V), σ = [some (.ref a), some (.ref po), some (.ref pn), some (.ref pl), some (.ref ps), y5, y6, none, none] ∧ left'.length < left.length ∧ GrW H H' S po pn pl ps pre' left' nums ∧ GrA H po pn pl ps,
        fun σ2 H2 ⟨p', l', nu, ps', z5, z6, r1, r2, r3, r4⟩ => ⟨l'.length, r2, p', l', nu, ps', z5, z6, r1, rfl, r3, r4⟩, ?_⟩
      have W1l := e1 _ _ W.l
      have W1s := e1 _ _ W.s
      have W1o := e1 _ _ W.o
      have W1n := e1 _ _ W.n
      have X1 := W.ex.trans e1
      -- at = sums.index(min(sums))
      refine q_asg (v := .int (pickAt pre left : Nat)) (ev_indexN (ev_var rfl) (ev_minN (ev_var rfl) W1s hcn) W1s (minL_mem _ hcn)) fun H2 e2 => ?_
      -- taken = left.pop(at)
      refine q_pop (e2 _ _ W1l) (ev_var rfl) (ev_var rfl) (iL_get ha0) (by rw [iL_len]; omega) fun H3 e3 => ?_
      have X3 := (X1.trans e2).trans e3
      rw [iL_erase]
      -- order.append(taken)
      refine q_app (xs := iL pre) (v := .int a0) (l := po) (by rw [upd_ne hA.ol]; exact e3 _ _ (e2 _ _ W1o)) (ev_var rfl) (ev_var rfl) (by rw [iL_len]; omega) fun H4 e4 => ?_
      have L4 : H4 pl = some (.lst (iL (left.eraseIdx (pickAt pre left)))) := e4 _ _ upd_same
      have S4 : H4 ps = some (.lst (nL (costs pre left))) := e4 _ _ (by rw [upd_ne hA.ls.symm]; exact e3 _ _ (e2 _ _ W1s))
      have N4 : H4 pn = some (.lst (nL nums)) := e4 _ _ (by rw [upd_ne hA.nl]; exact e3 _ _ (e2 _ _ W1n))
      have X4 := (X3.mut (o := .lst (iL (left.eraseIdx (pickAt pre left)))) hA.l).trans e4
      -- numbers.append(sums.pop(at))
      refine q_appPop (xs := nL (costs pre left)) (ys := nL nums) (l := ps) (m := pn) (y := .int (cost pre a0 : Nat)) (by rw [upd_ne hA.os.symm]; exact S4) (by rw [upd_ne hA.on.symm]; exact N4) hA.ns (ev_var rfl) (ev_var rfl) (ev_var rfl) (nL_get hca) (by rw [nL_len, hcl]; omega) (by rw [nL_len, W.nn]; omega) fun H5 e5 => ?_
      rw [nL_erase, costs_step pre left _ a0 ha0, ← nL_app]
      have O5 : H5 po = some (.lst (iL (pre ++ [a0]))) := by rw [iL_app]; exact e5 _ _ upd_same
      have L5 : H5 pl = some (.lst (iL (left.eraseIdx (pickAt pre left)))) := e5 _ _ (by rw [upd_ne hA.ol.symm]; exact L4)
      have X5 := (X4.mut (o := .lst (iL pre ++ [V.int a0])) hA.o).trans e5
      have X6 := (X5.mut (o := .lst (nL (costs pre (left.eraseIdx (pickAt pre left))))) hA.s).mut (o := .lst (nL (nums ++ [cost pre a0]))) hA.n
      have L6 : (upd (upd H5 ps (.lst (nL (costs pre (left.eraseIdx (pickAt pre left)))))) pn (.lst (nL (nums ++ [cost pre a0])))) pl = some (.lst (iL (left.eraseIdx (pickAt pre left)))) := by rw [upd_ne hA.nl.symm, upd_ne hA.ls]; exact L5
      have S6 : (upd (upd H5 ps (.lst (nL (costs pre (left.eraseIdx (pickAt pre left)))))) pn (.lst (nL (nums ++ [cost pre a0])))) ps = some (.lst (nL (costs pre (left.eraseIdx (pickAt pre left))))) := by rw [upd_ne hA.ns.symm, upd_same]
      have O6 : (upd (upd H5 ps (.lst (nL (costs pre (left.eraseIdx (pickAt pre left)))))) pn (.lst (nL (nums ++ [cost pre a0])))) po = some (.lst (iL (pre ++ [a0]))) := by rw [upd_ne hA.on, upd_ne hA.os]; exact O5
      have N6 : (upd (upd H5 ps (.lst (nL (costs pre (left.eraseIdx (pickAt pre left)))))) pn (.lst (nL (nums ++ [cost pre a0])))) pn = some (.lst (nL (nums ++ [cost pre a0]))) := upd_same
      generalize (upd (upd H5 ps (.lst (nL (costs pre (left.eraseIdx (pickAt pre left)))))) pn (.lst (nL (nums ++ [cost pre a0])))) = H6 at *
      generalize hlf : left.eraseIdx (pickAt pre left) = left' at *
      -- sums = [have + twos(place - taken) ..]
      refine s_asgL (xs := nL (costs (pre ++ [a0]) left')) (el_is (el_lcZip (fun _ => true) (fun i => .int ((costs (pre ++ [a0]) left').getD i 0 : Nat)) (ea_cons (ev_var rfl) (ea_cons (ev_var rfl) ea_nil)) S6 L6 (by rw [nL_len, iL_len]; exact List.length_map _) (by rw [nL_len]; unfold costs; rw [List.length_map, hle']; omega) (fun _ _ => rfl) (fun i x y H7 e7 hx hy => ?_) (fun i x y H7 e7 hx hy _ => ?_)) ?_) fun ps' H7 hp' e7 h7 => ?_
      · exact fun H8 _ _ q8 => q8 H8 (Ex.refl H8)
      · obtain ⟨yv, hyv, rfl⟩ := iL_of hy
        obtain ⟨xv, hxv, rfl⟩ := nL_of hx
        unfold costs at hxv
        rw [List.getElem?_map, hyv] at hxv
        have hxv : cost pre yv = xv := by simpa using hxv
        subst hxv
        have hy0 : yv - a0 ≠ 0 := fun z => nd2 (by rw [show a0 = yv by omega]; exact List.mem_of_getElem? hyv)
        refine ev_is (ev_op (ev_var rfl) (ev_call (ea_cons (ev_op (ev_var rfl) (ev_var rfl) rv_I0) ea_nil) (sv_twos hy0)) rv_I0) ?_
        unfold costs
        rw [List.getD_eq_getElem?_getD, List.getElem?_map, hyv]
        show V.int ((cost pre yv : Int) + (twos (yv - a0) : Int)) = V.int ((cost (pre ++ [a0]) yv : Nat) : Int)
        rw [cost_snoc]
        simp
      · have e8 : (nL (costs pre left')).length = (costs (pre ++ [a0]) left').length := by rw [nL_len]; unfold costs; rw [List.length_map, List.length_map]
        rw [e8]
        exact given_nL _
      · obtain ⟨pn1, hp2⟩ : True ∧ H ps' = none := ⟨trivial, fresh_back X6 hp'⟩
        refine ⟨pre ++ [a0], left', nums ++ [cost pre a0], ps', _, _, rfl, by omega, ⟨X6.trans e7, e7 _ _ O6, e7 _ _ N6, e7 _ _ L6, h7, ?_, ?_, ?_, ?_, nd1, fun x hx z => ?_⟩, ⟨hA.o, hA.n, hA.l, hp2, hA.on, hA.ol, ne_of_none O6 hp', hA.nl, ne_of_none N6 hp', ne_of_none L6 hp'⟩⟩
        · rw [← W.e1, eg, hle']; simp
        · rw [← W.e2, eg, hle']; simp
        · simp only [List.length_append, List.length_singleton]; omega
        · simp only [List.length_append, List.length_singleton, W.nn]
        · rcases List.mem_append.mp z with z | z
          · exact W.dj x ((hmem x).mpr (.inr hx)) z
          · rw [List.mem_singleton.mp z] at hx; exact nd2 hx
    · have hl0 : left = [] := by simpa using hb
      subst hl0
      have r1 : pre = (goodRow S).1 := by have := W.e1; simpa [goodGo] using this
      have r2 : nums = (goodRow S).2 := by have := W.e2; simpa [goodGo] using this
      refine s_retU (eu_tup (ea_cons (ev_var rfl) (ea_cons (ev_var rfl) ea_nil)) (by show 2 ≤ 100000; decide)) fun p H2 hp e2 h2 => ?_
      exact k p po pn H2 (fresh_back (W.ex.trans e1) hp) hA.o hA.n hA.on ((W.ex.trans e1).trans e2) h2 (by rw [← r1]; exact e2 _ _ (e1 _ _ W.o)) (by rw [← r2]; exact e2 _ _ (e1 _ _ W.n))

end Ap


namespace Ap
open PySem PySem.Spec PyProof.Rows L2 Evl
section
variable {K : PySem.W.Frag} {σ : L2.St} {H H' : Hp} {ta tb te tx : TE} {t u : TT} {x y z v : V} {D : Ends} {tu tw tz : TS} {g : TG}
theorem isi_list {a : Addr} {xs : List V} (h : H a = some (.lst xs)) : RC (rIsi K) [.ref a, .ty "list"] H (.bl true) := fun H1 e _ q => ⟨_, _, _, _, true, rfl, .ty _, .base (.lst (e a _ h)), kit_ty (by decide +kernel), q H1 (Ex.refl H1)⟩
theorem isi_tup {a : Addr} {xs : List V} (h : H a = some (.tup xs)) : RC (rIsi K) [.ref a, .ty "tuple"] H (.bl true) := fun H1 e _ q => ⟨_, _, _, _, true, rfl, .ty _, .base (.tup (e a _ h)), kit_ty (by decide +kernel), q H1 (Ex.refl H1)⟩
theorem ev_lenI {p : Addr} {l : List Int} (ha : Ev ta σ H (.ref p)) (h : H p = some (.lst (iL l))) : Ev (tCB (rLenS K) (tCons ta tNil)) σ H (.int (l.length : Int)) := ev_is (ev_len ha (.of h)) (by rw [iL_len])
theorem ev_lenT {p : Addr} {xs : List V} (ha : Ev ta σ H (.ref p)) (h : H p = some (.tup xs)) : Ev (tCB (rLenS K) (tCons ta tNil)) σ H (.int (xs.length : Int)) := fun H1 e Q q =>
  ha H1 e _ fun H2 e2 => ⟨p, xs, rfl, Or.inr (.of (e2 p _ (e p _ h))), q H2 e2⟩
theorem atI_of {xs : List V} {i : Nat} (h : xs[i]? = some v) : atI xs (i : Int) = some v := atI_nat h
theorem ev_ixI {p : Addr} {l : List Int} {i : Nat} {n : Int} (ha : Ev ta σ H (.ref p)) (hb : Ev tb σ H (.int (i : Int))) (h : H p = some (.lst (iL l))) (hn : l[i]? = some n) : Ev (tOp (rIxL K) ta tb) σ H (.int n) := ev_op ha hb (rv_ixL (.of h) (atI_nat (iL_get hn)))
theorem inV_iL (k : Int) : ∀ l : List Int, inV (.int k) (iL l) = decide (k ∈ l)
  | [] => by simp [iL, inV]
  | x :: l => by
    have ih := inV_iL k l
    unfold inV iL at *
    simp only [List.map_cons, List.any_cons, ih, eqV_int, List.mem_cons]
    by_cases h : x = k
    · simp [h]
    · have : ¬ k = x := fun e => h e.symm
      simp [h, this]
theorem ev_inI {p : Addr} {l : List Int} {k : Int} (ha : Ev ta σ H (.int k)) (hb : Ev tb σ H (.ref p)) (h : H p = some (.lst (iL l))) : Ev (tOp (rIn K false) ta tb) σ H (.bl (decide (k ∈ l))) := ev_is (ev_op ha hb (rv_isL (.of h) rfl (iL_flat l))) (by rw [inV_iL])
theorem ev_niI {p : Addr} {l : List Int} {k : Int} (ha : Ev ta σ H (.int k)) (hb : Ev tb σ H (.ref p)) (h : H p = some (.lst (iL l))) : Ev (tOp (rIn K true) ta tb) σ H (.bl (!decide (k ∈ l))) := ev_is (ev_op ha hb (rv_niL (.of h) rfl (iL_flat l))) (by rw [inV_iL])
theorem el_lcR2 {ta : TA} {j : Nat} {vs : List Nat} {lo n : Int} (f : Nat → Bool) (v : Nat → V) (h : EvA ta σ H [.int lo, .int n]) (hn : 0 ≤ lo ∧ lo ≤ 40000 ∧ 0 ≤ n ∧ n ≤ 40000) (hw : ∀ x, wipe ((wipe σ vs).set j (some x)) vs = wipe σ vs)
    (ht : ∀ (i : Nat) H1, Ex H H1 → lo + (i : Int) < n → EvT t ((wipe σ vs).set j (some (.int (lo + (i : Int))))) H1 (f i)) (he : ∀ (i : Nat) H1, Ex H H1 → lo + (i : Int) < n → f i = true → Ev te ((wipe σ vs).set j (some (.int (lo + (i : Int))))) H1 (v i)) :
    EvL (tLc (iRng2 ta) (gName j) t te vs) σ H (given (n - lo).toNat f v) := fun H0 e Q q => h H0 e _ fun H1 e1 => ⟨lo, n, rfl, ⟨by omega, by omega, by omega, by omega⟩, fun Dl hD =>
  lc_range (lo := lo) (n := (n - lo).toNat) (Cw H1 f v Dl) ⟨hD, Ex.new hD, upd_same⟩ (fun i H' hi p => ⟨hw _, cw_turn p (by omega) (ht i H1 (e.trans e1) (by omega)) (fun hf => he i H1 (e.trans e1) (by omega) hf)⟩) (fun H' p => q Dl H' (fresh_back e1 p.1) (e1.trans p.2.1) p.2.2)⟩
theorem et_yes : EvT tYes σ H true := fun H1 _ _ q => q H1 (Ex.refl H1)
/-- known words as a list of pairs -/
def Kn (H : Hp) (a : Addr) (kv : List (Int × Int)) : Prop := ∃ ts : List Addr, H a = some (.lst (ts.map V.ref)) ∧ ts.length = kv.length ∧ ∀ (i : Nat) t q, ts[i]? = some t → kv[i]? = some q → H t = some (.tup [.int q.1, .int q.2])
theorem Kn.mono {a : Addr} {kv : List (Int × Int)} (h : Kn H a kv) (e : Ex H H') : Kn H' a kv := by
  obtain ⟨ts, h1, h2, h3⟩ := h
  exact ⟨ts, e a _ h1, h2, fun i t q a b => e t _ (h3 i t q a b)⟩
/-- over a list of pairs, the target two names -/
theorem el_lcK {a : Addr} {kv : List (Int × Int)} {tl : TE} {j1 j2 : Nat} {vs : List Nat} (f : Nat → Bool) (v : Nat → V) (h : Ev tl σ H (.ref a)) (hx : Kn H a kv) (hz : kv.length ≤ 40000) (hw : ∀ x y, wipe (((wipe σ vs).set j1 (some x)).set j2 (some y)) vs = wipe σ vs)
    (ht : ∀ (i : Nat) (q : Int × Int) H1, Ex H H1 → kv[i]? = some q → EvT t (((wipe σ vs).set j1 (some (.int q.1))).set j2 (some (.int q.2))) H1 (f i)) (he : ∀ (i : Nat) (q : Int × Int) H1, Ex H H1 → kv[i]? = some q → f i = true → Ev te (((wipe σ vs).set j1 (some (.int q.1))).set j2 (some (.int q.2))) H1 (v i)) :
    EvL (tLc (iList K tl) (gTup K 2 (gCons (gName j1) (gCons (gName j2) gNil))) t te vs) σ H (given kv.length f v) := fun H0 e Q q => h H0 e _ fun H1 e1 => by
  obtain ⟨ts, k1, k2, k3⟩ := hx.mono (e.trans e1)
  refine ⟨a, rfl, ⟨_, .of k1⟩, fun Dl hD => ?_⟩
  refine lc_list (xs := ts.map V.ref) (Cw H1 f v Dl) ⟨hD, Ex.new hD, upd_same⟩ (fun i H' _ p => .of (p.2.1 a _ k1)) (fun i x H2 hi p => ?_) (fun H' p => ?_)
  · rw [List.getElem?_map] at hi
    obtain ⟨t1, ht1, rfl⟩ := Option.map_eq_some_iff.mp hi
    have hlt := (List.getElem?_eq_some_iff.mp ht1).1
    have hq : kv[i]? = some (kv[i]'(by omega)) := List.getElem?_eq_getElem (by omega)
    have hT := k3 i t1 _ ht1 hq
    exact ⟨t1, _, rfl, .of (p.2.1 t1 _ hT), rfl, _, _, rfl, _, [], rfl, rfl, hw _ _, cw_turn p (by omega) (ht i _ H1 (e.trans e1) hq) fun hf => he i _ H1 (e.trans e1) hq hf⟩
  · rw [List.length_map, k2] at p
    exact q Dl H' (fresh_back e1 p.1) (e1.trans p.2.1) p.2.2
theorem given_keys (kv : List (Int × Int)) : given kv.length (fun _ => true) (fun i => .int (kv.getD i (0, 0)).1) = iL (keys kv) := by
  rw [given_all]
  have := congrArg (List.map fun q : Int × Int => V.int q.1) (range_getD kv (0, 0))
  rw [List.map_map] at this
  unfold iL keys
  rw [List.map_map]
  exact this
end
/-! ### widths, words, places -/
def sp_is_width (K : PySem.W.Frag) : Sp := fun vs H Q _ => ∃ n : Nat, vs = [.int (n : Int)] ∧ 1 ≤ n ∧ n ≤ 64 ∧ RetV (.bl true) H Q
theorem sv_is_width {K : PySem.W.Frag} {H : Hp} {n : Nat} (h1 : 1 ≤ n) (h2 : n ≤ 64) : SpV (sp_is_width K) [.int (n : Int)] H (.bl true) := fun H1 _ Q q _ => ⟨n, rfl, h1, h2, q⟩
theorem sc_is_width : FnScope ["value"] ["value"] (defScope sIsWidth) := ⟨rfl, rfl, rfl, by decide +kernel, rfl, by decide +kernel, by decide +kernel⟩
theorem has_is_width {P : Program} {w : World} {K : PySem.W.Frag} {mg : Str → Option Value} {base : Heap} (T : Txt K mg) : Has P w K mg base "is_width" ["value"] 3 (sp_is_width K) := by
  refine Has.of T.gIsWidth T.dIsWidth (fun fd F => FunD.ok F sc_is_width (fun vs H Q E h => ?_) (fun cdv A outer s H vs Q E hr h => ?_)) fun _ _ _ _ _ _ us hl => match us, hl with | [_], _ => rfl
  · obtain ⟨n, rfl, h1, h2, k⟩ := h
    rfl
  · have hr : Room 2 _ := hr
    have h_is_between := has_is_between (P := P) (w := w) (base := base) T
    obtain ⟨n, rfl, h1, h2, k⟩ := h
    refine ⟨(tRet (tCall _ [] E0 (tCons (tVar 0) (tCons (tC _) (tCons (tC _) tNil))))), PSs.nox (pss_one (ps_ret (pe_has h_is_between (hr.mono (by decide)) (pa_cons (pv 0) (pa_cons pe_int (pa_cons (pe_glob (v := .int 64) (by rfl) T.gMost.choose_spec ⟨_, rfl⟩) pa_nil)))))), ?_⟩
    exact s_ret (v := .bl true) (ev_call (ea_cons (ev_var rfl) (ea_cons ev_c (ea_cons ev_c ea_nil))) (sv_is_between (lo := some 1) (hi := some 64) (fun l e => by cases e; omega) (fun l e => by cases e; omega))) k

def sp_check_width (K : PySem.W.Frag) : Sp := fun vs H Q _ => ∃ n : Nat, vs = [.int (n : Int)] ∧ 1 ≤ n ∧ n ≤ 64 ∧ RetV .non H Q
theorem sv_check_width {K : PySem.W.Frag} {H : Hp} {n : Nat} (h1 : 1 ≤ n) (h2 : n ≤ 64) : SpV (sp_check_width K) [.int (n : Int)] H .non := fun H1 _ Q q _ => ⟨n, rfl, h1, h2, q⟩
theorem sc_check_width : FnScope ["width"] ["width"] (defScope sCheckWidth) := ⟨rfl, rfl, rfl, by decide +kernel, rfl, by decide +kernel, by decide +kernel⟩
theorem has_check_width {P : Program} {w : World} {K : PySem.W.Frag} {mg : Str → Option Value} {base : Heap} (T : Txt K mg) : Has P w K mg base "check_width" ["width"] 4 (sp_check_width K) := by
  refine Has.of T.gCheckWidth T.dCheckWidth (fun fd F => FunD.ok F sc_check_width (fun vs H Q E h => ?_) (fun cdv A outer s H vs Q E hr h => ?_)) fun _ _ _ _ _ _ us hl => match us, hl with | [_], _ => rfl
  · obtain ⟨n, rfl, h1, h2, k⟩ := h
    rfl
  · have hr : Room 3 _ := hr
    have h_is_width := has_is_width (P := P) (w := w) (base := base) T
    obtain ⟨n, rfl, h1, h2, k⟩ := h
    refine ⟨(tIfS (tNot (tB (tCall _ [] E0 (tCons (tVar 0) tNil)))) tNever tNext), PSs.nox (pss_one (ps_if (pt_not (pt_val (pe_has h_is_width (hr.mono (by decide)) (pa_cons (pv 0) pa_nil)))) pss_never pss_nil)), ?_⟩
    exact s_when (b := false) (et_not (a := true) (et_B (ev_call (ea_cons (ev_var rfl) ea_nil) (sv_is_width h1 h2)))) (fun h => by cases h) fun _ H1 e => k H1 e

def sp_check_number (K : PySem.W.Frag) : Sp := fun vs H Q _ => ∃ (v : Int) (lo hi : Option Int), vs = [.int v, oi lo, oi hi] ∧ (∀ l, lo = some l → l ≤ v) ∧ (∀ h, hi = some h → v ≤ h) ∧ RetV .non H Q
theorem sv_check_number {K : PySem.W.Frag} {H : Hp} {v : Int} {lo hi : Option Int} (h1 : ∀ l, lo = some l → l ≤ v) (h2 : ∀ h, hi = some h → v ≤ h) : SpV (sp_check_number K) [.int v, oi lo, oi hi] H .non := fun H1 _ Q q _ => ⟨v, lo, hi, rfl, h1, h2, q⟩
theorem sc_check_number : FnScope ["number", "low", "high"] ["number", "low", "high"] (defScope sCheckNumber) := ⟨rfl, rfl, rfl, by decide +kernel, rfl, by decide +kernel, by decide +kernel⟩
theorem has_check_number {P : Program} {w : World} {K : PySem.W.Frag} {mg : Str → Option Value} {base : Heap} (T : Txt K mg) : Has P w K mg base "check_number" ["number", "low", "high"] 3 (sp_check_number K) := by
  refine Has.of T.gCheckNumber T.dCheckNumber (fun fd F => FunD.ok F sc_check_number (fun vs H Q E h => ?_) (fun cdv A outer s H vs Q E hr h => ?_)) fun _ _ _ _ _ _ us hl => match us, hl with | [_, _, _], _ => rfl
  · obtain ⟨v, lo, hi, rfl, h1, h2, k⟩ := h
    rfl
  · have hr : Room 2 _ := hr
    have h_is_between := has_is_between (P := P) (w := w) (base := base) T
    obtain ⟨v, lo, hi, rfl, h1, h2, k⟩ := h
    refine ⟨(tIfS (tNot (tB (tCall _ [] E0 (tCons (tVar 0) (tCons (tVar 1) (tCons (tVar 2) tNil)))))) tNever tNext), PSs.nox (pss_one (ps_if (pt_not (pt_val (pe_has h_is_between (hr.mono (by decide)) (pa_cons (pv 0) (pa_cons (pv 1) (pa_cons (pv 2) pa_nil)))))) pss_never pss_nil)), ?_⟩
    exact s_when (b := false) (et_not (a := true) (et_B (ev_call (ea_cons (ev_var rfl) (ea_cons (ev_var rfl) (ea_cons (ev_var rfl) ea_nil))) (sv_is_between h1 h2)))) (fun h => by cases h) fun _ H1 e => k H1 e

def sp_is_of_width (K : PySem.W.Frag) : Sp := fun vs H Q _ => ∃ (n : Nat) (x : Int), vs = [.int (n : Int), .int x] ∧ n ≤ 64 ∧ 0 ≤ x ∧ x < 2 ^ n ∧ RetV (.bl true) H Q
theorem sv_is_of_width {K : PySem.W.Frag} {H : Hp} {n : Nat} {x : Int} (h1 : n ≤ 64) (h2 : 0 ≤ x) (h3 : x < 2 ^ n) : SpV (sp_is_of_width K) [.int (n : Int), .int x] H (.bl true) := fun H1 _ Q q _ => ⟨n, x, rfl, h1, h2, h3, q⟩
theorem sc_is_of_width : FnScope ["width", "value"] ["width", "value"] (defScope sIsOfWidth) := ⟨rfl, rfl, rfl, by decide +kernel, rfl, by decide +kernel, by decide +kernel⟩
theorem has_is_of_width {P : Program} {w : World} {K : PySem.W.Frag} {mg : Str → Option Value} {base : Heap} (T : Txt K mg) : Has P w K mg base "is_of_width" ["width", "value"] 3 (sp_is_of_width K) := by
  refine Has.of T.gIsOfWidth T.dIsOfWidth (fun fd F => FunD.ok F sc_is_of_width (fun vs H Q E h => ?_) (fun cdv A outer s H vs Q E hr h => ?_)) fun _ _ _ _ _ _ us hl => match us, hl with | [_, _], _ => rfl
  · obtain ⟨n, x, rfl, h1, h2, h3, k⟩ := h
    rfl
  · have hr : Room 2 _ := hr
    have h_is_between := has_is_between (P := P) (w := w) (base := base) T
    have h_power_of_two := has_power_of_two (P := P) (w := w) (base := base) T
    obtain ⟨n, x, rfl, h1, h2, h3, k⟩ := h
    refine ⟨(tRet (tCall _ [] E0 (tCons (tVar 1) (tCons (tC _) (tCons (tOp _ (tCall _ [] E0 (tCons (tVar 0) tNil)) (tC _)) tNil))))), PSs.nox (pss_one (ps_ret (pe_has h_is_between (hr.mono (by decide)) (pa_cons (pv 1) (pa_cons pe_int (pa_cons (pe_op op_sub (pe_has h_power_of_two (hr.mono (by decide)) (pa_cons (pv 0) pa_nil)) pe_int) pa_nil)))))), ?_⟩
    exact s_ret (v := .bl true) (ev_call (ea_cons (ev_var rfl) (ea_cons ev_c (ea_cons (ev_op (ev_call (ea_cons (ev_var rfl) ea_nil) (sv_power_of_two (by omega))) ev_c rv_I0) ea_nil))) (sv_is_between (lo := some 0) (hi := some (2 ^ n - 1)) (fun l e => by cases e; omega) (fun l e => by cases e; omega))) k

def sp_rises (K : PySem.W.Frag) : Sp := fun vs H Q _ => ∃ (a : Addr) (l : List Int), vs = [.ref a] ∧ H a = some (.lst (iL l)) ∧ l.Pairwise (· < ·) ∧ l.length ≤ 1000 ∧ RetV (.bl true) H Q
theorem sv_rises {K : PySem.W.Frag} {H : Hp} {a : Addr} {l : List Int} (h1 : H a = some (.lst (iL l))) (h2 : l.Pairwise (· < ·)) (h3 : l.length ≤ 1000) : SpV (sp_rises K) [.ref a] H (.bl true) := fun H1 e Q q _ => ⟨a, l, rfl, e a _ h1, h2, h3, q⟩
theorem sc_rises : FnScope ["numbers", "at"] ["numbers"] (defScope sRises) := ⟨rfl, rfl, rfl, by decide +kernel, rfl, by decide +kernel, by decide +kernel⟩
theorem has_rises {P : Program} {w : World} {K : PySem.W.Frag} {mg : Str → Option Value} {base : Heap} (T : Txt K mg) : Has P w K mg base "rises" ["numbers"] 1 (sp_rises K) := by
  refine Has.of T.gRises T.dRises (fun fd F => FunD.ok F sc_rises (fun vs H Q E h => ?_) (fun cdv A outer s H vs Q E hr h => ?_)) fun _ _ _ _ _ _ us hl => match us, hl with | [_], _ => rfl
  · obtain ⟨a, l, rfl, h1, h2, h3, k⟩ := h
    rfl
  · have hr : Room 0 _ := hr

    obtain ⟨a, l, rfl, h1, h2, h3, k⟩ := h
    refine ⟨(tRet (tOp (rEqD K) (tLc (iRng2 (tCons (tC _) (tCons (tCB (Evl.rLenS K) (tCons (tVar 0) tNil)) tNil))) (gName 1) (tTest (tOp _ (tOp (rIxL K) (tVar 0) (tOp _ (tVar 1) (tC _))) (tOp (rIxL K) (tVar 0) (tVar 1)))) (tVar 1) [1]) (tLst tNil))), PSs.nox (pss_one (ps_ret (pe_cmpR (op_eqD hr.units) (pe_lc (own := [("at", 1)]) (g := (gName 1)) (tt := (tTest (tOp _ (tOp (rIxL K) (tVar 0) (tOp _ (tVar 1) (tC _))) (tOp (rIxL K) (tVar 0) (tVar 1))))) (te := (tVar 1)) (by rfl) sc_rises.nd (pi_range2 (by rfl) T.z_range (pa_cons pe_int (pa_cons (pe_callB call_len_seq (by rfl) T.z_len (by decide +kernel) (pa_cons (pv 0) pa_nil)) pa_nil))) (blkOk_by (own := [("at", 1)]) (N := ["numbers", "at"]) (sc := defScope sRises) (by decide +kernel)) (fun _ _ _ _ _ => (pg_name (i := 1) sc_rises.nd rfl (Or.inl rfl))) (fun _ _ _ _ _ => (pts_one (pt_cmpR op_ge (pe_ix ix_list (pv 0) (pe_op op_sub (pv 1) pe_int) (fun _ _ => rfl)) (pe_ix ix_list (pv 0) (pv 1) (fun _ _ => rfl)) (nomark _)))) (fun _ _ _ _ _ => (pv 1))) (pe_lst pa_nil) (nomark _)))), ?_⟩
    refine s_ret (v := .bl true) (ev_eqNN (l := []) (el_is (el_lcR2 (lo := 1) (n := (l.length : Int)) (fun _ => false) (fun _ => .non) (ea_cons ev_c (ea_cons (ev_lenI (ev_var rfl) h1) ea_nil)) (by omega) (fun _ => rfl) (fun i H1 e hi => ?_) (fun i H1 e hi hf => by cases hf)) (given_none _))) k
    have hi1 : i < l.length := by omega
    have hi2 : i + 1 < l.length := by omega
    have g1 : l[i]? = some l[i] := List.getElem?_eq_getElem hi1
    have g2 : l[i + 1]? = some l[i + 1] := List.getElem?_eq_getElem hi2
    have hlt : l[i] < l[i + 1] := List.pairwise_iff_getElem.mp h2 i (i + 1) hi1 hi2 (by omega)
    refine et_test (ev_is (ev_op (ev_ixI (i := i) (ev_var rfl) (ev_is (ev_op (ev_var rfl) ev_c rv_I0) (by congr 1; omega)) (e a _ h1) g1) (ev_ixI (i := i + 1) (ev_var rfl) (ev_is (ev_var rfl) (by congr 1; omega)) (e a _ h1) g2) rv_I0) ?_)
    rw [decide_eq_false (by omega)]

/-- places of a width -/
structure Pl (w : Nat) (S : List Int) : Prop where
  ne : S ≠ []
  mem : ∀ x, x ∈ S → 0 ≤ x ∧ x < 2 ^ w
  up : S.Pairwise (· < ·)
  len : S.length ≤ 1000
def sp_are_places (K : PySem.W.Frag) : Sp := fun vs H Q _ => ∃ (w : Nat) (a : Addr) (S : List Int), vs = [.int (w : Int), .ref a] ∧ w ≤ 64 ∧ H a = some (.lst (iL S)) ∧ Pl w S ∧ RetV (.bl true) H Q
theorem sv_are_places {K : PySem.W.Frag} {H : Hp} {w : Nat} {a : Addr} {S : List Int} (h1 : w ≤ 64) (h2 : H a = some (.lst (iL S))) (h3 : Pl w S) : SpV (sp_are_places K) [.int (w : Int), .ref a] H (.bl true) := fun H1 e Q q _ => ⟨w, a, S, rfl, h1, e a _ h2, h3, q⟩
theorem sc_are_places : FnScope ["width", "value", "item"] ["width", "value"] (defScope sArePlaces) := ⟨rfl, rfl, rfl, by decide +kernel, rfl, by decide +kernel, by decide +kernel⟩
theorem has_are_places {P : Program} {w : World} {K : PySem.W.Frag} {mg : Str → Option Value} {base : Heap} (T : Txt K mg) : Has P w K mg base "are_places" ["width", "value"] 4 (sp_are_places K) := by
  refine Has.of T.gArePlaces T.dArePlaces (fun fd F => FunD.ok F sc_are_places (fun vs H Q E h => ?_) (fun cdv A outer s H vs Q E hr h => ?_)) fun _ _ _ _ _ _ us hl => match us, hl with | [_, _], _ => rfl
  · obtain ⟨w, a, S, rfl, h1, h2, h3, k⟩ := h
    rfl
  · have hr : Room 3 _ := hr
    have h_rises := has_rises (P := P) (w := w) (base := base) T
    have h_is_of_width := has_is_of_width (P := P) (w := w) (base := base) T
    obtain ⟨w, a, S, rfl, h1, h2, h3, k⟩ := h
    refine ⟨(tSeq (tIfS (tOr (tNot (tB (tCB (rIsi K) (tCons (tVar 1) (tCons (tC _) tNil))))) (tTest (tOp (rEqD K) (tVar 1) (tLst tNil)))) (tRet (tC _)) tNext)
      (tRet (tAndV (tOp (rEqD K) (tLc (iList K (tVar 1)) (gName 2) (tNot (tB (tCall _ [] E0 (tCons (tVar 0) (tCons (tVar 2) tNil))))) (tVar 2) [2]) (tLst tNil)) (tCall _ [] E0 (tCons (tVar 1) tNil))))), PSs.nox (pss_cons (ps_if (PW.pt (pw_or (pt_not (pt_val (pe_callB call_isi (by rfl) T.z_isinstance (by decide +kernel) (pa_cons (pv 1) (pa_cons (pe_bltn (v := .ty "list") (by rfl) T.z_list (by decide +kernel) rfl) pa_nil))))) (pw_or1 (pt_cmpR (op_eqD hr.units) (pv 1) (pe_lst pa_nil) (nomark _))))) (pss_one (ps_ret pe_bl)) pss_nil)
    (pss_one (ps_ret (pe_and (pe_cmpR (op_eqD hr.units) (pe_lc (own := [("item", 2)]) (g := (gName 2)) (tt := (tNot (tB (tCall _ [] E0 (tCons (tVar 0) (tCons (tVar 2) tNil)))))) (te := (tVar 2)) (by rfl) sc_are_places.nd (pi_list (pv 1)) (blkOk_by (own := [("item", 2)]) (N := ["width", "value", "item"]) (sc := defScope sArePlaces) (by decide +kernel)) (fun _ _ _ _ _ => (pg_name (i := 2) sc_are_places.nd rfl (Or.inl rfl))) (fun _ _ _ _ _ => (pts_one (pt_not (pt_val (pe_has h_is_of_width (hr.mono (by decide)) (pa_cons (pv 0) (pa_cons (pv 2) pa_nil))))))) (fun _ _ _ _ _ => (pv 2))) (pe_lst pa_nil) (nomark _)) (pe_one (pe_has h_rises (hr.mono (by decide)) (pa_cons (pv 1) pa_nil))))))), ?_⟩
    refine q_when (b := false) (et_is (et_or (a := false) (b := false) (et_not (a := true) (et_B (ev_cb (ea_cons (ev_var rfl) (ea_cons ev_c ea_nil)) (isi_list h2)))) (fun _ => et_test (ev_is (ev_eqN (ev_var rfl) h2) (by rw [decide_eq_false h3.ne])))) rfl) (fun h => by cases h) fun _ H1 e1 => ?_
    have h2 := e1 a _ h2
    refine s_ret (v := .bl true) (ev_andV (a := true) (b := true) (ev_eqNN (l := []) (el_is (el_lcL (fun _ => false) (fun _ => .non) (ev_var rfl) (.of h2) (by rw [iL_len]; have := h3.len; omega) (fun _ => rfl) (fun i x H2 e2 hx => ?_) (fun i x H2 e2 hx hf => by cases hf)) (given_none _))) (fun _ => ev_call (ea_cons (ev_var rfl) ea_nil) (sv_rises h2 h3.up h3.len))) fun H2 e2 => k.go (e1.trans e2)
    obtain ⟨y, hy, rfl⟩ := iL_of hx
    have hm := h3.mem y (List.mem_of_getElem? hy)
    exact et_not (a := true) (et_B (ev_call (ea_cons (ev_var rfl) (ea_cons (ev_var rfl) ea_nil)) (sv_is_of_width h1 hm.1 hm.2)))

def sp_check_places (K : PySem.W.Frag) : Sp := fun vs H Q _ => ∃ (w : Nat) (a : Addr) (S : List Int), vs = [.int (w : Int), .ref a] ∧ 1 ≤ w ∧ w ≤ 64 ∧ H a = some (.lst (iL S)) ∧ Pl w S ∧ RetV .non H Q
theorem sv_check_places {K : PySem.W.Frag} {H : Hp} {w : Nat} {a : Addr} {S : List Int} (h0 : 1 ≤ w) (h1 : w ≤ 64) (h2 : H a = some (.lst (iL S))) (h3 : Pl w S) : SpV (sp_check_places K) [.int (w : Int), .ref a] H .non := fun H1 e Q q _ => ⟨w, a, S, rfl, h0, h1, e a _ h2, h3, q⟩
theorem sc_check_places : FnScope ["width", "places"] ["width", "places"] (defScope sCheckPlaces) := ⟨rfl, rfl, rfl, by decide +kernel, rfl, by decide +kernel, by decide +kernel⟩
theorem has_check_places {P : Program} {w : World} {K : PySem.W.Frag} {mg : Str → Option Value} {base : Heap} (T : Txt K mg) : Has P w K mg base "check_places" ["width", "places"] 5 (sp_check_places K) := by
  refine Has.of T.gCheckPlaces T.dCheckPlaces (fun fd F => FunD.ok F sc_check_places (fun vs H Q E h => ?_) (fun cdv A outer s H vs Q E hr h => ?_)) fun _ _ _ _ _ _ us hl => match us, hl with | [_, _], _ => rfl
  · obtain ⟨w, a, S, rfl, h0, h1, h2, h3, k⟩ := h
    rfl
  · have hr : Room 4 _ := hr
    have h_are_places := has_are_places (P := P) (w := w) (base := base) T
    have h_check_width := has_check_width (P := P) (w := w) (base := base) T
    obtain ⟨w, a, S, rfl, h0, h1, h2, h3, k⟩ := h
    refine ⟨(tSeq (tDrop (tCall _ [] E0 (tCons (tVar 0) tNil)))
      (tIfS (tNot (tB (tCall _ [] E0 (tCons (tVar 0) (tCons (tVar 1) tNil))))) tNever tNext)), PSs.nox (pss_cons (ps_expr (pe_has h_check_width (hr.mono (by decide)) (pa_cons (pv 0) pa_nil)))
    (pss_one (ps_if (pt_not (pt_val (pe_has h_are_places (hr.mono (by decide)) (pa_cons (pv 0) (pa_cons (pv 1) pa_nil))))) pss_never pss_nil))), ?_⟩
    refine q_drop (v := .non) (ev_call (ea_cons (ev_var rfl) ea_nil) (sv_check_width h0 h1)) fun H1 e1 => ?_
    exact s_when (b := false) (et_not (a := true) (et_B (ev_call (ea_cons (ev_var rfl) (ea_cons (ev_var rfl) ea_nil)) (sv_are_places h1 (e1 a _ h2) h3)))) (fun h => by cases h) fun _ H2 e2 => k H2 (e1.trans e2)

def sp_check_code (K : PySem.W.Frag) : Sp := fun vs H Q _ => ∃ (w : Nat) (a : Addr) (S : List Int) (m : Nat), vs = [.int (w : Int), .ref a, .int (m : Int)] ∧ 1 ≤ w ∧ w ≤ 64 ∧ H a = some (.lst (iL S)) ∧ Pl w S ∧ RetV .non H Q
theorem sv_check_code {K : PySem.W.Frag} {H : Hp} {w m : Nat} {a : Addr} {S : List Int} (h0 : 1 ≤ w) (h1 : w ≤ 64) (h2 : H a = some (.lst (iL S))) (h3 : Pl w S) : SpV (sp_check_code K) [.int (w : Int), .ref a, .int (m : Int)] H .non := fun H1 e Q q _ => ⟨w, a, S, m, rfl, h0, h1, e a _ h2, h3, q⟩
theorem sc_check_code : FnScope ["width", "places", "count"] ["width", "places", "count"] (defScope sCheckCode) := ⟨rfl, rfl, rfl, by decide +kernel, rfl, by decide +kernel, by decide +kernel⟩
theorem has_check_code {P : Program} {w : World} {K : PySem.W.Frag} {mg : Str → Option Value} {base : Heap} (T : Txt K mg) : Has P w K mg base "check_code" ["width", "places", "count"] 6 (sp_check_code K) := by
  refine Has.of T.gCheckCode T.dCheckCode (fun fd F => FunD.ok F sc_check_code (fun vs H Q E h => ?_) (fun cdv A outer s H vs Q E hr h => ?_)) fun _ _ _ _ _ _ us hl => match us, hl with | [_, _, _], _ => rfl
  · obtain ⟨w, a, S, m, rfl, h0, h1, h2, h3, k⟩ := h
    rfl
  · have hr : Room 5 _ := hr
    have h_check_number := has_check_number (P := P) (w := w) (base := base) T
    have h_check_places := has_check_places (P := P) (w := w) (base := base) T
    obtain ⟨w, a, S, m, rfl, h0, h1, h2, h3, k⟩ := h
    refine ⟨(tSeq (tDrop (tCall _ [] E0 (tCons (tVar 0) (tCons (tVar 1) tNil))))
      (tDrop (tCall _ [] E0 (tCons (tVar 2) (tCons (tC _) (tCons (tC _) tNil)))))), PSs.nox (pss_cons (ps_expr (pe_has h_check_places (hr.mono (by decide)) (pa_cons (pv 0) (pa_cons (pv 1) pa_nil))))
    (pss_one (ps_expr (pe_has h_check_number (hr.mono (by decide)) (pa_cons (pv 2) (pa_cons pe_int (pa_cons pe_non pa_nil))))))), ?_⟩
    refine q_drop (v := .non) (ev_call (ea_cons (ev_var rfl) (ea_cons (ev_var rfl) ea_nil)) (sv_check_places h0 h1 h2 h3)) fun H1 e1 => ?_
    exact s_drop (v := .non) (ev_call (ea_cons (ev_var rfl) (ea_cons ev_c (ea_cons ev_c ea_nil))) (sv_check_number (lo := some 0) (hi := none) (fun l e => by cases e; omega) (fun l e => by cases e))) fun H2 e2 => k H2 (e1.trans e2)

end Ap


namespace Ap
open PySem PySem.Spec PyProof.Rows L2 Evl
def sp_are_words (K : PySem.W.Frag) : Sp := fun vs H Q _ => ∃ (w : Nat) (a b : Addr) (S ws : List Int), vs = [.int (w : Int), .ref a, .ref b] ∧ w ≤ 64 ∧ H a = some (.lst (iL S)) ∧ H b = some (.lst (iL ws)) ∧ ws.length = S.length ∧ ws.length ≤ 1000 ∧ (∀ x, x ∈ ws → 0 ≤ x ∧ x < 2 ^ w) ∧ RetV (.bl true) H Q
theorem sv_are_words {K : PySem.W.Frag} {H : Hp} {w : Nat} {a b : Addr} {S ws : List Int} (h1 : w ≤ 64) (h2 : H a = some (.lst (iL S))) (h3 : H b = some (.lst (iL ws))) (h4 : ws.length = S.length) (h5 : ws.length ≤ 1000) (h6 : ∀ x, x ∈ ws → 0 ≤ x ∧ x < 2 ^ w) :
    SpV (sp_are_words K) [.int (w : Int), .ref a, .ref b] H (.bl true) := fun H1 e Q q _ => ⟨w, a, b, S, ws, rfl, h1, e a _ h2, e b _ h3, h4, h5, h6, q⟩
theorem sc_are_words : FnScope ["width", "places", "value", "item"] ["width", "places", "value"] (defScope sAreWords) := ⟨rfl, rfl, rfl, by decide +kernel, rfl, by decide +kernel, by decide +kernel⟩
theorem has_are_words {P : Program} {w : World} {K : PySem.W.Frag} {mg : Str → Option Value} {base : Heap} (T : Txt K mg) : Has P w K mg base "are_words" ["width", "places", "value"] 4 (sp_are_words K) := by
  refine Has.of T.gAreWords T.dAreWords (fun fd F => FunD.ok F sc_are_words (fun vs H Q E h => ?_) (fun cdv A outer s H vs Q E hr h => ?_)) fun _ _ _ _ _ _ us hl => match us, hl with | [_, _, _], _ => rfl
  · obtain ⟨w, a, b, S, ws, rfl, h1, h2, h3, h4, h5, h6, k⟩ := h
    rfl
  · have hr : Room 3 _ := hr
    have h_is_of_width := has_is_of_width (P := P) (w := w) (base := base) T
    obtain ⟨w, a, b, S, ws, rfl, h1, h2, h3, h4, h5, h6, k⟩ := h
    refine ⟨(tSeq (tIfS (tOr (tNot (tB (tCB (rIsi K) (tCons (tVar 2) (tCons (tC _) tNil))))) (tTest (tOp _ (tCB (Evl.rLenS K) (tCons (tVar 2) tNil)) (tCB (Evl.rLenS K) (tCons (tVar 1) tNil))))) (tRet (tC _)) tNext)
      (tRet (tOp (rEqD K) (tLc (iList K (tVar 2)) (gName 3) (tNot (tB (tCall _ [] E0 (tCons (tVar 0) (tCons (tVar 3) tNil))))) (tVar 3) [3]) (tLst tNil)))), PSs.nox (pss_cons (ps_if (PW.pt (pw_or (pt_not (pt_val (pe_callB call_isi (by rfl) T.z_isinstance (by decide +kernel) (pa_cons (pv 2) (pa_cons (pe_bltn (v := .ty "list") (by rfl) T.z_list (by decide +kernel) rfl) pa_nil))))) (pw_or1 (pt_cmpR op_ne (pe_callB call_len_seq (by rfl) T.z_len (by decide +kernel) (pa_cons (pv 2) pa_nil)) (pe_callB call_len_seq (by rfl) T.z_len (by decide +kernel) (pa_cons (pv 1) pa_nil)) (nomark _))))) (pss_one (ps_ret pe_bl)) pss_nil)
    (pss_one (ps_ret (pe_cmpR (op_eqD hr.units) (pe_lc (own := [("item", 3)]) (g := (gName 3)) (tt := (tNot (tB (tCall _ [] E0 (tCons (tVar 0) (tCons (tVar 3) tNil)))))) (te := (tVar 3)) (by rfl) sc_are_words.nd (pi_list (pv 2)) (blkOk_by (own := [("item", 3)]) (N := ["width", "places", "value", "item"]) (sc := defScope sAreWords) (by decide +kernel)) (fun _ _ _ _ _ => (pg_name (i := 3) sc_are_words.nd rfl (Or.inl rfl))) (fun _ _ _ _ _ => (pts_one (pt_not (pt_val (pe_has h_is_of_width (hr.mono (by decide)) (pa_cons (pv 0) (pa_cons (pv 3) pa_nil))))))) (fun _ _ _ _ _ => (pv 3))) (pe_lst pa_nil) (nomark _))))), ?_⟩
    refine q_when (b := false) (et_is (et_or (a := false) (b := false) (et_not (a := true) (et_B (ev_cb (ea_cons (ev_var rfl) (ea_cons ev_c ea_nil)) (isi_list h3)))) (fun _ => et_test (ev_is (ev_op (ev_lenI (ev_var rfl) h3) (ev_lenI (ev_var rfl) h2) (rv_ne rfl)) (by simp [h4])))) rfl) (fun h => by cases h) fun _ H1 e1 => ?_
    have h3 := e1 b _ h3
    refine s_ret (v := .bl true) (ev_eqNN (l := []) (el_is (el_lcL (fun _ => false) (fun _ => .non) (ev_var rfl) (.of h3) (by rw [iL_len]; omega) (fun _ => rfl) (fun i x H2 e2 hx => ?_) (fun i x H2 e2 hx hf => by cases hf)) (given_none _))) fun H2 e2 => k.go (e1.trans e2)
    obtain ⟨y, hy, rfl⟩ := iL_of hx
    have hm := h6 y (List.mem_of_getElem? hy)
    exact et_not (a := true) (et_B (ev_call (ea_cons (ev_var rfl) (ea_cons (ev_var rfl) ea_nil)) (sv_is_of_width h1 hm.1 hm.2)))

def sp_check_words (K : PySem.W.Frag) : Sp := fun vs H Q _ => ∃ (w : Nat) (a b : Addr) (S ws : List Int), vs = [.int (w : Int), .ref a, .ref b] ∧ w ≤ 64 ∧ H a = some (.lst (iL S)) ∧ H b = some (.lst (iL ws)) ∧ ws.length = S.length ∧ ws.length ≤ 1000 ∧ (∀ x, x ∈ ws → 0 ≤ x ∧ x < 2 ^ w) ∧ RetV .non H Q
theorem sv_check_words {K : PySem.W.Frag} {H : Hp} {w : Nat} {a b : Addr} {S ws : List Int} (h1 : w ≤ 64) (h2 : H a = some (.lst (iL S))) (h3 : H b = some (.lst (iL ws))) (h4 : ws.length = S.length) (h5 : ws.length ≤ 1000) (h6 : ∀ x, x ∈ ws → 0 ≤ x ∧ x < 2 ^ w) :
    SpV (sp_check_words K) [.int (w : Int), .ref a, .ref b] H .non := fun H1 e Q q _ => ⟨w, a, b, S, ws, rfl, h1, e a _ h2, e b _ h3, h4, h5, h6, q⟩
theorem sc_check_words : FnScope ["width", "places", "words"] ["width", "places", "words"] (defScope sCheckWords) := ⟨rfl, rfl, rfl, by decide +kernel, rfl, by decide +kernel, by decide +kernel⟩
theorem has_check_words {P : Program} {w : World} {K : PySem.W.Frag} {mg : Str → Option Value} {base : Heap} (T : Txt K mg) : Has P w K mg base "check_words" ["width", "places", "words"] 5 (sp_check_words K) := by
  refine Has.of T.gCheckWords T.dCheckWords (fun fd F => FunD.ok F sc_check_words (fun vs H Q E h => ?_) (fun cdv A outer s H vs Q E hr h => ?_)) fun _ _ _ _ _ _ us hl => match us, hl with | [_, _, _], _ => rfl
  · obtain ⟨w, a, b, S, ws, rfl, h1, h2, h3, h4, h5, h6, k⟩ := h
    rfl
  · have hr : Room 4 _ := hr
    have h_are_words := has_are_words (P := P) (w := w) (base := base) T
    obtain ⟨w, a, b, S, ws, rfl, h1, h2, h3, h4, h5, h6, k⟩ := h
    refine ⟨(tIfS (tNot (tB (tCall _ [] E0 (tCons (tVar 0) (tCons (tVar 1) (tCons (tVar 2) tNil)))))) tNever tNext), PSs.nox (pss_one (ps_if (pt_not (pt_val (pe_has h_are_words (hr.mono (by decide)) (pa_cons (pv 0) (pa_cons (pv 1) (pa_cons (pv 2) pa_nil)))))) pss_never pss_nil)), ?_⟩
    exact s_when (b := false) (et_not (a := true) (et_B (ev_call (ea_cons (ev_var rfl) (ea_cons (ev_var rfl) (ea_cons (ev_var rfl) ea_nil))) (sv_are_words h1 h2 h3 h4 h5 h6)))) (fun h => by cases h) fun _ H1 e => k H1 e

/-! ### known words -/
def sp_is_known_item (K : PySem.W.Frag) : Sp := fun vs H Q _ => ∃ (w : Nat) (a t : Addr) (S : List Int) (p x : Int), vs = [.int (w : Int), .ref a, .ref t] ∧ w ≤ 64 ∧ H a = some (.lst (iL S)) ∧ H t = some (.tup [.int p, .int x]) ∧ p ∈ S ∧ 0 ≤ x ∧ x < 2 ^ w ∧ RetV (.bl true) H Q
theorem sv_is_known_item {K : PySem.W.Frag} {H : Hp} {w : Nat} {a t : Addr} {S : List Int} {p x : Int} (h1 : w ≤ 64) (h2 : H a = some (.lst (iL S))) (h3 : H t = some (.tup [.int p, .int x])) (h4 : p ∈ S) (h5 : 0 ≤ x) (h6 : x < 2 ^ w) :
    SpV (sp_is_known_item K) [.int (w : Int), .ref a, .ref t] H (.bl true) := fun H1 e Q q _ => ⟨w, a, t, S, p, x, rfl, h1, e a _ h2, e t _ h3, h4, h5, h6, q⟩
theorem sc_is_known_item : FnScope ["width", "places", "value"] ["width", "places", "value"] (defScope sIsKnownItem) := ⟨rfl, rfl, rfl, by decide +kernel, rfl, by decide +kernel, by decide +kernel⟩
theorem has_is_known_item {P : Program} {w : World} {K : PySem.W.Frag} {mg : Str → Option Value} {base : Heap} (T : Txt K mg) : Has P w K mg base "is_known_item" ["width", "places", "value"] 4 (sp_is_known_item K) := by
  refine Has.of T.gIsKnownItem T.dIsKnownItem (fun fd F => FunD.ok F sc_is_known_item (fun vs H Q E h => ?_) (fun cdv A outer s H vs Q E hr h => ?_)) fun _ _ _ _ _ _ us hl => match us, hl with | [_, _, _], _ => rfl
  · obtain ⟨w, a, t, S, p, x, rfl, h1, h2, h3, h4, h5, h6, k⟩ := h
    rfl
  · have hr : Room 3 _ := hr
    have h_is_of_width := has_is_of_width (P := P) (w := w) (base := base) T
    have h_is_whole := has_is_whole (P := P) (w := w) (base := base) T
    obtain ⟨w, a, t, S, p, x, rfl, h1, h2, h3, h4, h5, h6, k⟩ := h
    refine ⟨(tSeq (tIfS (tOr (tNot (tB (tCB (rIsi K) (tCons (tVar 2) (tCons (tC _) tNil))))) (tOr (tTest (tOp _ (tCB (Evl.rLenS K) (tCons (tVar 2) tNil)) (tC _))) (tOr (tNot (tB (tCall _ [] E0 (tCons (tOp (rIxT K) (tVar 2) (tC _)) tNil)))) (tTest (tOp (rIn K true) (tOp (rIxT K) (tVar 2) (tC _)) (tVar 1)))))) (tRet (tC _)) tNext)
      (tRet (tCall _ [] E0 (tCons (tVar 0) (tCons (tOp (rIxT K) (tVar 2) (tC _)) tNil))))), PSs.nox (pss_cons (ps_if (PW.pt (pw_or (pt_not (pt_val (pe_callB call_isi (by rfl) T.z_isinstance (by decide +kernel) (pa_cons (pv 2) (pa_cons (pe_bltn (v := .ty "tuple") (by rfl) T.z_tuple (by decide +kernel) rfl) pa_nil))))) (pw_or (pt_cmpR op_ne (pe_callB call_len_seq (by rfl) T.z_len (by decide +kernel) (pa_cons (pv 2) pa_nil)) pe_int (nomark _)) (pw_or (pt_not (pt_val (pe_has h_is_whole (hr.mono (by decide)) (pa_cons (pe_ix ix_tup (pv 2) pe_int (fun _ _ => rfl)) pa_nil)))) (pw_or1 (pt_cmpR op_notIn_seq (pe_ix ix_tup (pv 2) pe_int (fun _ _ => rfl)) (pv 1) (by first | exact nomark _ | rfl))))))) (pss_one (ps_ret pe_bl)) pss_nil)
    (pss_one (ps_ret (pe_has h_is_of_width (hr.mono (by decide)) (pa_cons (pv 0) (pa_cons (pe_ix ix_tup (pv 2) pe_int (fun _ _ => rfl)) pa_nil)))))), ?_⟩
    have v0 : ∀ {H' : Hp}, Ex H H' → Ev (tOp (rIxT K) (tVar 2) (tC (.int 0))) (L2.start ["width", "places", "value"] [.int (w : Int), .ref a, .ref t]) H' (.int p) := fun e => ev_op (ev_var rfl) ev_c (rv_ixT (.of (e t _ h3)) (atI_nat (j := 0) rfl))
    refine q_when (b := false) (et_is (et_or (a := false) (b := false) (et_not (a := true) (et_B (ev_cb (ea_cons (ev_var rfl) (ea_cons ev_c ea_nil)) (isi_tup h3)))) (fun _ => et_or (a := false) (b := false) (et_test (ev_is (ev_op (ev_lenT (ev_var rfl) h3) ev_c (rv_ne rfl)) (by rfl)))
      (fun _ => et_or (a := false) (b := false) (et_not (a := true) (et_B (ev_call (ea_cons (v0 (Ex.refl H)) ea_nil) sv_is_whole))) (fun _ => et_test (ev_is (ev_niI (v0 (Ex.refl H)) (ev_var rfl) h2) (by simp [h4])))))) rfl) (fun h => by cases h) fun _ H1 e1 => ?_
    refine s_ret (v := .bl true) (ev_call (ea_cons (ev_var rfl) (ea_cons (ev_op (ev_var rfl) ev_c (rv_ixT (.of (e1 t _ h3)) (atI_nat (j := 1) rfl))) ea_nil)) (sv_is_of_width h1 h5 h6)) fun H2 e2 => k.go (e1.trans e2)

/-- known words at some places of a width -/
structure Kw (w : Nat) (S : List Int) (kv : List (Int × Int)) : Prop where
  mem : ∀ q, q ∈ kv → q.1 ∈ S ∧ 0 ≤ q.2 ∧ q.2 < 2 ^ w
  up : (keys kv).Pairwise (· < ·)
  len : kv.length ≤ 1000
theorem ev_call1L {σ : L2.St} {H : Hp} {te : TE} {sp : Sp} {E : XK} {xs : List V} {z : V} (h : EvL te σ H xs) (hs : ∀ p H1, Ex H H1 → H1 p = some (.lst xs) → SpV sp [.ref p] H1 z) : Ev (tCall sp [] E (tCons te tNil)) σ H z := fun H1 e Q q =>
  h H1 e _ fun p H2 hp e2 h2 => hs p H2 (e.trans e2) h2 H2 (Ex.refl H2) Q (fun H3 e3 => q H3 (e2.trans e3)) E
def sp_are_known (K : PySem.W.Frag) : Sp := fun vs H Q _ => ∃ (w : Nat) (a b : Addr) (S : List Int) (kv : List (Int × Int)), vs = [.int (w : Int), .ref a, .ref b] ∧ w ≤ 64 ∧ H a = some (.lst (iL S)) ∧ Kn H b kv ∧ Kw w S kv ∧ RetV (.bl true) H Q
theorem sv_are_known {K : PySem.W.Frag} {H : Hp} {w : Nat} {a b : Addr} {S : List Int} {kv : List (Int × Int)} (h1 : w ≤ 64) (h2 : H a = some (.lst (iL S))) (h3 : Kn H b kv) (h4 : Kw w S kv) :
    SpV (sp_are_known K) [.int (w : Int), .ref a, .ref b] H (.bl true) := fun H1 e Q q _ => ⟨w, a, b, S, kv, rfl, h1, e a _ h2, h3.mono e, h4, q⟩
theorem sc_are_known : FnScope ["width", "places", "value", "item", "place", "_"] ["width", "places", "value"] (defScope sAreKnown) := ⟨rfl, rfl, rfl, by decide +kernel, rfl, by decide +kernel, by decide +kernel⟩
theorem has_are_known {P : Program} {w : World} {K : PySem.W.Frag} {mg : Str → Option Value} {base : Heap} (T : Txt K mg) : Has P w K mg base "are_known" ["width", "places", "value"] 5 (sp_are_known K) := by
  refine Has.of T.gAreKnown T.dAreKnown (fun fd F => FunD.ok F sc_are_known (fun vs H Q E h => ?_) (fun cdv A outer s H vs Q E hr h => ?_)) fun _ _ _ _ _ _ us hl => match us, hl with | [_, _, _], _ => rfl
  · obtain ⟨w, a, b, S, kv, rfl, h1, h2, h3, h4, k⟩ := h
    rfl
  · have hr : Room 4 _ := hr
    have h_rises := has_rises (P := P) (w := w) (base := base) T
    have h_is_known_item := has_is_known_item (P := P) (w := w) (base := base) T
    obtain ⟨w, a, b, S, kv, rfl, h1, h2, h3, h4, k⟩ := h
    refine ⟨(tSeq (tIfS (tOr (tNot (tB (tCB (rIsi K) (tCons (tVar 2) (tCons (tC _) tNil))))) (tTest (tOp (rNeD K) (tLc (iList K (tVar 2)) (gName 3) (tNot (tB (tCall _ [] E0 (tCons (tVar 0) (tCons (tVar 1) (tCons (tVar 3) tNil)))))) (tVar 3) [3]) (tLst tNil)))) (tRet (tC _)) tNext)
      (tRet (tCall _ [] E0 (tCons (tLc (iList K (tVar 2)) (gTup K 2 (gCons (gName 4) (gCons (gName 5) gNil))) tYes (tVar 4) [4, 5]) tNil)))), PSs.nox (pss_cons (ps_if (PW.pt (pw_or (pt_not (pt_val (pe_callB call_isi (by rfl) T.z_isinstance (by decide +kernel) (pa_cons (pv 2) (pa_cons (pe_bltn (v := .ty "list") (by rfl) T.z_list (by decide +kernel) rfl) pa_nil))))) (pw_or1 (pt_cmpR (op_neD hr.units) (pe_lc (own := [("item", 3)]) (g := (gName 3)) (tt := (tNot (tB (tCall _ [] E0 (tCons (tVar 0) (tCons (tVar 1) (tCons (tVar 3) tNil))))))) (te := (tVar 3)) (by rfl) sc_are_known.nd (pi_list (pv 2)) (blkOk_by (own := [("item", 3)]) (N := ["width", "places", "value", "item", "place", "_"]) (sc := defScope sAreKnown) (by decide +kernel)) (fun _ _ _ _ _ => (pg_name (i := 3) sc_are_known.nd rfl (Or.inl rfl))) (fun _ _ _ _ _ => (pts_one (pt_not (pt_val (pe_has h_is_known_item (hr.mono (by decide)) (pa_cons (pv 0) (pa_cons (pv 1) (pa_cons (pv 3) pa_nil)))))))) (fun _ _ _ _ _ => (pv 3))) (pe_lst pa_nil) (nomark _))))) (pss_one (ps_ret pe_bl)) pss_nil)
    (pss_one (ps_ret (pe_has h_rises (hr.mono (by decide)) (pa_cons (pe_lc (own := [("place", 4), ("_", 5)]) (g := (gTup K 2 (gCons (gName 4) (gCons (gName 5) gNil)))) (tt := tYes) (te := (tVar 4)) (by rfl) sc_are_known.nd (pi_list (pv 2)) (blkOk_by (own := [("place", 4), ("_", 5)]) (N := ["width", "places", "value", "item", "place", "_"]) (sc := defScope sAreKnown) (by decide +kernel)) (fun _ _ _ _ _ => (pg_tup (by rfl) (pgs_cons (pg_name (i := 4) sc_are_known.nd rfl (Or.inl rfl)) (pgs_cons (pg_name (i := 5) sc_are_known.nd rfl (Or.inl rfl)) pgs_nil)))) (fun _ _ _ _ _ => pts_nil) (fun _ _ _ _ _ => (pv 4))) pa_nil))))), ?_⟩
    obtain ⟨ts, t1, t2, t3⟩ := id h3
    have hl4 := h4.len
    refine q_when (b := false) (et_is (et_or (a := false) (b := false) (et_not (a := true) (et_B (ev_cb (ea_cons (ev_var rfl) (ea_cons ev_c ea_nil)) (isi_list t1)))) (fun _ => et_test (ev_is (ev_neNN (l := []) (el_is (el_lcL (fun _ => false) (fun _ => .non) (ev_var rfl) (.of t1) (by rw [List.length_map, t2]; omega) (fun _ => rfl) (fun i x H2 e2 hx => ?_) (fun i x H2 e2 hx hf => by cases hf)) (given_none _))) rfl))) rfl) (fun h => by cases h) fun _ H1 e1 => ?_
    · rw [List.getElem?_map] at hx
      obtain ⟨tt, htt, rfl⟩ := Option.map_eq_some_iff.mp hx
      have hlt := (List.getElem?_eq_some_iff.mp htt).1
      have hq : kv[i]? = some (kv[i]'(by omega)) := List.getElem?_eq_getElem (by omega)
      have hm := h4.mem _ (List.mem_of_getElem? hq)
      exact et_not (a := true) (et_B (ev_call (ea_cons (ev_var rfl) (ea_cons (ev_var rfl) (ea_cons (ev_var rfl) ea_nil))) (sv_is_known_item h1 (e2 a _ h2) (e2 tt _ (t3 i tt _ htt hq)) hm.1 hm.2.1 hm.2.2)))
    · refine s_ret (v := .bl true) (ev_call1L (el_is (el_lcK (fun _ => true) (fun i => .int (kv.getD i (0, 0)).1) (ev_var rfl) (h3.mono e1) (by omega) (fun _ _ => rfl) (fun i q H2 e2 hq => et_yes) (fun i q H2 e2 hq _ => ?_)) (given_keys kv)) fun p H2 e2 hk => sv_rises hk h4.up (by unfold keys; rw [List.length_map]; exact hl4)) fun H2 e2 => k.go (e1.trans e2)
      rw [List.getD_eq_getElem?_getD, hq]; exact ev_var rfl

def sp_check_known (K : PySem.W.Frag) : Sp := fun vs H Q _ => ∃ (w : Nat) (a b : Addr) (S : List Int) (kv : List (Int × Int)), vs = [.int (w : Int), .ref a, .ref b] ∧ w ≤ 64 ∧ H a = some (.lst (iL S)) ∧ Kn H b kv ∧ Kw w S kv ∧ RetV .non H Q
theorem sv_check_known {K : PySem.W.Frag} {H : Hp} {w : Nat} {a b : Addr} {S : List Int} {kv : List (Int × Int)} (h1 : w ≤ 64) (h2 : H a = some (.lst (iL S))) (h3 : Kn H b kv) (h4 : Kw w S kv) :
    SpV (sp_check_known K) [.int (w : Int), .ref a, .ref b] H .non := fun H1 e Q q _ => ⟨w, a, b, S, kv, rfl, h1, e a _ h2, h3.mono e, h4, q⟩
theorem sc_check_known : FnScope ["width", "places", "known"] ["width", "places", "known"] (defScope sCheckKnown) := ⟨rfl, rfl, rfl, by decide +kernel, rfl, by decide +kernel, by decide +kernel⟩
theorem has_check_known {P : Program} {w : World} {K : PySem.W.Frag} {mg : Str → Option Value} {base : Heap} (T : Txt K mg) : Has P w K mg base "check_known" ["width", "places", "known"] 6 (sp_check_known K) := by
  refine Has.of T.gCheckKnown T.dCheckKnown (fun fd F => FunD.ok F sc_check_known (fun vs H Q E h => ?_) (fun cdv A outer s H vs Q E hr h => ?_)) fun _ _ _ _ _ _ us hl => match us, hl with | [_, _, _], _ => rfl
  · obtain ⟨w, a, b, S, kv, rfl, h1, h2, h3, h4, k⟩ := h
    rfl
  · have hr : Room 5 _ := hr
    have h_are_known := has_are_known (P := P) (w := w) (base := base) T
    obtain ⟨w, a, b, S, kv, rfl, h1, h2, h3, h4, k⟩ := h
    refine ⟨(tIfS (tNot (tB (tCall _ [] E0 (tCons (tVar 0) (tCons (tVar 1) (tCons (tVar 2) tNil)))))) tNever tNext), PSs.nox (pss_one (ps_if (pt_not (pt_val (pe_has h_are_known (hr.mono (by decide)) (pa_cons (pv 0) (pa_cons (pv 1) (pa_cons (pv 2) pa_nil)))))) pss_never pss_nil)), ?_⟩
    exact s_when (b := false) (et_not (a := true) (et_B (ev_call (ea_cons (ev_var rfl) (ea_cons (ev_var rfl) (ea_cons (ev_var rfl) ea_nil))) (sv_are_known h1 h2 h3 h4)))) (fun h => by cases h) fun _ H1 e => k H1 e

/-! ### parts -/
/-- an ascending list of some of the places -/
structure Part (S P : List Int) : Prop where
  mem : ∀ x, x ∈ P → x ∈ S
  up : P.Pairwise (· < ·)
  len : P.length ≤ 1000
def sp_check_part (K : PySem.W.Frag) : Sp := fun vs H Q _ => ∃ (a b : Addr) (S P : List Int), vs = [.ref a, .ref b] ∧ H a = some (.lst (iL S)) ∧ H b = some (.lst (iL P)) ∧ Part S P ∧ RetV .non H Q
theorem sv_check_part {K : PySem.W.Frag} {H : Hp} {a b : Addr} {S P : List Int} (h1 : H a = some (.lst (iL S))) (h2 : H b = some (.lst (iL P))) (h3 : Part S P) : SpV (sp_check_part K) [.ref a, .ref b] H .non := fun H1 e Q q _ => ⟨a, b, S, P, rfl, e a _ h1, e b _ h2, h3, q⟩
theorem sc_check_part : FnScope ["places", "part", "item"] ["places", "part"] (defScope sCheckPart) := ⟨rfl, rfl, rfl, by decide +kernel, rfl, by decide +kernel, by decide +kernel⟩
theorem has_check_part {P : Program} {w : World} {K : PySem.W.Frag} {mg : Str → Option Value} {base : Heap} (T : Txt K mg) : Has P w K mg base "check_part" ["places", "part"] 2 (sp_check_part K) := by
  refine Has.of T.gCheckPart T.dCheckPart (fun fd F => FunD.ok F sc_check_part (fun vs H Q E h => ?_) (fun cdv A outer s H vs Q E hr h => ?_)) fun _ _ _ _ _ _ us hl => match us, hl with | [_, _], _ => rfl
  · obtain ⟨a, b, S, P, rfl, h1, h2, h3, k⟩ := h
    rfl
  · have hr : Room 1 _ := hr
    have h_rises := has_rises (P := P) (w := w) (base := base) T
    have h_is_whole := has_is_whole (P := P) (w := w) (base := base) T
    obtain ⟨a, b, S, P, rfl, h1, h2, h3, k⟩ := h
    refine ⟨(tSeq (tIfS (tOr (tNot (tB (tCB (rIsi K) (tCons (tVar 1) (tCons (tC _) tNil))))) (tTest (tOp (rNeD K) (tLc (iList K (tVar 1)) (gName 2) (tOr (tNot (tB (tCall _ [] E0 (tCons (tVar 2) tNil)))) (tTest (tOp (rIn K true) (tVar 2) (tVar 0)))) (tVar 2) [2]) (tLst tNil)))) tNever tNext)
      (tIfS (tNot (tB (tCall _ [] E0 (tCons (tVar 1) tNil)))) tNever tNext)), PSs.nox (pss_cons (ps_if (PW.pt (pw_or (pt_not (pt_val (pe_callB call_isi (by rfl) T.z_isinstance (by decide +kernel) (pa_cons (pv 1) (pa_cons (pe_bltn (v := .ty "list") (by rfl) T.z_list (by decide +kernel) rfl) pa_nil))))) (pw_or1 (pt_cmpR (op_neD hr.units) (pe_lc (own := [("item", 2)]) (g := (gName 2)) (tt := (tOr (tNot (tB (tCall _ [] E0 (tCons (tVar 2) tNil)))) (tTest (tOp (rIn K true) (tVar 2) (tVar 0))))) (te := (tVar 2)) (by rfl) sc_check_part.nd (pi_list (pv 1)) (blkOk_by (own := [("item", 2)]) (N := ["places", "part", "item"]) (sc := defScope sCheckPart) (by decide +kernel)) (fun _ _ _ _ _ => (pg_name (i := 2) sc_check_part.nd rfl (Or.inl rfl))) (fun _ _ _ _ _ => (pts_one (PW.pt (pw_or (pt_not (pt_val (pe_has h_is_whole (hr.mono (by decide)) (pa_cons (pv 2) pa_nil)))) (pw_or1 (pt_cmpR op_notIn_seq (pv 2) (pv 0) (by first | exact nomark _ | rfl))))))) (fun _ _ _ _ _ => (pv 2))) (pe_lst pa_nil) (nomark _))))) pss_never pss_nil)
    (pss_one (ps_if (pt_not (pt_val (pe_has h_rises (hr.mono (by decide)) (pa_cons (pv 1) pa_nil)))) pss_never pss_nil))), ?_⟩
    have hl3 := h3.len
    refine q_when (b := false) (et_is (et_or (a := false) (b := false) (et_not (a := true) (et_B (ev_cb (ea_cons (ev_var rfl) (ea_cons ev_c ea_nil)) (isi_list h2)))) (fun _ => et_test (ev_is (ev_neNN (l := []) (el_is (el_lcL (fun _ => false) (fun _ => .non) (ev_var rfl) (.of h2) (by rw [iL_len]; omega) (fun _ => rfl) (fun i x H2 e2 hx => ?_) (fun i x H2 e2 hx hf => by cases hf)) (given_none _))) rfl))) rfl) (fun h => by cases h) fun _ H1 e1 => ?_
    · obtain ⟨y, hy, rfl⟩ := iL_of hx
      have hm := h3.mem y (List.mem_of_getElem? hy)
      exact et_is (et_or (a := false) (b := false) (et_not (a := true) (et_B (ev_call (ea_cons (ev_var rfl) ea_nil) sv_is_whole))) (fun _ => et_test (ev_is (ev_niI (ev_var rfl) (ev_var rfl) (e2 a _ h1)) (by simp [hm])))) rfl
    · exact s_when (b := false) (et_not (a := true) (et_B (ev_call (ea_cons (ev_var rfl) ea_nil) (sv_rises (e1 b _ h2) h3.up hl3)))) (fun h => by cases h) fun _ H2 e2 => k H2 (e1.trans e2)

def sp_check_place (K : PySem.W.Frag) : Sp := fun vs H Q _ => ∃ (a : Addr) (S : List Int) (p : Int), vs = [.ref a, .int p] ∧ H a = some (.lst (iL S)) ∧ p ∈ S ∧ RetV .non H Q
theorem sv_check_place {K : PySem.W.Frag} {H : Hp} {a : Addr} {S : List Int} {p : Int} (h1 : H a = some (.lst (iL S))) (h2 : p ∈ S) : SpV (sp_check_place K) [.ref a, .int p] H .non := fun H1 e Q q _ => ⟨a, S, p, rfl, e a _ h1, h2, q⟩
theorem sc_check_place : FnScope ["places", "place"] ["places", "place"] (defScope sCheckPlace) := ⟨rfl, rfl, rfl, by decide +kernel, rfl, by decide +kernel, by decide +kernel⟩
theorem has_check_place {P : Program} {w : World} {K : PySem.W.Frag} {mg : Str → Option Value} {base : Heap} (T : Txt K mg) : Has P w K mg base "check_place" ["places", "place"] 2 (sp_check_place K) := by
  refine Has.of T.gCheckPlace T.dCheckPlace (fun fd F => FunD.ok F sc_check_place (fun vs H Q E h => ?_) (fun cdv A outer s H vs Q E hr h => ?_)) fun _ _ _ _ _ _ us hl => match us, hl with | [_, _], _ => rfl
  · obtain ⟨a, S, p, rfl, h1, h2, k⟩ := h
    rfl
  · have hr : Room 1 _ := hr
    have h_is_whole := has_is_whole (P := P) (w := w) (base := base) T
    obtain ⟨a, S, p, rfl, h1, h2, k⟩ := h
    refine ⟨(tIfS (tOr (tNot (tB (tCall _ [] E0 (tCons (tVar 1) tNil)))) (tTest (tOp (rIn K true) (tVar 1) (tVar 0)))) tNever tNext), PSs.nox (pss_one (ps_if (PW.pt (pw_or (pt_not (pt_val (pe_has h_is_whole (hr.mono (by decide)) (pa_cons (pv 1) pa_nil)))) (pw_or1 (pt_cmpR op_notIn_seq (pv 1) (pv 0) (by first | exact nomark _ | rfl))))) pss_never pss_nil)), ?_⟩
    exact s_when (b := false) (et_is (et_or (a := false) (b := false) (et_not (a := true) (et_B (ev_call (ea_cons (ev_var rfl) ea_nil) sv_is_whole))) (fun _ => et_test (ev_is (ev_niI (ev_var rfl) (ev_var rfl) h1) (by simp [h2])))) rfl) (fun h => by cases h) fun _ H1 e => k H1 e

end Ap


namespace Ap
open PySem PySem.Spec PyProof.Rows L2 Evl
/-! ### answers that are told by a word -/
def EvR (te : TE) (σ : L2.St) (H : Hp) (P : V → Prop) : Prop := ∀ H1, Ex H H1 → ∀ Q : VK, (∀ v H2, Ex H1 H2 → P v → Q v H2) → te σ H1 Q
def SpR (sp : Sp) (vs : List V) (H : Hp) (P : V → Prop) : Prop := ∀ H1, Ex H H1 → ∀ Q : VK, (∀ v H2, Ex H1 H2 → P v → Q v H2) → ∀ E : XK, sp vs H1 Q E
def RetR (P : V → Prop) (H : Hp) (Q : VK) : Prop := ∀ v H2, Ex H H2 → P v → Q v H2
theorem RetR.go {P : V → Prop} {H H' : Hp} {Q : VK} (k : RetR P H Q) (e : Ex H H') {v : V} (h : P v) : Q v H' := k v H' e h
section
variable {K : PySem.W.Frag} {σ : L2.St} {H H' : Hp} {ta tb te tx tc : TE} {t u : TT} {x y z v : V} {D : Ends} {tu tw tz : TS} {g : TG}
theorem er_call {sp : Sp} {E : XK} {ta : TA} {vs : List V} {P : V → Prop} (h : EvA ta σ H vs) (hs : SpR sp vs H P) : EvR (tCall sp [] E ta) σ H P := fun H1 e Q q =>
  h H1 e _ fun H2 e2 => by
    show sp (vs ++ []) H2 Q E
    rw [List.append_nil]
    exact hs H2 (e.trans e2) Q (fun v H3 e3 p => q v H3 (e2.trans e3) p) E
theorem er_ev {P : V → Prop} (h : Ev te σ H v) (p : P v) : EvR te σ H P := fun H1 e Q q => h H1 e Q fun H2 e2 => q v H2 e2 p
/-- an operation whose first operand is told by a word, whose second by one -/
theorem er_op {r : R2} {P P2 P3 : V → Prop} (ha : EvR ta σ H P) (hb : EvR tb σ H P2) (hr : ∀ x y, P x → P2 y → ∃ z, RV r x y H z ∧ P3 z) : EvR (tOp r ta tb) σ H P3 := fun H1 e Q q =>
  ha H1 e _ fun x H2 e2 px => hb H2 (e.trans e2) _ fun y H3 e3 py => by
    obtain ⟨z, h1, h2⟩ := hr x y px py
    exact h1 H3 ((e.trans e2).trans e3) Q fun H4 e4 => q z H4 ((e2.trans e3).trans e4) h2
theorem q_asgR {i : Nat} {P : V → Prop} (h : EvR te σ H P) (k : ∀ v H1, P v → Ex H H1 → tz D (σ.set i (some v)) H1) : tSeq (tAsg te (gName i)) tz D σ H := h H (Ex.refl H) _ fun v H1 e p => k v H1 p e
theorem s_retR {P : V → Prop} (h : EvR te σ H P) (k : ∀ v H1, P v → Ex H H1 → D.rt v H1) : tRet te D σ H := h H (Ex.refl H) _ fun v H1 e p => k v H1 p e
theorem q_par {i j : Nat} {ta : TA} {v v2 : V} (h : EvA ta σ H [v, v2]) (k : ∀ H1, Ex H H1 → tz D ((σ.set i (some v)).set j (some v2)) H1) : tSeq (tPar i j ta) tz D σ H := h H (Ex.refl H) _ fun H1 e => ⟨v, v2, rfl, k H1 e⟩
theorem s_par {i j : Nat} {ta : TA} {v v2 : V} (h : EvA ta σ H [v, v2]) (k : ∀ H1, Ex H H1 → D.nx ((σ.set i (some v)).set j (some v2)) H1) : tPar i j ta D σ H := h H (Ex.refl H) _ fun H1 e => ⟨v, v2, rfl, k H1 e⟩
theorem q_par3 {i j l : Nat} {ta : TA} {v v2 v3 : V} (h : EvA ta σ H [v, v2, v3]) (k : ∀ H1, Ex H H1 → tz D (((σ.set i (some v)).set j (some v2)).set l (some v3)) H1) : tSeq (tPar3 i j l ta) tz D σ H := h H (Ex.refl H) _ fun H1 e => ⟨v, v2, v3, rfl, k H1 e⟩
/-! ### good_row as its callers take it -/
theorem gr_run {te : TE} {E : XK} {S : List Int} {Q : VK} {a : Addr} {H1 : Hp} (h1 : H1 a = some (.lst (iL S))) (h2 : S.Nodup) (h3 : S.length ≤ 1000) (k : RetRow (goodRow S).1 (goodRow S).2 H1 Q) : sp_good_row K [.ref a] H1 Q E := ⟨a, S, rfl, h1, h2, h3, k⟩
theorem q_gr {i j : Nat} {E : XK} {S : List Int} {a : Addr} {ta : TA} (h : EvA ta σ H [.ref a]) (h1 : H a = some (.lst (iL S))) (h2 : S.Nodup) (h3 : S.length ≤ 1000)
    (k : ∀ q r H1, H q = none → H r = none → q ≠ r → Ex H H1 → H1 q = some (.lst (iL (goodRow S).1)) → H1 r = some (.lst (nL (goodRow S).2)) → tz D ((σ.set i (some (.ref q))).set j (some (.ref r))) H1) :
    tSeq (tAsg (tCall (sp_good_row K) [] E ta) (gTup K 2 (gCons (gName i) (gCons (gName j) gNil)))) tz D σ H := h H (Ex.refl H) _ fun H1 e1 =>
  ⟨a, S, rfl, e1 a _ h1, h2, h3, fun p q r H2 hp hq hr hqr e2 k1 k2 k3 => ⟨p, _, rfl, .of k1, rfl, _, _, rfl, _, _, rfl, rfl, k q r H2 (fresh_back e1 hq) (fresh_back e1 hr) hqr (e1.trans e2) k2 k3⟩⟩
theorem q_grL {i j : Nat} {E : XK} {S : List Int} (h : EvL te σ H (iL S)) (h2 : S.Nodup) (h3 : S.length ≤ 1000)
    (k : ∀ q r H1, H q = none → H r = none → q ≠ r → Ex H H1 → H1 q = some (.lst (iL (goodRow S).1)) → H1 r = some (.lst (nL (goodRow S).2)) → tz D ((σ.set i (some (.ref q))).set j (some (.ref r))) H1) :
    tSeq (tAsg (tCall (sp_good_row K) [] E (tCons te tNil)) (gTup K 2 (gCons (gName i) (gCons (gName j) gNil)))) tz D σ H := h H (Ex.refl H) _ fun a H1 _ e1 h1 =>
  ⟨a, S, rfl, h1, h2, h3, fun p q r H2 hp hq hr hqr e2 k1 k2 k3 => ⟨p, _, rfl, .of k1, rfl, _, _, rfl, _, _, rfl, rfl, k q r H2 (fresh_back e1 hq) (fresh_back e1 hr) hqr (e1.trans e2) k2 k3⟩⟩
/-- good_row(places)[1], a list of its own -/
theorem el_gr1 {E : XK} {S : List Int} {a : Addr} {ta : TA} (h : EvA ta σ H [.ref a]) (h1 : H a = some (.lst (iL S))) (h2 : S.Nodup) (h3 : S.length ≤ 1000) : EvL (tOp (rIxT K) (tCall (sp_good_row K) [] E ta) (tC (.int 1))) σ H (nL (goodRow S).2) := fun H0 e0 Q q => h H0 e0 _ fun H1 e1 =>
  ⟨a, S, rfl, e1 a _ (e0 a _ h1), h2, h3, fun p l r H2 hp hl hr hlr e2 k1 k2 k3 => ⟨p, _, 1, .ref r, rfl, rfl, .of k1, atI_nat (j := 1) rfl, q r H2 (fresh_back e1 hr) (e1.trans e2) k3⟩⟩
/-! ### slices, sums, least ones -/
theorem cut_take (xs : List V) (m : Nat) : cutV xs none (some (m : Int)) = xs.take m := by
  unfold cutV
  rw [HT.sIx_none, HT.sIx_nat, List.drop_zero, Nat.sub_zero]
  rcases Nat.le_total m xs.length with h | h
  · rw [Nat.min_eq_left h]
  · rw [Nat.min_eq_right h, List.take_length, List.take_of_length_le h]
theorem nL_take (l : List Nat) (m : Nat) : (nL l).take m = nL (l.take m) := by unfold nL; rw [List.map_take]
theorem iL_take (l : List Int) (m : Nat) : (iL l).take m = iL (l.take m) := by unfold iL; rw [List.map_take]
/-- a slice of a new list -/
theorem el_slN {tl th : TO} {xs : List V} {lo hi : Option Int} (h : EvL te σ H xs) (h1 : EvO tl σ H lo) (h2 : EvO th σ H hi) : EvL (tSl (rSlL K) te tl th) σ H (cutV xs lo hi) := fun H1 e Q q =>
  h H1 e _ fun a H2 _ e2 ha => h1 H2 (e.trans e2) _ fun H3 e3 => h2 H3 ((e.trans e2).trans e3) _ fun H4 e4 =>
    ⟨a, xs, rfl, .of (e4 a _ (e3 a _ ha)), fun p hp => q p _ (fresh_back ((e2.trans e3).trans e4) hp) (((e2.trans e3).trans e4).trans (Ex.new hp)) upd_same⟩
theorem ev_sumL {l : List Int} (h : EvL te σ H (iL l)) : Ev (tCB (rSum K) (tCons te tNil)) σ H (.int l.sum) := fun H1 e Q q => h H1 e _ fun a H2 _ e2 ha => ⟨a, l, rfl, .of ha, q H2 e2⟩
theorem ev_maxS {w n : Nat} (ha : Ev ta σ H (.int 0)) (hb : Ev tb σ H (.int ((w : Int) - (n : Int)))) : Ev (tCB (fun xs H Q => ∃ i j, xs = [V.int i, V.int j] ∧ Q (.int (if j > i then j else i)) H) (tCons ta (tCons tb tNil))) σ H (.int ((w - n : Nat) : Int)) :=
  ev_is (ev_max2 ha hb) (by congr 1; split <;> omega)
theorem ev_min2 {i j : Int} (ha : Ev ta σ H (.int i)) (hb : Ev tb σ H (.int j)) : Ev (tCB (fun xs H Q => ∃ i j, xs = [V.int i, V.int j] ∧ Q (.int (if j < i then j else i)) H) (tCons ta (tCons tb tNil))) σ H (.int (if j < i then j else i)) := fun H1 e Q q =>
  ha H1 e _ fun H2 e2 => hb H2 (e.trans e2) _ fun H3 e3 => ⟨i, j, rfl, q H3 (e2.trans e3)⟩
theorem ev_minS {w n : Nat} (ha : Ev ta σ H (.int (w : Int))) (hb : Ev tb σ H (.int (n : Int))) : Ev (tCB (fun xs H Q => ∃ i j, xs = [V.int i, V.int j] ∧ Q (.int (if j < i then j else i)) H) (tCons ta (tCons tb tNil))) σ H (.int ((min w n : Nat) : Int)) :=
  ev_is (ev_min2 ha hb) (by congr 1; split <;> omega)
/-! ### loops over two lists that change no object -/
theorem q_forZS {p q : Addr} {xs ys : List V} {j1 j2 : Nat} {ta : TA} (h : EvA ta σ H [.ref p, .ref q]) (hp : H p = some (.lst xs)) (hq : H q = some (.lst ys)) (hl : xs.length = ys.length) (Pw : Nat → L2.St → Prop) (h0 : Pw 0 σ)
    (hs : ∀ (i : Nat) (x y : V) σ' H', xs[i]? = some x → ys[i]? = some y → Pw i σ' → Ex H H' → tu { nx := fun σ2 H2 => Ex H H2 ∧ Pw (i + 1) σ2, rt := D.rt, bk := tz D, ct := fun σ2 H2 => Ex H H2 ∧ Pw (i + 1) σ2 } ((σ'.set j1 (some x)).set j2 (some y)) H')
    (hd : ∀ σ' H', Pw xs.length σ' → Ex H H' → tz D σ' H') : tSeq (tFor (Zst.iZs K true ta) (gTup K 2 (gCons (gName j1) (gCons (gName j2) gNil))) tu) tz D σ H := h H (Ex.refl H) _ fun H1 e1 =>
  ⟨p, q, xs, ys, rfl, .of (e1 p _ hp), .of (e1 q _ hq), for_it (Zst.walk_s (K := K) (a := p) (b := q) hl) (fun i σ' H' => Ex H H' ∧ Pw i σ') ⟨e1, h0⟩ (fun i σ' H' _ c => ⟨.of (c.1 p _ hp), .of (c.1 q _ hq)⟩) (fun i v σ' H2 H3 hi c y => by
    obtain ⟨T, a, b, rfl, hT, rfl, ha, hb⟩ := y
    exact ⟨T, [a, b], rfl, .of upd_same, rfl, a, [b], rfl, b, [], rfl, rfl, hs i a b σ' _ ha hb c.2 (c.1.trans (Ex.new hT))⟩) (fun σ' H' c => hd σ' H' c.2 c.1)⟩
/-- both lists are new -/
theorem q_forZLL {xs ys : List V} {j1 j2 : Nat} (h1 : EvL ta σ H xs) (h2 : EvL tb σ H ys) (hl : xs.length = ys.length) (Pw : Nat → L2.St → Prop) (h0 : Pw 0 σ)
    (hs : ∀ (i : Nat) (x y : V) σ' H' H0, xs[i]? = some x → ys[i]? = some y → Pw i σ' → Ex H H' → Ex H0 H' → tu { nx := fun σ2 H2 => Ex H0 H2 ∧ Pw (i + 1) σ2, rt := D.rt, bk := tz D, ct := fun σ2 H2 => Ex H0 H2 ∧ Pw (i + 1) σ2 } ((σ'.set j1 (some x)).set j2 (some y)) H')
    (hd : ∀ σ' H', Pw xs.length σ' → Ex H H' → tz D σ' H') : tSeq (tFor (Zst.iZs K true (tCons ta (tCons tb tNil))) (gTup K 2 (gCons (gName j1) (gCons (gName j2) gNil))) tu) tz D σ H := h1 H (Ex.refl H) _ fun p H1 hp e1 kp => h2 H1 e1 _ fun q H2 hq e2 kq =>
  ⟨p, q, xs, ys, rfl, .of (e2 p _ kp), .of kq, for_it (Zst.walk_s (K := K) (a := p) (b := q) hl) (fun i σ' H' => Ex H2 H' ∧ Pw i σ') ⟨Ex.refl _, h0⟩ (fun i σ' H' _ c => ⟨.of (c.1 p _ (e2 p _ kp)), .of (c.1 q _ kq)⟩) (fun i v σ' H3 H4 hi c y => by
    obtain ⟨T, a, b, rfl, hT, rfl, ha, hb⟩ := y
    exact ⟨T, [a, b], rfl, .of upd_same, rfl, a, [b], rfl, b, [], rfl, rfl, hs i a b σ' _ H2 ha hb c.2 (((e1.trans e2).trans c.1).trans (Ex.new hT)) (c.1.trans (Ex.new hT))⟩) (fun σ' H' c => hd σ' H' c.2 ((e1.trans e2).trans c.1))⟩
/-- zip(xs, ys, strict=False) -/
theorem q_forZF {p q : Addr} {xs ys : List V} {j1 j2 : Nat} {ta : TA} (h : EvA ta σ H [.ref p, .ref q]) (hp : H p = some (.lst xs)) (hq : H q = some (.lst ys)) (hl : xs.length ≤ ys.length) (Pw : Nat → L2.St → Prop) (h0 : Pw 0 σ)
    (hs : ∀ (i : Nat) (x y : V) σ' H', xs[i]? = some x → ys[i]? = some y → Pw i σ' → Ex H H' → tu { nx := fun σ2 H2 => Ex H H2 ∧ Pw (i + 1) σ2, rt := D.rt, bk := tz D, ct := fun σ2 H2 => Ex H H2 ∧ Pw (i + 1) σ2 } ((σ'.set j1 (some x)).set j2 (some y)) H')
    (hd : ∀ σ' H', Pw xs.length σ' → Ex H H' → tz D σ' H') : tSeq (tFor (Zst.iZs K false ta) (gTup K 2 (gCons (gName j1) (gCons (gName j2) gNil))) tu) tz D σ H := h H (Ex.refl H) _ fun H1 e1 =>
  ⟨p, q, xs, ys, rfl, .of (e1 p _ hp), .of (e1 q _ hq), for_it (walk_zip (K := K) (a := p) (b := q) (n := xs.length) (by omega)) (fun i σ' H' => Ex H H' ∧ Pw i σ') ⟨e1, h0⟩ (fun i σ' H' _ c => ⟨.of (c.1 p _ hp), .of (c.1 q _ hq)⟩) (fun i v σ' H2 H3 hi c y => by
    obtain ⟨T, a, b, rfl, hT, rfl, ha, hb⟩ := y
    exact ⟨T, [a, b], rfl, .of upd_same, rfl, a, [b], rfl, b, [], rfl, rfl, hs i a b σ' _ ha hb c.2 (c.1.trans (Ex.new hT))⟩) (fun σ' H' c => hd σ' H' c.2 c.1)⟩
end
theorem sum_cast : ∀ l : List Nat, (l.map fun (n : Nat) => (n : Int)).sum = ((l.sum : Nat) : Int)
  | [] => rfl
  | a :: l => by
    rw [List.map_cons, List.sum_cons, List.sum_cons, sum_cast l]
    omega
/-! ### the number A -/
def sp_amount (K : PySem.W.Frag) : Sp := fun vs H Q _ => ∃ (w : Nat) (a : Addr) (S : List Int) (m : Nat), vs = [.int (w : Int), .ref a, .int (m : Int)] ∧ H a = some (.lst (iL S)) ∧ S.Nodup ∧ S.length ≤ 1000 ∧ RetV (.int (Amt w m S : Nat)) H Q
theorem sv_amount {K : PySem.W.Frag} {H : Hp} {w m : Nat} {a : Addr} {S : List Int} (h1 : H a = some (.lst (iL S))) (h2 : S.Nodup) (h3 : S.length ≤ 1000) : SpV (sp_amount K) [.int (w : Int), .ref a, .int (m : Int)] H (.int (Amt w m S : Nat)) := fun H1 e Q q _ => ⟨w, a, S, m, rfl, e a _ h1, h2, h3, q⟩
theorem sc_amount : FnScope ["width", "places", "count", "number"] ["width", "places", "count"] (defScope sAmount) := ⟨rfl, rfl, rfl, by decide +kernel, rfl, by decide +kernel, by decide +kernel⟩
theorem has_amount {P : Program} {w : World} {K : PySem.W.Frag} {mg : Str → Option Value} {base : Heap} (T : Txt K mg) : Has P w K mg base "amount" ["width", "places", "count"] 3 (sp_amount K) := by
  refine Has.of T.gAmount T.dAmount (fun fd F => FunD.ok F sc_amount (fun vs H Q E h => ?_) (fun cdv A outer s H vs Q E hr h => ?_)) fun _ _ _ _ _ _ us hl => match us, hl with | [_, _, _], _ => rfl
  · obtain ⟨w, a, S, m, rfl, h1, h2, h3, k⟩ := h
    rfl
  · have hr : Room 2 _ := hr
    have h_good_row := has_good_row (P := P) (w := w) (base := base) T
    obtain ⟨w, a, S, m, rfl, h1, h2, h3, k⟩ := h
    refine ⟨(tRet (tCB (rSum K) (tCons (tLc (iList K (tSl (rSlL K) (tOp (rIxT K) (tCall _ [] E0 (tCons (tVar 1) tNil)) (tC _)) tNoPart (tPart (tVar 2)))) (gName 3) tYes (tCB _ (tCons (tC _) (tCons (tOp _ (tVar 0) (tVar 3)) tNil))) [3]) tNil))), PSs.nox (pss_one (ps_ret (pe_callB (cr_sum (by rfl)) (by rfl) T.z_sum (by decide +kernel) (pa_cons (pe_lc (own := [("number", 3)]) (g := (gName 3)) (tt := tYes) (te := (tCB _ (tCons (tC _) (tCons (tOp _ (tVar 0) (tVar 3)) tNil)))) (by rfl) sc_amount.nd (pi_list (pe_slice sl_list (pe_ix ix_tup (pe_has h_good_row (hr.mono (by decide)) (pa_cons (pv 1) pa_nil)) pe_int (fun _ _ => rfl)) po_none (po_some (pv 2)))) (blkOk_by (own := [("number", 3)]) (N := ["width", "places", "count", "number"]) (sc := defScope sAmount) (by decide +kernel)) (fun _ _ _ _ _ => (pg_name (i := 3) sc_amount.nd rfl (Or.inl rfl))) (fun _ _ _ _ _ => pts_nil) (fun _ _ _ _ _ => (pe_callB (call_max2 (by rfl)) (by rfl) T.z_max (by decide +kernel) (pa_cons pe_int (pa_cons (pe_op op_sub (pv 0) (pv 3)) pa_nil))))) pa_nil)))), ?_⟩
    have hlen := (goodRow_len h2).2
    refine s_ret (v := .int (Amt w m S : Nat)) (ev_is (ev_sumL (l := (((goodRow S).2.take m).map fun o => w - o).map fun (n : Nat) => (n : Int)) (el_is (el_lcNL (xs := nL ((goodRow S).2.take m)) (fun _ => true) (fun i => .int ((((goodRow S).2.take m).map fun o => w - o).getD i 0 : Nat))
      (el_is (el_slN (el_gr1 (ea_cons (ev_var rfl) ea_nil) h1 h2 h3) eo_none (eo_some (ev_var rfl))) (by rw [cut_take, nL_take])) (by rw [nL_len, List.length_take]; omega) (fun _ => rfl) (fun i x H1 e hx => et_yes) (fun i x H1 e hx _ => ?_)) ?_)) (by rw [sum_cast]; rfl)) k
    · obtain ⟨o, ho, rfl⟩ := nL_of hx
      refine ev_is (ev_maxS (n := o) ev_c (ev_op (ev_var rfl) (ev_var rfl) rv_I0)) ?_
      rw [List.getD_eq_getElem?_getD, List.getElem?_map, ho]
      rfl
    · have e1 : (nL ((goodRow S).2.take m)).length = (((goodRow S).2.take m).map fun o => w - o).length := by rw [nL_len, List.length_map]
      rw [e1, ← nL_iL]
      exact given_nL _

/-! ### the told bits -/
def sp_bits_at (K : PySem.W.Frag) : Sp := fun vs H Q _ => ∃ (w : Nat) (a b : Addr) (os : List Int) (ns : List Nat) (m : Nat) (p : Int), vs = [.int (w : Int), .ref a, .ref b, .int (m : Int), .int p] ∧ H a = some (.lst (iL os)) ∧ H b = some (.lst (nL ns)) ∧ os.length = ns.length ∧ os.length ≤ 1000 ∧ RetV (.int (bitsAt w m os ns p : Nat)) H Q
theorem sv_bits_at {K : PySem.W.Frag} {H : Hp} {w m : Nat} {a b : Addr} {os : List Int} {ns : List Nat} {p : Int} (h1 : H a = some (.lst (iL os))) (h2 : H b = some (.lst (nL ns))) (h3 : os.length = ns.length) (h4 : os.length ≤ 1000) :
    SpV (sp_bits_at K) [.int (w : Int), .ref a, .ref b, .int (m : Int), .int p] H (.int (bitsAt w m os ns p : Nat)) := fun H1 e Q q _ => ⟨w, a, b, os, ns, m, p, rfl, e a _ h1, e b _ h2, h3, h4, q⟩
/-- a turn of bits_at, in the order of the loop -/
theorem bits_turn (w : Nat) (p : Int) : ∀ (os : List Int) (ns : List Nat) (m c f : Nat), os.length = ns.length → ∃ (fs cs : Nat → Nat), fs 0 = f ∧ cs 0 = c ∧
    (∀ (i : Nat) (a : Int) (o : Nat), i < m → os[i]? = some a → ns[i]? = some o → fs (i + 1) = min (fs i) ((w - o) + cs i) ∧ cs (i + 1) = cs i + twos (p - a)) ∧
    bitsGo w p m os ns c f = if os.length < m then min (fs (min m os.length)) (cs (min m os.length)) else fs (min m os.length)
  | os, ns, 0, c, f, hl => ⟨fun _ => f, fun _ => c, rfl, rfl, fun i a o hi => by omega, by cases os <;> simp [bitsGo]⟩
  | [], [], m + 1, c, f, _ => ⟨fun _ => f, fun _ => c, rfl, rfl, fun i a o _ h => by simp at h, by simp [bitsGo]⟩
  | [], _ :: _, m + 1, c, f, hl => by simp at hl
  | _ :: _, [], m + 1, c, f, hl => by simp at hl
  | a :: os, o :: ns, m + 1, c, f, hl => by
    obtain ⟨fs, cs, h1, h2, h3, h4⟩ := bits_turn w p os ns m (c + twos (p - a)) (min f ((w - o) + c)) (by simpa using hl)
    refine ⟨fun i => match i with | 0 => f | i + 1 => fs i, fun i => match i with | 0 => c | i + 1 => cs i, rfl, rfl, fun i b q hi hb hq => ?_, ?_⟩
    · cases i with
      | zero =>
        have e1 : a = b := by simpa using hb
        have e2 : o = q := by simpa using hq
        subst e1 e2
        exact ⟨h1, h2⟩
      | succ i => exact h3 i b q (by omega) (by simpa using hb) (by simpa using hq)
    · simp only [bitsGo, List.length_cons]
      rw [h4, show min (m + 1) (os.length + 1) = min m os.length + 1 by omega]
      by_cases hlt : os.length < m
      · rw [if_pos hlt, if_pos (by omega)]
      · rw [if_neg hlt, if_neg (by omega)]
theorem sc_bits_at : FnScope ["width", "order", "numbers", "count", "place", "found", "cost", "taken", "number"] ["width", "order", "numbers", "count", "place"] (defScope sBitsAt) := ⟨rfl, rfl, rfl, by decide +kernel, rfl, by decide +kernel, by decide +kernel⟩
theorem has_bits_at {P : Program} {w : World} {K : PySem.W.Frag} {mg : Str → Option Value} {base : Heap} (T : Txt K mg) : Has P w K mg base "bits_at" ["width", "order", "numbers", "count", "place"] 2 (sp_bits_at K) := by
  refine Has.of T.gBitsAt T.dBitsAt (fun fd F => FunD.ok F sc_bits_at (fun vs H Q E h => ?_) (fun cdv A outer s H vs Q E hr h => ?_)) fun _ _ _ _ _ _ us hl => match us, hl with | [_, _, _, _, _], _ => rfl
  · obtain ⟨w, a, b, os, ns, m, p, rfl, h1, h2, h3, h4, k⟩ := h
    rfl
  · have hr : Room 1 _ := hr
    have h_twos := has_twos (P := P) (w := w) (base := base) T
    obtain ⟨w, a, b, os, ns, m, p, rfl, h1, h2, h3, h4, k⟩ := h
    refine ⟨(tSeq (tIfS (tTest (tOp (rIn K false) (tVar 4) (tVar 1))) (tRet (tVar 0)) tNext)
      (tSeq (tPar 5 6 (tCons (tVar 0) (tCons (tC _) tNil)))
      (tSeq (tFor (Zst.iZs K true (tCons (tSl (rSlL K) (tVar 1) tNoPart (tPart (tVar 3))) (tCons (tSl (rSlL K) (tVar 2) tNoPart (tPart (tVar 3))) tNil))) (gTup K 2 (gCons (gName 7) (gCons (gName 8) gNil))) (tSeq (tAsg (tCB _ (tCons (tVar 5) (tCons (tOp _ (tCB _ (tCons (tC _) (tCons (tOp _ (tVar 0) (tVar 8)) tNil))) (tVar 6)) tNil))) (gName 5))
      (tAug 6 (tCall _ [] E0 (tCons (tOp _ (tVar 4) (tVar 7)) tNil)) _)))
      (tRet (tIf (tTest (tOp _ (tCB (Evl.rLenS K) (tCons (tVar 1) tNil)) (tVar 3))) (tCB _ (tCons (tVar 5) (tCons (tVar 6) tNil))) (tVar 5)))))), PSs.nox (pss_cons (ps_if (pt_cmpR op_in_seq (pv 4) (pv 1) (by first | exact nomark _ | rfl)) (pss_one (ps_ret (pv 0))) pss_nil)
    (pss_cons (ps_par (i := 5) (j := 6) (by rfl) sc_bits_at.nd rfl rfl (by decide) rfl rfl (pa_cons (pv 0) (pa_cons pe_int pa_nil)) (by rfl))
    (pss_cons (ps_for PassesOwn.never (by rfl) (Zst.pi_zs (by rfl) T.z_zip (pa_cons (pe_slice sl_list (pv 1) po_none (po_some (pv 3))) (pa_cons (pe_slice sl_list (pv 2) po_none (po_some (pv 3))) pa_nil))) (pg_tup (by rfl) (pgs_cons (pg_name (i := 7) sc_bits_at.nd rfl (Or.inl rfl)) (pgs_cons (pg_name (i := 8) sc_bits_at.nd rfl (Or.inl rfl)) pgs_nil))) (pss_cons (ps_set (i := 5) sc_bits_at.nd rfl (Or.inl rfl) (pe_callB (call_min2 (by rfl)) (by rfl) T.z_min (by decide +kernel) (pa_cons (pv 5) (pa_cons (pe_op op_add (pe_callB (call_max2 (by rfl)) (by rfl) T.z_max (by decide +kernel) (pa_cons pe_int (pa_cons (pe_op op_sub (pv 0) (pv 8)) pa_nil))) (pv 6)) pa_nil))))
    (pss_one (ps_aug (i := 6) sc_bits_at.nd rfl (Or.inl rfl) (pe_has h_twos (hr.mono (by decide)) (pa_cons (pe_op op_sub (pv 4) (pv 7)) pa_nil)) ip_add))))
    (pss_one (ps_ret (pe_ifExp (pt_cmpR op_lt (pe_callB call_len_seq (by rfl) T.z_len (by decide +kernel) (pa_cons (pv 1) pa_nil)) (pv 3) (nomark _)) (pe_callB (call_min2 (by rfl)) (by rfl) T.z_min (by decide +kernel) (pa_cons (pv 5) (pa_cons (pv 6) pa_nil))) (pv 5))))))), ?_⟩
    refine q_when (b := decide (p ∈ os)) (et_test (ev_inI (ev_var rfl) (ev_var rfl) h1)) (fun hb H1 e1 => ?_) fun hb H1 e1 => ?_
    · have e : bitsAt w m os ns p = w := if_pos (of_decide_eq_true hb)
      rw [e] at k
      exact s_ret (ev_var rfl) fun H2 e2 => k.go (e1.trans e2)
    have hb : p ∉ os := of_decide_eq_false hb
    have e : bitsAt w m os ns p = bitsGo w p m os ns 0 w := if_neg hb
    rw [e] at k
    obtain ⟨fs, cs, t1, t2, t3, t4⟩ := bits_turn w p os ns m 0 w h3
    refine q_par (ea_cons (ev_var rfl) (ea_cons ev_c ea_nil)) fun H2 e2 => ?_
    have h1 := e2 a _ (e1 a _ h1)
    have h2 := e2 b _ (e1 b _ h2)
    refine q_forZLL (xs := iL (os.take m)) (ys := nL (ns.take m)) (el_is (el_sl (ev_var rfl) eo_none (eo_some (ev_var rfl)) (.of h1)) (by rw [cut_take, iL_take])) (el_is (el_sl (ev_var rfl) eo_none (eo_some (ev_var rfl)) (.of h2)) (by rw [cut_take, nL_take])) (by rw [iL_len, nL_len, List.length_take, List.length_take, h3])
      (fun i σ => ∃ y7 y8, σ = [some (.int (w : Int)), some (.ref a), some (.ref b), some (.int (m : Int)), some (.int p), some (.int (fs i : Nat)), some (.int (cs i : Nat)), y7, y8]) ⟨none, none, by rw [t1, t2]; rfl⟩ ?_ ?_
    · rintro i x y σ' H' H0 hx hy ⟨y7, y8, rfl⟩ e3 e4
      obtain ⟨a', ha', rfl⟩ := iL_of hx
      obtain ⟨o', ho', rfl⟩ := nL_of hy
      have him : i < m := by have := (List.getElem?_eq_some_iff.mp ha').1; rw [List.length_take] at this; omega
      rw [List.getElem?_take, if_pos him] at ha' ho'
      obtain ⟨f1, c1⟩ := t3 i a' o' him ha' ho'
      have hpa : p - a' ≠ 0 := fun z => hb (by rw [show p = a' by omega]; exact List.mem_of_getElem? ha')
      refine q_asg (v := .int (fs (i + 1) : Nat)) (ev_is (ev_min2 (ev_var rfl) (ev_op (ev_maxS (n := o') ev_c (ev_op (ev_var rfl) (ev_var rfl) rv_I0)) (ev_var rfl) rv_I0)) (by rw [f1]; congr 1; split <;> omega)) fun H5 e5 => ?_
      refine s_aug (a := (cs i : Nat)) (b := (twos (p - a') : Nat)) rfl (ev_call (ea_cons (ev_op (ev_var rfl) (ev_var rfl) rv_I0) ea_nil) (sv_twos hpa)) fun H6 e6 => ?_
      refine ⟨(e4.trans e5).trans e6, some (.int a'), some (.int (o' : Int)), ?_⟩
      rw [c1, show ((cs i + twos (p - a') : Nat) : Int) = (cs i : Int) + (twos (p - a') : Int) by simp]
      rfl
    · rintro σ' H' ⟨y7, y8, rfl⟩ e3
      have el : (iL (os.take m)).length = min m os.length := by rw [iL_len, List.length_take]
      rw [el]
      refine s_ret (v := .int (bitsGo w p m os ns 0 w : Nat)) (ev_if (b := decide (os.length < m)) (et_test (ev_op (ev_lenI (ev_var rfl) (e3 a _ h1)) (ev_var rfl) (fun H1 e Q q => ⟨_, _, rfl, rfl, ?_⟩))) (fun hd => ?_) (fun hd => ?_)) fun H7 e7 => k.go (((e1.trans e2).trans e3).trans e7)
      · have := q H1 (Ex.refl H1)
        have ed : decide ((os.length : Int) < (m : Int)) = decide (os.length < m) := by simp
        show Q (.bl (decide ((os.length : Int) < (m : Int)))) H1
        rw [ed]; exact this
      · rw [t4, if_pos (of_decide_eq_true hd)]
        exact ev_minS (ev_var rfl) (ev_var rfl)
      · rw [t4, if_neg (of_decide_eq_false hd)]
        exact ev_var rfl

end Ap


namespace Ap
open PySem PySem.Spec PyProof.Rows L2 Evl
/-! ### words made of items -/
theorem mod_add (a b x m : Int) : (a % m + x * (b % m)) % m = (a + x * b) % m := by
  rw [Int.emod_eq_emod_iff_emod_sub_eq_zero]
  refine Int.emod_eq_zero_of_dvd ⟨-(a / m) - x * (b / m), ?_⟩
  have h1 := Int.mul_ediv_add_emod a m
  have h2 := Int.mul_ediv_add_emod b m
  grind
theorem mod_mul (b x m : Int) : (b % m * x) % m = (b * x) % m := by
  rw [Int.emod_eq_emod_iff_emod_sub_eq_zero]
  refine Int.emod_eq_zero_of_dvd ⟨- x * (b / m), ?_⟩
  have h2 := Int.mul_ediv_add_emod b m
  grind
def sp_word_of (K : PySem.W.Frag) : Sp := fun vs H Q _ => ∃ (w : Nat) (a b : Addr) (os is : List Int) (p : Int), vs = [.int (w : Int), .ref a, .ref b, .int p] ∧ 1 ≤ w ∧ w ≤ 64 ∧ H a = some (.lst (iL os)) ∧ H b = some (.lst (iL is)) ∧ is.length ≤ os.length ∧ os.length ≤ 1000 ∧
  (∀ x, x ∈ os → 0 ≤ x ∧ x < 2 ^ 64) ∧ (∀ x, x ∈ is → 0 ≤ x ∧ x < 2 ^ 64) ∧ 0 ≤ p ∧ p < 2 ^ 64 ∧ RetV (.int (nw is os p % 2 ^ w)) H Q
theorem sv_word_of {K : PySem.W.Frag} {H : Hp} {w : Nat} {a b : Addr} {os is : List Int} {p : Int} (h0 : 1 ≤ w) (h1 : w ≤ 64) (h2 : H a = some (.lst (iL os))) (h3 : H b = some (.lst (iL is))) (h4 : is.length ≤ os.length) (h5 : os.length ≤ 1000)
    (h6 : ∀ x, x ∈ os → 0 ≤ x ∧ x < 2 ^ 64) (h7 : ∀ x, x ∈ is → 0 ≤ x ∧ x < 2 ^ 64) (h8 : 0 ≤ p) (h9 : p < 2 ^ 64) : SpV (sp_word_of K) [.int (w : Int), .ref a, .ref b, .int p] H (.int (nw is os p % 2 ^ w)) :=
  fun H1 e Q q _ => ⟨w, a, b, os, is, p, rfl, h0, h1, e a _ h2, e b _ h3, h4, h5, h6, h7, h8, h9, q⟩
theorem nat_of {x : Int} {n : Nat} (h0 : 0 ≤ x) (h : x < 2 ^ n) : x.natAbs < 2 ^ n := by
  have : ((2 ^ n : Nat) : Int) = (2 : Int) ^ n := by simp
  omega
theorem sub_of {x y : Int} {n : Nat} (h0 : 0 ≤ x) (h : x < 2 ^ n) (g0 : 0 ≤ y) (g : y < 2 ^ n) : (x - y).natAbs < 2 ^ n := by
  have : ((2 ^ n : Nat) : Int) = (2 : Int) ^ n := by simp
  omega
theorem pw_le {a b : Nat} (h : a ≤ b) : (2 : Int) ^ a ≤ 2 ^ b := Int.le_of_dvd (two_pos b) (pow_dvd h)
theorem sc_word_of : FnScope ["width", "order", "items", "place", "found", "product", "by", "item", "taken"] ["width", "order", "items", "place"] (defScope sWordOf) := ⟨rfl, rfl, rfl, by decide +kernel, rfl, by decide +kernel, by decide +kernel⟩
theorem has_word_of {P : Program} {w : World} {K : PySem.W.Frag} {mg : Str → Option Value} {base : Heap} (T : Txt K mg) : Has P w K mg base "word_of" ["width", "order", "items", "place"] 2 (sp_word_of K) := by
  refine Has.of T.gWordOf T.dWordOf (fun fd F => FunD.ok F sc_word_of (fun vs H Q E h => ?_) (fun cdv A outer s H vs Q E hr h => ?_)) fun _ _ _ _ _ _ us hl => match us, hl with | [_, _, _, _], _ => rfl
  · obtain ⟨w, a, b, os, is, p, rfl, h0, h1, h2, h3, h4, h5, h6, h7, h8, h9, k⟩ := h
    rfl
  · have hr : Room 1 _ := hr
    have h_power_of_two := has_power_of_two (P := P) (w := w) (base := base) T
    obtain ⟨w, a, b, os, is, p, rfl, h0, h1, h2, h3, h4, h5, h6, h7, h8, h9, k⟩ := h
    refine ⟨(tSeq (tPar3 4 5 6 (tCons (tC _) (tCons (tC _) (tCons (tCall _ [] E0 (tCons (tVar 0) tNil)) tNil))))
      (tSeq (tFor (Zst.iZs K false (tCons (tVar 2) (tCons (tVar 1) tNil))) (gTup K 2 (gCons (gName 7) (gCons (gName 8) gNil))) (tSeq (tAsg (tOp _ (tOp _ (tVar 4) (tOp _ (tVar 7) (tVar 5))) (tVar 6)) (gName 4))
      (tAsg (tOp _ (tOp _ (tVar 5) (tOp _ (tVar 3) (tVar 8))) (tVar 6)) (gName 5))))
      (tRet (tVar 4)))), PSs.nox (pss_cons (ps_par3 (i := 4) (j := 5) (l := 6) (by rfl) sc_word_of.nd rfl rfl rfl (by decide) (by decide) (by decide) rfl rfl rfl (pa_cons pe_int (pa_cons pe_int (pa_cons (pe_has h_power_of_two (hr.mono (by decide)) (pa_cons (pv 0) pa_nil)) pa_nil))) (by rfl))
    (pss_cons (ps_for PassesOwn.never (by rfl) (Zst.pi_zs (by rfl) T.z_zip (pa_cons (pv 2) (pa_cons (pv 1) pa_nil))) (pg_tup (by rfl) (pgs_cons (pg_name (i := 7) sc_word_of.nd rfl (Or.inl rfl)) (pgs_cons (pg_name (i := 8) sc_word_of.nd rfl (Or.inl rfl)) pgs_nil))) (pss_cons (ps_set (i := 4) sc_word_of.nd rfl (Or.inl rfl) (pe_op op_mod (pe_op op_add (pv 4) (pe_op op_mulX (pv 7) (pv 5))) (pv 6)))
    (pss_one (ps_set (i := 5) sc_word_of.nd rfl (Or.inl rfl) (pe_op op_mod (pe_op op_mulX (pv 5) (pe_op op_sub (pv 3) (pv 8))) (pv 6))))))
    (pss_one (ps_ret (pv 4))))), ?_⟩
    refine q_par3 (v3 := .int (2 ^ w)) (ea_cons ev_c (ea_cons ev_c (ea_cons (ev_call (ea_cons (ev_var rfl) ea_nil) (sv_power_of_two (by omega))) ea_nil))) fun H1 e1 => ?_
    have hw64 := pw_le h1
    have hpos := two_pos w
    refine q_forZF (xs := iL is) (ys := iL os) (ea_cons (ev_var rfl) (ea_cons (ev_var rfl) ea_nil)) (e1 b _ h3) (e1 a _ h2) (by rw [iL_len, iL_len]; exact h4)
      (fun i σ => ∃ y7 y8, σ = [some (.int (w : Int)), some (.ref a), some (.ref b), some (.int p), some (.int (nw (is.take i) os p % 2 ^ w)), some (.int (prd (os.take i) p % 2 ^ w)), some (.int (2 ^ w)), y7, y8])
      ⟨none, none, by
        rw [List.take_zero, List.take_zero, nw_nil]
        have e0 : (0 : Int) % 2 ^ w = 0 := Int.zero_emod _
        have e2 : prd [] p % 2 ^ w = 1 := Int.emod_eq_of_lt (by show (0 : Int) ≤ 1; omega) (by show (1 : Int) < 2 ^ w; have := pw_le h0; omega)
        rw [e0, e2]; rfl⟩ ?_ ?_
    · rintro i x y σ' H' hx hy ⟨y7, y8, rfl⟩ e2
      obtain ⟨it, hit, rfl⟩ := iL_of hx
      obtain ⟨ta, hta, rfl⟩ := iL_of hy
      have hi := (List.getElem?_eq_some_iff.mp hit).1
      have b1 := h7 it (List.mem_of_getElem? hit)
      have b2 := h6 ta (List.mem_of_getElem? hta)
      have m0 := Int.emod_nonneg (prd (os.take i) p) (show (2 : Int) ^ w ≠ 0 by omega)
      have m1 := Int.emod_lt_of_pos (prd (os.take i) p) hpos
      have es : nw (is.take (i + 1)) os p = nw (is.take i) os p + it * prd (os.take i) p := by
        rw [List.take_add_one, hit]
        show nw (is.take i ++ [it]) os p = _
        have hl : (is.take i).length = i := by rw [List.length_take]; omega
        rw [nw_snoc _ _ _ _ (by rw [hl]; omega), hl]
      have ep : prd (os.take (i + 1)) p = prd (os.take i) p * (p - ta) := by
        rw [List.take_add_one, hta]
        exact prd_snoc _ _ _
      refine q_asg (v := .int (nw (is.take (i + 1)) os p % 2 ^ w)) (ev_is (ev_op (ev_op (ev_var rfl) (ev_op (ev_var rfl) (ev_var rfl) (rv_I (mulx_ok (a := 64) (b := 64) (nat_of b1.1 b1.2) (nat_of m0 (by omega)) (by omega)))) rv_I0) (ev_var rfl) (rv_I hpos)) (by rw [es, mod_add])) fun H3 e3 => ?_
      refine s_asg (v := .int (prd (os.take (i + 1)) p % 2 ^ w)) (ev_is (ev_op (ev_op (ev_var rfl) (ev_op (ev_var rfl) (ev_var rfl) rv_I0) (rv_I (mulx_ok (a := 64) (b := 64) (nat_of m0 (by omega)) (sub_of h8 h9 b2.1 b2.2) (by omega)))) (ev_var rfl) (rv_I hpos)) (by rw [ep, mod_mul])) fun H4 e4 => ?_
      exact ⟨(e2.trans e3).trans e4, _, _, rfl⟩
    · rintro σ' H' ⟨y7, y8, rfl⟩ e2
      rw [iL_len, List.take_length]
      exact s_ret (ev_var rfl) fun H3 e3 => k.go ((e1.trans e2).trans e3)

/-! ### what an odd number is undone by -/
def Inv2 (u : Int) (n : Nat) : V → Prop := fun v => ∃ x : Int, v = .int x ∧ x * u % 2 ^ n = 1 % 2 ^ n ∧ 0 ≤ x ∧ x < 2 ^ n
def sp_inverse (K : PySem.W.Frag) : Sp := fun vs H Q _ => ∃ (u : Int) (n : Nat), vs = [.int u, .int (2 ^ n)] ∧ u % 2 = 1 ∧ u.natAbs < 2 ^ 100000 ∧ 1 ≤ n ∧ n ≤ 64 ∧ RetR (Inv2 u n) H Q
theorem sr_inverse {K : PySem.W.Frag} {H : Hp} {u : Int} {n : Nat} (h1 : u % 2 = 1) (h2 : u.natAbs < 2 ^ 100000) (h3 : 1 ≤ n) (h4 : n ≤ 64) : SpR (sp_inverse K) [.int u, .int (2 ^ n)] H (Inv2 u n) := fun H1 e Q q _ => ⟨u, n, rfl, h1, h2, h3, h4, fun v H2 e2 p => q v H2 e2 p⟩
theorem inv_step {u f : Int} {n e : Nat} (h : (2 : Int) ^ e ∣ f * u - 1) (he : 1 ≤ e) (hen : e + 1 ≤ n) : (2 : Int) ^ (e + 1) ∣ (f * (2 - u * f) % 2 ^ n) * u - 1 := by
  obtain ⟨c, hc⟩ := h
  have hd := Int.mul_ediv_add_emod (f * (2 - u * f)) (2 ^ n)
  obtain ⟨d, hd2⟩ := pow_dvd hen
  have e2 : (2 : Int) ^ (2 * e) = 2 ^ (e + 1) * 2 ^ (e - 1) := by rw [← Int.pow_add]; congr 1; omega
  have e3 : (2 : Int) ^ (2 * e) = 2 ^ e * 2 ^ e := by rw [← Int.pow_add]; congr 1; omega
  have e4 : f * (2 - u * f) * u - 1 = -((f * u - 1) * (f * u - 1)) := by grind
  have e5 : f * (2 - u * f) % 2 ^ n * u - 1 = -((f * u - 1) * (f * u - 1)) - 2 ^ n * (f * (2 - u * f) / 2 ^ n) * u := by
    rw [← e4]
    have : f * (2 - u * f) % 2 ^ n = f * (2 - u * f) - 2 ^ n * (f * (2 - u * f) / 2 ^ n) := by omega
    rw [this]; grind
  rw [e5, hc]
  refine ⟨-(2 ^ (e - 1) * (c * c)) - d * (f * (2 - u * f) / 2 ^ n) * u, ?_⟩
  have e6 : (2 : Int) ^ e * c * (2 ^ e * c) = 2 ^ (e + 1) * (2 ^ (e - 1) * (c * c)) := by
    have : (2 : Int) ^ e * c * (2 ^ e * c) = (2 ^ e * 2 ^ e) * (c * c) := by grind
    rw [this, ← e3, e2]; grind
  rw [e6, hd2]
  grind
theorem sc_inverse : FnScope ["odd", "by", "found"] ["odd", "by"] (defScope sInverse) := ⟨rfl, rfl, rfl, by decide +kernel, rfl, by decide +kernel, by decide +kernel⟩
theorem has_inverse {P : Program} {w : World} {K : PySem.W.Frag} {mg : Str → Option Value} {base : Heap} (T : Txt K mg) : Has P w K mg base "inverse" ["odd", "by"] 1 (sp_inverse K) := by
  refine Has.of T.gInverse T.dInverse (fun fd F => FunD.ok F sc_inverse (fun vs H Q E h => ?_) (fun cdv A outer s H vs Q E hr h => ?_)) fun _ _ _ _ _ _ us hl => match us, hl with | [_, _], _ => rfl
  · obtain ⟨u, n, rfl, h1, h2, h3, h4, k⟩ := h
    rfl
  · have hr : Room 0 _ := hr

    obtain ⟨u, n, rfl, h1, h2, h3, h4, k⟩ := h
    refine ⟨(tSeq (tAsg (tOp _ (tVar 0) (tVar 1)) (gName 2))
      (tSeq (tWhile (tTest (tOp _ (tOp _ (tOp _ (tVar 2) (tVar 0)) (tVar 1)) (tOp _ (tC _) (tVar 1)))) (tAsg (tOp _ (tOp _ (tVar 2) (tOp _ (tC _) (tOp _ (tVar 0) (tVar 2)))) (tVar 1)) (gName 2)))
      (tRet (tVar 2)))), PSs.nox (pss_cons (ps_set (i := 2) sc_inverse.nd rfl (Or.inl rfl) (pe_op op_mod (pv 0) (pv 1)))
    (pss_cons (ps_while PassesOwn.never (pt_cmpR op_ne (pe_op op_mod (pe_op op_mulX (pv 2) (pv 0)) (pv 1)) (pe_op op_mod pe_int (pv 1)) (nomark _)) (pss_one (ps_set (i := 2) sc_inverse.nd rfl (Or.inl rfl) (pe_op op_mod (pe_op op_mulX (pv 2) (pe_op op_sub pe_int (pe_op op_mulX (pv 0) (pv 2)))) (pv 1)))))
    (pss_one (ps_ret (pv 2))))), ?_⟩
    have hpos := two_pos n
    have hn64 := pw_le h4
    have hfb := fun x : Int => And.intro (Int.emod_nonneg x (show (2 : Int) ^ n ≠ 0 by omega)) (Int.emod_lt_of_pos x hpos)
    refine q_asg (v := .int (u % 2 ^ n)) (ev_op (ev_var rfl) (ev_var rfl) (rv_I hpos)) fun H1 e1 => ?_
    refine q_while (fun m σ H' => ∃ (f : Int) (e : Nat), σ = [some (.int u), some (.int (2 ^ n)), some (.int f)] ∧ m + e = n ∧ 1 ≤ e ∧ (2 : Int) ^ e ∣ f * u - 1 ∧ 0 ≤ f ∧ f < 2 ^ n ∧ Ex H H') (n - 1) ⟨u % 2 ^ n, 1, rfl, by omega, Nat.le_refl _, ?_, (hfb u).1, (hfb u).2, e1⟩ ?_
    · have hu : (u % 2 ^ n) % 2 = 1 := by
        have := emod_emod_pow (a := u) (t := 1) (w := n) h3
        rw [Int.pow_one] at this
        omega
      refine Int.dvd_of_emod_eq_zero ?_
      have : (u % 2 ^ n * u) % 2 = 1 := by rw [Int.mul_emod, hu, h1]; rfl
      rw [Int.pow_one]
      omega
    rintro m σ' H' ⟨f, e, rfl, hm, he, hd, hf0, hf1, ex⟩
    have hub : u.natAbs < 2 ^ 100000 := h2
    have tst : EvT (tTest (tOp rNe (tOp (rI (fun _ j => 0 < j) fun i j => .int (i % j)) (tOp (rI CMulX fun i j => .int (i * j)) (tVar 2) (tVar 0)) (tVar 1)) (tOp (rI (fun _ j => 0 < j) fun i j => .int (i % j)) (tC (.int 1)) (tVar 1)))) [some (.int u), some (.int (2 ^ n)), some (.int f)] H' (!decide (f * u % 2 ^ n = 1 % 2 ^ n)) :=
      et_test (ev_is (ev_op (ev_op (ev_op (ev_var rfl) (ev_var rfl) (rv_I (mulx_ok (a := 64) (b := 100000) (nat_of hf0 (by omega)) hub (by omega)))) (ev_var rfl) (rv_I hpos)) (ev_op ev_c (ev_var rfl) (rv_I hpos)) (rv_ne rfl)) (by simp))
    refine ⟨!decide (f * u % 2 ^ n = 1 % 2 ^ n), tst, fun hb H2 e2 => ?_, fun hb H2 e2 => ?_⟩
    · have hb : ¬ f * u % 2 ^ n = 1 % 2 ^ n := by simpa using hb
      have hen : e + 1 ≤ n := by
        by_cases hen : e + 1 ≤ n
        · exact hen
        · exfalso
          have : e = n := by omega
          subst this
          exact hb (Int.emod_eq_emod_iff_emod_sub_eq_zero.mpr (Int.emod_eq_zero_of_dvd hd))
      refine ⟨fun σ H' => ∃ (f : Int), σ = [some (.int u), some (.int (2 ^ n)), some (.int f)] ∧ (2 : Int) ^ (e + 1) ∣ f * u - 1 ∧ 0 ≤ f ∧ f < 2 ^ n ∧ Ex H H', fun σ2 H3 ⟨f', r1, r2, r3, r4, r5⟩ => ⟨m - 1, by omega, f', e + 1, r1, by omega, by omega, r2, r3, r4, r5⟩, ?_⟩
      have huf : (u * f).natAbs < 2 ^ (100000 + 64) := wide_lt hub (nat_of hf0 (by omega))
      have h2uf : (2 - u * f).natAbs < 2 ^ 100065 := by
        have : (2 : Nat) ^ 100065 = 2 * 2 ^ (100000 + 64) := by rw [show 100065 = (100000 + 64) + 1 by omega, Nat.pow_succ]; exact Nat.mul_comm _ _
        have h3 : (2 : Nat) ≤ 2 ^ (100000 + 64) := Nat.le_trans (show 2 ≤ 2 ^ 1 by decide) (Nat.pow_le_pow_right (by decide) (by omega))
        rw [this]
        generalize (2 : Nat) ^ (100000 + 64) = B at *
        omega
      refine s_asg (v := .int (f * (2 - u * f) % 2 ^ n)) (ev_op (ev_op (ev_var rfl) (ev_op ev_c (ev_op (ev_var rfl) (ev_var rfl) (rv_I (mulx_ok (a := 100000) (b := 64) hub (nat_of hf0 (by omega)) (by omega)))) rv_I0) (rv_I (mulx_ok (a := 64) (b := 100065) (nat_of hf0 (by omega)) h2uf (by omega)))) (ev_var rfl) (rv_I hpos)) fun H3 e3 => ?_
      exact ⟨_, rfl, inv_step hd he hen, (hfb _).1, (hfb _).2, (ex.trans e2).trans e3⟩
    · have hb : f * u % 2 ^ n = 1 % 2 ^ n := by simpa using hb
      exact s_ret (v := .int f) (ev_var rfl) fun H3 e3 => k.go ((ex.trans e2).trans e3) ⟨f, rfl, hb, hf0, hf1⟩

end Ap


namespace Ap
open PySem PySem.Spec PyProof.Rows L2 Evl
/-! ### an item -/
/-- what item_of may answer, at a step below the width -/
def ItemIs (w n : Nat) (u L : Int) : V → Prop := fun v => (w ≤ n ∧ v = .int 0) ∨ (n < w ∧ ∃ x : Int, x * u % 2 ^ (w - n) = 1 % 2 ^ (w - n) ∧ v = .int (L / 2 ^ n * x % 2 ^ (w - n)))
def sp_item_of (K : PySem.W.Frag) : Sp := fun vs H Q _ => ∃ (w n : Nat) (pr u L : Int), vs = [.int (w : Int), .int (n : Int), .int pr, .int L] ∧ w ≤ 64 ∧ (2 : Int) ^ (min w n) ∣ L ∧ (n < w → pr = 2 ^ n * u ∧ u % 2 = 1 ∧ u.natAbs < 2 ^ 100000) ∧ 0 ≤ L ∧ L < 2 ^ 64 ∧ RetR (ItemIs w n u L) H Q
theorem sr_item_of {K : PySem.W.Frag} {H : Hp} {w n : Nat} {pr u L : Int} (h1 : w ≤ 64) (h2 : (2 : Int) ^ (min w n) ∣ L) (h3 : n < w → pr = 2 ^ n * u ∧ u % 2 = 1 ∧ u.natAbs < 2 ^ 100000) (h4 : 0 ≤ L) (h5 : L < 2 ^ 64) :
    SpR (sp_item_of K) [.int (w : Int), .int (n : Int), .int pr, .int L] H (ItemIs w n u L) := fun H1 e Q q _ => ⟨w, n, pr, u, L, rfl, h1, h2, h3, h4, h5, fun v H2 e2 p => q v H2 e2 p⟩
theorem pw_div {n : Nat} (h : n ≤ 64) {x : Int} : CDivW x (2 ^ n) := wide_div (b := 65) (two_pos n) (by
  have h1 := pw_le h
  have h2 := two_pos n
  have h3 : (2 : Int) ^ 64 < 2 ^ 65 := by decide
  exact nat_of (by omega) (by omega)) (by decide) (by decide)
theorem sc_item_of : FnScope ["width", "number", "product", "left", "by", "rest"] ["width", "number", "product", "left"] (defScope sItemOf) := ⟨rfl, rfl, rfl, by decide +kernel, rfl, by decide +kernel, by decide +kernel⟩
theorem has_item_of {P : Program} {w : World} {K : PySem.W.Frag} {mg : Str → Option Value} {base : Heap} (T : Txt K mg) : Has P w K mg base "item_of" ["width", "number", "product", "left"] 2 (sp_item_of K) := by
  refine Has.of T.gItemOf T.dItemOf (fun fd F => FunD.ok F sc_item_of (fun vs H Q E h => ?_) (fun cdv A outer s H vs Q E hr h => ?_)) fun _ _ _ _ _ _ us hl => match us, hl with | [_, _, _, _], _ => rfl
  · obtain ⟨w, n, pr, u, L, rfl, h1, h2, h3, h4, h5, k⟩ := h
    rfl
  · have hr : Room 1 _ := hr
    have h_inverse := has_inverse (P := P) (w := w) (base := base) T
    have h_power_of_two := has_power_of_two (P := P) (w := w) (base := base) T
    obtain ⟨w, n, pr, u, L, rfl, h1, h2, h3, h4, h5, k⟩ := h
    refine ⟨(tSeq (tAsg (tCall _ [] E0 (tCons (tCB _ (tCons (tVar 0) (tCons (tVar 1) tNil))) tNil)) (gName 4))
      (tSeq (tIfS (tTest (tOp _ (tOp _ (tVar 3) (tVar 4)) (tC _))) (tRet (tC _)) tNext)
      (tSeq (tIfS (tTest (tOp _ (tVar 1) (tVar 0))) (tRet (tC _)) tNext)
      (tSeq (tAsg (tCall _ [] E0 (tCons (tOp _ (tVar 0) (tVar 1)) tNil)) (gName 5))
      (tRet (tOp _ (tOp _ (tOp _ (tVar 3) (tVar 4)) (tCall _ [] E0 (tCons (tOp _ (tVar 2) (tVar 4)) (tCons (tVar 5) tNil)))) (tVar 5))))))), PSs.nox (pss_cons (ps_set (i := 4) sc_item_of.nd rfl (Or.inl rfl) (pe_has h_power_of_two (hr.mono (by decide)) (pa_cons (pe_callB (call_min2 (by rfl)) (by rfl) T.z_min (by decide +kernel) (pa_cons (pv 0) (pa_cons (pv 1) pa_nil))) pa_nil)))
    (pss_cons (ps_if (pt_cmpR op_ne (pe_op op_mod (pv 3) (pv 4)) pe_int (nomark _)) (pss_one (ps_ret pe_non)) pss_nil)
    (pss_cons (ps_if (pt_cmpR op_ge (pv 1) (pv 0) (nomark _)) (pss_one (ps_ret pe_int)) pss_nil)
    (pss_cons (ps_set (i := 5) sc_item_of.nd rfl (Or.inl rfl) (pe_has h_power_of_two (hr.mono (by decide)) (pa_cons (pe_op op_sub (pv 0) (pv 1)) pa_nil)))
    (pss_one (ps_ret (pe_op op_mod (pe_op op_mulX (pe_op op_fdivW (pv 3) (pv 4)) (pe_has h_inverse (hr.mono (by decide)) (pa_cons (pe_op op_fdivW (pv 2) (pv 4)) (pa_cons (pv 5) pa_nil)))) (pv 5)))))))), ?_⟩
    refine q_asg (v := .int (2 ^ min w n)) (ev_call (ea_cons (ev_minS (ev_var rfl) (ev_var rfl)) ea_nil) (sv_power_of_two (by omega))) fun H1 e1 => ?_
    refine q_when (b := false) (et_test (ev_is (ev_op (ev_op (ev_var rfl) (ev_var rfl) (rv_I (two_pos _))) ev_c (rv_ne rfl)) (by rw [Int.emod_eq_zero_of_dvd h2]; rfl))) (fun h => by cases h) fun _ H2 e2 => ?_
    refine q_when (b := decide (w ≤ n)) (et_test (ev_is (ev_op (ev_var rfl) (ev_var rfl) rv_I0) (by congr 1; simp))) (fun hb H3 e3 => ?_) fun hb H3 e3 => ?_
    · exact s_ret (v := .int 0) ev_c fun H4 e4 => k.go (((e1.trans e2).trans e3).trans e4) (.inl ⟨of_decide_eq_true hb, rfl⟩)
    have hn : n < w := by have := of_decide_eq_false hb; omega
    obtain ⟨rfl, o1, o2⟩ := h3 hn
    have em : min w n = n := by omega
    have en : ((w : Int) - (n : Int)) = ((w - n : Nat) : Int) := by omega
    refine q_asg (v := .int (2 ^ (w - n))) (ev_call (ea_cons (ev_is (ev_op (ev_var rfl) (ev_var rfl) rv_I0) (by rw [en])) ea_nil) (sv_power_of_two (by omega))) fun H4 e4 => ?_
    have hpn := two_pos n
    have hL0 : 0 ≤ L / 2 ^ n := Int.ediv_nonneg h4 (by omega)
    have hL1 : L / 2 ^ n ≤ L := by
      have := Int.mul_ediv_add_emod L (2 ^ n)
      have h9 := Int.emod_nonneg L (show (2 : Int) ^ n ≠ 0 by omega)
      have h8 : (1 : Int) * (L / 2 ^ n) ≤ 2 ^ n * (L / 2 ^ n) := Int.mul_le_mul_of_nonneg_right (by omega) hL0
      omega
    have hrest := pw_le (show w - n ≤ 64 by omega)
    refine s_retR (P := ItemIs w n u L) ?_ fun v H5 p e5 => k.go ((((e1.trans e2).trans e3).trans e4).trans e5) p
    refine er_op (P := fun v => ∃ x : Int, x * u % 2 ^ (w - n) = 1 % 2 ^ (w - n) ∧ v = .int (L / 2 ^ n * x)) (P2 := fun v => v = .int (2 ^ (w - n))) (er_op (P := fun v => v = .int (L / 2 ^ n)) (P2 := Inv2 u (w - n)) (er_ev (ev_op (ev_var rfl) (ev_var rfl) (rv_I (pw_div (by omega)))) (by rw [em])) (er_call (ea_cons (ev_is (ev_op (ev_var rfl) (ev_var rfl) (rv_I (pw_div (by omega)))) (by rw [em, Int.mul_ediv_cancel_left _ (by omega)])) (ea_cons (ev_var rfl) ea_nil)) (sr_inverse o1 o2 (by omega) (by omega))) ?_) (er_ev (ev_var rfl) rfl) ?_
    · rintro x y rfl ⟨z, rfl, z1, z2, z3⟩
      exact ⟨_, rv_I (mulx_ok (a := 64) (b := 64) (nat_of hL0 (by omega)) (nat_of z2 (by omega)) (by omega)), z, z1, rfl⟩
    · rintro x y ⟨z, z1, rfl⟩ rfl
      exact ⟨_, rv_I (two_pos _), .inr ⟨hn, z, z1, rfl⟩⟩

/-! ### dicts of numbers -/
def rDictP (K : PySem.W.Frag) : List V → Hp → VK → Prop := fun xs H Q => ∃ (a : Addr) (ps : List Addr) (kvs : List (Key × V)), xs = [.ref a] ∧ SqL K H a (ps.map V.ref) ∧ Paired (fun p kv => SqT K H p [kV kv.1, kv.2]) ps kvs ∧
    ∀ p, H p = none → Q (.ref p) (upd H p (.dK (mergeK [] kvs)))
def dI (kv : List (Int × Int)) : List (Key × V) := kv.map fun q => (Sum.inl q.1, V.int q.2)
theorem dI_len (kv : List (Int × Int)) : (dI kv).length = kv.length := List.length_map _
theorem dI_any (kv : List (Int × Int)) (k : Int) : ((dI kv).any fun z => decide (z.1 = (Sum.inl k : Key))) = decide (k ∈ keys kv) := by
  unfold dI keys
  induction kv with
  | nil => simp
  | cons q kv ih =>
    rw [List.map_cons, List.any_cons, ih, List.map_cons]
    by_cases h : q.1 = k
    · simp [h]
    · have h1 : ¬ (Sum.inl q.1 : Key) = Sum.inl k := fun e => h (Sum.inl.inj e)
      have h2 : ¬ k = q.1 := fun e => h e.symm
      simp [h1, h2]
theorem dI_put {kv : List (Int × Int)} {k v : Int} (h : k ∉ keys kv) : putK (dI kv) (Sum.inl k) (.int v) = dI (kv ++ [(k, v)]) := by
  unfold putK
  rw [dI_any, decide_eq_false h, if_neg Bool.false_ne_true]
  simp [dI]
theorem dI_merge : ∀ (kv acc : List (Int × Int)), (keys (acc ++ kv)).Nodup → mergeK (dI acc) (dI kv) = dI (acc ++ kv)
  | [], acc, _ => by simp [mergeK, dI]
  | q :: kv, acc, h => by
    have hq : q.1 ∉ keys acc := by
      unfold keys at h ⊢
      rw [List.map_append, List.map_cons] at h
      intro hm
      exact (List.nodup_append.mp h).2.2 q.1 hm q.1 List.mem_cons_self rfl
    have ih := dI_merge kv (acc ++ [q]) (by simpa using h)
    rw [show acc ++ q :: kv = (acc ++ [q]) ++ kv by simp, ← ih, ← dI_put hq]
    rfl
def wdOf (kv : List (Int × Int)) (a : Int) : Int := ((kv.find? fun q => decide (q.1 = a)).map (·.2)).getD 0
theorem wd_mem : ∀ {kv : List (Int × Int)} {q : Int × Int}, (keys kv).Nodup → q ∈ kv → wdOf kv q.1 = q.2
  | p :: kv, q, hn, h => by
    unfold keys at hn
    rw [List.map_cons] at hn
    obtain ⟨h1, h2⟩ := List.nodup_cons.mp hn
    unfold wdOf
    rw [List.find?_cons]
    rcases List.mem_cons.mp h with rfl | h
    · simp
    · have : ¬ p.1 = q.1 := fun e => h1 (by rw [e]; exact List.mem_map.mpr ⟨q, h, rfl⟩)
      simp only [this, decide_false]
      exact wd_mem (kv := kv) h2 h
theorem wd_key {kv : List (Int × Int)} (hn : (keys kv).Nodup) {a : Int} (h : a ∈ keys kv) : (a, wdOf kv a) ∈ kv := by
  obtain ⟨q, hq, rfl⟩ := List.mem_map.mp h
  rw [wd_mem hn hq]; exact hq
theorem dI_val {kv : List (Int × Int)} (hn : (keys kv).Nodup) {a : Int} (h : a ∈ keys kv) : valV (dI kv) (Sum.inl a : Key) = some (.int (wdOf kv a)) := by
  have key : ∀ kv : List (Int × Int), a ∈ keys kv → valV (dI kv) (Sum.inl a : Key) = some (.int (wdOf kv a)) := by
    intro kv
    induction kv with
    | nil => intro h; cases h
    | cons q kv ih =>
      intro h
      by_cases e : q.1 = a
      · have : valV (dI (q :: kv)) (Sum.inl a : Key) = some (.int q.2) := valV_pos (p := (Sum.inl q.1, V.int q.2)) (by rw [e])
        rw [this]
        unfold wdOf
        rw [List.find?_cons]
        simp [e]
      · have h' : a ∈ keys kv := by
          unfold keys at h ⊢
          rcases List.mem_cons.mp h with h | h
          · exact absurd h.symm e
          · exact h
        have : valV (dI (q :: kv)) (Sum.inl a : Key) = valV (dI kv) (Sum.inl a : Key) := valV_neg (p := (Sum.inl q.1, V.int q.2)) (fun z => e (Sum.inl.inj z))
        rw [this, ih h']
        unfold wdOf
        rw [List.find?_cons]
        simp [e]
  exact key kv h
section
variable {K : PySem.W.Frag} {σ : L2.St} {H H' : Hp} {ta tb te tx tc : TE} {t u : TT} {x y z v : V} {D : Ends} {tu tw tz : TS} {g : TG}
/-- dict(known) -/
theorem q_dict {i : Nat} {a : Addr} {kv : List (Int × Int)} (ha : Ev ta σ H (.ref a)) (hk : Kn H a kv) (hn : (keys kv).Nodup) (k : ∀ p H1, H p = none → Ex H H1 → H1 p = some (.dK (dI kv)) → tz D (σ.set i (some (.ref p))) H1) :
    tSeq (tAsg (tCB (rDictP K) (tCons ta tNil)) (gName i)) tz D σ H := ha H (Ex.refl H) _ fun H1 e1 => by
  obtain ⟨ts, k1, k2, k3⟩ := hk.mono e1
  refine ⟨a, ts, dI kv, rfl, .of k1, ?_, fun p hp => k p _ (fresh_back e1 hp) (e1.trans (Ex.new hp)) ?_⟩
  · have go : ∀ (ts : List Addr) (kv : List (Int × Int)), ts.length = kv.length → (∀ (i : Nat) t q, ts[i]? = some t → kv[i]? = some q → H1 t = some (.tup [.int q.1, .int q.2])) → Paired (fun p (kv : Key × V) => SqT K H1 p [kV kv.1, kv.2]) ts (dI kv) := by
      intro ts
      induction ts with
      | nil => intro kv hl _; cases kv with
        | nil => exact .nil
        | cons => simp at hl
      | cons t ts ih => intro kv hl h; cases kv with
        | nil => simp at hl
        | cons q kv => exact .cons (.of (h 0 t q rfl rfl)) (ih kv (by simpa using hl) fun i t q a b => h (i + 1) t q (by simpa using a) (by simpa using b))
    exact go ts kv k2 k3
  · rw [upd_same]
    have := dI_merge kv [] (by simpa using hn)
    rw [show (dI [] : List (Key × V)) = [] from rfl] at this
    rw [this]; rfl
theorem ev_dget {a : Addr} {kv : List (Int × Int)} {p : Int} (ha : Ev ta σ H (.ref a)) (hb : Ev tb σ H (.int p)) (h : H a = some (.dK (dI kv))) (hn : (keys kv).Nodup) (hp : p ∈ keys kv) : Ev (tDGet ta tb) σ H (.int (wdOf kv p)) := fun H1 e Q q =>
  ha H1 e _ fun H2 e2 => hb H2 (e.trans e2) _ fun H3 e3 => ⟨a, _, rfl, by
    have := DGet.k (k := (Sum.inl p : Key)) (e3 a _ (e2 a _ (e a _ h)))
    rw [dI_val hn hp] at this
    exact this, q H3 (e2.trans e3)⟩
/-- a loop over enumerate(xs) -/
theorem q_forEn {p : Addr} {xs : List V} {j1 j2 : Nat} {ta : TA} (h : EvA ta σ H [.ref p]) (hp : H p = some (.lst xs)) (Pv : Nat → L2.St → Hp → Prop) (h0 : ∀ H1, Ex H H1 → Pv 0 σ H1) (hl : ∀ i σ' H', Pv i σ' H' → H' p = some (.lst xs))
    (hs : ∀ (i : Nat) (x : V) T σ' H', xs[i]? = some x → Pv i σ' H' → H' T = none → tu { nx := Pv (i + 1), rt := D.rt, bk := tz D, ct := Pv (i + 1) } ((σ'.set j1 (some (.int (i : Int)))).set j2 (some x)) (upd H' T (.tup [.int (i : Int), x])))
    (hd : ∀ σ' H', Pv xs.length σ' H' → tz D σ' H') : tSeq (tFor (iEnum K ta) (gTup K 2 (gCons (gName j1) (gCons (gName j2) gNil))) tu) tz D σ H := h H (Ex.refl H) _ fun H1 e1 =>
  ⟨p, xs, rfl, .of (e1 p _ hp), for_it (walk_enum (K := K) (a := p)) Pv (h0 H1 e1) (fun i σ' H' _ c => .of (hl i σ' H' c)) (fun i v σ' H2 H3 hi c y => by
    obtain ⟨T, a, b, rfl, hT, rfl, ha, hb⟩ := y
    have ea : a = .int (i : Int) := (Option.some.inj ha).symm
    subst ea
    exact ⟨T, [_, b], rfl, .of upd_same, rfl, _, [b], rfl, b, [], rfl, rfl, hs i b T σ' H2 hb c hT⟩) (fun σ' H' c => hd σ' H' c)⟩
/-- a loop over a new list that changes no object -/
theorem q_forSL {xs : List V} {j : Nat} (h : EvL ta σ H xs) (Pw : Nat → L2.St → Prop) (h0 : Pw 0 σ)
    (hs : ∀ (i : Nat) (x : V) σ' H' H0, xs[i]? = some x → Pw i σ' → Ex H H' → Ex H0 H' → tu { nx := fun σ2 H2 => Ex H0 H2 ∧ Pw (i + 1) σ2, rt := D.rt, bk := tz D, ct := fun σ2 H2 => Ex H0 H2 ∧ Pw (i + 1) σ2 } (σ'.set j (some x)) H')
    (hd : ∀ σ' H', Pw xs.length σ' → Ex H H' → tz D σ' H') : tSeq (tFor (iList K ta) (gName j) tu) tz D σ H := h H (Ex.refl H) _ fun p H1 hp e1 kp =>
  ⟨p, rfl, ⟨xs, .of kp⟩, for_it (walk_list (K := K) (a := p)) (fun i σ' H' => Ex H1 H' ∧ Pw i σ') ⟨Ex.refl _, h0⟩ (fun i σ' H' _ c => .of (c.1 p _ kp)) (fun i v σ' H2 H3 hi c y => by
    obtain ⟨rfl, hx⟩ := y
    exact hs i v σ' _ H1 hx c.2 (e1.trans c.1) c.1) (fun σ' H' c => hd σ' H' c.2 (e1.trans c.1))⟩
end
end Ap


namespace Ap
open PySem PySem.Spec PyProof.Rows L2 Evl
/-- known words, at any places -/
structure Kv (w : Nat) (kv : List (Int × Int)) : Prop where
  nd : (keys kv).Nodup
  key : ∀ x, x ∈ keys kv → 0 ≤ x ∧ x < 2 ^ 64
  wd : ∀ q, q ∈ kv → 0 ≤ q.2 ∧ q.2 < 2 ^ w
  len : kv.length ≤ 1000
theorem keys_len (kv : List (Int × Int)) : (keys kv).length = kv.length := List.length_map _
def RetBased (w m : Nat) (kv : List (Int × Int)) (H : Hp) (Q : VK) : Prop := ∀ p q r s items H', H p = none → Ex H H' → H' p = some (.tup [.ref q, .ref r, .ref s]) → H' q = some (.lst (iL (goodRow (keys kv)).1)) → H' r = some (.lst (nL (goodRow (keys kv)).2)) → H' s = some (.lst (iL items)) →
  ItemsOk w m (goodRow (keys kv)).1 (wdOf kv) (goodRow (keys kv)).1.length items → (∀ x, x ∈ items → 0 ≤ x ∧ x < 2 ^ 64) → Q (.ref p) H'
def sp_based (K : PySem.W.Frag) : Sp := fun vs H Q _ => ∃ (w m : Nat) (b : Addr) (kv : List (Int × Int)), vs = [.int (w : Int), .int (m : Int), .ref b] ∧ 1 ≤ w ∧ w ≤ 64 ∧ Kn H b kv ∧ Kv w kv ∧ (∃ f, Fit w m kv f) ∧ RetBased w m kv H Q
theorem prd_lt {x : Int} (hx0 : 0 ≤ x) (hx : x < 2 ^ 64) : ∀ os : List Int, (∀ o, o ∈ os → 0 ≤ o ∧ o < 2 ^ 64) → (prd os x).natAbs < 2 ^ (64 * os.length + 1)
  | [], _ => by show (1 : Int).natAbs < 2 ^ 1; decide
  | o :: os, h => by
    have h1 := h o List.mem_cons_self
    have ih := prd_lt hx0 hx os fun p hp => h p (List.mem_cons_of_mem _ hp)
    have := wide_lt (sub_of hx0 hx h1.1 h1.2) ih
    rw [show 64 * (o :: os).length + 1 = 64 + (64 * os.length + 1) by rw [List.length_cons]; omega]
    exact this
theorem natAbs_dvd_le {a b : Int} (h : ∃ c, b = a * c) (hb : b ≠ 0) : a.natAbs ≤ b.natAbs := by
  obtain ⟨c, rfl⟩ := h
  have hc : c ≠ 0 := fun z => hb (by rw [z]; simp)
  rw [Int.natAbs_mul]
  exact Nat.le_mul_of_pos_right _ (by omega)
theorem mod_sub (a b m : Int) : (a - b % m) % m = (a - b) % m := by
  rw [Int.emod_eq_emod_iff_emod_sub_eq_zero]
  refine Int.emod_eq_zero_of_dvd ⟨b / m, ?_⟩
  have h2 := Int.mul_ediv_add_emod b m
  omega
/-- behind each turn of based -/
structure BsW (H H' : Hp) (w m : Nat) (kv : List (Int × Int)) (pd po pn pi : Addr) (i : Nat) (items : List Int) : Prop where
  ex : Ex H H'
  d : H' pd = some (.dK (dI kv))
  o : H' po = some (.lst (iL (goodRow (keys kv)).1))
  n : H' pn = some (.lst (nL (goodRow (keys kv)).2))
  l : H' pi = some (.lst (iL items))
  ok : ItemsOk w m (goodRow (keys kv)).1 (wdOf kv) i items
  b : ∀ x, x ∈ items → 0 ≤ x ∧ x < 2 ^ 64
theorem BsW.put {H H' : Hp} {w m : Nat} {kv : List (Int × Int)} {pd po pn pi : Addr} {i : Nat} {items : List Int} (W : BsW H H' w m kv pd po pn pi i items) {H2 : Hp} (e : Ex H' H2) : BsW H H2 w m kv pd po pn pi i items :=
  ⟨W.ex.trans e, e _ _ W.d, e _ _ W.o, e _ _ W.n, e _ _ W.l, W.ok, W.b⟩
theorem sc_based : FnScope ["width", "count", "known", "words", "place", "order", "numbers", "items", "at", "left", "product", "taken", "item", "_"] ["width", "count", "known"] (defScope sBased) := ⟨rfl, rfl, rfl, by decide +kernel, rfl, by decide +kernel, by decide +kernel⟩
theorem has_based {P : Program} {w : World} {K : PySem.W.Frag} {mg : Str → Option Value} {base : Heap} (T : Txt K mg) : Has P w K mg base "based" ["width", "count", "known"] 3 (sp_based K) := by
  refine Has.of T.gBased T.dBased (fun fd F => FunD.ok F sc_based (fun vs H Q E h => ?_) (fun cdv A outer s H vs Q E hr h => ?_)) fun _ _ _ _ _ _ us hl => match us, hl with | [_, _, _], _ => rfl
  · obtain ⟨w, m, b, kv, rfl, h0, h1, h2, h3, h4, k⟩ := h
    rfl
  · have hr : Room 2 _ := hr
    have h_item_of := has_item_of (P := P) (w := w) (base := base) T
    have h_word_of := has_word_of (P := P) (w := w) (base := base) T
    have h_power_of_two := has_power_of_two (P := P) (w := w) (base := base) T
    have h_good_row := has_good_row (P := P) (w := w) (base := base) T
    obtain ⟨w, m, b, kv, rfl, h0, h1, h2, h3, h4, k⟩ := h
    refine ⟨(tSeq (tAsg (tCB (rDictP K) (tCons (tVar 2) tNil)) (gName 3))
      (tSeq (tAsg (tCall _ [] E0 (tCons (tLc (iList K (tVar 2)) (gTup K 2 (gCons (gName 4) (gCons (gName 13) gNil))) tYes (tVar 4) [4, 13]) tNil)) (gTup K 2 (gCons (gName 5) (gCons (gName 6) gNil))))
      (tSeq (tAsg (tLst tNil) (gName 7))
      (tSeq (tFor (iEnum K (tCons (tVar 5) tNil)) (gTup K 2 (gCons (gName 8) (gCons (gName 4) gNil))) (tSeq (tAsg (tOp _ (tOp _ (tDGet (tVar 3) (tVar 4)) (tCall _ [] E0 (tCons (tVar 0) (tCons (tVar 5) (tCons (tVar 7) (tCons (tVar 4) tNil)))))) (tCall _ [] E0 (tCons (tVar 0) tNil))) (gName 9))
      (tSeq (tAsg (tC _) (gName 10))
      (tSeq (tFor (iList K (tSl (rSlL K) (tVar 5) tNoPart (tPart (tVar 8)))) (gName 11) (tAsg (tOp _ (tVar 10) (tOp _ (tVar 4) (tVar 11))) (gName 10)))
      (tSeq (tAsg (tCall _ [] E0 (tCons (tVar 0) (tCons (tIf (tTest (tOp _ (tVar 8) (tVar 1))) (tOp (rIxL K) (tVar 6) (tVar 8)) (tVar 0)) (tCons (tVar 10) (tCons (tVar 9) tNil))))) (gName 12))
      (tSeq (tIfS (tTest (tOp _ (tVar 12) (tC _))) tNever tNext)
      (tDrop (tBM K "list" rAppend (tVar 7) (tCons (tVar 12) tNil)))))))))
      (tRet (tTup (tCons (tVar 5) (tCons (tVar 6) (tCons (tVar 7) tNil))))))))), PSs.nox (pss_cons (ps_set (i := 3) sc_based.nd rfl (Or.inl rfl) (pe_callTy (call_dictP (by rfl)) (by rfl) T.z_dict (by decide +kernel) (pa_cons (pv 2) pa_nil)))
    (pss_cons (ps_asg (pe_has h_good_row (hr.mono (by decide)) (pa_cons (pe_lc (own := [("place", 4), ("_", 13)]) (g := (gTup K 2 (gCons (gName 4) (gCons (gName 13) gNil)))) (tt := tYes) (te := (tVar 4)) (by rfl) sc_based.nd (pi_list (pv 2)) (blkOk_by (own := [("place", 4), ("_", 13)]) (N := ["width", "count", "known", "words", "place", "order", "numbers", "items", "at", "left", "product", "taken", "item", "_"]) (sc := defScope sBased) (by decide +kernel)) (fun _ _ _ _ _ => (pg_tup (by rfl) (pgs_cons (pg_name (i := 4) sc_based.nd rfl (Or.inl rfl)) (pgs_cons (pg_name (i := 13) sc_based.nd rfl (Or.inl rfl)) pgs_nil)))) (fun _ _ _ _ _ => pts_nil) (fun _ _ _ _ _ => (pv 4))) pa_nil)) (pg_tup (by rfl) (pgs_cons (pg_name (i := 5) sc_based.nd rfl (Or.inl rfl)) (pgs_cons (pg_name (i := 6) sc_based.nd rfl (Or.inl rfl)) pgs_nil))))
    (pss_cons (ps_set (i := 7) sc_based.nd rfl (Or.inl rfl) (pe_lst pa_nil))
    (pss_cons (ps_for PassesOwn.never (by rfl) (pi_enum (by rfl) T.z_enumerate (pa_cons (pv 5) pa_nil)) (pg_tup (by rfl) (pgs_cons (pg_name (i := 8) sc_based.nd rfl (Or.inl rfl)) (pgs_cons (pg_name (i := 4) sc_based.nd rfl (Or.inl rfl)) pgs_nil))) (pss_cons (ps_set (i := 9) sc_based.nd rfl (Or.inl rfl) (pe_op op_mod (pe_op op_sub (pe_dget (hu_of hr) (pv 3) (pv 4) (fun _ _ => rfl)) (pe_has h_word_of (hr.mono (by decide)) (pa_cons (pv 0) (pa_cons (pv 5) (pa_cons (pv 7) (pa_cons (pv 4) pa_nil)))))) (pe_has h_power_of_two (hr.mono (by decide)) (pa_cons (pv 0) pa_nil))))
    (pss_cons (ps_set (i := 10) sc_based.nd rfl (Or.inl rfl) pe_int)
    (pss_cons (ps_for PassesOwn.never (by rfl) (pi_list (pe_slice sl_list (pv 5) po_none (po_some (pv 8)))) (pg_name (i := 11) sc_based.nd rfl (Or.inl rfl)) (pss_one (ps_set (i := 10) sc_based.nd rfl (Or.inl rfl) (pe_op op_mulX (pv 10) (pe_op op_sub (pv 4) (pv 11))))))
    (pss_cons (ps_set (i := 12) sc_based.nd rfl (Or.inl rfl) (pe_has h_item_of (hr.mono (by decide)) (pa_cons (pv 0) (pa_cons (pe_ifExp (pt_cmpR op_lt (pv 8) (pv 1) (nomark _)) (pe_ix ix_list (pv 6) (pv 8) (fun _ _ => rfl)) (pv 0)) (pa_cons (pv 10) (pa_cons (pv 9) pa_nil))))))
    (pss_cons (ps_if (pt_cmpR op_isN (pv 12) pe_non (nomark _)) pss_never pss_nil)
    (pss_one (ps_expr (pe_bm PySem.F.plainAttrs_list PySem.F.slot_list_append PySem.F.type_list_append mt_append (pv 7) (pa_cons (pv 12) pa_nil))))))))))
    (pss_one (ps_ret (pe_tup (pa_cons (pv 5) (pa_cons (pv 6) (pa_cons (pv 7) pa_nil)))))))))), ?_⟩
    obtain ⟨f, hf⟩ := h4
    have hS := h3.nd
    have hSl : (keys kv).length ≤ 1000 := by rw [keys_len]; exact h3.len
    have G := goodRow_good hS
    have hmem := goodRow_mem hS
    obtain ⟨l1, l2⟩ := goodRow_len hS
    have hw64 := pw_le h1
    have hpw := two_pos w
    refine q_dict (ev_var rfl) h2 hS fun pd H1 hpd e1 kd => ?_
    have h2' := h2.mono e1
    refine q_grL (S := keys kv) (el_is (el_lcK (fun _ => true) (fun i => .int (kv.getD i (0, 0)).1) (ev_var rfl) h2' (by have := h3.len; omega) (fun _ _ => rfl) (fun i q H2 e2 hq => et_yes) (fun i q H2 e2 hq _ => by rw [List.getD_eq_getElem?_getD, hq]; exact ev_var rfl)) (given_keys kv)) hS hSl fun po pn H2 hpo hpn hopn e2 ko kn => ?_
    refine q_asgL el_nil fun pi H3 hpi e3 ki => ?_
    have hd3 := e3 _ _ (e2 _ _ kd)
    have ho3 := e3 _ _ ko
    have hn3 := e3 _ _ kn
    have X3 := (e1.trans e2).trans e3
    have nd : pd ≠ pi := ne_of_none (e2 _ _ kd) hpi
    have no : po ≠ pi := ne_of_none ko hpi
    have nn : pn ≠ pi := ne_of_none kn hpi
    have hpi0 : H pi = none := fresh_back (e1.trans e2) hpi
    refine q_forEn (xs := iL (goodRow (keys kv)).1) (ea_cons (ev_var rfl) ea_nil) ho3
      (fun i σ' H' => ∃ (items : List Int) (y4 y8 y9 y10 y11 y12 : Option V), σ' = [some (.int (w : Int)), some (.int (m : Int)), some (.ref b), some (.ref pd), y4, some (.ref po), some (.ref pn), some (.ref pi), y8, y9, y10, y11, y12, none] ∧ BsW H H' w m kv pd po pn pi i items)
      (fun H4 e4 => ⟨[], none, none, none, none, none, none, rfl, X3.trans e4, e4 _ _ hd3, e4 _ _ ho3, e4 _ _ hn3, e4 _ _ ki, items_nil .., fun x hx => by cases hx⟩) (fun i σ' H' ⟨_, _, _, _, _, _, _, _, W⟩ => W.o) ?_ ?_
    · rintro i x T σ' H' hx ⟨items, y4, y8, y9, y10, y11, y12, rfl, W⟩ hT
      obtain ⟨a, ha, rfl⟩ := iL_of hx
      have W := W.put (Ex.new (o := .tup [.int (i : Int), .int a]) hT)
      generalize upd H' T (.tup [.int (i : Int), .int a]) = H5 at W ⊢
      have hi := (List.getElem?_eq_some_iff.mp ha).1
      have hak : a ∈ keys kv := (hmem a).mp (List.mem_of_getElem? ha)
      have hab := h3.key a hak
      have hob : ∀ x, x ∈ (goodRow (keys kv)).1 → 0 ≤ x ∧ x < 2 ^ 64 := fun x hx => h3.key x ((hmem x).mp hx)
      have hfv : ∀ b, b ∈ (goodRow (keys kv)).1 → (2 : Int) ^ w ∣ ev f b - wdOf kv b := fun b hb => hf.2 _ (wd_key hS ((hmem b).mp hb))
      obtain ⟨o, u, ho, hu, uo, hdv⟩ := item_lack (k := i) (a := a) G hf.1 hfv W.ok ha
      have hpl := prd_lt hab.1 hab.2 ((goodRow (keys kv)).1.take i) fun x hx => hob x (List.mem_of_mem_take hx)
      have hlk : ((goodRow (keys kv)).1.take i).length = i := by rw [List.length_take]; omega
      have hub : u.natAbs < 2 ^ 100000 := by
        have hp0 := two_pos o
        have hu0 : u ≠ 0 := fun z => by rw [z] at uo; omega
        have hne : prd ((goodRow (keys kv)).1.take i) a ≠ 0 := by
          rw [hu]; intro z
          rcases Int.mul_eq_zero.mp z with z | z
          · omega
          · exact hu0 z
        have := natAbs_dvd_le (a := u) (b := prd ((goodRow (keys kv)).1.take i) a) ⟨2 ^ o, by rw [hu]; exact Int.mul_comm _ _⟩ hne
        have h5 : (2 : Nat) ^ (64 * ((goodRow (keys kv)).1.take i).length + 1) ≤ 2 ^ 100000 := Nat.pow_le_pow_right (by decide) (by rw [hlk]; omega)
        exact Nat.lt_of_le_of_lt this (Nat.lt_of_lt_of_le hpl h5)
      have L0 := Int.emod_nonneg (wdOf kv a - nw items (goodRow (keys kv)).1 a) (show (2 : Int) ^ w ≠ 0 by omega)
      have L1 := Int.emod_lt_of_pos (wdOf kv a - nw items (goodRow (keys kv)).1 a) hpw
      have Ldv : ∀ t, t ≤ w → (2 : Int) ^ t ∣ wdOf kv a - nw items (goodRow (keys kv)).1 a → (2 : Int) ^ t ∣ (wdOf kv a - nw items (goodRow (keys kv)).1 a) % 2 ^ w := fun t ht hd => by
        have h5 := Int.mul_ediv_add_emod (wdOf kv a - nw items (goodRow (keys kv)).1 a) (2 ^ w)
        have h6 : (2 : Int) ^ t ∣ 2 ^ w * ((wdOf kv a - nw items (goodRow (keys kv)).1 a) / 2 ^ w) := Int.dvd_trans (pow_dvd ht) (Int.dvd_mul_right _ _)
        have h7 : (wdOf kv a - nw items (goodRow (keys kv)).1 a) % 2 ^ w = (wdOf kv a - nw items (goodRow (keys kv)).1 a) - 2 ^ w * ((wdOf kv a - nw items (goodRow (keys kv)).1 a) / 2 ^ w) := by omega
        rw [h7]
        exact Int.dvd_sub hd h6
      have hil := W.ok.len
      -- left
      refine q_asg (v := .int ((wdOf kv a - nw items (goodRow (keys kv)).1 a) % 2 ^ w)) (ev_is (ev_op (ev_op (ev_dget (ev_var rfl) (ev_var rfl) W.d hS hak) (ev_call (ea_cons (ev_var rfl) (ea_cons (ev_var rfl) (ea_cons (ev_var rfl) (ea_cons (ev_var rfl) ea_nil)))) (sv_word_of h0 h1 W.o W.l (by omega) (by omega) hob W.b hab.1 hab.2)) rv_I0) (ev_call (ea_cons (ev_var rfl) ea_nil) (sv_power_of_two (by omega))) (rv_I hpw)) (by rw [mod_sub])) fun H6 e6 => ?_
      have W := W.put e6
      refine q_asg (v := .int 1) ev_c fun H7 e7 => ?_
      have W := W.put e7
      -- product
      refine q_forSL (xs := iL ((goodRow (keys kv)).1.take i)) (el_is (el_sl (ev_var rfl) eo_none (eo_some (ev_var rfl)) (.of W.o)) (by rw [cut_take, iL_take]))
        (fun j σ => ∃ y11, σ = [some (.int (w : Int)), some (.int (m : Int)), some (.ref b), some (.ref pd), some (.int a), some (.ref po), some (.ref pn), some (.ref pi), some (.int (i : Int)), some (.int ((wdOf kv a - nw items (goodRow (keys kv)).1 a) % 2 ^ w)), some (.int (prd (((goodRow (keys kv)).1.take i).take j) a)), y11, y12, none]) ⟨y11, rfl⟩ ?_ ?_
      · rintro j x σ8 H8 H0 hx ⟨y11, rfl⟩ e8 e8'
        obtain ⟨ta, hta, rfl⟩ := iL_of hx
        have hj := (List.getElem?_eq_some_iff.mp hta).1
        have hb := hob ta (List.mem_of_mem_take (List.mem_of_getElem? hta))
        have hpj := prd_lt hab.1 hab.2 (((goodRow (keys kv)).1.take i).take j) fun x hx => hob x (List.mem_of_mem_take (List.mem_of_mem_take hx))
        have hlj : (((goodRow (keys kv)).1.take i).take j).length ≤ 1000 := by rw [List.length_take, hlk]; omega
        have ep : prd (((goodRow (keys kv)).1.take i).take (j + 1)) a = prd (((goodRow (keys kv)).1.take i).take j) a * (a - ta) := by
          rw [List.take_add_one (l := (goodRow (keys kv)).1.take i), hta]
          exact prd_snoc _ _ _
        refine s_asg (v := .int (prd (((goodRow (keys kv)).1.take i).take (j + 1)) a)) (ev_is (ev_op (ev_var rfl) (ev_op (ev_var rfl) (ev_var rfl) rv_I0) (rv_I (mulx_ok hpj (sub_of hab.1 hab.2 hb.1 hb.2) (by omega)))) (by rw [ep])) fun H9 e9 => ?_
        exact ⟨e8'.trans e9, some (.int ta), rfl⟩
      rintro σ8 H8 ⟨y11, rfl⟩ e8
      have W := W.put e8
      rw [iL_len, List.take_length]
      -- item
      have en : Ev (tIf (tTest (tOp (rI0 fun i j => .bl (decide (i < j))) (tVar 8) (tVar 1))) (tOp (rIxL K) (tVar 6) (tVar 8)) (tVar 0)) [some (.int (w : Int)), some (.int (m : Int)), some (.ref b), some (.ref pd), some (.int a), some (.ref po), some (.ref pn), some (.ref pi), some (.int (i : Int)), some (.int ((wdOf kv a - nw items (goodRow (keys kv)).1 a) % 2 ^ w)), some (.int (prd ((goodRow (keys kv)).1.take i) a)), y11, y12, none] H8 (.int ((if i < m then o else w : Nat) : Int)) := by
        refine ev_if (b := decide (i < m)) (et_test (ev_is (ev_op (ev_var rfl) (ev_var rfl) rv_I0) (by congr 1; simp))) (fun hb => ?_) (fun hb => ?_)
        · rw [if_pos (of_decide_eq_true hb)]
          exact ev_op (ev_var rfl) (ev_var rfl) (rv_ixL (.of W.n) (atI_nat (nL_get ho)))
        · rw [if_neg (of_decide_eq_false hb)]
          exact ev_var rfl
      refine q_asgR (er_call (ea_cons (ev_var rfl) (ea_cons en (ea_cons (ev_var rfl) (ea_cons (ev_var rfl) ea_nil)))) (sr_item_of (u := u) h1 (Ldv _ (Nat.min_le_left _ _) hdv) (fun hlt => ?_) L0 (by omega))) fun v H9 hv e9 => ?_
      · have him : i < m := by by_cases him : i < m; exact him; rw [if_neg him] at hlt; omega
        rw [if_pos him]
        exact ⟨hu, uo, hub⟩
      have W := W.put e9
      have hvi : ∃ d : Int, v = .int d ∧ 0 ≤ d ∧ d < 2 ^ 64 ∧ (m ≤ i → d = 0) ∧ (2 : Int) ^ w ∣ nw items (goodRow (keys kv)).1 a + d * prd ((goodRow (keys kv)).1.take i) a - wdOf kv a := by
        rcases hv with ⟨hn, rfl⟩ | ⟨hn, x, hx, rfl⟩
        · refine ⟨0, rfl, by omega, by decide, fun _ => rfl, ?_⟩
          rw [Nat.min_eq_left hn] at hdv
          have := Int.dvd_neg.mpr hdv
          rw [show nw items (goodRow (keys kv)).1 a + 0 * prd ((goodRow (keys kv)).1.take i) a - wdOf kv a = -(wdOf kv a - nw items (goodRow (keys kv)).1 a) by omega]
          exact this
        · have him : i < m := by by_cases him : i < m; exact him; rw [if_neg him] at hn; omega
          rw [if_pos him] at hn hx hdv ⊢
          rw [Nat.min_eq_right (by omega)] at hdv
          have hpo := two_pos (w - o)
          have d0 := Int.emod_nonneg ((wdOf kv a - nw items (goodRow (keys kv)).1 a) % 2 ^ w / 2 ^ o * x) (show (2 : Int) ^ (w - o) ≠ 0 by omega)
          have d1 := Int.emod_lt_of_pos ((wdOf kv a - nw items (goodRow (keys kv)).1 a) % 2 ^ w / 2 ^ o * x) hpo
          have d2 := pw_le (show w - o ≤ 64 by omega)
          refine ⟨_, rfl, d0, by omega, fun z => by omega, ?_⟩
          have hmk := item_make hn (Ldv o (by omega) hdv) uo hx rfl
          rw [hu]
          have h5 := Int.mul_ediv_add_emod (wdOf kv a - nw items (goodRow (keys kv)).1 a) (2 ^ w)
          have h6 : (2 : Int) ^ w ∣ 2 ^ w * ((wdOf kv a - nw items (goodRow (keys kv)).1 a) / 2 ^ w) := Int.dvd_mul_right _ _
          generalize hD : (wdOf kv a - nw items (goodRow (keys kv)).1 a) % 2 ^ w / 2 ^ o * x % 2 ^ (w - o) = D at *
          have h7 : nw items (goodRow (keys kv)).1 a + D * (2 ^ o * u) - wdOf kv a = (D * (2 ^ o * u) - (wdOf kv a - nw items (goodRow (keys kv)).1 a) % 2 ^ w) - 2 ^ w * ((wdOf kv a - nw items (goodRow (keys kv)).1 a) / 2 ^ w) := by omega
          rw [h7]
          exact Int.dvd_sub hmk h6
      obtain ⟨d, rfl, d0, d1, d2, d3⟩ := hvi
      refine q_when (b := false) (et_test (ev_is (ev_op (ev_var rfl) ev_c rv_isN) rfl)) (fun h => by cases h) fun _ H10 e10 => ?_
      have W := W.put e10
      refine s_app (v := .int d) W.l (ev_var rfl) (ev_var rfl) (by rw [iL_len, hil]; omega) fun H11 e11 => ?_
      have W := W.put e11
      refine ⟨items ++ [d], some (.int a), _, _, _, _, _, rfl, W.ex.mut hpi0, by rw [upd_ne nd]; exact W.d, by rw [upd_ne no]; exact W.o, by rw [upd_ne nn]; exact W.n, by rw [iL_app]; exact upd_same, item_next W.ok ha d2 d3, fun x hx => ?_⟩
      rcases List.mem_append.mp hx with hx | hx
      · exact W.b x hx
      · rw [List.mem_singleton.mp hx]; exact ⟨d0, d1⟩
    · rintro σ' H' ⟨items, y4, y8, y9, y10, y11, y12, rfl, W⟩
      rw [iL_len] at W
      refine s_retU (eu_tup (ea_cons (ev_var rfl) (ea_cons (ev_var rfl) (ea_cons (ev_var rfl) ea_nil))) (by show 3 ≤ 100000; decide)) fun p H4 hp e4 h4 => ?_
      have W2 := W.put e4
      exact k p po pn pi items H4 (fresh_back W.ex hp) W2.ex h4 W2.o W2.n W2.l W2.ok W2.b

end Ap


namespace Ap
open PySem PySem.Spec PyProof.Rows L2 Evl
/-- an answer that is a list of pairs -/
def EvK (te : TE) (σ : L2.St) (H : Hp) (P : List (Int × Int) → Prop) : Prop := ∀ H1, Ex H H1 → ∀ Q : VK, (∀ b kv H2, Ex H1 H2 → Kn H2 b kv → P kv → Q (.ref b) H2) → te σ H1 Q
def pairAt (H : Hp) : V → Int × Int
  | .ref t => match H t with
    | some (.tup [.int i, .int j]) => (i, j)
    | _ => (0, 0)
  | _ => (0, 0)
def refOf : V → Addr
  | .ref t => t
  | _ => 0
theorem pairAt_of {H : Hp} {t : Addr} {i j : Int} (h : H t = some (.tup [.int i, .int j])) : pairAt H (.ref t) = (i, j) := by
  simp only [pairAt, h]
theorem refs_back : ∀ {ys : List V}, (∀ y, y ∈ ys → ∃ t, y = .ref t) → (ys.map refOf).map V.ref = ys
  | [], _ => rfl
  | y :: ys, h => by
    obtain ⟨t, e⟩ := h y List.mem_cons_self
    subst e
    rw [List.map_cons, List.map_cons, refs_back fun z hz => h z (List.mem_cons_of_mem _ hz)]
    rfl
section
variable {K : PySem.W.Frag} {σ : L2.St} {H H' : Hp} {ta tb te tx tc td : TE} {t u : TT} {x y z v : V} {D : Ends} {tu tw tz : TS} {g : TG}
theorem Kn.pairs {a : Addr} {kv : List (Int × Int)} (h : Kn H a kv) : ∃ ts : List Addr, H a = some (.lst (ts.map V.ref)) ∧ (∀ t, t ∈ ts → ∃ i j, H t = some (.tup [.int i, .int j])) ∧ (ts.map V.ref).map (pairAt H) = kv := by
  obtain ⟨ts, h1, h2, h3⟩ := h
  refine ⟨ts, h1, fun t ht => ?_, ?_⟩
  · obtain ⟨i, hi⟩ := List.mem_iff_getElem?.mp ht
    have hlt := (List.getElem?_eq_some_iff.mp hi).1
    exact ⟨_, _, h3 i t _ hi (List.getElem?_eq_getElem (by omega))⟩
  · apply List.ext_getElem?
    intro i
    rw [List.getElem?_map, List.getElem?_map]
    by_cases hi : i < ts.length
    · have e1 := List.getElem?_eq_getElem hi
      have e2 := List.getElem?_eq_getElem (show i < kv.length by omega)
      rw [e1, e2]
      have := pairAt_of (h3 i _ _ e1 e2)
      simp only [Option.map_some, this]
    · rw [List.getElem?_eq_none (by omega), List.getElem?_eq_none (by omega)]; rfl
theorem Kn.of_pairs {a : Addr} {ts : List Addr} (h1 : H a = some (.lst (ts.map V.ref))) (h2 : ∀ t, t ∈ ts → ∃ i j, H t = some (.tup [.int i, .int j])) : Kn H a ((ts.map V.ref).map (pairAt H)) :=
  ⟨ts, h1, by simp, fun i t q ht hq => by
    rw [List.getElem?_map, List.getElem?_map, ht] at hq
    obtain ⟨n, k, e⟩ := h2 t (List.mem_of_getElem? ht)
    have : pairAt H (.ref t) = q := by simpa using hq
    rw [pairAt_of e] at this
    subst this
    exact e⟩
theorem lexB_le {p q : Int × Int} (h : SrtO.lexB q p = false) : p.1 ≤ q.1 := by
  by_cases e : q.1 < p.1
  · have := SrtO.lexB_iff.mpr (Or.inl e)
    rw [h] at this
    cases this
  · omega
theorem ek_sorted {P : List (Int × Int) → Prop} (h : EvK te σ H P) : EvK (tCB (rSortedPO K) (tCons te tNil)) σ H (fun kv' => ∃ kv, P kv ∧ kv'.Perm kv ∧ (keys kv').Pairwise (· ≤ ·)) := fun H1 e Q q =>
  h H1 e _ fun b kv H2 e2 hb p => by
    obtain ⟨ts, k1, k2, k3⟩ := hb.pairs
    refine ⟨b, ts.map V.ref, pairAt H2, rfl, .of k1, fun x hx => ?_, fun ys a hs hst ha => ?_⟩
    · obtain ⟨t, ht, rfl⟩ := List.mem_map.mp hx
      obtain ⟨i, j, e3⟩ := k2 t ht
      exact ⟨t, rfl, by rw [pairAt_of e3]; exact e3⟩
    · have hp := hst.perm
      have hr : (ys.map refOf).map V.ref = ys := refs_back fun y hy => by
        obtain ⟨t, _, e⟩ := List.mem_map.mp (hp.mem_iff.mp hy)
        exact ⟨t, e.symm⟩
      have hm : ∀ t, t ∈ ys.map refOf → t ∈ ts := fun t ht => by
        have : V.ref t ∈ ys := by rw [← hr]; exact List.mem_map.mpr ⟨t, ht, rfl⟩
        obtain ⟨t', h1, h2⟩ := List.mem_map.mp (hp.mem_iff.mp this)
        cases h2; exact h1
      have e3 : Ex H2 (upd H2 a (.lst ys)) := Ex.new ha
      have hk : Kn (upd H2 a (.lst ys)) a (((ys.map refOf).map V.ref).map (pairAt (upd H2 a (.lst ys)))) := Kn.of_pairs (by rw [hr]; exact upd_same) fun t ht => by
        obtain ⟨i, j, e4⟩ := k2 t (hm t ht)
        exact ⟨i, j, e3 t _ e4⟩
      rw [hr] at hk
      have hpa : ys.map (pairAt (upd H2 a (.lst ys))) = ys.map (pairAt H2) := by
        apply List.map_congr_left
        intro y hy
        obtain ⟨t, ht, e⟩ := List.mem_map.mp (hp.mem_iff.mp hy)
        subst e
        obtain ⟨i, j, e4⟩ := k2 t ht
        rw [pairAt_of e4, pairAt_of (e3 t _ e4)]
      rw [hpa] at hk
      refine q a _ _ (e2.trans e3) hk ⟨kv, p, ?_, ?_⟩
      · rw [← k3]
        exact hp.map _
      · unfold keys
        rw [List.map_map]
        refine List.pairwise_map.mpr (hs.imp fun {x y} hxy => lexB_le hxy)
theorem ek_items {d : Addr} {kv : List (Int × Int)} (hd : Ev td σ H (.ref d)) (h : H d = some (.dK (dI kv))) : EvK (LiI.tListItems td) σ H (fun kv' => kv' = kv) := fun H1 e Q q =>
  hd H1 e _ fun H2 e2 => ⟨d, dI kv, rfl, e2 d _ (e d _ h), fun H' p ts e3 hp hts _ k1 k2 => q p kv H' (e2.trans e3) ⟨ts, k1, by have := Paired.length k2; rw [dI_len] at this; exact this, fun i t r ht hr => by
    have hr' : (dI kv)[i]? = some (Sum.inl r.1, V.int r.2) := by unfold dI; rw [List.getElem?_map, hr]; rfl
    obtain ⟨y, hy, hF⟩ := LiI.paired_get k2 ht
    rw [hr'] at hy
    cases hy
    exact hF⟩ rfl⟩
theorem le_lt {l : List Int} (h : l.Pairwise (· ≤ ·)) (hn : l.Nodup) : l.Pairwise (· < ·) := by
  have := h.and hn
  exact this.imp fun {a b} hab => by have := hab.1; have := hab.2; omega
theorem ev_call3L {sp : Sp} {E : XK} {xs : List V} {x1 x3 : V} (h1 : Ev ta σ H x1) (h2 : EvL tb σ H xs) (h3 : Ev tc σ H x3) (hs : ∀ p H1, Ex H H1 → H1 p = some (.lst xs) → SpV sp [x1, .ref p, x3] H1 z) : Ev (tCall sp [] E (tCons ta (tCons tb (tCons tc tNil)))) σ H z := fun H1 e Q q =>
  h1 H1 e _ fun H2 e2 => h2 H2 (e.trans e2) _ fun p H3 hp e3 k3 => h3 H3 ((e.trans e2).trans e3) _ fun H4 e4 => hs p H4 (((e.trans e2).trans e3).trans e4) (e4 p _ k3) H4 (Ex.refl H4) Q (fun H5 e5 => q H5 (((e2.trans e3).trans e4).trans e5)) E
end
theorem keys_perm {kv kv' : List (Int × Int)} (h : kv'.Perm kv) : (keys kv').Perm (keys kv) := h.map _
theorem Kv.perm {w : Nat} {kv kv' : List (Int × Int)} (h : Kv w kv) (p : kv'.Perm kv) : Kv w kv' :=
  ⟨(keys_perm p).nodup_iff.mpr h.nd, fun x hx => h.key x ((keys_perm p).mem_iff.mp hx), fun q hq => h.wd q (p.mem_iff.mp hq), by rw [p.length_eq]; exact h.len⟩
/-! ### many_fit -/
def sp_many_fit (K : PySem.W.Frag) : Sp := fun vs H Q _ => ∃ (w : Nat) (a : Addr) (S : List Int) (m : Nat) (b : Addr) (kv : List (Int × Int)), vs = [.int (w : Int), .ref a, .int (m : Int), .ref b] ∧ H a = some (.lst (iL S)) ∧ S.Nodup ∧ S.length ≤ 1000 ∧ Kn H b kv ∧ (keys kv).Nodup ∧ kv.length ≤ 1000 ∧ (∀ x, x ∈ keys kv → x ∈ S) ∧ w ≤ 64 ∧ m ≤ 100 ∧
  RetV (.int (2 ^ (Amt w m S - Amt w m (keys kv)))) H Q
theorem sv_many_fit {K : PySem.W.Frag} {H : Hp} {w m : Nat} {a b : Addr} {S : List Int} {kv : List (Int × Int)} (h1 : H a = some (.lst (iL S))) (h2 : S.Nodup) (h3 : S.length ≤ 1000) (h4 : Kn H b kv) (h5 : (keys kv).Nodup) (h6 : kv.length ≤ 1000) (h7 : ∀ x, x ∈ keys kv → x ∈ S) (h8 : w ≤ 64) (h9 : m ≤ 100) :
    SpV (sp_many_fit K) [.int (w : Int), .ref a, .int (m : Int), .ref b] H (.int (2 ^ (Amt w m S - Amt w m (keys kv)))) := fun H1 e Q q _ => ⟨w, a, S, m, b, kv, rfl, e a _ h1, h2, h3, h4.mono e, h5, h6, h7, h8, h9, q⟩
theorem Amt_le (w m : Nat) (S : List Int) : Amt w m S ≤ w * m := amt_le ..
theorem sc_many_fit : FnScope ["width", "places", "count", "known", "place", "_"] ["width", "places", "count", "known"] (defScope sManyFit) := ⟨rfl, rfl, rfl, by decide +kernel, rfl, by decide +kernel, by decide +kernel⟩
theorem has_many_fit {P : Program} {w : World} {K : PySem.W.Frag} {mg : Str → Option Value} {base : Heap} (T : Txt K mg) : Has P w K mg base "many_fit" ["width", "places", "count", "known"] 4 (sp_many_fit K) := by
  refine Has.of T.gManyFit T.dManyFit (fun fd F => FunD.ok F sc_many_fit (fun vs H Q E h => ?_) (fun cdv A outer s H vs Q E hr h => ?_)) fun _ _ _ _ _ _ us hl => match us, hl with | [_, _, _, _], _ => rfl
  · obtain ⟨w, a, S, m, b, kv, rfl, h1, h2, h3, h4, h5, h6, h7, h8, h9, k⟩ := h
    rfl
  · have hr : Room 3 _ := hr
    have h_power_of_two := has_power_of_two (P := P) (w := w) (base := base) T
    have h_amount := has_amount (P := P) (w := w) (base := base) T
    obtain ⟨w, a, S, m, b, kv, rfl, h1, h2, h3, h4, h5, h6, h7, h8, h9, k⟩ := h
    refine ⟨(tRet (tCall _ [] E0 (tCons (tOp _ (tCall _ [] E0 (tCons (tVar 0) (tCons (tVar 1) (tCons (tVar 2) tNil)))) (tCall _ [] E0 (tCons (tVar 0) (tCons (tLc (iList K (tVar 3)) (gTup K 2 (gCons (gName 4) (gCons (gName 5) gNil))) tYes (tVar 4) [4, 5]) (tCons (tVar 2) tNil))))) tNil))), PSs.nox (pss_one (ps_ret (pe_has h_power_of_two (hr.mono (by decide)) (pa_cons (pe_op op_sub (pe_has h_amount (hr.mono (by decide)) (pa_cons (pv 0) (pa_cons (pv 1) (pa_cons (pv 2) pa_nil)))) (pe_has h_amount (hr.mono (by decide)) (pa_cons (pv 0) (pa_cons (pe_lc (own := [("place", 4), ("_", 5)]) (g := (gTup K 2 (gCons (gName 4) (gCons (gName 5) gNil)))) (tt := tYes) (te := (tVar 4)) (by rfl) sc_many_fit.nd (pi_list (pv 3)) (blkOk_by (own := [("place", 4), ("_", 5)]) (N := ["width", "places", "count", "known", "place", "_"]) (sc := defScope sManyFit) (by decide +kernel)) (fun _ _ _ _ _ => (pg_tup (by rfl) (pgs_cons (pg_name (i := 4) sc_many_fit.nd rfl (Or.inl rfl)) (pgs_cons (pg_name (i := 5) sc_many_fit.nd rfl (Or.inl rfl)) pgs_nil)))) (fun _ _ _ _ _ => pts_nil) (fun _ _ _ _ _ => (pv 4))) (pa_cons (pv 2) pa_nil))))) pa_nil)))), ?_⟩
    have hle : Amt w m S ≤ 64 * 100 := Nat.le_trans (Amt_le w m S) (Nat.mul_le_mul h8 h9)
    have hmono := Amt_mono (w := w) (m := m) h5 h2 h7
    refine s_ret (v := .int (2 ^ (Amt w m S - Amt w m (keys kv)))) (ev_call (ea_cons (ev_is (ev_op (ev_call (ea_cons (ev_var rfl) (ea_cons (ev_var rfl) (ea_cons (ev_var rfl) ea_nil))) (sv_amount h1 h2 h3)) (ev_call3L (ev_var rfl) (el_is (el_lcK (fun _ => true) (fun i => .int (kv.getD i (0, 0)).1) (ev_var rfl) h4 (by omega) (fun _ _ => rfl) (fun i q H2 e2 hq => et_yes) (fun i q H2 e2 hq _ => ?_)) (given_keys kv)) (ev_var rfl) fun p H1 e1 hp => sv_amount (w := w) (m := m) hp h5 (by rw [keys_len]; exact h6)) rv_I0) ?_) ea_nil) (sv_power_of_two (n := Amt w m S - Amt w m (keys kv)) (by omega))) k
    · rw [List.getD_eq_getElem?_getD, hq]; exact ev_var rfl
    · congr 1; omega

def sp_is_fit (K : PySem.W.Frag) : Sp := fun vs H Q _ => ∃ (w m : Nat) (b : Addr) (kv : List (Int × Int)), vs = [.int (w : Int), .int (m : Int), .ref b] ∧ 1 ≤ w ∧ w ≤ 64 ∧ Kn H b kv ∧ Kv w kv ∧ (∃ f, Fit w m kv f) ∧ RetV (.bl true) H Q
theorem sv_is_fit {K : PySem.W.Frag} {H : Hp} {w m : Nat} {b : Addr} {kv : List (Int × Int)} (h0 : 1 ≤ w) (h1 : w ≤ 64) (h2 : Kn H b kv) (h3 : Kv w kv) (h4 : ∃ f, Fit w m kv f) : SpV (sp_is_fit K) [.int (w : Int), .int (m : Int), .ref b] H (.bl true) := fun H1 e Q q _ => ⟨w, m, b, kv, rfl, h0, h1, h2.mono e, h3, h4, q⟩
theorem sc_is_fit : FnScope ["width", "count", "known"] ["width", "count", "known"] (defScope sIsFit) := ⟨rfl, rfl, rfl, by decide +kernel, rfl, by decide +kernel, by decide +kernel⟩
theorem has_is_fit {P : Program} {w : World} {K : PySem.W.Frag} {mg : Str → Option Value} {base : Heap} (T : Txt K mg) : Has P w K mg base "is_fit" ["width", "count", "known"] 4 (sp_is_fit K) := by
  refine Has.of T.gIsFit T.dIsFit (fun fd F => FunD.ok F sc_is_fit (fun vs H Q E h => ?_) (fun cdv A outer s H vs Q E hr h => ?_)) fun _ _ _ _ _ _ us hl => match us, hl with | [_, _, _], _ => rfl
  · obtain ⟨w, m, b, kv, rfl, h0, h1, h2, h3, h4, k⟩ := h
    rfl
  · have hr : Room 3 _ := hr
    have h_based := has_based (P := P) (w := w) (base := base) T
    obtain ⟨w, m, b, kv, rfl, h0, h1, h2, h3, h4, k⟩ := h
    refine ⟨(tSeq (tDrop (tCall _ [] E0 (tCons (tVar 0) (tCons (tVar 1) (tCons (tVar 2) tNil)))))
      (tRet (tC _))), PSs.nox (pss_cons (ps_try_thru0 (pss_one (ps_expr (pe_has h_based (hr.mono (by decide)) (pa_cons (pv 0) (pa_cons (pv 1) (pa_cons (pv 2) pa_nil)))))))
    (pss_one (ps_ret pe_bl))), ?_⟩
    refine ⟨_, rfl, _, rfl, _, rfl, w, m, b, kv, rfl, h0, h1, h2, h3, h4, fun p q r s items H' hp e _ _ _ _ _ _ => ?_⟩
    exact k.go e

/-! ### the word that can stand -/
def RetPair (a b : Int) (H : Hp) (Q : VK) : Prop := ∀ t H', H t = none → Ex H H' → H' t = some (.tup [.int a, .int b]) → Q (.ref t) H'
def sp_word_possible (K : PySem.W.Frag) : Sp := fun vs H Q _ => ∃ (w m : Nat) (b : Addr) (kv : List (Int × Int)) (p : Int) (f : List Int), vs = [.int (w : Int), .int (m : Int), .ref b, .int p] ∧ 1 ≤ w ∧ w ≤ 64 ∧ Kn H b kv ∧ Kv w kv ∧ Fit w m kv f ∧ 0 ≤ p ∧ p < 2 ^ 64 ∧
  RetPair (ev f p % 2 ^ Bits w m (keys kv) p) (Bits w m (keys kv) p : Nat) H Q
theorem sc_word_possible : FnScope ["width", "count", "known", "place", "order", "numbers", "items", "bits"] ["width", "count", "known", "place"] (defScope sWordPossible) := ⟨rfl, rfl, rfl, by decide +kernel, rfl, by decide +kernel, by decide +kernel⟩
theorem has_word_possible {P : Program} {w : World} {K : PySem.W.Frag} {mg : Str → Option Value} {base : Heap} (T : Txt K mg) : Has P w K mg base "word_possible" ["width", "count", "known", "place"] 4 (sp_word_possible K) := by
  refine Has.of T.gWordPossible T.dWordPossible (fun fd F => FunD.ok F sc_word_possible (fun vs H Q E h => ?_) (fun cdv A outer s H vs Q E hr h => ?_)) fun _ _ _ _ _ _ us hl => match us, hl with | [_, _, _, _], _ => rfl
  · obtain ⟨w, m, b, kv, p, f, rfl, h0, h1, h2, h3, h4, h5, h6, k⟩ := h
    rfl
  · have hr : Room 3 _ := hr
    have h_word_of := has_word_of (P := P) (w := w) (base := base) T
    have h_power_of_two := has_power_of_two (P := P) (w := w) (base := base) T
    have h_bits_at := has_bits_at (P := P) (w := w) (base := base) T
    have h_based := has_based (P := P) (w := w) (base := base) T
    obtain ⟨w, m, b, kv, p, f, rfl, h0, h1, h2, h3, h4, h5, h6, k⟩ := h
    refine ⟨(tSeq (tAsg (tCall _ [] E0 (tCons (tVar 0) (tCons (tVar 1) (tCons (tVar 2) tNil)))) (gTup K 3 (gCons (gName 4) (gCons (gName 5) (gCons (gName 6) gNil)))))
      (tSeq (tAsg (tCall _ [] E0 (tCons (tVar 0) (tCons (tVar 4) (tCons (tVar 5) (tCons (tVar 1) (tCons (tVar 3) tNil)))))) (gName 7))
      (tRet (tTup (tCons (tOp _ (tCall _ [] E0 (tCons (tVar 0) (tCons (tVar 4) (tCons (tVar 6) (tCons (tVar 3) tNil))))) (tCall _ [] E0 (tCons (tVar 7) tNil))) (tCons (tVar 7) tNil)))))), PSs.nox (pss_cons (ps_asg (pe_has h_based (hr.mono (by decide)) (pa_cons (pv 0) (pa_cons (pv 1) (pa_cons (pv 2) pa_nil)))) (pg_tup (by rfl) (pgs_cons (pg_name (i := 4) sc_word_possible.nd rfl (Or.inl rfl)) (pgs_cons (pg_name (i := 5) sc_word_possible.nd rfl (Or.inl rfl)) (pgs_cons (pg_name (i := 6) sc_word_possible.nd rfl (Or.inl rfl)) pgs_nil)))))
    (pss_cons (ps_set (i := 7) sc_word_possible.nd rfl (Or.inl rfl) (pe_has h_bits_at (hr.mono (by decide)) (pa_cons (pv 0) (pa_cons (pv 4) (pa_cons (pv 5) (pa_cons (pv 1) (pa_cons (pv 3) pa_nil)))))))
    (pss_one (ps_ret (pe_tup (pa_cons (pe_op op_mod (pe_has h_word_of (hr.mono (by decide)) (pa_cons (pv 0) (pa_cons (pv 4) (pa_cons (pv 6) (pa_cons (pv 3) pa_nil))))) (pe_has h_power_of_two (hr.mono (by decide)) (pa_cons (pv 7) pa_nil))) (pa_cons (pv 7) pa_nil))))))), ?_⟩
    have hS := h3.nd
    have hSl : (keys kv).length ≤ 1000 := by rw [keys_len]; exact h3.len
    obtain ⟨l1, l2⟩ := goodRow_len hS
    have hmem := goodRow_mem hS
    refine ⟨_, rfl, _, rfl, _, rfl, w, m, b, kv, rfl, h0, h1, h2, h3, ⟨f, h4⟩, fun pt q r s items H1 hpt e1 kt ko kn ki hok hib => ⟨pt, _, rfl, .of kt, rfl, _, _, rfl, _, _, rfl, _, _, rfl, rfl, ?_⟩⟩
    refine q_asg (v := .int (Bits w m (keys kv) p : Nat)) (ev_call (ea_cons (ev_var rfl) (ea_cons (ev_var rfl) (ea_cons (ev_var rfl) (ea_cons (ev_var rfl) (ea_cons (ev_var rfl) ea_nil))))) (sv_bits_at ko kn (by omega) (by omega))) fun H2 e2 => ?_
    have hble := Bits_le w m (keys kv) p
    have hword : nw items (goodRow (keys kv)).1 p % 2 ^ w % 2 ^ Bits w m (keys kv) p = ev f p % 2 ^ Bits w m (keys kv) p := by
      rw [emod_emod_pow hble]
      exact items_word (fun x => (hmem x).symm) hok h4.1 (fun b hb => h4.2 _ (wd_key hS ((hmem b).mp hb))) (bits_told hS p)
    refine s_retU (eu_tup (ea_cons (ev_is (ev_op (ev_call (ea_cons (ev_var rfl) (ea_cons (ev_var rfl) (ea_cons (ev_var rfl) (ea_cons (ev_var rfl) ea_nil)))) (sv_word_of h0 h1 (e2 _ _ ko) (e2 _ _ ki) (by rw [hok.len]; omega) (by omega) (fun x hx => h3.key x ((hmem x).mp hx)) hib h5 h6)) (ev_call (ea_cons (ev_var rfl) ea_nil) (sv_power_of_two (by omega))) (rv_I (two_pos _))) (by rw [hword])) (ea_cons (ev_var rfl) ea_nil)) (by show 2 ≤ 100000; decide)) fun t H3 ht e3 k3 => ?_
    exact k t H3 (fresh_back (e1.trans e2) ht) ((e1.trans e2).trans e3) k3

end Ap


namespace Ap
open PySem PySem.Spec PyProof.Rows L2 Evl
theorem nd_up {l : List Int} (h : l.Pairwise (· < ·)) : l.Nodup := h.imp fun {a b} hab => by omega
theorem Part.nd {S P : List Int} (h : Part S P) : P.Nodup := nd_up h.up
theorem Pl.nd {w : Nat} {S : List Int} (h : Pl w S) : S.Nodup := nd_up h.up
/-! ### told bits of all places -/
def sp_bits_list (K : PySem.W.Frag) : Sp := fun vs H Q _ => ∃ (w : Nat) (a : Addr) (S : List Int) (m : Nat) (b : Addr) (P : List Int), vs = [.int (w : Int), .ref a, .int (m : Int), .ref b] ∧ H a = some (.lst (iL S)) ∧ S.length ≤ 1000 ∧ H b = some (.lst (iL P)) ∧ P.Nodup ∧ P.length ≤ 1000 ∧ RetL (nL (S.map (Bits w m P))) H Q
theorem sl_bits_list {K : PySem.W.Frag} {H : Hp} {w m : Nat} {a b : Addr} {S P : List Int} (h1 : H a = some (.lst (iL S))) (h2 : S.length ≤ 1000) (h3 : H b = some (.lst (iL P))) (h4 : P.Nodup) (h5 : P.length ≤ 1000) : SpL (sp_bits_list K) [.int (w : Int), .ref a, .int (m : Int), .ref b] H (nL (S.map (Bits w m P))) :=
  fun H1 e Q q _ => ⟨w, a, S, m, b, P, rfl, e a _ h1, h2, e b _ h3, h4, h5, q⟩
theorem sc_bits_list : FnScope ["width", "places", "count", "asked", "order", "numbers", "place"] ["width", "places", "count", "asked"] (defScope sBitsList) := ⟨rfl, rfl, rfl, by decide +kernel, rfl, by decide +kernel, by decide +kernel⟩
theorem has_bits_list {P : Program} {w : World} {K : PySem.W.Frag} {mg : Str → Option Value} {base : Heap} (T : Txt K mg) : Has P w K mg base "bits_list" ["width", "places", "count", "asked"] 3 (sp_bits_list K) := by
  refine Has.of T.gBitsList T.dBitsList (fun fd F => FunD.ok F sc_bits_list (fun vs H Q E h => ?_) (fun cdv A outer s H vs Q E hr h => ?_)) fun _ _ _ _ _ _ us hl => match us, hl with | [_, _, _, _], _ => rfl
  · obtain ⟨w, a, S, m, b, P, rfl, h1, h2, h3, h4, h5, k⟩ := h
    rfl
  · have hr : Room 2 _ := hr
    have h_bits_at := has_bits_at (P := P) (w := w) (base := base) T
    have h_good_row := has_good_row (P := P) (w := w) (base := base) T
    obtain ⟨w, a, S, m, b, P, rfl, h1, h2, h3, h4, h5, k⟩ := h
    refine ⟨(tSeq (tAsg (tCall _ [] E0 (tCons (tVar 3) tNil)) (gTup K 2 (gCons (gName 4) (gCons (gName 5) gNil))))
      (tRet (tLc (iList K (tVar 1)) (gName 6) tYes (tCall _ [] E0 (tCons (tVar 0) (tCons (tVar 4) (tCons (tVar 5) (tCons (tVar 2) (tCons (tVar 6) tNil)))))) [6]))), PSs.nox (pss_cons (ps_asg (pe_has h_good_row (hr.mono (by decide)) (pa_cons (pv 3) pa_nil)) (pg_tup (by rfl) (pgs_cons (pg_name (i := 4) sc_bits_list.nd rfl (Or.inr rfl)) (pgs_cons (pg_name (i := 5) sc_bits_list.nd rfl (Or.inr rfl)) pgs_nil))))
    (pss_one (ps_ret (pe_lc (own := [("place", 6)]) (g := (gName 6)) (tt := tYes) (te := (tCall _ [] E0 (tCons (tVar 0) (tCons (tVar 4) (tCons (tVar 5) (tCons (tVar 2) (tCons (tVar 6) tNil))))))) (by rfl) sc_bits_list.nd (pi_list (pv 1)) (blkOk_by (own := [("place", 6)]) (N := ["width", "places", "count", "asked", "order", "numbers", "place"]) (sc := defScope sBitsList) (by decide +kernel)) (fun _ _ _ _ _ => (pg_name (i := 6) sc_bits_list.nd rfl (Or.inl rfl))) (fun _ _ _ _ _ => pts_nil) (fun _ _ _ _ _ => (pe_has h_bits_at (hr.mono (by decide)) (pa_cons (pv 0) (pa_cons (pv 4) (pa_cons (pv 5) (pa_cons (pv 2) (pa_cons (pv 6) pa_nil))))))))))), ?_⟩
    obtain ⟨l1, l2⟩ := goodRow_len h4
    refine q_gr (S := P) (ea_cons (ev_var rfl) ea_nil) h3 h4 h5 fun po pn H1 _ _ _ e1 ko kn => ?_
    refine s_retL (xs := nL (S.map (Bits w m P))) (el_is (el_lcL (fun _ => true) (fun i => .int ((S.map (Bits w m P)).getD i 0 : Nat)) (ev_var rfl) (.of (e1 _ _ h1)) (by rw [iL_len]; omega) (fun _ => rfl) (fun i x H2 e2 hx => et_yes) (fun i x H2 e2 hx _ => ?_)) ?_) fun p H2 hp e2 h => k.go e1 hp e2 h
    · obtain ⟨y, hy, rfl⟩ := iL_of hx
      rw [List.getD_eq_getElem?_getD, List.getElem?_map, hy]
      exact ev_call (ea_cons (ev_var rfl) (ea_cons (ev_var rfl) (ea_cons (ev_var rfl) (ea_cons (ev_var rfl) (ea_cons (ev_var rfl) ea_nil))))) (sv_bits_at (e2 _ _ ko) (e2 _ _ kn) (by omega) (by omega))
    · have : (iL S).length = (S.map (Bits w m P)).length := by rw [iL_len, List.length_map]
      rw [this]
      exact given_nL _

def sp_told_bits (K : PySem.W.Frag) : Sp := fun vs H Q _ => ∃ (w : Nat) (a : Addr) (S : List Int) (m : Nat) (b : Addr) (P : List Int), vs = [.int (w : Int), .ref a, .int (m : Int), .ref b] ∧ 1 ≤ w ∧ w ≤ 64 ∧ H a = some (.lst (iL S)) ∧ Pl w S ∧ H b = some (.lst (iL P)) ∧ Part S P ∧ RetL (nL (S.map (Bits w m P))) H Q
theorem sl_told_bits {K : PySem.W.Frag} {H : Hp} {w m : Nat} {a b : Addr} {S P : List Int} (h0 : 1 ≤ w) (h1 : w ≤ 64) (h2 : H a = some (.lst (iL S))) (h3 : Pl w S) (h4 : H b = some (.lst (iL P))) (h5 : Part S P) : SpL (sp_told_bits K) [.int (w : Int), .ref a, .int (m : Int), .ref b] H (nL (S.map (Bits w m P))) :=
  fun H1 e Q q _ => ⟨w, a, S, m, b, P, rfl, h0, h1, e a _ h2, h3, e b _ h4, h5, q⟩
theorem sc_told_bits : FnScope ["width", "places", "count", "asked"] ["width", "places", "count", "asked"] (defScope sToldBits) := ⟨rfl, rfl, rfl, by decide +kernel, rfl, by decide +kernel, by decide +kernel⟩
theorem has_told_bits {P : Program} {w : World} {K : PySem.W.Frag} {mg : Str → Option Value} {base : Heap} (T : Txt K mg) : Has P w K mg base "told_bits" ["width", "places", "count", "asked"] 7 (sp_told_bits K) := by
  refine Has.of T.gToldBits T.dToldBits (fun fd F => FunD.ok F sc_told_bits (fun vs H Q E h => ?_) (fun cdv A outer s H vs Q E hr h => ?_)) fun _ _ _ _ _ _ us hl => match us, hl with | [_, _, _, _], _ => rfl
  · obtain ⟨w, a, S, m, b, P, rfl, h0, h1, h2, h3, h4, h5, k⟩ := h
    rfl
  · have hr : Room 6 _ := hr
    have h_bits_list := has_bits_list (P := P) (w := w) (base := base) T
    have h_check_part := has_check_part (P := P) (w := w) (base := base) T
    have h_check_code := has_check_code (P := P) (w := w) (base := base) T
    obtain ⟨w, a, S, m, b, P, rfl, h0, h1, h2, h3, h4, h5, k⟩ := h
    refine ⟨(tSeq (tDrop (tCall _ [] E0 (tCons (tVar 0) (tCons (tVar 1) (tCons (tVar 2) tNil)))))
      (tSeq (tDrop (tCall _ [] E0 (tCons (tVar 1) (tCons (tVar 3) tNil))))
      (tRet (tCall _ [] E0 (tCons (tVar 0) (tCons (tVar 1) (tCons (tVar 2) (tCons (tVar 3) tNil)))))))), PSs.nox (pss_cons (ps_expr (pe_has h_check_code (hr.mono (by decide)) (pa_cons (pv 0) (pa_cons (pv 1) (pa_cons (pv 2) pa_nil)))))
    (pss_cons (ps_expr (pe_has h_check_part (hr.mono (by decide)) (pa_cons (pv 1) (pa_cons (pv 3) pa_nil))))
    (pss_one (ps_ret (pe_has h_bits_list (hr.mono (by decide)) (pa_cons (pv 0) (pa_cons (pv 1) (pa_cons (pv 2) (pa_cons (pv 3) pa_nil))))))))), ?_⟩
    refine q_drop (v := .non) (ev_call (ea_cons (ev_var rfl) (ea_cons (ev_var rfl) (ea_cons (ev_var rfl) ea_nil))) (sv_check_code h0 h1 h2 h3)) fun H1 e1 => ?_
    refine q_drop (v := .non) (ev_call (ea_cons (ev_var rfl) (ea_cons (ev_var rfl) ea_nil)) (sv_check_part (e1 _ _ h2) (e1 _ _ h4) h5)) fun H2 e2 => ?_
    exact s_retL (el_call (ea_cons (ev_var rfl) (ea_cons (ev_var rfl) (ea_cons (ev_var rfl) (ea_cons (ev_var rfl) ea_nil)))) (sl_bits_list (e2 _ _ (e1 _ _ h2)) h3.len (e2 _ _ (e1 _ _ h4)) h5.nd h5.len)) fun p H3 hp e3 h => k.go (e1.trans e2) hp e3 h

def sp_bits_told (K : PySem.W.Frag) : Sp := fun vs H Q _ => ∃ (w : Nat) (a : Addr) (S : List Int) (m : Nat) (b : Addr) (P : List Int) (p : Int), vs = [.int (w : Int), .ref a, .int (m : Int), .ref b, .int p] ∧ 1 ≤ w ∧ w ≤ 64 ∧ H a = some (.lst (iL S)) ∧ Pl w S ∧ H b = some (.lst (iL P)) ∧ Part S P ∧ p ∈ S ∧ RetV (.int (Bits w m P p : Nat)) H Q
theorem sv_bits_told {K : PySem.W.Frag} {H : Hp} {w m : Nat} {a b : Addr} {S P : List Int} {p : Int} (h0 : 1 ≤ w) (h1 : w ≤ 64) (h2 : H a = some (.lst (iL S))) (h3 : Pl w S) (h4 : H b = some (.lst (iL P))) (h5 : Part S P) (h6 : p ∈ S) : SpV (sp_bits_told K) [.int (w : Int), .ref a, .int (m : Int), .ref b, .int p] H (.int (Bits w m P p : Nat)) :=
  fun H1 e Q q _ => ⟨w, a, S, m, b, P, p, rfl, h0, h1, e a _ h2, h3, e b _ h4, h5, h6, q⟩
theorem sc_bits_told : FnScope ["width", "places", "count", "asked", "place"] ["width", "places", "count", "asked", "place"] (defScope sBitsTold) := ⟨rfl, rfl, rfl, by decide +kernel, rfl, by decide +kernel, by decide +kernel⟩
theorem has_bits_told {P : Program} {w : World} {K : PySem.W.Frag} {mg : Str → Option Value} {base : Heap} (T : Txt K mg) : Has P w K mg base "bits_told" ["width", "places", "count", "asked", "place"] 7 (sp_bits_told K) := by
  refine Has.of T.gBitsTold T.dBitsTold (fun fd F => FunD.ok F sc_bits_told (fun vs H Q E h => ?_) (fun cdv A outer s H vs Q E hr h => ?_)) fun _ _ _ _ _ _ us hl => match us, hl with | [_, _, _, _, _], _ => rfl
  · obtain ⟨w, a, S, m, b, P, p, rfl, h0, h1, h2, h3, h4, h5, h6, k⟩ := h
    rfl
  · have hr : Room 6 _ := hr
    have h_bits_list := has_bits_list (P := P) (w := w) (base := base) T
    have h_check_place := has_check_place (P := P) (w := w) (base := base) T
    have h_check_part := has_check_part (P := P) (w := w) (base := base) T
    have h_check_code := has_check_code (P := P) (w := w) (base := base) T
    obtain ⟨w, a, S, m, b, P, p, rfl, h0, h1, h2, h3, h4, h5, h6, k⟩ := h
    refine ⟨(tSeq (tDrop (tCall _ [] E0 (tCons (tVar 0) (tCons (tVar 1) (tCons (tVar 2) tNil)))))
      (tSeq (tDrop (tCall _ [] E0 (tCons (tVar 1) (tCons (tVar 3) tNil))))
      (tSeq (tDrop (tCall _ [] E0 (tCons (tVar 1) (tCons (tVar 4) tNil))))
      (tRet (tOp (rIxL K) (tCall _ [] E0 (tCons (tVar 0) (tCons (tLst (tCons (tVar 4) tNil)) (tCons (tVar 2) (tCons (tVar 3) tNil))))) (tC _)))))), PSs.nox (pss_cons (ps_expr (pe_has h_check_code (hr.mono (by decide)) (pa_cons (pv 0) (pa_cons (pv 1) (pa_cons (pv 2) pa_nil)))))
    (pss_cons (ps_expr (pe_has h_check_part (hr.mono (by decide)) (pa_cons (pv 1) (pa_cons (pv 3) pa_nil))))
    (pss_cons (ps_expr (pe_has h_check_place (hr.mono (by decide)) (pa_cons (pv 1) (pa_cons (pv 4) pa_nil))))
    (pss_one (ps_ret (pe_ix ix_list (pe_has h_bits_list (hr.mono (by decide)) (pa_cons (pv 0) (pa_cons (pe_lst (pa_cons (pv 4) pa_nil)) (pa_cons (pv 2) (pa_cons (pv 3) pa_nil))))) pe_int (fun _ _ => rfl))))))), ?_⟩
    refine q_drop (v := .non) (ev_call (ea_cons (ev_var rfl) (ea_cons (ev_var rfl) (ea_cons (ev_var rfl) ea_nil))) (sv_check_code h0 h1 h2 h3)) fun H1 e1 => ?_
    refine q_drop (v := .non) (ev_call (ea_cons (ev_var rfl) (ea_cons (ev_var rfl) ea_nil)) (sv_check_part (e1 _ _ h2) (e1 _ _ h4) h5)) fun H2 e2 => ?_
    refine q_drop (v := .non) (ev_call (ea_cons (ev_var rfl) (ea_cons (ev_var rfl) ea_nil)) (sv_check_place (e2 _ _ (e1 _ _ h2)) h6)) fun H3 e3 => ?_
    -- bits_list(width, [place], count, asked)[0]
    refine ⟨_, rfl, _, rfl, Nat.succ_le_of_lt (by decide), fun pl hpl => ⟨_, rfl, _, rfl, ?_⟩⟩
    have e4 : Ex H3 (upd H3 pl (.lst [.int p])) := Ex.new hpl
    refine ⟨w, pl, [p], m, b, P, rfl, upd_same, by simp, e4 _ _ (e3 _ _ (e2 _ _ (e1 _ _ h4))), h5.nd, h5.len, fun q H5 hq e5 h5' => ?_⟩
    refine ⟨q, _, 0, _, rfl, rfl, .of h5', atI_nat (j := 0) rfl, ?_⟩
    exact k.go ((((e1.trans e2).trans e3).trans e4).trans e5)

/-- the closure -/
def clo (w m : Nat) (S P : List Int) : List Int := S.filter fun x => decide (Bits w m P x = w)
def sp_closure (K : PySem.W.Frag) : Sp := fun vs H Q _ => ∃ (w : Nat) (a : Addr) (S : List Int) (m : Nat) (b : Addr) (P : List Int), vs = [.int (w : Int), .ref a, .int (m : Int), .ref b] ∧ 1 ≤ w ∧ w ≤ 64 ∧ H a = some (.lst (iL S)) ∧ Pl w S ∧ H b = some (.lst (iL P)) ∧ Part S P ∧ RetL (iL (clo w m S P)) H Q
theorem sl_closure {K : PySem.W.Frag} {H : Hp} {w m : Nat} {a b : Addr} {S P : List Int} (h0 : 1 ≤ w) (h1 : w ≤ 64) (h2 : H a = some (.lst (iL S))) (h3 : Pl w S) (h4 : H b = some (.lst (iL P))) (h5 : Part S P) : SpL (sp_closure K) [.int (w : Int), .ref a, .int (m : Int), .ref b] H (iL (clo w m S P)) :=
  fun H1 e Q q _ => ⟨w, a, S, m, b, P, rfl, h0, h1, e a _ h2, h3, e b _ h4, h5, q⟩
theorem sc_closure : FnScope ["width", "places", "count", "asked", "told", "place", "bits"] ["width", "places", "count", "asked"] (defScope sClosure) := ⟨rfl, rfl, rfl, by decide +kernel, rfl, by decide +kernel, by decide +kernel⟩
theorem has_closure {P : Program} {w : World} {K : PySem.W.Frag} {mg : Str → Option Value} {base : Heap} (T : Txt K mg) : Has P w K mg base "closure" ["width", "places", "count", "asked"] 8 (sp_closure K) := by
  refine Has.of T.gClosure T.dClosure (fun fd F => FunD.ok F sc_closure (fun vs H Q E h => ?_) (fun cdv A outer s H vs Q E hr h => ?_)) fun _ _ _ _ _ _ us hl => match us, hl with | [_, _, _, _], _ => rfl
  · obtain ⟨w, a, S, m, b, P, rfl, h0, h1, h2, h3, h4, h5, k⟩ := h
    rfl
  · have hr : Room 7 _ := hr
    have h_told_bits := has_told_bits (P := P) (w := w) (base := base) T
    obtain ⟨w, a, S, m, b, P, rfl, h0, h1, h2, h3, h4, h5, k⟩ := h
    refine ⟨(tSeq (tAsg (tCall _ [] E0 (tCons (tVar 0) (tCons (tVar 1) (tCons (tVar 2) (tCons (tVar 3) tNil))))) (gName 4))
      (tRet (tLc (Zst.iZs K true (tCons (tVar 1) (tCons (tVar 4) tNil))) (gTup K 2 (gCons (gName 5) (gCons (gName 6) gNil))) (tTest (tOp _ (tVar 6) (tVar 0))) (tVar 5) [5, 6]))), PSs.nox (pss_cons (ps_set (i := 4) sc_closure.nd rfl (Or.inl rfl) (pe_has h_told_bits (hr.mono (by decide)) (pa_cons (pv 0) (pa_cons (pv 1) (pa_cons (pv 2) (pa_cons (pv 3) pa_nil))))))
    (pss_one (ps_ret (pe_lc (own := [("place", 5), ("bits", 6)]) (g := (gTup K 2 (gCons (gName 5) (gCons (gName 6) gNil)))) (tt := (tTest (tOp _ (tVar 6) (tVar 0)))) (te := (tVar 5)) (by rfl) sc_closure.nd (Zst.pi_zs (by rfl) T.z_zip (pa_cons (pv 1) (pa_cons (pv 4) pa_nil))) (blkOk_by (own := [("place", 5), ("bits", 6)]) (N := ["width", "places", "count", "asked", "told", "place", "bits"]) (sc := defScope sClosure) (by decide +kernel)) (fun _ _ _ _ _ => (pg_tup (by rfl) (pgs_cons (pg_name (i := 5) sc_closure.nd rfl (Or.inl rfl)) (pgs_cons (pg_name (i := 6) sc_closure.nd rfl (Or.inl rfl)) pgs_nil)))) (fun _ _ _ _ _ => (pts_one (pt_cmpR op_eq (pv 6) (pv 0) (nomark _)))) (fun _ _ _ _ _ => (pv 5)))))), ?_⟩
    refine q_asgL (el_call (ea_cons (ev_var rfl) (ea_cons (ev_var rfl) (ea_cons (ev_var rfl) (ea_cons (ev_var rfl) ea_nil)))) (sl_told_bits (m := m) h0 h1 h2 h3 h4 h5)) fun pt H1 hpt e1 kt => ?_
    have hl3 := h3.len
    refine s_retL (xs := iL (clo w m S P)) (el_is (el_lcZip (fun i => decide ((S.map (Bits w m P)).getD i 0 = w)) (fun i => .int (S.getD i 0)) (ea_cons (ev_var rfl) (ea_cons (ev_var rfl) ea_nil)) (e1 _ _ h2) kt (by rw [iL_len, nL_len, List.length_map]) (by rw [iL_len]; omega) (fun _ _ => rfl) (fun i x y H2 e2 hx hy => ?_) (fun i x y H2 e2 hx hy _ => ?_)) ?_) fun p H2 hp e2 h => k.go e1 hp e2 h
    · obtain ⟨t, ht, rfl⟩ := nL_of hy
      refine et_test (ev_is (ev_op (ev_var rfl) (ev_var rfl) (rv_eq rfl)) ?_)
      rw [List.getD_eq_getElem?_getD, ht]
      congr 1
      simp
      constructor <;> intro h <;> omega
    · obtain ⟨y', hy', rfl⟩ := iL_of hx
      rw [List.getD_eq_getElem?_getD, hy']
      exact ev_var rfl
    · rw [iL_len]
      refine given_filter S _ (fun x => decide (Bits w m P x = w)) fun i x hx => ?_
      rw [List.getD_eq_getElem?_getD, List.getElem?_map, hx]
      rfl

def sp_fits (K : PySem.W.Frag) : Sp := fun vs H Q _ => ∃ (w : Nat) (a : Addr) (S : List Int) (m : Nat) (b : Addr) (kv : List (Int × Int)), vs = [.int (w : Int), .ref a, .int (m : Int), .ref b] ∧ 1 ≤ w ∧ w ≤ 64 ∧ H a = some (.lst (iL S)) ∧ Pl w S ∧ Kn H b kv ∧ Kw w S kv ∧ (∃ f, Fit w m kv f) ∧ RetV (.bl true) H Q
theorem Kw.kv {w : Nat} {S : List Int} {kv : List (Int × Int)} (h1 : w ≤ 64) (h : Kw w S kv) (hp : Pl w S) : Kv w kv :=
  ⟨nd_up h.up, fun x hx => by
    obtain ⟨q, hq, rfl⟩ := List.mem_map.mp hx
    have := hp.mem _ (h.mem q hq).1
    have := pw_le h1
    omega, fun q hq => (h.mem q hq).2, h.len⟩
theorem sv_fits {K : PySem.W.Frag} {H : Hp} {w m : Nat} {a b : Addr} {S : List Int} {kv : List (Int × Int)} (h0 : 1 ≤ w) (h1 : w ≤ 64) (h2 : H a = some (.lst (iL S))) (h3 : Pl w S) (h4 : Kn H b kv) (h5 : Kw w S kv) (h6 : ∃ f, Fit w m kv f) : SpV (sp_fits K) [.int (w : Int), .ref a, .int (m : Int), .ref b] H (.bl true) :=
  fun H1 e Q q _ => ⟨w, a, S, m, b, kv, rfl, h0, h1, e a _ h2, h3, h4.mono e, h5, h6, q⟩
theorem sc_fits : FnScope ["width", "places", "count", "known"] ["width", "places", "count", "known"] (defScope sFits) := ⟨rfl, rfl, rfl, by decide +kernel, rfl, by decide +kernel, by decide +kernel⟩
theorem has_fits {P : Program} {w : World} {K : PySem.W.Frag} {mg : Str → Option Value} {base : Heap} (T : Txt K mg) : Has P w K mg base "fits" ["width", "places", "count", "known"] 7 (sp_fits K) := by
  refine Has.of T.gFits T.dFits (fun fd F => FunD.ok F sc_fits (fun vs H Q E h => ?_) (fun cdv A outer s H vs Q E hr h => ?_)) fun _ _ _ _ _ _ us hl => match us, hl with | [_, _, _, _], _ => rfl
  · obtain ⟨w, a, S, m, b, kv, rfl, h0, h1, h2, h3, h4, h5, h6, k⟩ := h
    rfl
  · have hr : Room 6 _ := hr
    have h_is_fit := has_is_fit (P := P) (w := w) (base := base) T
    have h_check_known := has_check_known (P := P) (w := w) (base := base) T
    have h_check_code := has_check_code (P := P) (w := w) (base := base) T
    obtain ⟨w, a, S, m, b, kv, rfl, h0, h1, h2, h3, h4, h5, h6, k⟩ := h
    refine ⟨(tSeq (tDrop (tCall _ [] E0 (tCons (tVar 0) (tCons (tVar 1) (tCons (tVar 2) tNil)))))
      (tSeq (tDrop (tCall _ [] E0 (tCons (tVar 0) (tCons (tVar 1) (tCons (tVar 3) tNil)))))
      (tRet (tCall _ [] E0 (tCons (tVar 0) (tCons (tVar 2) (tCons (tVar 3) tNil))))))), PSs.nox (pss_cons (ps_expr (pe_has h_check_code (hr.mono (by decide)) (pa_cons (pv 0) (pa_cons (pv 1) (pa_cons (pv 2) pa_nil)))))
    (pss_cons (ps_expr (pe_has h_check_known (hr.mono (by decide)) (pa_cons (pv 0) (pa_cons (pv 1) (pa_cons (pv 3) pa_nil)))))
    (pss_one (ps_ret (pe_has h_is_fit (hr.mono (by decide)) (pa_cons (pv 0) (pa_cons (pv 2) (pa_cons (pv 3) pa_nil)))))))), ?_⟩
    refine q_drop (v := .non) (ev_call (ea_cons (ev_var rfl) (ea_cons (ev_var rfl) (ea_cons (ev_var rfl) ea_nil))) (sv_check_code h0 h1 h2 h3)) fun H1 e1 => ?_
    refine q_drop (v := .non) (ev_call (ea_cons (ev_var rfl) (ea_cons (ev_var rfl) (ea_cons (ev_var rfl) ea_nil))) (sv_check_known h1 (e1 _ _ h2) (h4.mono e1) h5)) fun H2 e2 => ?_
    exact s_ret (ev_call (ea_cons (ev_var rfl) (ea_cons (ev_var rfl) (ea_cons (ev_var rfl) ea_nil))) (sv_is_fit h0 h1 (h4.mono (e1.trans e2)) (h5.kv h1 h3) h6)) fun H3 e3 => k.go ((e1.trans e2).trans e3)

end Ap


namespace Ap
open PySem PySem.Spec PyProof.Rows L2 Evl
theorem dI_valN {kv : List (Int × Int)} {a : Int} (h : a ∉ keys kv) : valV (dI kv) (Sum.inl a : Key) = none := by
  induction kv with
  | nil => rfl
  | cons q kv ih =>
    unfold keys at h ih
    rw [List.map_cons] at h
    have e : ¬ q.1 = a := fun e => h (by rw [e]; exact List.mem_cons_self)
    have : valV (dI (q :: kv)) (Sum.inl a : Key) = valV (dI kv) (Sum.inl a : Key) := valV_neg (p := (Sum.inl q.1, V.int q.2)) (fun z => e (Sum.inl.inj z))
    rw [this]
    exact ih fun hm => h (List.mem_cons_of_mem _ hm)
section
variable {K : PySem.W.Frag} {σ : L2.St} {H H' : Hp} {ta tb te tx tc td t1 t2 t4 tk : TE} {t u : TT} {x y z v : V} {D : Ends} {tu tw tz : TS} {g : TG}
theorem et_dnin {a : Addr} {kv : List (Int × Int)} {p : Int} (hb : Ev tb σ H (.int p)) (ha : Ev ta σ H (.ref a)) (h : H a = some (.dK (dI kv))) (hn : (keys kv).Nodup) : EvT (tB (tDNotIn tb ta)) σ H (!decide (p ∈ keys kv)) := fun H1 e Q q =>
  hb H1 e _ fun H2 e2 => ha H2 (e.trans e2) _ fun H3 e3 => ⟨a, _, rfl, DGet.k (k := (Sum.inl p : Key)) (e3 a _ (e2 a _ (e a _ h))), _, rfl, by
    have : (valV (dI kv) (Sum.inl p : Key)).isSome = decide (p ∈ keys kv) := by
      by_cases hp : p ∈ keys kv
      · rw [dI_val hn hp, decide_eq_true hp]; rfl
      · rw [dI_valN hp, decide_eq_false hp]; rfl
    rw [this]
    exact q H3 (e2.trans e3)⟩
theorem s_dput {a : Addr} {kv : List (Key × V)} {p : Int} (hv : Ev te σ H v) (ha : Ev ta σ H (.ref a)) (hb : Ev tb σ H (.int p)) (h : H a = some (.dK kv)) (hl : kv.length < 100000) (k : ∀ H1, Ex H H1 → D.nx σ (upd H1 a (.dK (putK kv (Sum.inl p) v)))) : sDPut ta tb te D σ H :=
  hv H (Ex.refl H) _ fun H1 e1 => ha H1 e1 _ fun H2 e2 => hb H2 (e1.trans e2) _ fun H3 e3 => ⟨a, _, rfl, DPut.k (k := (Sum.inl p : Key)) (((e1.trans e2).trans e3) a _ h) (sz_lt hl), k H3 ((e1.trans e2).trans e3)⟩
theorem q_dput {a : Addr} {kv : List (Key × V)} {p : Int} (hv : Ev te σ H v) (ha : Ev ta σ H (.ref a)) (hb : Ev tb σ H (.int p)) (h : H a = some (.dK kv)) (hl : kv.length < 100000) (k : ∀ H1, Ex H H1 → tz D σ (upd H1 a (.dK (putK kv (Sum.inl p) v)))) : tSeq (sDPut ta tb te) tz D σ H :=
  s_dput (D := { D with nx := tz D }) hv ha hb h hl k
theorem rv_is {r : R2} {w : V} (h : RV r x y H z) (e : z = w) : RV r x y H w := by rw [← e]; exact h
theorem s_augR {i : Nat} {r : R2} {a : V} (hx : σ[i]? = some (some a)) (h : Ev te σ H y) (hr : RV r a y H z) (k : ∀ H1, Ex H H1 → D.nx (σ.set i (some z)) H1) : tAug i te r D σ H :=
  ⟨a, hx, h H (Ex.refl H) _ fun H1 e => hr H1 e _ fun H2 e2 => k H2 (e.trans e2)⟩
theorem q_augR {i : Nat} {r : R2} {a : V} (hx : σ[i]? = some (some a)) (h : Ev te σ H y) (hr : RV r a y H z) (k : ∀ H1, Ex H H1 → tz D (σ.set i (some z)) H1) : tSeq (tAug i te r) tz D σ H :=
  s_augR (D := { D with nx := tz D }) hx h hr k
/-- word, bits = word_possible(..) -/
theorem q_wp {i j : Nat} {E : XK} {w m : Nat} {kv : List (Int × Int)} {f : List Int} {p : Int} {P : List (Int × Int) → Prop} (h1 : Ev t1 σ H (.int (w : Int))) (h2 : Ev t2 σ H (.int (m : Int))) (h3 : EvK tk σ H P) (h4 : Ev t4 σ H (.int p)) (hP : ∀ kv', P kv' → kv'.Perm kv)
    (hw : 1 ≤ w) (hw2 : w ≤ 64) (hkv : Kv w kv) (hf : Fit w m kv f) (hp : 0 ≤ p) (hp2 : p < 2 ^ 64)
    (k : ∀ H1, Ex H H1 → tz D ((σ.set i (some (.int (ev f p % 2 ^ Bits w m (keys kv) p)))).set j (some (.int (Bits w m (keys kv) p : Nat)))) H1) :
    tSeq (tAsg (tCall (sp_word_possible K) [] E (tCons t1 (tCons t2 (tCons tk (tCons t4 tNil))))) (gTup K 2 (gCons (gName i) (gCons (gName j) gNil)))) tz D σ H :=
  h1 H (Ex.refl H) _ fun H1 e1 => h2 H1 e1 _ fun H2 e2 => h3 H2 (e1.trans e2) _ fun b kv' H3 e3 hk pk => h4 H3 ((e1.trans e2).trans e3) _ fun H4 e4 => by
    have hpm := hP kv' pk
    have eb : Bits w m (keys kv') p = Bits w m (keys kv) p := Bits_congr (hkv.perm hpm).nd hkv.nd (fun x => (keys_perm hpm).mem_iff) p
    refine ⟨w, m, b, kv', p, f, rfl, hw, hw2, hk.mono e4, hkv.perm hpm, (Fit.perm fun q => hpm.mem_iff).mpr hf, hp, hp2, fun t H5 ht e5 kt => ⟨t, _, rfl, .of kt, rfl, _, _, rfl, _, _, rfl, rfl, ?_⟩⟩
    rw [eb]
    exact k H5 ((((e1.trans e2).trans e3).trans e4).trans e5)
/-- a new object -/
def EvN (te : TE) (σ : L2.St) (H : Hp) (o : HO) : Prop := ∀ H1, Ex H H1 → ∀ Q : VK, (∀ p H2, H1 p = none → Ex H1 H2 → H2 p = some o → Q (.ref p) H2) → te σ H1 Q
theorem en_dict {a : Addr} {kv : List (Int × Int)} (ha : Ev ta σ H (.ref a)) (hk : Kn H a kv) (hn : (keys kv).Nodup) : EvN (tCB (rDictP K) (tCons ta tNil)) σ H (.dK (dI kv)) := fun H0 e0 Q q => ha H0 e0 _ fun H1 e1 => by
  obtain ⟨ts, k1, k2, k3⟩ := hk.mono (e0.trans e1)
  refine ⟨a, ts, dI kv, rfl, .of k1, ?_, fun p hp => q p _ (fresh_back e1 hp) (e1.trans (Ex.new hp)) ?_⟩
  · have go : ∀ (ts : List Addr) (kv : List (Int × Int)), ts.length = kv.length → (∀ (i : Nat) t q, ts[i]? = some t → kv[i]? = some q → H1 t = some (.tup [.int q.1, .int q.2])) → Paired (fun p (kv : Key × V) => SqT K H1 p [kV kv.1, kv.2]) ts (dI kv) := by
      intro ts
      induction ts with
      | nil => intro kv hl _; cases kv with
        | nil => exact .nil
        | cons => simp at hl
      | cons t ts ih => intro kv hl h; cases kv with
        | nil => simp at hl
        | cons q kv => exact .cons (.of (h 0 t q rfl rfl)) (ih kv (by simpa using hl) fun i t q a b => h (i + 1) t q (by simpa using a) (by simpa using b))
    exact go ts kv k2 k3
  · rw [upd_same]
    have := dI_merge kv [] (by simpa using hn)
    rw [show (dI [] : List (Key × V)) = [] from rfl] at this
    rw [this]; rfl
theorem ex_put {H H' : Hp} {p : Addr} {o u : HO} (e : Ex H H') (h : H p = none) (h' : H' p = some u) : Ex H (upd H' p o) := e.mut h
/-- a, b = (a new object, e) -/
theorem q_tupN {i j : Nat} {o : HO} (ha : EvN ta σ H o) (hb : Ev tb σ H v) (k : ∀ p H1, H p = none → Ex H H1 → H1 p = some o → tz D ((σ.set i (some (.ref p))).set j (some v)) H1) :
    tSeq (tAsg (tTup (tCons ta (tCons tb tNil))) (gTup K 2 (gCons (gName i) (gCons (gName j) gNil)))) tz D σ H :=
  ha H (Ex.refl H) _ fun p H1 hp e1 k1 => hb H1 e1 _ fun H2 e2 => ⟨sz_of (by show 2 ≤ 100000; decide), fun t ht => ⟨t, _, rfl, .of upd_same, rfl, _, _, rfl, _, _, rfl, rfl, k p _ hp ((e1.trans e2).trans (Ex.new ht)) (Ex.new ht _ _ (e2 _ _ k1))⟩⟩
/-- a, b, c = a new object, e, f -/
theorem q_parN3 {i j l : Nat} {o : HO} {v2 : V} (ha : EvN ta σ H o) (hb : Ev tb σ H v) (hc : Ev tc σ H v2) (k : ∀ p H1, H p = none → Ex H H1 → H1 p = some o → tz D (((σ.set i (some (.ref p))).set j (some v)).set l (some v2)) H1) :
    tSeq (tPar3 i j l (tCons ta (tCons tb (tCons tc tNil)))) tz D σ H :=
  ha H (Ex.refl H) _ fun p H1 hp e1 k1 => hb H1 e1 _ fun H2 e2 => hc H2 (e1.trans e2) _ fun H3 e3 => ⟨_, _, _, rfl, k p _ hp ((e1.trans e2).trans e3) (e3 _ _ (e2 _ _ k1))⟩
end
theorem two_div {x y : Nat} (h : y ≤ x) : (2 : Int) ^ x / 2 ^ y = 2 ^ (x - y) := by
  have : (2 : Int) ^ x = 2 ^ y * 2 ^ (x - y) := by rw [← Int.pow_add]; congr 1; omega
  have h2 := two_pos y
  rw [this, Int.mul_ediv_cancel_left _ (by omega)]
theorem big_div {n : Nat} (h : n ≤ 8000) {x : Int} : CDivW x (2 ^ n) := wide_div (b := n + 1) (two_pos n) (by
  rw [Int.natAbs_pow]
  exact Nat.pow_lt_pow_right (by decide) (by omega)) (by omega) (by omega)
/-- while words are filled in -/
theorem Fill.kv {w m i : Nat} {S : List Int} {kv kvi : List (Int × Int)} (h : Fill w m S kv i kvi) (hw : w ≤ 64) (hp : Pl w S) (hs : ∀ x, x ∈ keys kv → x ∈ S) : Kv w kvi ∧ ∀ x, x ∈ keys kvi → x ∈ S := by
  have hin : ∀ x, x ∈ keys kvi → x ∈ S := fun x hx => by
    rcases (h.mem x).mp hx with a | ⟨j, _, b⟩
    · exact hs x a
    · exact List.mem_of_getElem? b
  refine ⟨⟨h.nodup, fun x hx => ?_, h.word, ?_⟩, hin⟩
  · have := hp.mem x (hin x hx)
    have := pw_le hw
    omega
  · have := List.Nodup.length_le_of_subset h.nodup hin
    rw [keys_len] at this
    have := hp.len
    omega
/-- what numbered keeps -/
structure NbW (H H' : Hp) (w m : Nat) (S : List Int) (kv : List (Int × Int)) (pd : Addr) (i : Nat) (kvi : List (Int × Int)) : Prop where
  ex : Ex H H'
  d : H' pd = some (.dK (dI kvi))
  fill : Fill w m S kv i kvi
theorem NbW.put {H H' H2 : Hp} {w m : Nat} {S : List Int} {kv : List (Int × Int)} {pd : Addr} {i : Nat} {kvi : List (Int × Int)} (W : NbW H H' w m S kv pd i kvi) (e : Ex H' H2) : NbW H H2 w m S kv pd i kvi := ⟨W.ex.trans e, e _ _ W.d, W.fill⟩
def RetP (P : List Int → Prop) (H : Hp) (Q : VK) : Prop := ∀ p row H', H p = none → Ex H H' → H' p = some (.lst (iL row)) → P row → Q (.ref p) H'
theorem RetP.go {P : List Int → Prop} {H H' H2 : Hp} {Q : VK} (k : RetP P H Q) (e : Ex H H') {p : Addr} {row : List Int} (hp : H' p = none) (e2 : Ex H' H2) (h : H2 p = some (.lst (iL row))) (hP : P row) : Q (.ref p) H2 := k p row H2 (fresh_back e hp) (e.trans e2) h hP
def sp_numbered (K : PySem.W.Frag) : Sp := fun vs H Q _ => ∃ (w : Nat) (a : Addr) (S : List Int) (m : Nat) (b : Addr) (kv : List (Int × Int)), vs = [.int (w : Int), .ref a, .int (m : Int), .ref b, .int 0] ∧ 1 ≤ w ∧ w ≤ 64 ∧ H a = some (.lst (iL S)) ∧ Pl w S ∧ m ≤ 100 ∧ Kn H b kv ∧ Kv w kv ∧ (∀ x, x ∈ keys kv → x ∈ S) ∧ (∃ f, Fit w m kv f) ∧ RetP (First w m S kv) H Q
theorem sc_numbered : FnScope ["width", "places", "count", "known", "number", "have", "left", "place", "word", "bits"] ["width", "places", "count", "known", "number"] (defScope sNumbered) := ⟨rfl, rfl, rfl, by decide +kernel, rfl, by decide +kernel, by decide +kernel⟩
theorem has_numbered {P : Program} {w : World} {K : PySem.W.Frag} {mg : Str → Option Value} {base : Heap} (T : Txt K mg) : Has P w K mg base "numbered" ["width", "places", "count", "known", "number"] 5 (sp_numbered K) := by
  refine Has.of T.gNumbered T.dNumbered (fun fd F => FunD.ok F sc_numbered (fun vs H Q E h => ?_) (fun cdv A outer s H vs Q E hr h => ?_)) fun _ _ _ _ _ _ us hl => match us, hl with | [_, _, _, _, _], _ => rfl
  · obtain ⟨w, a, S, m, b, kv, rfl, h0, h1, h2, h3, h4, h5, h6, h7, h8, k⟩ := h
    rfl
  · have hr : Room 4 _ := hr
    have h_power_of_two := has_power_of_two (P := P) (w := w) (base := base) T
    have h_word_possible := has_word_possible (P := P) (w := w) (base := base) T
    have h_many_fit := has_many_fit (P := P) (w := w) (base := base) T
    obtain ⟨w, a, S, m, b, kv, rfl, h0, h1, h2, h3, h4, h5, h6, h7, h8, k⟩ := h
    refine ⟨(tSeq (tAsg (tTup (tCons (tCB (rDictP K) (tCons (tVar 3) tNil)) (tCons (tCall _ [] E0 (tCons (tVar 0) (tCons (tVar 1) (tCons (tVar 2) (tCons (tVar 3) tNil))))) tNil))) (gTup K 2 (gCons (gName 5) (gCons (gName 6) gNil))))
      (tSeq (tFor (iList K (tVar 1)) (gName 7) (tIfS (tB (tDNotIn (tVar 7) (tVar 5))) (tSeq (tAsg (tCall _ [] E0 (tCons (tVar 0) (tCons (tVar 2) (tCons (tCB (rSortedPO K) (tCons (LiI.tListItems (tVar 5)) tNil)) (tCons (tVar 7) tNil))))) (gTup K 2 (gCons (gName 8) (gCons (gName 9) gNil))))
      (tSeq (tAug 6 (tCall _ [] E0 (tCons (tOp _ (tVar 0) (tVar 9)) tNil)) _)
      (tSeq (sDPut (tVar 5) (tVar 7) (tOp _ (tVar 8) (tOp _ (tOp _ (tVar 4) (tVar 6)) (tCall _ [] E0 (tCons (tVar 9) tNil)))))
      (tAug 4 (tVar 6) _)))) tNext))
      (tRet (tLc (iList K (tVar 1)) (gName 7) tYes (tDGet (tVar 5) (tVar 7)) [7])))), PSs.nox (pss_cons (ps_asg (pe_tup (pa_cons (pe_callTy (call_dictP (by rfl)) (by rfl) T.z_dict (by decide +kernel) (pa_cons (pv 3) pa_nil)) (pa_cons (pe_has h_many_fit (hr.mono (by decide)) (pa_cons (pv 0) (pa_cons (pv 1) (pa_cons (pv 2) (pa_cons (pv 3) pa_nil))))) pa_nil))) (pg_tup (by rfl) (pgs_cons (pg_name (i := 5) sc_numbered.nd rfl (Or.inr rfl)) (pgs_cons (pg_name (i := 6) sc_numbered.nd rfl (Or.inl rfl)) pgs_nil))))
    (pss_cons (ps_for PassesOwn.never (by rfl) (pi_list (pv 1)) (pg_name (i := 7) sc_numbered.nd rfl (Or.inl rfl)) (pss_one (ps_if (pt_cmp (pc_dnotin (hu_of hr) (pv 7) (pv 5)) (by rfl)) (pss_cons (ps_asg (pe_has h_word_possible (hr.mono (by decide)) (pa_cons (pv 0) (pa_cons (pv 2) (pa_cons (pe_callB cr_sortedPO (by rfl) T.z_sorted (by decide +kernel) (pa_cons (LiI.pe_listItems (by rfl) (pv 5) (by rfl) T.z_list (by decide +kernel)) pa_nil)) (pa_cons (pv 7) pa_nil))))) (pg_tup (by rfl) (pgs_cons (pg_name (i := 8) sc_numbered.nd rfl (Or.inl rfl)) (pgs_cons (pg_name (i := 9) sc_numbered.nd rfl (Or.inl rfl)) pgs_nil))))
    (pss_cons (ps_aug (i := 6) sc_numbered.nd rfl (Or.inl rfl) (pe_has h_power_of_two (hr.mono (by decide)) (pa_cons (pe_op op_sub (pv 0) (pv 9)) pa_nil)) iop_fdivW)
    (pss_cons (ps_dput (hu_of hr) (pv 5) (pv 7) (pe_op op_add (pv 8) (pe_op op_mulX (pe_op op_fdivW (pv 4) (pv 6)) (pe_has h_power_of_two (hr.mono (by decide)) (pa_cons (pv 9) pa_nil)))) (by rfl))
    (pss_one (ps_aug (i := 4) sc_numbered.nd rfl (Or.inl rfl) (pv 6) iop_mod))))) pss_nil)))
    (pss_one (ps_ret (pe_lc (own := [("place", 7)]) (g := (gName 7)) (tt := tYes) (te := (tDGet (tVar 5) (tVar 7))) (by rfl) sc_numbered.nd (pi_list (pv 1)) (blkOk_by (own := [("place", 7)]) (N := ["width", "places", "count", "known", "number", "have", "left", "place", "word", "bits"]) (sc := defScope sNumbered) (by decide +kernel)) (fun _ _ _ _ _ => (pg_name (i := 7) sc_numbered.nd rfl (Or.inl rfl))) (fun _ _ _ _ _ => pts_nil) (fun _ _ _ _ _ => (pe_dget (hu_of hr) (pv 5) (pv 7) (fun _ _ => rfl)))))))), ?_⟩
    have hl3 := h3.len
    have hmul : w * m ≤ 64 * 100 := Nat.mul_le_mul h1 h4
    have hAle : ∀ T, Amt w m T ≤ 6400 := fun T => Nat.le_trans (Amt_le w m T) hmul
    refine q_tupN (en_dict (ev_var rfl) h5 h6.nd) (ev_call (ea_cons (ev_var rfl) (ea_cons (ev_var rfl) (ea_cons (ev_var rfl) (ea_cons (ev_var rfl) ea_nil)))) (sv_many_fit h2 h3.nd h3.len h5 h6.nd h6.len h7 h1 h4)) fun pd H1 hpd e1 kd => ?_
    refine q_forLn (xs := iL S) (ev_var rfl) (.of (e1 _ _ h2)) (fun i σ' H' => ∃ (kvi : List (Int × Int)) (y7 y8 y9 : Option V), σ' = [some (.int (w : Int)), some (.ref a), some (.int (m : Int)), some (.ref b), some (.int 0), some (.ref pd), some (.int (2 ^ (Amt w m S - Amt w m (keys kvi)))), y7, y8, y9] ∧ NbW H H' w m S kv pd i kvi)
      (fun H2 e2 => ⟨kv, none, none, none, rfl, e1.trans e2, e2 _ _ kd, fill_zero h6.nd h6.wd h8⟩) (fun i σ' H' _ ⟨_, _, _, _, _, W⟩ => .of (W.ex _ _ h2)) ?_ ?_
    · rintro i x σ' H' hx ⟨kvi, y7, y8, y9, rfl, W⟩
      obtain ⟨p, hp, rfl⟩ := iL_of hx
      obtain ⟨hk, hsub⟩ := W.fill.kv h1 h3 h7
      have hpS : p ∈ S := List.mem_of_getElem? hp
      have hpb := h3.mem p hpS
      have h64 := pw_le h1
      refine s_when (b := !decide (p ∈ keys kvi)) (et_dnin (ev_var rfl) (ev_var rfl) W.d hk.nd) (fun hb H2 e2 => ?_) fun hb H2 e2 => ?_
      · have hpk : p ∉ keys kvi := by simpa using hb
        have W := W.put e2
        obtain ⟨f, hf⟩ := W.fill.code
        have hn2 : (keys (kvi ++ [(p, ev f p % 2 ^ Bits w m (keys kvi) p)])) = keys kvi ++ [p] := by simp [keys]
        have hstep : Amt w m (keys kvi ++ [p]) = Amt w m (keys kvi) + (w - Bits w m (keys kvi) p) := Amt_step hk.nd (by
          rw [List.nodup_append]
          exact ⟨hk.nd, by simp, fun x hx y hy => by rw [List.mem_singleton.mp hy]; intro e; exact hpk (e ▸ hx)⟩) fun x => by simp [or_comm]
        have hmono : Amt w m (keys kvi ++ [p]) ≤ Amt w m S := Amt_mono (by
          rw [List.nodup_append]
          exact ⟨hk.nd, by simp, fun x hx y hy => by rw [List.mem_singleton.mp hy]; intro e; exact hpk (e ▸ hx)⟩) h3.nd fun x hx => by
            rcases List.mem_append.mp hx with hx | hx
            · exact hsub x hx
            · rw [List.mem_singleton.mp hx]; exact hpS
        have hble := Bits_le w m (keys kvi) p
        have hA := hAle S
        refine q_wp (kv := kvi) (f := f) (p := p) (ev_var rfl) (ev_var rfl) (ek_sorted (ek_items (ev_var rfl) W.d)) (ev_var rfl) (fun kv' ⟨kv0, e, pm, _⟩ => by rw [← e]; exact pm) h0 h1 hk hf hpb.1 (by omega) fun H3 e3 => ?_
        have W := W.put e3
        refine q_augR (z := .int (2 ^ (Amt w m S - Amt w m (keys kvi ++ [p])))) rfl (ev_call (ea_cons (ev_is (ev_op (ev_var rfl) (ev_var rfl) rv_I0) (show V.int _ = V.int ((w - Bits w m (keys kvi) p : Nat) : Int) by congr 1; omega)) ea_nil) (sv_power_of_two (n := w - Bits w m (keys kvi) p) (by omega))) (rv_is (rv_I (pw_div (by omega))) (by rw [two_div (by omega)]; congr 2; omega)) fun H4 e4 => ?_
        have W := W.put e4
        refine q_dput (v := .int (ev f p % 2 ^ Bits w m (keys kvi) p)) (ev_is (ev_op (ev_var rfl) (ev_op (ev_op (ev_var rfl) (ev_var rfl) (rv_I (big_div (by omega)))) (ev_call (ea_cons (ev_var rfl) ea_nil) (sv_power_of_two (by omega))) (rv_I (mulx_ok (a := 1) (b := 65) (by simp) (by have := pw_le (show Bits w m (keys kvi) p ≤ 64 by omega); have := two_pos (Bits w m (keys kvi) p); exact nat_of (by omega) (by omega)) (by omega)))) rv_I0) (by simp)) (ev_var rfl) (ev_var rfl) W.d (by rw [dI_len]; have := hk.len; omega) fun H5 e5 => ?_
        have W := W.put e5
        rw [dI_put hpk]
        refine s_augR (z := .int 0) rfl (ev_var rfl) (rv_is (rv_I (two_pos _)) (by simp)) fun H6 e6 => ?_
        refine ⟨_, some (.int p), _, _, by rw [hn2]; rfl, (W.ex.mut hpd).trans e6, e6 _ _ upd_same, fill_put W.fill hp hpk (bits_told hk.nd p) ⟨f, hf, rfl⟩⟩
      · have hpk : p ∈ keys kvi := by simpa using hb
        have W := W.put e2
        exact ⟨kvi, some (.int p), y8, y9, rfl, W.ex, W.d, fill_skip W.fill hp hpk⟩
    · rintro σ' H' ⟨kvi, y7, y8, y9, rfl, W⟩
      obtain ⟨hk, hsub⟩ := W.fill.kv h1 h3 h7
      have hfl := W.fill
      rw [iL_len] at hfl
      have hmem : ∀ x, x ∈ S → x ∈ keys kvi := fun x hx => by
        obtain ⟨j, hj⟩ := List.mem_iff_getElem?.mp hx
        exact (hfl.mem x).mpr (.inr ⟨j, (List.getElem?_eq_some_iff.mp hj).1, hj⟩)
      refine s_retL (xs := iL (S.map (wdOf kvi))) (el_is (el_lcL (fun _ => true) (fun i => .int ((S.map (wdOf kvi)).getD i 0)) (ev_var rfl) (.of (W.ex _ _ h2)) (by rw [iL_len]; omega) (fun _ => rfl) (fun i x H2 e2 hx => et_yes) (fun i x H2 e2 hx _ => ?_)) ?_) fun p H2 hp e2 h => k.go W.ex hp e2 h (fill_end hfl (List.length_map _) fun j p v hj hv => ?_)
      · obtain ⟨y, hy, rfl⟩ := iL_of hx
        rw [List.getD_eq_getElem?_getD, List.getElem?_map, hy]
        exact ev_dget (ev_var rfl) (ev_var rfl) (e2 _ _ W.d) hk.nd (hmem y (List.mem_of_getElem? hy))
      · have : (iL S).length = (S.map (wdOf kvi)).length := by rw [iL_len, List.length_map]
        rw [this]
        exact given_iL _
      · rw [List.getElem?_map, hj] at hv
        cases hv
        exact wd_key hk.nd (hmem p (List.mem_of_getElem? hj))

end Ap


namespace Ap
open PySem PySem.Spec PyProof.Rows L2 Evl
/-! ### lists of objects of their own -/
def Os (H : Hp) (a : Addr) (os : List HO) : Prop := ∃ ts : List Addr, H a = some (.lst (ts.map V.ref)) ∧ ts.length = os.length ∧ ∀ (i : Nat) t o, ts[i]? = some t → os[i]? = some o → H t = some o
theorem Os.mono {H H' : Hp} {a : Addr} {os : List HO} (h : Os H a os) (e : Ex H H') : Os H' a os := by
  obtain ⟨ts, h1, h2, h3⟩ := h
  exact ⟨ts, e a _ h1, h2, fun i t o a b => e t _ (h3 i t o a b)⟩
def tp (q : Int × Int) : HO := .tup [.int q.1, .int q.2]
theorem Os.kn {H : Hp} {a : Addr} {kv : List (Int × Int)} (h : Os H a (kv.map tp)) : Kn H a kv := by
  obtain ⟨ts, h1, h2, h3⟩ := h
  exact ⟨ts, h1, by rw [h2, List.length_map], fun i t q ht hq => h3 i t (tp q) ht (by rw [List.getElem?_map, hq]; rfl)⟩
/-- a new list of objects -/
def EvM (te : TE) (σ : L2.St) (H : Hp) (os : List HO) : Prop := ∀ H1, Ex H H1 → ∀ Q : VK, (∀ p H2, H1 p = none → Ex H1 H2 → Os H2 p os → Q (.ref p) H2) → te σ H1 Q
section
variable {K : PySem.W.Frag} {σ : L2.St} {H H' : Hp} {ta tb te tx tc td t1 t2 t4 tk : TE} {t u : TT} {x y z v : V} {D : Ends} {tu tw tz : TS} {g : TG}
def Cm (H : Hp) (os : List HO) (Dl : Addr) (i : Nat) (H' : Hp) : Prop := H Dl = none ∧ Ex H H' ∧ ∃ ts : List Addr, H' Dl = some (.lst (ts.map V.ref)) ∧ ts.length = i ∧ ∀ (j : Nat) t o, ts[j]? = some t → os[j]? = some o → H' t = some o ∧ t ≠ Dl
theorem cm_turn {H H' : Hp} {os : List HO} {Dl : Addr} {i : Nat} {o : HO} {σ2 : L2.St} (p : Cm H os Dl i H') (hi : os[i]? = some o) (hl : i < 50000) (ht : EvT t σ2 H true) (he : EvN te σ2 H o) :
    t σ2 H' fun b H3 => if b = true then te σ2 H3 fun y H4 => ∃ acc, H4 Dl = some (.lst acc) ∧ acc.length < sizeLine ∧ Cm H os Dl (i + 1) (upd H4 Dl (.lst (acc ++ [y]))) else Cm H os Dl (i + 1) H3 := by
  obtain ⟨p1, p2, ts, p3, p4, p5⟩ := p
  refine ht H' p2 _ fun H3 e3 => ?_
  rw [if_pos rfl]
  refine he H3 (p2.trans e3) _ fun q H4 hq e4 k4 => ⟨ts.map V.ref, e4 _ _ (e3 _ _ p3), sz_lt (by rw [List.length_map]; omega), p1, Ex.mut ((p2.trans e3).trans e4) p1, ts ++ [q], by rw [upd_same, List.map_append]; rfl, by simp [p4], fun j t o' hj ho => ?_⟩
  have hqD : q ≠ Dl := fun e => by rw [e, e3 _ _ p3] at hq; cases hq
  by_cases hlt : j < ts.length
  · rw [List.getElem?_append_left hlt] at hj
    obtain ⟨a, b⟩ := p5 j t o' hj ho
    exact ⟨by rw [upd_ne b]; exact e4 _ _ (e3 _ _ a), b⟩
  · have : j = i := by have := (List.getElem?_eq_some_iff.mp hj).1; simp at this; omega
    subst this
    rw [List.getElem?_append_right (by omega)] at hj
    rw [show j - ts.length = 0 by omega] at hj
    cases hj
    rw [hi] at ho
    cases ho
    exact ⟨by rw [upd_ne hqD]; exact k4, hqD⟩
theorem Cm.os {os : List HO} {Dl : Addr} (h : Cm H os Dl os.length H') : Os H' Dl os := by
  obtain ⟨p1, p2, ts, p3, p4, p5⟩ := h
  exact ⟨ts, p3, p4, fun i t o a b => (p5 i t o a b).1⟩
theorem em_lcL {a : Addr} {xs : List V} {tl : TE} {j : Nat} {vs : List Nat} {os : List HO} (h : Ev tl σ H (.ref a)) (hx : SqL K H a xs) (hz : xs.length ≤ 40000) (hlen : xs.length = os.length) (hw : ∀ x, wipe ((wipe σ vs).set j (some x)) vs = wipe σ vs)
    (ht : ∀ (i : Nat) (x : V) H1, Ex H H1 → xs[i]? = some x → EvT t ((wipe σ vs).set j (some x)) H1 true) (he : ∀ (i : Nat) (x : V) o H1, Ex H H1 → xs[i]? = some x → os[i]? = some o → EvN te ((wipe σ vs).set j (some x)) H1 o) :
    EvM (tLc (iList K tl) (gName j) t te vs) σ H os := fun H0 e Q q => h H0 e _ fun H1 e1 => ⟨a, rfl, ⟨xs, ex_l (e.trans e1) hx⟩, fun Dl hD =>
  lc_list (xs := xs) (Cm H1 os Dl) ⟨hD, Ex.new hD, [], upd_same, rfl, fun j t o h => by simp at h⟩ (fun i H' _ p => ex_l ((e.trans e1).trans p.2.1) hx) (fun i x H' hi p => by
    have hlt := (List.getElem?_eq_some_iff.mp hi).1
    have ho := List.getElem?_eq_getElem (show i < os.length by omega)
    exact ⟨hw x, cm_turn p ho (by omega) (ht i x H1 (e.trans e1) hi) (he i x _ H1 (e.trans e1) hi ho)⟩)
    (fun H' p => by rw [hlen] at p; exact q Dl H' (fresh_back e1 p.1) (e1.trans p.2.1) p.os)⟩
theorem em_cat {os os' : List HO} (ha : EvM ta σ H os) (hb : EvM tb σ H os') (hl : os.length + os'.length ≤ 100000) : EvM (tOp rCat ta tb) σ H (os ++ os') := fun H0 e0 Q q =>
  ha H0 e0 _ fun p H1 _ e1 ⟨ts, k1, k2, k3⟩ => hb H1 (e0.trans e1) _ fun p' H2 _ e2 ⟨ts', k1', k2', k3'⟩ =>
    ⟨p, p', _, _, rfl, rfl, e2 _ _ k1, k1', sz_of (by rw [List.length_map, List.length_map]; omega), fun r hr => q r _ (fresh_back (e1.trans e2) hr) ((e1.trans e2).trans (Ex.new hr)) ⟨ts ++ ts', by rw [upd_same, List.map_append], by simp [k2, k2'], fun i t o ht ho => by
      refine (Ex.new hr) t _ ?_
      by_cases hlt : i < ts.length
      · rw [List.getElem?_append_left hlt] at ht
        rw [List.getElem?_append_left (by omega)] at ho
        exact e2 _ _ (k3 i t o ht ho)
      · rw [List.getElem?_append_right (by omega)] at ht
        rw [List.getElem?_append_right (by omega)] at ho
        rw [k2] at ht
        exact k3' _ t o ht ho⟩⟩
theorem em_one {o : HO} (h : EvN te σ H o) : EvM (tLst (tCons te tNil)) σ H [o] := fun H0 e0 Q q =>
  h H0 e0 _ fun p H1 _ e1 k1 => ⟨sz_of (by show 1 ≤ 100000; decide), fun r hr => q r _ (fresh_back e1 hr) (e1.trans (Ex.new hr)) ⟨[p], upd_same, rfl, fun i t o' ht ho => by
    cases i with
    | zero =>
      cases ht; cases ho
      exact Ex.new hr _ _ k1
    | succ i => simp at ht⟩⟩
theorem en_pair {i j : Int} (ha : Ev ta σ H (.int i)) (hb : Ev tb σ H (.int j)) : EvN (tTup (tCons ta (tCons tb tNil))) σ H (tp (i, j)) := eu_tup (ea_cons ha (ea_cons hb ea_nil)) (by show 2 ≤ 100000; decide)
theorem ek_em {kv : List (Int × Int)} (h : EvM te σ H (kv.map tp)) : EvK te σ H (fun kv' => kv' = kv) := fun H1 e Q q => h H1 e _ fun p H2 _ e2 k => q p kv H2 e2 k.kn rfl
theorem q_asgK {i : Nat} {P : List (Int × Int) → Prop} (h : EvK te σ H P) (k : ∀ b kv H1, P kv → Ex H H1 → Kn H1 b kv → tz D (σ.set i (some (.ref b))) H1) : tSeq (tAsg te (gName i)) tz D σ H :=
  h H (Ex.refl H) _ fun b kv H1 e hk p => k b kv H1 p e hk
/-- [(x, 0) for x in xs] + [(p, v)] -/
theorem em_known {a : Addr} {tl : TE} {j : Nat} {vs : List Nat} {P : List Int} {p c : Int} (h : Ev tl σ H (.ref a)) (hx : H a = some (.lst (iL P))) (hz : P.length ≤ 1000) (hw : ∀ x, wipe ((wipe σ vs).set j (some x)) vs = wipe σ vs)
    (he : ∀ (y : Int) H1, Ex H H1 → Ev ta ((wipe σ vs).set j (some (.int y))) H1 (.int y)) (h1 : Ev tb σ H (.int p)) (h2 : Ev tc σ H (.int c)) :
    EvM (tOp rCat (tLc (iList K tl) (gName j) tYes (tTup (tCons ta (tCons (tC (.int 0)) tNil))) vs) (tLst (tCons (tTup (tCons tb (tCons tc tNil))) tNil))) σ H (((P.map fun x => (x, (0 : Int))) ++ [(p, c)]).map tp) := by
  rw [List.map_append]
  refine em_cat (em_lcL h (.of hx) (by rw [iL_len]; omega) (by rw [iL_len, List.length_map, List.length_map]) hw (fun _ _ _ _ _ => et_yes) (fun i x o H1 e hx ho => ?_)) (em_one (en_pair h1 h2)) (by simp; omega)
  obtain ⟨y, hy, rfl⟩ := iL_of hx
  rw [List.getElem?_map, List.getElem?_map, hy] at ho
  cases ho
  exact en_pair (he y H1 e) ev_c
end
theorem two_lt {a b : Nat} (h : a < b) : (2 : Int) ^ a < 2 ^ b := by
  have := Nat.pow_lt_pow_right (a := 2) (by decide) h
  exact_mod_cast this
/-- the words that untold asks for -/
def unk (w m : Nat) (P : List Int) (p : Int) : List (Int × Int) := (P.map fun x => (x, (0 : Int))) ++ [(p, 2 ^ Bits w m P p)]
theorem unk_keys (w m : Nat) (P : List Int) (p : Int) : keys (unk w m P p) = P ++ [p] := by
  unfold keys unk
  rw [List.map_append, List.map_map]
  congr 1
  exact List.map_id P
theorem unk_fit (w m : Nat) {P : List Int} (hP : P.Nodup) (p : Int) : ∃ f, Fit w m (unk w m P p) f := by
  have hk : keys (P.map fun x => (x, (0 : Int))) = P := by unfold keys; rw [List.map_map]; exact List.map_id P
  have h0 : Fit w m (P.map fun x => (x, (0 : Int))) [] := ⟨by simp, fun q hq => by
    obtain ⟨x, hx, rfl⟩ := List.mem_map.mp hq
    show (2 : Int) ^ w ∣ ev [] x - 0
    exact ⟨0, by simp [ev]⟩⟩
  obtain ⟨g, hg⟩ := fit_more (p := p) (v := 2 ^ Bits w m P p) (t := Bits w m P p) (by rw [hk]; exact bits_told hP p) h0 (by simp [ev])
  exact ⟨g, (Fit.perm fun q => by unfold unk; rw [List.mem_append, List.mem_cons, List.mem_singleton]; exact or_comm).mp hg⟩
theorem unk_kv {w m : Nat} {S P : List Int} {p : Int} (hw : w ≤ 64) (hS : Pl w S) (hP : Part S P) (hp : p ∈ S) (hb : Bits w m P p < w) : Kv w (unk w m P p) ∧ ∀ x, x ∈ keys (unk w m P p) → x ∈ S := by
  have hpP : p ∉ P := fun h => by have := Bits_mem (w := w) (m := m) hP.nd h; omega
  have hsub : ∀ x, x ∈ keys (unk w m P p) → x ∈ S := fun x hx => by
    rw [unk_keys] at hx
    rcases List.mem_append.mp hx with h | h
    · exact hP.mem x h
    · rw [List.mem_singleton.mp h]; exact hp
  have hnd : (keys (unk w m P p)).Nodup := by
    rw [unk_keys, List.nodup_append]
    exact ⟨hP.nd, by simp, fun x hx y hy => by rw [List.mem_singleton.mp hy]; intro e; exact hpP (e ▸ hx)⟩
  refine ⟨⟨hnd, fun x hx => ?_, fun q hq => ?_, ?_⟩, hsub⟩
  · have := hS.mem x (hsub x hx)
    have := pw_le hw
    omega
  · unfold unk at hq
    have hpw := two_pos w
    rcases List.mem_append.mp hq with h | h
    · obtain ⟨x, hx, rfl⟩ := List.mem_map.mp h
      exact ⟨Int.le_refl _, hpw⟩
    · rw [List.mem_singleton.mp h]
      exact ⟨by have := two_pos (Bits w m P p); omega, two_lt hb⟩
  · have := List.Nodup.length_le_of_subset hnd hsub
    rw [keys_len] at this
    have := hS.len
    omega
def sp_untold (K : PySem.W.Frag) : Sp := fun vs H Q _ => ∃ (w : Nat) (a : Addr) (S : List Int) (m : Nat) (b : Addr) (P : List Int) (p : Int), vs = [.int (w : Int), .ref a, .int (m : Int), .ref b, .int p] ∧ 1 ≤ w ∧ w ≤ 64 ∧ H a = some (.lst (iL S)) ∧ Pl w S ∧ m ≤ 100 ∧ H b = some (.lst (iL P)) ∧ Part S P ∧ p ∈ S ∧
  (Bits w m P p = w → RetV .non H Q) ∧ (Bits w m P p < w → RetP (First w m S (unk w m P p)) H Q)
theorem sc_untold : FnScope ["width", "places", "count", "asked", "place", "bits", "known", "spot"] ["width", "places", "count", "asked", "place"] (defScope sUntold) := ⟨rfl, rfl, rfl, by decide +kernel, rfl, by decide +kernel, by decide +kernel⟩
theorem has_untold {P : Program} {w : World} {K : PySem.W.Frag} {mg : Str → Option Value} {base : Heap} (T : Txt K mg) : Has P w K mg base "untold" ["width", "places", "count", "asked", "place"] 8 (sp_untold K) := by
  refine Has.of T.gUntold T.dUntold (fun fd F => FunD.ok F sc_untold (fun vs H Q E h => ?_) (fun cdv A outer s H vs Q E hr h => ?_)) fun _ _ _ _ _ _ us hl => match us, hl with | [_, _, _, _, _], _ => rfl
  · obtain ⟨w, a, S, m, b, P, p, rfl, h0, h1, h2, h3, h4, h5, h6, h7, k1, k2⟩ := h
    rfl
  · have hr : Room 7 _ := hr
    have h_numbered := has_numbered (P := P) (w := w) (base := base) T
    have h_power_of_two := has_power_of_two (P := P) (w := w) (base := base) T
    have h_bits_told := has_bits_told (P := P) (w := w) (base := base) T
    obtain ⟨w, a, S, m, b, P, p, rfl, h0, h1, h2, h3, h4, h5, h6, h7, k1, k2⟩ := h
    refine ⟨(tSeq (tAsg (tCall _ [] E0 (tCons (tVar 0) (tCons (tVar 1) (tCons (tVar 2) (tCons (tVar 3) (tCons (tVar 4) tNil)))))) (gName 5))
      (tSeq (tIfS (tTest (tOp _ (tVar 5) (tVar 0))) (tRet (tC _)) tNext)
      (tSeq (tAsg (tCB (rSortedPO K) (tCons (tOp _ (tLc (iList K (tVar 3)) (gName 7) tYes (tTup (tCons (tVar 7) (tCons (tC _) tNil))) [7]) (tLst (tCons (tTup (tCons (tVar 4) (tCons (tCall _ [] E0 (tCons (tVar 5) tNil)) tNil))) tNil))) tNil)) (gName 6))
      (tRet (tCall _ [] E0 (tCons (tVar 0) (tCons (tVar 1) (tCons (tVar 2) (tCons (tVar 6) (tCons (tC _) tNil)))))))))), PSs.nox (pss_cons (ps_set (i := 5) sc_untold.nd rfl (Or.inl rfl) (pe_has h_bits_told (hr.mono (by decide)) (pa_cons (pv 0) (pa_cons (pv 1) (pa_cons (pv 2) (pa_cons (pv 3) (pa_cons (pv 4) pa_nil)))))))
    (pss_cons (ps_if (pt_cmpR op_eq (pv 5) (pv 0) (nomark _)) (pss_one (ps_ret pe_non)) pss_nil)
    (pss_cons (ps_set (i := 6) sc_untold.nd rfl (Or.inl rfl) (pe_callB cr_sortedPO (by rfl) T.z_sorted (by decide +kernel) (pa_cons (pe_op op_cat (pe_lc (own := [("spot", 7)]) (g := (gName 7)) (tt := tYes) (te := (tTup (tCons (tVar 7) (tCons (tC _) tNil)))) (by rfl) sc_untold.nd (pi_list (pv 3)) (blkOk_by (own := [("spot", 7)]) (N := ["width", "places", "count", "asked", "place", "bits", "known", "spot"]) (sc := defScope sUntold) (by decide +kernel)) (fun _ _ _ _ _ => (pg_name (i := 7) sc_untold.nd rfl (Or.inl rfl))) (fun _ _ _ _ _ => pts_nil) (fun _ _ _ _ _ => (pe_tup (pa_cons (pv 7) (pa_cons pe_int pa_nil))))) (pe_lst (pa_cons (pe_tup (pa_cons (pv 4) (pa_cons (pe_has h_power_of_two (hr.mono (by decide)) (pa_cons (pv 5) pa_nil)) pa_nil))) pa_nil))) pa_nil)))
    (pss_one (ps_ret (pe_has h_numbered (hr.mono (by decide)) (pa_cons (pv 0) (pa_cons (pv 1) (pa_cons (pv 2) (pa_cons (pv 6) (pa_cons pe_int pa_nil))))))))))), ?_⟩
    have hble := Bits_le w m P p
    refine q_asg (v := .int (Bits w m P p : Nat)) (ev_call (ea_cons (ev_var rfl) (ea_cons (ev_var rfl) (ea_cons (ev_var rfl) (ea_cons (ev_var rfl) (ea_cons (ev_var rfl) ea_nil))))) (sv_bits_told h0 h1 h2 h3 h5 h6 h7)) fun H1 e1 => ?_
    refine q_when (b := decide (Bits w m P p = w)) (et_test (ev_is (ev_op (ev_var rfl) (ev_var rfl) (rv_eq rfl)) ?_)) (fun hb H2 e2 => ?_) fun hb H2 e2 => ?_
    · congr 1
      simp
      constructor <;> intro h <;> omega
    · exact s_ret (v := .non) ev_c fun H3 e3 => (k1 (of_decide_eq_true hb)).go ((e1.trans e2).trans e3)
    have hlt : Bits w m P p < w := by have := of_decide_eq_false hb; omega
    have k2 := k2 hlt
    have X2 := e1.trans e2
    refine q_asgK (ek_sorted (ek_em (em_known (P := P) (p := p) (c := 2 ^ Bits w m P p) (ev_var rfl) (X2 _ _ h5) h6.len (fun _ => rfl) (fun y H3 e3 => ev_var rfl) (ev_var rfl) (ev_call (ea_cons (ev_var rfl) ea_nil) (sv_power_of_two (by omega)))))) fun b' kv H3 hkv e3 hk => ?_
    obtain ⟨kv0, e, pm, srt⟩ := hkv
    subst e
    have pm : kv.Perm (unk w m P p) := pm
    obtain ⟨hkv, hsub⟩ := unk_kv h1 h3 h6 h7 hlt
    obtain ⟨f, hf⟩ := unk_fit w m h6.nd p
    have X3 := X2.trans e3
    refine ⟨_, rfl, _, rfl, _, rfl, _, rfl, w, a, S, m, b', kv, rfl, h0, h1, X3 _ _ h2, h3, h4, hk, hkv.perm pm, fun x hx => hsub x ((keys_perm pm).mem_iff.mp hx), ⟨f, (Fit.perm fun q => pm.mem_iff).mpr hf⟩, fun r row H4 hr e4 k4 hF => ?_⟩
    exact k2.go X3 hr e4 k4 (hF.perm fun q => pm.mem_iff)

end Ap


namespace Ap
open PySem PySem.Spec PyProof.Rows L2 Evl
theorem dI_same {kv : List (Int × Int)} {k v : Int} (hn : (keys kv).Nodup) (h : (k, v) ∈ kv) : putK (dI kv) (Sum.inl k) (.int v) = dI kv := by
  have hk : k ∈ keys kv := List.mem_map.mpr ⟨(k, v), h, rfl⟩
  unfold putK
  rw [dI_any, decide_eq_true hk, if_pos rfl]
  unfold dI
  rw [List.map_map]
  refine List.map_congr_left fun q hq => ?_
  show (if (Sum.inl q.1 : Key) = Sum.inl k then ((Sum.inl q.1 : Key), V.int v) else (Sum.inl q.1, V.int q.2)) = (Sum.inl q.1, V.int q.2)
  by_cases e : q.1 = k
  · have e2 : q.2 = v := by
      have h1 := wd_mem hn hq
      have h2 : wdOf kv k = v := wd_mem hn h
      rw [e] at h1
      rw [← h1, ← h2]
    rw [if_pos (by rw [e]), e2]
  · have : ¬ (Sum.inl q.1 : Key) = Sum.inl k := fun z => e (Sum.inl.inj z)
    rw [if_neg this]
section
variable {K : PySem.W.Frag} {σ : L2.St} {H H' : Hp} {D : Ends} {tu tw tz : TS}
/-- zip(xs, ys, strict=True), the turns may change objects of their own -/
theorem q_forZSM {p q : Addr} {xs ys : List V} {j1 j2 : Nat} {ta : TA} (h : EvA ta σ H [.ref p, .ref q]) (hp : H p = some (.lst xs)) (hq : H q = some (.lst ys)) (hl : xs.length = ys.length) (Pv : Nat → L2.St → Hp → Prop) (h0 : ∀ H1, Ex H H1 → Pv 0 σ H1)
    (hh : ∀ i σ' H', Pv i σ' H' → H' p = some (.lst xs) ∧ H' q = some (.lst ys))
    (hs : ∀ (i : Nat) (x y : V) T σ' H', xs[i]? = some x → ys[i]? = some y → Pv i σ' H' → H' T = none → tu { nx := Pv (i + 1), rt := D.rt, bk := tz D, ct := Pv (i + 1) } ((σ'.set j1 (some x)).set j2 (some y)) (upd H' T (.tup [x, y])))
    (hd : ∀ σ' H', Pv xs.length σ' H' → tz D σ' H') : tSeq (tFor (Zst.iZs K true ta) (gTup K 2 (gCons (gName j1) (gCons (gName j2) gNil))) tu) tz D σ H := h H (Ex.refl H) _ fun H1 e1 =>
  ⟨p, q, xs, ys, rfl, .of (e1 p _ hp), .of (e1 q _ hq), for_it (Zst.walk_s (K := K) (a := p) (b := q) hl) Pv (h0 H1 e1) (fun i σ' H' _ c => ⟨.of (hh i σ' H' c).1, .of (hh i σ' H' c).2⟩) (fun i v σ' H2 H3 hi c y => by
    obtain ⟨T, a, b, rfl, hT, rfl, ha, hb⟩ := y
    exact ⟨T, [a, b], rfl, .of upd_same, rfl, a, [b], rfl, b, [], rfl, rfl, hs i a b T σ' _ ha hb c hT⟩) (fun σ' H' c => hd σ' H' c)⟩
end
/-- what how_many_ahead keeps: the words of a codeword's polynomial f -/
structure HaW (H H' : Hp) (w m : Nat) (S : List Int) (kv : List (Int × Int)) (f : List Int) (pd : Addr) (i : Nat) (kvi : List (Int × Int)) : Prop where
  ex : Ex H H'
  d : H' pd = some (.dK (dI kvi))
  wk : Kv w kvi
  fit : Fit w m kvi f
  sub : ∀ q, q ∈ kv → q ∈ kvi
  inn : ∀ x, x ∈ keys kvi → x ∈ S
  ahead : ∀ (j : Nat) x, j < i → S[j]? = some x → x ∈ keys kvi
theorem HaW.put {H H' H2 : Hp} {w m : Nat} {S : List Int} {kv : List (Int × Int)} {f : List Int} {pd : Addr} {i : Nat} {kvi : List (Int × Int)} (W : HaW H H' w m S kv f pd i kvi) (e : Ex H' H2) : HaW H H2 w m S kv f pd i kvi := ⟨W.ex.trans e, e _ _ W.d, W.wk, W.fit, W.sub, W.inn, W.ahead⟩
def sp_how_many_ahead (K : PySem.W.Frag) : Sp := fun vs H Q _ => ∃ (w : Nat) (a : Addr) (S : List Int) (m : Nat) (b : Addr) (kv : List (Int × Int)) (c : Addr) (row : List Int), vs = [.int (w : Int), .ref a, .int (m : Int), .ref b, .ref c] ∧ 1 ≤ w ∧ w ≤ 64 ∧ H a = some (.lst (iL S)) ∧ Pl w S ∧ m ≤ 100 ∧ Kn H b kv ∧ Kw w S kv ∧ H c = some (.lst (iL row)) ∧ First w m S kv row ∧ RetV (.int 0) H Q
theorem sv_how_many_ahead {K : PySem.W.Frag} {H : Hp} {w m : Nat} {a b c : Addr} {S row : List Int} {kv : List (Int × Int)} (h0 : 1 ≤ w) (h1 : w ≤ 64) (h2 : H a = some (.lst (iL S))) (h3 : Pl w S) (h4 : m ≤ 100) (h5 : Kn H b kv) (h6 : Kw w S kv) (h7 : H c = some (.lst (iL row))) (h8 : First w m S kv row) :
    SpV (sp_how_many_ahead K) [.int (w : Int), .ref a, .int (m : Int), .ref b, .ref c] H (.int 0) := fun H1 e Q q _ => ⟨w, a, S, m, b, kv, c, row, rfl, h0, h1, e a _ h2, h3, h4, h5.mono e, h6, e c _ h7, h8, q⟩
theorem First.len {w m : Nat} {S row : List Int} {kv : List (Int × Int)} (h : First w m S kv row) : row.length = S.length := by
  obtain ⟨f, _, e⟩ := h.code
  rw [e]; unfold rowOf; exact List.length_map _
theorem First.bound {w m : Nat} {S row : List Int} {kv : List (Int × Int)} (h : First w m S kv row) : ∀ x, x ∈ row → 0 ≤ x ∧ x < 2 ^ w := fun x hx => by
  obtain ⟨f, _, e⟩ := h.code
  rw [e] at hx
  obtain ⟨y, _, rfl⟩ := List.mem_map.mp hx
  exact word_lt (Nat.le_refl w) _
theorem sc_how_many_ahead : FnScope ["width", "places", "count", "known", "words", "have", "left", "found", "place", "wanted", "word", "bits", "step"] ["width", "places", "count", "known", "words"] (defScope sHowManyAhead) := ⟨rfl, rfl, rfl, by decide +kernel, rfl, by decide +kernel, by decide +kernel⟩
theorem has_how_many_ahead {P : Program} {w : World} {K : PySem.W.Frag} {mg : Str → Option Value} {base : Heap} (T : Txt K mg) : Has P w K mg base "how_many_ahead" ["width", "places", "count", "known", "words"] 7 (sp_how_many_ahead K) := by
  refine Has.of T.gHowManyAhead T.dHowManyAhead (fun fd F => FunD.ok F sc_how_many_ahead (fun vs H Q E h => ?_) (fun cdv A outer s H vs Q E hr h => ?_)) fun _ _ _ _ _ _ us hl => match us, hl with | [_, _, _, _, _], _ => rfl
  · obtain ⟨w, a, S, m, b, kv, c, row, rfl, h0, h1, h2, h3, h4, h5, h6, h7, h8, k⟩ := h
    rfl
  · have hr : Room 6 _ := hr
    have h_power_of_two := has_power_of_two (P := P) (w := w) (base := base) T
    have h_word_possible := has_word_possible (P := P) (w := w) (base := base) T
    have h_many_fit := has_many_fit (P := P) (w := w) (base := base) T
    have h_is_fit := has_is_fit (P := P) (w := w) (base := base) T
    have h_check_words := has_check_words (P := P) (w := w) (base := base) T
    have h_check_known := has_check_known (P := P) (w := w) (base := base) T
    have h_check_code := has_check_code (P := P) (w := w) (base := base) T
    obtain ⟨w, a, S, m, b, kv, c, row, rfl, h0, h1, h2, h3, h4, h5, h6, h7, h8, k⟩ := h
    refine ⟨(tSeq (tDrop (tCall _ [] E0 (tCons (tVar 0) (tCons (tVar 1) (tCons (tVar 2) tNil)))))
      (tSeq (tDrop (tCall _ [] E0 (tCons (tVar 0) (tCons (tVar 1) (tCons (tVar 3) tNil)))))
      (tSeq (tDrop (tCall _ [] E0 (tCons (tVar 0) (tCons (tVar 1) (tCons (tVar 4) tNil)))))
      (tSeq (tIfS (tNot (tB (tCall _ [] E0 (tCons (tVar 0) (tCons (tVar 2) (tCons (tVar 3) tNil)))))) (tRet (tC _)) tNext)
      (tSeq (tPar3 5 6 7 (tCons (tCB (rDictP K) (tCons (tVar 3) tNil)) (tCons (tCall _ [] E0 (tCons (tVar 0) (tCons (tVar 1) (tCons (tVar 2) (tCons (tVar 3) tNil))))) (tCons (tC _) tNil))))
      (tSeq (tFor (Zst.iZs K true (tCons (tVar 1) (tCons (tVar 4) tNil))) (gTup K 2 (gCons (gName 8) (gCons (gName 9) gNil))) (tSeq (tAsg (tCall _ [] E0 (tCons (tVar 0) (tCons (tVar 2) (tCons (tCB (rSortedPO K) (tCons (LiI.tListItems (tVar 5)) tNil)) (tCons (tVar 8) tNil))))) (gTup K 2 (gCons (gName 10) (gCons (gName 11) gNil))))
      (tSeq (tAsg (tCall _ [] E0 (tCons (tVar 11) tNil)) (gName 12))
      (tSeq (tAug 6 (tCall _ [] E0 (tCons (tOp _ (tVar 0) (tVar 11)) tNil)) _)
      (tSeq (tAug 7 (tOp _ (tVar 6) (tCB _ (tCons (tC _) (tCons (tOp _ (tOp _ (tOp _ (tOp _ (tVar 9) (tVar 10)) (tVar 12)) (tC _)) (tVar 12)) tNil)))) _)
      (tSeq (tIfS (tOr (tTest (tOp _ (tVar 9) (tVar 10))) (tTest (tOp _ (tOp _ (tOp _ (tVar 9) (tVar 10)) (tVar 12)) (tC _)))) (tRet (tVar 7)) tNext)
      (sDPut (tVar 5) (tVar 8) (tVar 9))))))))
      (tRet (tVar 7)))))))), PSs.nox (pss_cons (ps_expr (pe_has h_check_code (hr.mono (by decide)) (pa_cons (pv 0) (pa_cons (pv 1) (pa_cons (pv 2) pa_nil)))))
    (pss_cons (ps_expr (pe_has h_check_known (hr.mono (by decide)) (pa_cons (pv 0) (pa_cons (pv 1) (pa_cons (pv 3) pa_nil)))))
    (pss_cons (ps_expr (pe_has h_check_words (hr.mono (by decide)) (pa_cons (pv 0) (pa_cons (pv 1) (pa_cons (pv 4) pa_nil)))))
    (pss_cons (ps_if (pt_not (pt_val (pe_has h_is_fit (hr.mono (by decide)) (pa_cons (pv 0) (pa_cons (pv 2) (pa_cons (pv 3) pa_nil)))))) (pss_one (ps_ret pe_int)) pss_nil)
    (pss_cons (ps_par3 (i := 5) (j := 6) (l := 7) (by rfl) sc_how_many_ahead.nd rfl rfl rfl (by decide) (by decide) (by decide) rfl rfl rfl (pa_cons (pe_callTy (call_dictP (by rfl)) (by rfl) T.z_dict (by decide +kernel) (pa_cons (pv 3) pa_nil)) (pa_cons (pe_has h_many_fit (hr.mono (by decide)) (pa_cons (pv 0) (pa_cons (pv 1) (pa_cons (pv 2) (pa_cons (pv 3) pa_nil))))) (pa_cons pe_int pa_nil))) (by rfl))
    (pss_cons (ps_for PassesOwn.never (by rfl) (Zst.pi_zs (by rfl) T.z_zip (pa_cons (pv 1) (pa_cons (pv 4) pa_nil))) (pg_tup (by rfl) (pgs_cons (pg_name (i := 8) sc_how_many_ahead.nd rfl (Or.inl rfl)) (pgs_cons (pg_name (i := 9) sc_how_many_ahead.nd rfl (Or.inl rfl)) pgs_nil))) (pss_cons (ps_asg (pe_has h_word_possible (hr.mono (by decide)) (pa_cons (pv 0) (pa_cons (pv 2) (pa_cons (pe_callB cr_sortedPO (by rfl) T.z_sorted (by decide +kernel) (pa_cons (LiI.pe_listItems (by rfl) (pv 5) (by rfl) T.z_list (by decide +kernel)) pa_nil)) (pa_cons (pv 8) pa_nil))))) (pg_tup (by rfl) (pgs_cons (pg_name (i := 10) sc_how_many_ahead.nd rfl (Or.inl rfl)) (pgs_cons (pg_name (i := 11) sc_how_many_ahead.nd rfl (Or.inl rfl)) pgs_nil))))
    (pss_cons (ps_set (i := 12) sc_how_many_ahead.nd rfl (Or.inl rfl) (pe_has h_power_of_two (hr.mono (by decide)) (pa_cons (pv 11) pa_nil)))
    (pss_cons (ps_aug (i := 6) sc_how_many_ahead.nd rfl (Or.inl rfl) (pe_has h_power_of_two (hr.mono (by decide)) (pa_cons (pe_op op_sub (pv 0) (pv 11)) pa_nil)) iop_fdivW)
    (pss_cons (ps_aug (i := 7) sc_how_many_ahead.nd rfl (Or.inl rfl) (pe_op op_mulX (pv 6) (pe_callB (call_max2 (by rfl)) (by rfl) T.z_max (by decide +kernel) (pa_cons pe_int (pa_cons (pe_op op_fdivW (pe_op op_sub (pe_op op_add (pe_op op_sub (pv 9) (pv 10)) (pv 12)) pe_int) (pv 12)) pa_nil)))) ip_add)
    (pss_cons (ps_if (PW.pt (pw_or (pt_cmpR op_lt (pv 9) (pv 10) (nomark _)) (pw_or1 (pt_cmpR op_ne (pe_op op_mod (pe_op op_sub (pv 9) (pv 10)) (pv 12)) pe_int (nomark _))))) (pss_one (ps_ret (pv 7))) pss_nil)
    (pss_one (ps_dput (hu_of hr) (pv 5) (pv 8) (pv 9) (by rfl)))))))))
    (pss_one (ps_ret (pv 7))))))))), ?_⟩
    have hl3 := h3.len
    have hrl := h8.len
    have hrb := h8.bound
    obtain ⟨f, hf, er⟩ := h8.code
    have h6v := h6.kv h1 h3
    have hin : ∀ x, x ∈ keys kv → x ∈ S := fun x hx => by
      obtain ⟨q, hq, rfl⟩ := List.mem_map.mp hx
      exact (h6.mem q hq).1
    have hAle : ∀ T, Amt w m T ≤ 6400 := fun T => Nat.le_trans (Amt_le w m T) (Nat.mul_le_mul h1 h4)
    refine q_drop (v := .non) (ev_call (ea_cons (ev_var rfl) (ea_cons (ev_var rfl) (ea_cons (ev_var rfl) ea_nil))) (sv_check_code h0 h1 h2 h3)) fun H1 e1 => ?_
    refine q_drop (v := .non) (ev_call (ea_cons (ev_var rfl) (ea_cons (ev_var rfl) (ea_cons (ev_var rfl) ea_nil))) (sv_check_known h1 (e1 _ _ h2) (h5.mono e1) h6)) fun H2 e2 => ?_
    have X2 := e1.trans e2
    refine q_drop (v := .non) (ev_call (ea_cons (ev_var rfl) (ea_cons (ev_var rfl) (ea_cons (ev_var rfl) ea_nil))) (sv_check_words h1 (X2 _ _ h2) (X2 _ _ h7) hrl (by omega) hrb)) fun H3 e3 => ?_
    have X3 := X2.trans e3
    refine q_when (b := false) (et_not (a := true) (et_B (ev_call (ea_cons (ev_var rfl) (ea_cons (ev_var rfl) (ea_cons (ev_var rfl) ea_nil))) (sv_is_fit h0 h1 (h5.mono X3) h6v ⟨f, hf⟩)))) (fun h => by cases h) fun _ H4 e4 => ?_
    have X4 := X3.trans e4
    refine q_parN3 (en_dict (ev_var rfl) (h5.mono X4) h6v.nd) (ev_call (ea_cons (ev_var rfl) (ea_cons (ev_var rfl) (ea_cons (ev_var rfl) (ea_cons (ev_var rfl) ea_nil)))) (sv_many_fit (X4 _ _ h2) h3.nd h3.len (h5.mono X4) h6v.nd h6v.len hin h1 h4)) ev_c fun pd H5 hpd e5 kd => ?_
    have X5 := X4.trans e5
    have hpd0 := fresh_back X4 hpd
    have hleft : (0 : Int) ≤ 2 ^ (Amt w m S - Amt w m (keys kv)) ∧ (2 : Int) ^ (Amt w m S - Amt w m (keys kv)) < 2 ^ 6401 := by
      have := hAle S
      exact ⟨by have := two_pos (Amt w m S - Amt w m (keys kv)); omega, two_lt (by omega)⟩
    revert hleft
    generalize (2 : Int) ^ (Amt w m S - Amt w m (keys kv)) = left0
    intro hleft
    refine q_forZSM (xs := iL S) (ys := iL row) (ea_cons (ev_var rfl) (ea_cons (ev_var rfl) ea_nil)) (X5 _ _ h2) (X5 _ _ h7) (by rw [iL_len, iL_len, hrl])
      (fun i σ' H' => ∃ (kvi : List (Int × Int)) (l : Int) (y8 y9 y10 y11 y12 : Option V), σ' = [some (.int (w : Int)), some (.ref a), some (.int (m : Int)), some (.ref b), some (.ref c), some (.ref pd), some (.int l), some (.int 0), y8, y9, y10, y11, y12] ∧ 0 ≤ l ∧ l < 2 ^ 6401 ∧ HaW H H' w m S kv f pd i kvi)
      (fun H6 e6 => ⟨kv, left0, none, none, none, none, none, rfl, hleft.1, hleft.2, X5.trans e6, e6 _ _ kd, h6v, hf, fun _ h => h, hin, fun j x hj => by omega⟩) (fun i σ' H' ⟨_, _, _, _, _, _, _, _, _, _, W⟩ => ⟨W.ex _ _ h2, W.ex _ _ h7⟩) ?_ ?_
    · rintro i x y T σ' H' hx hy ⟨kvi, l, y8, y9, y10, y11, y12, rfl, l0, l1, W⟩ hT
      obtain ⟨p, hp, rfl⟩ := iL_of hx
      obtain ⟨v, hv, rfl⟩ := iL_of hy
      have W := W.put (Ex.new (o := .tup [.int p, .int v]) hT)
      generalize upd H' T (.tup [.int p, .int v]) = H6 at W ⊢
      have hpS : p ∈ S := List.mem_of_getElem? hp
      have hpb := h3.mem p hpS
      have h64 := pw_le h1
      have hble := Bits_le w m (keys kvi) p
      have hword : ev f p % 2 ^ Bits w m (keys kvi) p = v := first_least h8 hf er hp hv W.fit W.sub W.ahead (bits_told W.wk.nd p)
      have hvb := hrb v (List.mem_of_getElem? hv)
      refine q_wp (kv := kvi) (f := f) (p := p) (ev_var rfl) (ev_var rfl) (ek_sorted (ek_items (ev_var rfl) W.d)) (ev_var rfl) (fun kv' ⟨kv0, e, pm, _⟩ => by rw [← e]; exact pm) h0 h1 W.wk W.fit hpb.1 (by omega) fun H7 e7 => ?_
      have W := W.put e7
      rw [hword]
      refine q_asg (v := .int (2 ^ Bits w m (keys kvi) p)) (ev_call (ea_cons (ev_var rfl) ea_nil) (sv_power_of_two (by omega))) fun H8 e8 => ?_
      have W := W.put e8
      have hst := two_pos (Bits w m (keys kvi) p)
      refine q_augR (z := .int (l / 2 ^ (w - Bits w m (keys kvi) p))) rfl (ev_call (ea_cons (ev_is (ev_op (ev_var rfl) (ev_var rfl) rv_I0) (show V.int _ = V.int ((w - Bits w m (keys kvi) p : Nat) : Int) by congr 1; omega)) ea_nil) (sv_power_of_two (n := w - Bits w m (keys kvi) p) (by omega))) (rv_I (pw_div (by omega))) fun H9 e9 => ?_
      have W := W.put e9
      have hl0 : 0 ≤ l / 2 ^ (w - Bits w m (keys kvi) p) := Int.ediv_nonneg l0 (by have := two_pos (w - Bits w m (keys kvi) p); omega)
      have hl1 : l / 2 ^ (w - Bits w m (keys kvi) p) ≤ l := Int.ediv_le_self _ l0
      refine q_aug (a := 0) (b := 0) rfl (ev_is (ev_op (z := .int (l / 2 ^ (w - Bits w m (keys kvi) p) * 0)) (ev_var rfl) (ev_is (ev_max2 ev_c (ev_op (ev_op (ev_op (ev_op (ev_var rfl) (ev_var rfl) rv_I0) (ev_var rfl) rv_I0) ev_c rv_I0) (ev_var rfl) (rv_I (pw_div (by omega))))) (by
          have : (v - v + 2 ^ Bits w m (keys kvi) p - 1) / 2 ^ Bits w m (keys kvi) p = 0 := Int.ediv_eq_zero_of_lt (by omega) (by omega)
          rw [this]; rfl)) (rv_I (mulx_ok (a := 6401) (b := 1) (nat_of hl0 (by omega)) (by decide) (by omega)))) (by rw [Int.mul_zero])) fun H10 e10 => ?_
      have W := W.put e10
      refine q_when (b := false) (et_is (et_or (a := false) (b := false) (et_test (ev_is (ev_op (ev_var rfl) (ev_var rfl) rv_I0) (by rw [decide_eq_false (by omega)]))) (fun _ => et_test (ev_is (ev_op (ev_op (ev_op (ev_var rfl) (ev_var rfl) rv_I0) (ev_var rfl) (rv_I hst)) ev_c (rv_ne rfl)) (by simp)))) rfl) (fun h => by cases h) fun _ H11 e11 => ?_
      have W := W.put e11
      refine s_dput (v := .int v) (ev_var rfl) (ev_var rfl) (ev_var rfl) W.d (by rw [dI_len]; have := W.wk.len; omega) fun H12 e12 => ?_
      have W := W.put e12
      have hfv : (2 : Int) ^ w ∣ ev f p - v := by
        have e2 : v = ev f p % 2 ^ w := by
          rw [er] at hv
          unfold rowOf at hv
          rw [List.getElem?_map, hp] at hv
          simpa using hv.symm
        rw [e2]
        exact Int.dvd_self_sub_emod
      by_cases hpk : p ∈ keys kvi
      · have hin2 : (p, v) ∈ kvi := by
          have h9 := wd_key W.wk.nd hpk
          have h10 := W.fit.2 _ h9
          have h11 := W.wk.wd _ h9
          have e3 := Int.emod_eq_emod_iff_emod_sub_eq_zero.mpr (Int.emod_eq_zero_of_dvd h10)
          have e4 := Int.emod_eq_emod_iff_emod_sub_eq_zero.mpr (Int.emod_eq_zero_of_dvd hfv)
          have e5 : wdOf kvi p % 2 ^ w = wdOf kvi p := Int.emod_eq_of_lt h11.1 h11.2
          have e6 : v % 2 ^ w = v := Int.emod_eq_of_lt hvb.1 hvb.2
          have : wdOf kvi p = v := by
            rw [← e5, ← e6, ← e4]
            exact e3.symm
          rw [← this]; exact h9
        rw [dI_same W.wk.nd hin2]
        refine ⟨kvi, _, _, _, _, _, _, rfl, hl0, by omega, W.ex.mut hpd0, upd_same, W.wk, W.fit, W.sub, W.inn, fun j x hj hxj => ?_⟩
        by_cases e : j < i
        · exact W.ahead j x e hxj
        · have : j = i := by omega
          subst this
          rw [hp] at hxj
          cases hxj
          exact hpk
      · have hk : keys (kvi ++ [(p, v)]) = keys kvi ++ [p] := by simp [keys]
        have hnd : (keys (kvi ++ [(p, v)])).Nodup := by
          rw [hk, List.nodup_append]
          exact ⟨W.wk.nd, by simp, fun x hx y hy => by rw [List.mem_singleton.mp hy]; intro e; exact hpk (e ▸ hx)⟩
        have hsb : ∀ x, x ∈ keys (kvi ++ [(p, v)]) → x ∈ S := fun x hx => by
          rw [hk] at hx
          rcases List.mem_append.mp hx with h | h
          · exact W.inn x h
          · rw [List.mem_singleton.mp h]; exact hpS
        rw [dI_put hpk]
        refine ⟨kvi ++ [(p, v)], _, _, _, _, _, _, rfl, hl0, by omega, W.ex.mut hpd0, upd_same, ⟨hnd, fun x hx => ?_, fun q hq => ?_, ?_⟩, ⟨hf.1, fun q hq => ?_⟩, fun q hq => List.mem_append_left _ (W.sub q hq), hsb, fun j x hj hxj => ?_⟩
        · have := h3.mem x (hsb x hx); omega
        · rcases List.mem_append.mp hq with h | h
          · exact W.wk.wd q h
          · rw [List.mem_singleton.mp h]; exact hvb
        · have := List.Nodup.length_le_of_subset hnd hsb
          rw [keys_len] at this
          omega
        · rcases List.mem_append.mp hq with h | h
          · exact W.fit.2 q h
          · rw [List.mem_singleton.mp h]; exact hfv
        · rw [hk]
          by_cases e : j < i
          · exact List.mem_append_left _ (W.ahead j x e hxj)
          · have : j = i := by omega
            subst this
            rw [hp] at hxj
            cases hxj
            exact List.mem_append_right _ List.mem_cons_self
    · rintro σ' H' ⟨kvi, l, y8, y9, y10, y11, y12, rfl, l0, l1, W⟩
      exact s_ret (v := .int 0) (ev_var rfl) fun H6 e6 => k.go (W.ex.trans e6)

end Ap


namespace Ap
open PySem PySem.Spec PyProof.Rows L2 Evl
/-! ### a power whose base is wide -/
section
variable {X : Cx}
def CPowX (i j : Int) : Prop := 0 ≤ j ∧ (Builtin.Int.intBits i : Int) * j ≤ 2 ^ 27
theorem op_powX : OpR X (binaryOp .Pow) (rI CPowX fun i j => .int (i ^ j.toNat)) := opI fun _ _ _ _ _ _ _ hc q => pow_int hc.1 hc.2 q
end
/-! ### the text of a list of numbers -/
def lTxt (l : List Int) : Str := (PyData.list (l.map PyData.int)).shown
def rReprL (K : PySem.W.Frag) : List V → Hp → VK → Prop := fun xs H Q => (∃ (a : Addr) (l : List Int), xs = [.ref a] ∧ SqL K H a (iL l) ∧ l.length ≤ 1000 ∧ (∀ x, x ∈ l → x.natAbs < 2 ^ 64) ∧ Q (.str (lTxt l)) H) ∨ (xs = [.non] ∧ Q (.str "None") H)
theorem reads_ints {h : Heap} : ∀ {l : List Int} {its : List Value}, Vals (iL l) its → ∃ as, ReadsAll h its (l.map PyData.int) as
  | [], _, r => by
    cases r
    exact ⟨_, .nil⟩
  | x :: l, _, r => by
    cases r with
    | cons r1 r2 =>
      obtain ⟨t, rfl⟩ := r1
      obtain ⟨as, ih⟩ := reads_ints (h := h) r2
      exact ⟨_, .cons (.int x t) ih⟩
theorem shows_ints : ∀ {l : List Int}, (∀ x, x ∈ l → x.natAbs < 2 ^ 64) → PyData.showableAll (l.map PyData.int) = true ∧ PyData.leavesShortAll 65 (l.map PyData.int) = true ∧ PyData.hasDictAll (l.map PyData.int) = false ∧ PyData.bulkAll (l.map PyData.int) ≤ l.length ∧ PyData.depthAll (l.map PyData.int) = 0
  | [], _ => ⟨rfl, rfl, rfl, Nat.le_refl _, rfl⟩
  | x :: l, h => by
    obtain ⟨a, b, c, d, e⟩ := shows_ints (l := l) fun y hy => h y (List.mem_cons_of_mem _ hy)
    have hx := h x List.mem_cons_self
    have lg := PySem.Flt.log2_lt_of (by decide : 0 < 64) hx
    have tl := int_text_length_le (a := x) (by decide : 0 < 64) lg
    refine ⟨?_, ?_, ?_, ?_, ?_⟩
    · rw [List.map_cons, PyData.showableAll, a, Bool.and_true]
      show decide (x.natAbs.log2 < 1920) = true
      rw [decide_eq_true_eq]; omega
    · rw [List.map_cons, PyData.leavesShortAll, b, Bool.and_true]
      show decide (_ ≤ 65) = true
      rw [decide_eq_true_eq]
      show (Str.ofString (toString x)).length ≤ 65
      rw [PySem.ofString_length]
      exact tl
    · rw [List.map_cons, PyData.hasDictAll, c]; rfl
    · rw [List.map_cons, PyData.bulkAll, List.length_cons]
      have : PyData.bulk (.int x) = 0 := rfl
      omega
    · rw [List.map_cons, PyData.depthAll, e]; rfl
theorem text_fits {l : List Int} (hl : l.length ≤ 1000) (h : ∀ x, x ∈ l → x.natAbs < 2 ^ 64) : (lTxt l).length ≤ sizeLine := by
  obtain ⟨a, b, c, d, e⟩ := shows_ints h
  have h1 := PyData.shown_le_bulk 65 (by decide) (PyData.list (l.map PyData.int)) (by rw [PyData.leavesShort]; exact b)
  have h2 : PyData.bulk (PyData.list (l.map PyData.int)) = PyData.bulkAll (l.map PyData.int) := by rw [PyData.bulk]
  have h3 : sizeLine = 16777216 := by decide
  unfold lTxt
  rw [h2] at h1
  have h4 : (65 + 2) * PyData.bulkAll (l.map PyData.int) ≤ 67 * 1000 := Nat.mul_le_mul_left _ (by omega)
  omega
theorem call_reprL {X : Cx} (hg : X.A.guards = some []) (hu : X.A.units + 64 < cLine) : CallR X (.builtin "repr") (rReprL X.K) := by
  intro pins s σ H xs us Q I r h
  rcases h with ⟨a, l, rfl, hs, hl, hb, q⟩ | ⟨rfl, q⟩
  · obtain ⟨u, rfl, ru⟩ := vals1 r
    obtain rfl : u = Value.ref a := ru
    obtain ⟨its, rv, ⟨o, n, ho, hc, _, hd⟩, _⟩ := I.list hs
    obtain ⟨as, ra⟩ := reads_ints (h := s.heap) rv
    obtain ⟨p1, p2, p3, p4, p5⟩ := shows_ints hb
    have hr : Reads s.heap (.ref a) (PyData.list (l.map PyData.int)) (a :: as) := .list ho hc hd (by simpa using ra)
    refine repr_of_reads' hr (by rw [PyData.showable]; exact p1) (PyData.noDict_hsm (by rw [PyData.hasDict]; exact p3)) hg ?_ (fun _ _ e => e) (fun h' u tk hk => ⟨.str _, H, I.kept hk, ⟨u, rfl⟩, q⟩) (text_fits hl hb)
    rw [PyData.depth, p5]
    omega
  · obtain ⟨u, rfl, ru⟩ := vals1 r
    obtain rfl : u = Value.none := ru
    exact PySem.P.repr_of_none ⟨.str _, H, I.tok _, ⟨_, rfl⟩, q⟩
end Ap

namespace Ap
open PySem PySem.Spec PyProof.Rows L2 Evl SrtO
/-! ### lists of numbers, by their first difference -/
def lexL : List Int → List Int → Bool
  | [], [] => false
  | [], _ :: _ => true
  | _ :: _, [] => false
  | x :: xs, y :: ys => if x = y then lexL xs ys else decide (x < y)
theorem lexL_asym : ∀ x y, lexL x y = true → lexL y x = false
  | [], [], h => by cases h
  | [], _ :: _, _ => rfl
  | _ :: _, [], h => by cases h
  | x :: xs, y :: ys, h => by
    unfold lexL at h ⊢
    by_cases e : x = y
    · rw [if_pos e] at h
      rw [if_pos e.symm]
      exact lexL_asym xs ys h
    · rw [if_neg e, decide_eq_true_eq] at h
      rw [if_neg (fun z => e z.symm), decide_eq_false_iff_not]
      omega
theorem lexL_tr : ∀ x y z, lexL y x = false → lexL z y = false → lexL z x = false
  | [], [], [], _, _ => rfl
  | [], [], _ :: _, _, _ => rfl
  | [], _ :: _, [], _, h => by cases h
  | [], _ :: _, _ :: _, _, _ => rfl
  | _ :: _, [], _, h, _ => by cases h
  | _ :: _, _ :: _, [], _, h => by cases h
  | x :: xs, y :: ys, z :: zs, h1, h2 => by
    unfold lexL at h1 h2 ⊢
    by_cases e : y = x
    · subst e
      rw [if_pos rfl] at h1
      by_cases e2 : z = y
      · rw [if_pos e2] at h2
        rw [if_pos e2]
        exact lexL_tr xs ys zs h1 h2
      · rw [if_neg e2] at h2
        rw [if_neg e2]
        exact h2
    · rw [if_neg e, decide_eq_false_iff_not] at h1
      by_cases e2 : z = y
      · rw [e2, if_neg e, decide_eq_false_iff_not]
        exact h1
      · rw [if_neg e2, decide_eq_false_iff_not] at h2
        rw [if_neg (by omega), decide_eq_false_iff_not]
        omega
theorem lexL_swo {α : Type} (k : α → List Int) : Swo fun x y => lexL (k x) (k y) := ⟨fun x y => lexL_asym _ _, fun x y z => lexL_tr _ _ _⟩
theorem lexL_eq : ∀ x y, lexL x y = false → lexL y x = false → x = y
  | [], [], _, _ => rfl
  | [], _ :: _, h, _ => by cases h
  | _ :: _, [], _, h => by cases h
  | x :: xs, y :: ys, h1, h2 => by
    unfold lexL at h1 h2
    by_cases e : x = y
    · rw [if_pos e] at h1
      rw [if_pos e.symm] at h2
      rw [e, lexL_eq xs ys h1 h2]
    · rw [if_neg e, decide_eq_false_iff_not] at h1
      rw [if_neg (fun z => e z.symm), decide_eq_false_iff_not] at h2
      omega
/-- as the model walks it -/
theorem first_lex : ∀ (xs ys : List Int), SeqAt.firstLt (fun j => xs.getD j 0 == ys.getD j 0) (fun j => decide (xs.getD j 0 < ys.getD j 0)) (decide (xs.length < ys.length)) (List.range (min xs.length ys.length)) = lexL xs ys
  | [], [] => rfl
  | [], _ :: _ => by
    rw [show min ([] : List Int).length _ = 0 by simp]
    simp [SeqAt.firstLt, lexL]
  | _ :: _, [] => by
    rw [show min _ ([] : List Int).length = 0 by simp]
    simp [SeqAt.firstLt, lexL]
  | x :: xs, y :: ys => by
    have ih := first_lex xs ys
    rw [show min (x :: xs).length (y :: ys).length = min xs.length ys.length + 1 by simp only [List.length_cons]; omega, List.range_succ_eq_map]
    have sh : ∀ (e r : Nat → Bool) (fin : Bool) (l : List Nat), SeqAt.firstLt e r fin (l.map Nat.succ) = SeqAt.firstLt (fun j => e (j + 1)) (fun j => r (j + 1)) fin l := by
      intro e r fin l
      induction l with
      | nil => rfl
      | cons a l ih => rw [List.map_cons]; simp only [SeqAt.firstLt]; rw [ih]
    unfold lexL
    by_cases e : x = y
    · rw [SeqAt.firstLt_yes (by simp [e]), sh, if_pos e, ← ih]
      congr 1
      simp
    · rw [SeqAt.firstLt_no (by simp [e]), if_neg e]
      simp
/-! ### sorted(list of lists of numbers) -/
section
variable {prog : Program} {w : World} {A : Around} {E : Value → Shared → Prop} {s : Shared}
/-- a value that is a list of the numbers ns -/
def IsNs (h : Heap) (v : Value) (ns : List Int) : Prop := ∃ a its, v = .ref a ∧ h.IsList a its ∧ Vals (iL ns) its.toList
theorem IsNs.mono {h h' : Heap} {v : Value} {ns : List Int} (p : IsNs h v ns) (k : ∀ b o, h.get? b = some o → h'.get? b = some o) : IsNs h' v ns := by
  obtain ⟨a, its, e, ⟨o, ho, hc, n, hd⟩, r⟩ := p
  exact ⟨a, its, e, ⟨o, k a o ho, hc, n, hd⟩, r⟩
theorem vals_int {ns : List Int} {us : List Value} (r : Vals (iL ns) us) {j : Nat} {u : Value} (h : us[j]? = some u) : ∃ t, u = .int (ns.getD j 0) t := by
  have hl : (iL ns).length = us.length := r.length
  have hj := (List.getElem?_eq_some_iff.mp h).1
  rw [iL_len] at hl
  have h2 : (iL ns)[j]? = some (.int (ns.getD j 0)) := by
    unfold iL
    rw [List.getElem?_map, List.getD_eq_getElem?_getD, List.getElem?_eq_getElem (by omega)]; rfl
  obtain ⟨u', hu', ru⟩ := r.get h2
  rw [h] at hu'
  cases hu'
  exact ru
theorem lists_cmp {vs : List Value} {k : Value → List Int} (hu : A.units < cLine) (hp : ∀ v ∈ vs, IsNs s.heap v (k v)) : Cmp prog w A s oneType' (fun p => p.1 ∈ vs) (lt2 fun v u => lexL (k v) (k u)) := by
  intro p q hm hm'
  obtain ⟨a, its, e1, l1, r1⟩ := hp _ hm
  obtain ⟨b, its2, e2, l2, r2⟩ := hp _ hm'
  show wpAny (model prog w) A (keyLt' oneType' p.1 q.1) (fun r s' => s' = s ∧ r = lexL (k p.1) (k q.1)) (fun _ _ => False) s
  have n1 : its.size = (k p.1).length := by have := r1.length; rw [iL_len] at this; simpa using this.symm
  have n2 : its2.size = (k q.1).length := by have := r2.length; rw [iL_len] at this; simpa using this.symm
  generalize k p.1 = xs at *
  generalize k q.1 = ys at *
  rw [keyLt'_oneType, oneLt'_eq, e1, e2]
  simp only [if_true]
  refine wpAny_bind (wpAny_cRoomFor hu ?_)
  refine wpAny_bind (wpAny_callSpecialIfBound?_slot l1.typeIs PySem.F.slot_list_lt ?_)
  refine SeqAt.call_list_lt (e := fun j => xs.getD j 0 == ys.getD j 0) (r := fun j => decide (xs.getD j 0 < ys.getD j 0)) l1 l2 (fun j h1 h2 => ?_) (fun j h1 h2 _ => ?_) ?_
  · obtain ⟨t, et⟩ := vals_int r1 (j := j) (u := its[j]) (by simp)
    obtain ⟨u, eu⟩ := vals_int r2 (j := j) (u := its2[j]) (by simp)
    rw [et, eu]
    exact SeqAt.EqAt.int_int _ _ _ _
  · obtain ⟨t, et⟩ := vals_int r1 (j := j) (u := its[j]) (by simp)
    obtain ⟨u, eu⟩ := vals_int r2 (j := j) (u := its2[j]) (by simp)
    rw [et, eu]
    intro prog w E Q hq
    exact PyProof.Rows.lt_int hq
  · rw [n1, n2, first_lex]
    exact wpAny_truthy_bool ⟨rfl, rfl⟩
theorem lists_sortable {a : Addr} {vs : List Value} {k : Value → List Int} (hu : A.units < cLine) (h2 : 2 ≤ vs.length) (hp : ∀ v ∈ vs, IsNs s.heap v (k v)) (ha : ∀ v ∈ vs, v ≠ .ref a) : SortableO prog w A s a vs fun v u => lexL (k v) (k u) := by
  intro h' keep
  have hp' : ∀ v ∈ vs, IsNs h' v (k v) := fun v hm => by
    obtain ⟨b, its, e, ⟨o, ho, hc, n, hd⟩, r⟩ := hp v hm
    exact ⟨b, its, e, ⟨o, keep b o (fun z => ha v hm (by rw [e, z])) ho, hc, n, hd⟩, r⟩
  refine ⟨oneType', fun Q E hq => ?_, lists_cmp hu hp'⟩
  refine PySem.W.kas_kind (T := .type "list") h2 (fun v hm => ?_) (by decide) (by decide) hq
  obtain ⟨b, its, e, ⟨o, ho, hc, n, hd⟩, r⟩ := hp' v hm
  rw [e, ← hc]
  exact (PySem.W.Looks.ld ho).andThen .now
end
end Ap

namespace Ap
open PySem PySem.Spec PyProof.Rows L2 Evl SrtO
/-- sorted(rows), the rows lists of numbers -/
def rSortedLL (K : PySem.W.Frag) : List V → Hp → VK → Prop := fun vs H Q => ∃ (a : Addr) (xs : List V) (k : V → List Int), vs = [V.ref a] ∧ SqL K H a xs ∧ (∀ x, x ∈ xs → ∃ t, x = V.ref t ∧ H t = some (.lst (iL (k x)))) ∧
  ∀ ys p, Srtd (fun x y => lexL (k x) (k y)) ys → ys.Perm xs → H p = none → Q (.ref p) (upd H p (.lst ys))
theorem cr_sortedLL {X : Cx} (hu : X.A.units + 64 < cLine) : CallR X (.builtin "sorted") (rSortedLL X.K) := by
  intro pins s σ H vs us Q I r h
  obtain ⟨a, xs, k, rfl, hs, hx, q⟩ := h
  obtain ⟨its, rv, hl, hz⟩ := I.list hs
  obtain ⟨u, rfl, ru⟩ := vals1 r
  obtain rfl : u = Value.ref a := ru
  obtain ⟨e1, e2⟩ := L2.refs_back rv fun x m => by
    obtain ⟨t, e, _⟩ := hx x m
    exact ⟨t, e⟩
  have hk : ∀ v ∈ its, IsNs s.heap v (k (backV v)) := fun v hv => by
    obtain ⟨t, rfl⟩ := e2 v hv
    have hm : V.ref t ∈ xs := by rw [e1]; exact List.mem_map.mpr ⟨_, hv, rfl⟩
    obtain ⟨t', e, ht⟩ := hx _ hm
    cases e
    obtain ⟨its2, r2, p2, _⟩ := I.list (SqL.of (K := X.K) ht)
    exact ⟨t, its2.toArray, rfl, p2.isList, r2⟩
  refine sorted_ord (ltv := fun v u => lexL (k (backV v)) (k (backV u))) (lexL_swo fun v => k (backV v)) hl.isList (by rw [← rv.length]; exact hz) (fun h2 h₁ b hb kp => ?_) fun out hso hst => ?_
  · refine lists_sortable (s := { s with heap := h₁ }) (by show X.A.units + 1 + 1 < cLine; omega) h2 (fun v hv => (hk v hv).mono fun c o e => (kp c o e).2) fun v hv e => ?_
    obtain ⟨c, its2, e2, ⟨o, ho, _⟩, _⟩ := hk v hv
    rw [e2] at e
    cases e
    exact (kp b o ho).1 rfl
  · have h3 : ∀ u ∈ out, ∃ a, u = Value.ref a := fun u hu => e2 u (hst.perm.mem_iff.mp hu)
    obtain ⟨n, hn⟩ := sortedAll_at s.heap its out.toArray
    have hlen : (out.map backV).length ≤ sizeLine := by
      rw [List.length_map, hst.perm.length_eq, ← rv.length]; exact hz
    refine ⟨.ref (s.heap.objs.size + 1), upd H (s.heap.objs.size + 1) (.lst (out.map backV)), I.laid (t' := s.toks) (fun b o e => sortedAll_old e) (Nat.le_succ _) ⟨hlen, out, n, vals_back h3, hn⟩, rfl, q _ _ (List.pairwise_map.mpr hso) ?_ (I.hok.fresh (Nat.le_succ _))⟩
    rw [e1]
    exact hst.perm.map backV
end Ap

namespace Ap
open PySem PySem.Spec PyProof.Rows L2 Evl
/-! ### defs that show a list: no other list is being shown around them -/
structure FnG (P : Program) (w : World) (K : PySem.W.Frag) (mg : Str → Option Value) (base : Heap) (k : Nat) (f : Addr) (fd : FuncData) (ps : List Str) (sp : Sp) : Prop where
  size : ∀ vs H Q E, sp vs H Q E → vs.length = ps.length
  go : ∀ (A : Around) (outer : List Env) (s : Shared) (H : Hp) (args : Args) (us : List Value) (vs : List V) (Q : VK) (E : XK), A.guards = some [] → Room k A → Env0 P w K mg base A outer s H → BindsTo s fd args (ps.zip us) → Vals vs us → sp vs H Q E →
    codeAny (model P w) A (.call (.ref f) args) (CR CX0 outer P w H s Q E) s
section
variable {P : Program} {w : World} {K : PySem.W.Frag} {mg : Str → Option Value} {base : Heap}
theorem fnG_of {x : Str} {st : Stmt} {f : Addr} {fd : FuncData} {N ps : List Str} {k : Nat} {sp : Sp} (F : FnP K x st f fd) (S : FnScope N ps (defScope st)) (size : ∀ vs H Q E, sp vs H Q E → vs.length = ps.length)
    (hbody : ∀ (cdv : Value) (A : Around) (outer : List Env) (s : Shared) (H : Hp) (vs : List V) (Q : VK) (E : XK), A.guards = some [] → Room k (A.deeper (envOfC x (defScope st) s.heap.objs.size f cdv)) → sp vs H Q E →
      ∃ t, PSs (cxOf CX0 P w K mg base N x (defScope st) f cdv A outer s H E) (defBody st) t ∧ t { nx := fun _ H' => Q .non H', rt := Q } (start N vs) H) : FnG P w K mg base (k + 1) f fd ps sp := by
  obtain ⟨oc, od, dV, kV, doc, pm, an, cdv, ct, osl, rfl, lk, hcd, _, _⟩ := F.ex
  refine ⟨size, fun A outer s H args us vs Q E hg hr e0 hb r hsp => ?_⟩
  have old : ∀ b o, base.get? b = some o → s.heap.get? b = some o := fun b o e => (e0.bs b o e).1
  have KX : K.In s.heap := e0.mod.kin.keeps old
  have hps : ∀ y ∈ ps.zip us, (defScope st).names.lookup y.1 = some .local ∨ ((defScope st).names.lookup y.1 = some .cell ∧ ((cellsFrom (s.heap.objs.size + 1) (defScope st).names []).lookup y.1).isSome = true) := by
    rintro ⟨y, v⟩ hy
    rcases S.par y (List.of_mem_zip hy).1 with q | q
    · exact Or.inl q
    · exact Or.inr ⟨q, PySem.W.cellsFrom_some _ _ _ (Or.inl q)⟩
  refine codeAny_call_function hr.depth (KX _ _ lk) rfl S.co S.gen rfl (PySem.W.codeRec_of KX hcd) (hb _ _ _ _ (wpAny_newFunctionEnv_cells S.kind hps ?_))
  intro env he s1 xx
  cases he
  refine ⟨(e0.mod.nolimit.keeps old).keeps xx.toInCall.keep, codeAny_func ?_⟩
  obtain ⟨t, ht, hq⟩ := hbody cdv A outer s H vs Q E hg (hr.deeper _) hsp
  refine wpAny_mono (ht.run [] s1 (start N vs) H _ (inv_start S hr.hd e0 (size _ _ _ _ hsp) r xx) hq) (fun fl s' hs => ?_) fun e s' hs => hs
  match fl, hs with
  | .ret u, ⟨v, σ', H', J, rv, q⟩ => exact ⟨v, H', J.os, J.bare, J.base, J.hok, rv, q⟩
  | .next, ⟨σ', H', J, q⟩ => exact ⟨V.non, H', J.os, J.bare, J.base, J.hok, rfl, q⟩
  | .brk, ⟨_, _, _, q⟩ => exact q.elim
  | .cont, ⟨_, _, _, q⟩ => exact q.elim
/-- as Has, for such a def -/
structure HasG (P : Program) (w : World) (K : PySem.W.Frag) (mg : Str → Option Value) (base : Heap) (x : Str) (ps : List Str) (k : Nat) (sp : Sp) : Prop where
  ex : ∃ fd, FnG P w K mg base k (He.ga K x) fd ps sp ∧ Binds K fd ps [] ∧ PySem.W.keepIn K (.ref (He.ga K x)) = true
  mg : mg x = some (.ref (He.ga K x))
theorem HasG.of {x : Str} {ps : List Str} {k : Nat} {sp : Sp} {st : Stmt} (g : mg x = some (.ref (He.ga K x))) (d : ∃ fd, FnP K x st (He.ga K x) fd) (ok : ∀ fd, FnP K x st (He.ga K x) fd → FnG P w K mg base k (He.ga K x) fd ps sp)
    (hb : ∀ (kV doc pm : Value) (an : Option Addr) (cdv ct : Value) (us : List Value), us.length = ps.length → bindArgs (PySem.W.fnOf x x (defArgs st) (defBody st) (defScope st) .none kV doc pm an cdv ct) ⟨us, []⟩ = pure (ps.zip us)) : HasG P w K mg base x ps k sp := by
  obtain ⟨fd, F⟩ := d
  exact ⟨⟨fd, ok fd F, FunD.bindsN F hb, F.kp⟩, g⟩
theorem pe_hasG {X : Cx} {x : Str} {ps : List Str} {k : Nat} {sp : Sp} {e : Expr} {es : List Expr} {p pos : Pos} {t : TA} (h : HasG X.prog X.w X.K X.mg X.base x ps k sp) (hgd : X.A.guards = some []) (hr : Room k X.A) (ha : PA X (e :: es) t) (hg : Gl X x := by rfl)
    (hdb : (x == ("__debug__" : Str)) = false := by decide) (he : starEach (e :: es) X.env = (false, eval e X.env) :: starEach es X.env := by rfl) (hpl : (backTo pos (starEach es X.env)).any (·.1) = false := by rfl) :
    PE X (.Call (.Name x p) (e :: es) [] pos) (tCall sp [] E0 t) := by
  obtain ⟨fd, F, hb, hk⟩ := h.ex
  refine ⟨fun pins s σ H Q I q0 => wpAny_Call_Name_kw (ld_glob I hg h.mg (PySem.W.callWith_K (h₀ := X.base) I.ok.mod.kin hk (thn (ha.run pos pins s σ H _ I q0) ?_) he hpl) hdb)⟩
  rintro us s1 ⟨vs, H1, I1, r, q⟩
  refine ⟨I1.kIn, ?_⟩
  have r2 : Vals (vs ++ []) (us ++ []) := r.append .nil
  have hl : (us ++ []).length = ps.length := r2.length.symm.trans (F.size _ _ _ _ q)
  refine wpAny_call (codeAny_mono (F.go X.A X.stack s1 H1 ⟨us, []⟩ (us ++ []) (vs ++ []) Q E0 hgd hr I1.env0 (hb s1 us I1.kIn hl) r2 q) fun res s' hq => ?_)
  match res, hq with
  | .error er, hq => exact pass0 pins σ H1 s1 er s' I1 hq
  | .ok (.ret u), hq => exact I1.after hq
  | .ok .next, hq => exact False.elim hq
  | .ok .brk, hq => exact False.elim hq
  | .ok .cont, hq => exact False.elim hq
end
end Ap

namespace Ap
open PySem PySem.Spec PyProof.Rows L2 Evl
/-! ### the law's call, for such a def -/
/-- what is tracked at the law's call: nothing, or the script -/
def scriptH (K : PySem.W.Frag) (a : Addr) (vs : List Value) (ns : List Int) : Hp := fun b => if b = a ∧ K.lookup a = none then some (.frz { cls := .type "list", data := .seq vs.toArray } (.lst (ns.map V.int))) else none
theorem script_at {K : PySem.W.Frag} {a b : Addr} {vs : List Value} {ns : List Int} {o : HO} (h : scriptH K a vs ns b = some o) : b = a ∧ K.lookup a = none ∧ o = .frz { cls := .type "list", data := .seq vs.toArray } (.lst (ns.map V.int)) := by
  unfold scriptH at h
  split at h
  · next q => exact ⟨q.1, q.2, (Option.some.inj h).symm⟩
  · cases h
theorem law_callG {P : Program} {w : World} {K : PySem.W.Frag} {mg mb : Str → Option Value} {k : Nat} {fa a : Addr} {fd : FuncData} {x : Str} {sp : Sp} {s₁ : Shared} {vs : List Value} {ns : List Int}
    (KX : K.In s₁.heap) (hns : s₁.heap.Ns mainGlobals mg) (hb : s₁.heap.Ns builtinsNs mb) (hbb : ∀ x : Str, x ≠ "__name__" → mb x = bootBuiltins x) (hlim : s₁.heap.NoLimit) (hg : s₁.gens = #[])
    (ha : s₁.heap.get? a = some { cls := .type "list", data := .seq vs.toArray }) (hi : IntsAre vs ns) (hl : ns.length ≤ sizeLine) (hr : Room k callerA)
    (F : ∀ base : Heap, K.In base → base.Ns mainGlobals mg → FnG P w K mg base k fa fd [x] sp) (hbind : ∀ (s : Shared) (u : Value), BindsTo s fd ⟨[u], []⟩ [(x, u)])
    (hsp : ∀ H : Hp, SqL K H a (ns.map V.int) → sp [.ref a] H (fun v _ => v = .bl true) E0) :
    codeAny (model P w) callerA (.call (.ref fa) ⟨[.ref a], []⟩) (fun r s' => r = .ok (.ret (.bool true)) ∧ OldK s₁.heap s'.heap ∧ s'.os = s₁.os ∧ AllBare s'.gens) s₁ := by
  have rv := vals_ints hi
  generalize hH : scriptH K a vs ns = H
  have at1 : ∀ {b : Addr} {o : HO}, H b = some o → b = a ∧ K.lookup a = none ∧ o = .frz { cls := .type "list", data := .seq vs.toArray } (.lst (ns.map V.int)) := fun h => by
    rw [← hH] at h
    exact script_at h
  have off : ∀ {b : Addr}, b ≠ a ∨ K.lookup a ≠ none → H b = none := fun {b} h => by
    cases e : H b with
    | none => rfl
    | some o =>
      obtain ⟨e1, e2, _⟩ := at1 e
      rcases h with h | h
      · exact absurd e1 h
      · exact absurd e2 h
  have hS : SqL K H a (ns.map V.int) := by
    cases hk : K.lookup a with
    | none =>
      refine Or.inl (Or.inr ⟨{ cls := .type "list", data := .seq vs.toArray }, ?_⟩)
      rw [← hH]
      exact if_pos ⟨rfl, hk⟩
    | some o =>
      have e := (KX a o hk).symm.trans ha
      cases e
      exact Or.inr ⟨_, vs.toArray, _, hk, rfl, rfl, rfl, by rw [List.size_toArray, hi.length]; exact hl, by simpa using rv⟩
  have ok : HOk P w H s₁.heap := fun b u hb => by
    obtain ⟨rfl, _, rfl⟩ := at1 hb
    exact ⟨ha, by rw [List.length_map]; exact hl, vs, _, rv, ha⟩
  have hid : ∀ {b : Addr} {o : Obj}, s₁.heap.get? b = some o → H b = none → (hidT s₁.heap H).get? b = some o := fun e n => hidT_get e n
  have dic : ∀ {b : Addr} {o : Obj} {es : Array DictEntry} {ep : Nat}, s₁.heap.get? b = some o → o.data = .dict es ep → H b = none := fun {b o es ep} e d => by
    refine off (Or.inl fun z => ?_)
    subst z
    rw [ha] at e
    cases e
    cases (show Data.seq vs.toArray _ = Data.dict es ep from d)
  have nsB : ∀ {b : Addr} {m : Str → Option Value}, s₁.heap.Ns b m → (hidT s₁.heap H).Ns b m := fun ⟨o, es, ep, e, d, r⟩ => ⟨o, es, ep, hid e (dic e d), d, r⟩
  have kB : K.In (hidT s₁.heap H) := fun b o e => hid (KX b o e) (by
    by_cases z : b = a
    · exact off (Or.inr (by rw [← z, e]; exact fun q => nomatch q))
    · exact off (Or.inl z))
  obtain ⟨mc, l1, l2⟩ := hlim
  have e0 : Env0 P w K mg (hidT s₁.heap H) callerA [] s₁ H := ⟨rfl, ⟨kB, nsB hns, ⟨mb, nsB hb, hbb⟩, ⟨mc, nsB l1, l2⟩⟩, fun b o e => of_hidT e, Nat.le_of_eq (hidT_size _ _), trivial, fun b hb => (List.not_mem_nil hb).elim, ok, .of_eq hg⟩
  refine codeAny_mono ((F _ kB (nsB hns)).go callerA [] s₁ H ⟨[.ref a], []⟩ [.ref a] [.ref a] _ _ rfl hr e0 (hbind s₁ (.ref a)) (.cons rfl .nil) (hsp H hS)) fun r s' h => ?_
  match r, h with
  | .error e, h => exact (show False from h).elim
  | .ok .next, h => exact (show False from h).elim
  | .ok .brk, h => exact (show False from h).elim
  | .ok .cont, h => exact (show False from h).elim
  | .ok (.ret u), ⟨v, H', os, bare, un, ok', r', q⟩ =>
    cases (show v = .bl true from q)
    cases (show u = Value.bool true from r')
    refine ⟨rfl, OldK.of_keep fun b o e => ?_, os, bare⟩
    cases z : H b with
    | none => exact un.keep b o e z (fun q => (List.not_mem_nil q).elim) List.not_mem_nil
    | some u =>
      obtain ⟨rfl, _, rfl⟩ := at1 z
      obtain ⟨e1, _⟩ := ok b _ z
      obtain ⟨e2, _⟩ := ok' b _ (un.frzs b _ _ z)
      rw [e] at e1
      cases e1
      exact e2
/-- a law over a head by facts, its def one that shows lists -/
theorem walk_ofG {l : PySem.W.OpenLaw} {n k : Nat} {q : Program} {loose : List Str} {XP : (Str → Option Value) → Heap → Prop} {YP : World → Heap → Prop} {d : DefRec} {x : Str}
    (hn : l.most = some n) (hn2 : n ≤ sizeLine) (hdf : d.params.defaults = []) (hr : Room k callerA)
    (F : ∀ (w : World) (mg : Str → Option Value) (fa : Addr) (h : Heap), YP w h → h.Ns mainGlobals mg → mg d.name = some (.ref fa) →
      ∃ (K : PySem.W.Frag) (fd : FuncData) (sp : Sp), K.In h ∧ (∀ (s : Shared) (u : Value), BindsTo s fd ⟨[u], []⟩ [(x, u)]) ∧
        (∀ (H : Hp) (a : Addr) (ns : List Int), ns.length ≤ n → SqL K H a (ns.map V.int) → sp [.ref a] H (fun v _ => v = .bl true) E0) ∧
        ∀ base : Heap, K.In base → base.Ns mainGlobals mg → FnG l.prog w K mg base k fa fd [x] sp) :
    PySem.W.WalkO q loose XP YP l.row.toRowW d [] (fun f vs => PySem.call f vs) :=
  Att.attach_call hn hdf fun w _ s₁ mg _ fa _ _ _ _ a _ ns G Y _ _ _ hmg hobj hints hlen hg => by
    obtain ⟨K, fd, sp, KX, hb, hsp, hF⟩ := F w mg fa _ Y G.T.g hmg
    exact law_callG KX G.T.g G.T.b G.T.builtins G.T.nolimit hg hobj hints (Nat.le_trans hlen hn2) hr hF hb fun H hS => hsp H a ns hlen hS
end Ap

namespace Ap
open PySem PySem.Spec PyProof.Rows L2 Evl SrtO
/-! ### rows of the code -/
theorem rowOf_len (w : Nat) (S f : List Int) : (rowOf w S f).length = S.length := List.length_map _
theorem rowOf_at {w : Nat} {S f : List Int} {j : Nat} {p : Int} (h : S[j]? = some p) : (rowOf w S f).getD j 0 = ev f p % 2 ^ w := by
  unfold rowOf
  rw [List.getD_eq_getElem?_getD, List.getElem?_map, h]; rfl
theorem rowOf_idx {w : Nat} {S f : List Int} {p : Int} (h : p ∈ S) : (rowOf w S f).getD (zidx p S) 0 = ev f p % 2 ^ w := rowOf_at (zidx_at p S h)
theorem lexL_at {w : Nat} {f g : List Int} : ∀ S : List Int, lexL (rowOf w S g) (rowOf w S f) = false → rowOf w S f = rowOf w S g ∨ ∃ k, LexAt w S k f g
  | [], _ => .inl rfl
  | a :: S, h => by
    have h' : (if ev g a % 2 ^ w = ev f a % 2 ^ w then lexL (rowOf w S g) (rowOf w S f) else decide (ev g a % 2 ^ w < ev f a % 2 ^ w)) = false := h
    by_cases e : ev g a % 2 ^ w = ev f a % 2 ^ w
    · rw [if_pos e] at h'
      rcases lexL_at S h' with q | ⟨k, q1, b, q2, q3⟩
      · left
        show ev f a % 2 ^ w :: rowOf w S f = ev g a % 2 ^ w :: rowOf w S g
        rw [q, e]
      · right
        refine ⟨k + 1, fun j c hj hc => ?_, b, q2, q3⟩
        cases j with
        | zero => cases hc; exact e.symm
        | succ j => exact q1 j c (by omega) hc
    · rw [if_neg e, decide_eq_false_iff_not] at h'
      right
      exact ⟨0, fun j c hj => by omega, a, rfl, by omega⟩
/-- the rows of all polynomials of at most m coefficients, ascending -/
structure Codes (w m : Nat) (S : List Int) (rows : List (List Int)) : Prop where
  up : Srtd lexL rows
  mem : ∀ r, r ∈ rows ↔ ∃ f : List Int, f.length ≤ m ∧ r = rowOf w S f
/-- as the law counts the factors two of a number -/
def ltw (n : Int) : Nat := if n = 0 then 999 else twos n
theorem twos_two (t : Nat) : twos (2 ^ t) = t := by
  have hp := two_pos t
  obtain ⟨u, e, o⟩ := twos_spec (2 ^ t) (by omega)
  have a : ¬ t < twos (2 ^ t) := fun h => not_dvd_odd (t := t) (u := 1) (by decide) h ⟨u, by rw [Int.mul_one]; exact e⟩
  have b : ¬ twos (2 ^ t) < t := fun h => not_dvd_odd o h ⟨1, by rw [Int.mul_one]; exact e.symm⟩
  omega
theorem twos_ge {t : Nat} {n : Int} (h0 : n ≠ 0) (h : (2 : Int) ^ t ∣ n) : t ≤ twos n := by
  obtain ⟨u, e, o⟩ := twos_spec n h0
  by_cases hlt : twos n < t
  · rw [e] at h
    exact absurd h (not_dvd_odd o hlt)
  · omega
theorem mod_zero {w : Nat} {x : Int} : x % 2 ^ w = 0 ↔ (2 : Int) ^ w ∣ x := ⟨Int.dvd_of_emod_eq_zero, Int.emod_eq_zero_of_dvd⟩
theorem mod_dvd {t w : Nat} {x : Int} (h : t ≤ w) (d : (2 : Int) ^ t ∣ x) : (2 : Int) ^ t ∣ x % 2 ^ w := by
  have e := Int.mul_ediv_add_emod x (2 ^ w)
  have : (2 : Int) ^ t ∣ 2 ^ w * (x / 2 ^ w) := Int.dvd_trans (pow_dvd h) (Int.dvd_mul_right _ _)
  rw [show x % 2 ^ w = x - 2 ^ w * (x / 2 ^ w) by omega]
  exact Int.dvd_sub d this
/-- the rows that are zero at P -/
def zer (S P : List Int) (rows : List (List Int)) : List (List Int) := rows.filter fun r => P.all fun x => decide (r.getD (zidx x S) 0 = 0)
theorem zer_mem {w m : Nat} {S P : List Int} {rows : List (List Int)} (C : Codes w m S rows) (hP : ∀ x, x ∈ P → x ∈ S) {r : List Int} : r ∈ zer S P rows ↔ ∃ f : List Int, f.length ≤ m ∧ r = rowOf w S f ∧ ∀ b, b ∈ P → (2 : Int) ^ w ∣ ev f b := by
  unfold zer
  rw [List.mem_filter, C.mem]
  constructor
  · rintro ⟨⟨f, h1, rfl⟩, h2⟩
    refine ⟨f, h1, rfl, fun b hb => ?_⟩
    have := List.all_eq_true.mp h2 b hb
    rw [decide_eq_true_eq, rowOf_idx (hP b hb)] at this
    exact mod_zero.mp this
  · rintro ⟨f, h1, rfl, h2⟩
    refine ⟨⟨f, h1, rfl⟩, List.all_eq_true.mpr fun b hb => ?_⟩
    rw [decide_eq_true_eq, rowOf_idx (hP b hb)]
    exact mod_zero.mpr (h2 b hb)
/-- the least number of factors two at a place is the number of told bits -/
theorem due_bits {w m : Nat} {S P : List Int} {rows : List (List Int)} {j : Nat} {p : Int} (C : Codes w m S rows) (hw : w ≤ 64) (hn : P.Nodup) (hP : ∀ x, x ∈ P → x ∈ S) (hp : S[j]? = some p) :
    minL (w :: (zer S P rows).map fun r => ltw (r.getD j 0)) = Bits w m P p := by
  have ht := bits_told (w := w) (m := m) hn p
  have hle := ht.le
  refine minL_eq ?_ ?_
  · by_cases hlt : Bits w m P p < w
    · obtain ⟨f, hf⟩ := unk_fit w m hn p
      refine List.mem_cons_of_mem _ (List.mem_map.mpr ⟨rowOf w S f, (zer_mem C hP).mpr ⟨f, hf.1, rfl, fun b hb => ?_⟩, ?_⟩)
      · have := hf.2 (b, 0) (List.mem_append_left _ (List.mem_map.mpr ⟨b, hb, rfl⟩))
        rw [show ev f b - 0 = ev f b by omega] at this
        exact this
      · have h1 := hf.2 (p, 2 ^ Bits w m P p) (List.mem_append_right _ List.mem_cons_self)
        have h2 : ev f p % 2 ^ w = 2 ^ Bits w m P p % 2 ^ w := Int.emod_eq_emod_iff_emod_sub_eq_zero.mpr (Int.emod_eq_zero_of_dvd h1)
        have hb := two_pos (Bits w m P p)
        rw [rowOf_at hp, h2, Int.emod_eq_of_lt (by omega) (two_lt hlt)]
        unfold ltw
        rw [if_neg (by omega), twos_two]
    · have : Bits w m P p = w := by omega
      rw [this]; exact List.mem_cons_self
  · intro x hx
    rcases List.mem_cons.mp hx with rfl | hx
    · exact hle
    · obtain ⟨r, hr, rfl⟩ := List.mem_map.mp hx
      obtain ⟨f, h1, rfl, h2⟩ := (zer_mem C hP).mp hr
      rw [rowOf_at hp]
      unfold ltw
      split
      · omega
      · next h0 => exact twos_ge h0 (mod_dvd hle (ht.low f h1 h2))
/-- the rows that untold_due keeps: none where all is told; else the first of them is the first codeword -/
theorem due_rows {w m : Nat} {S P : List Int} {rows : List (List Int)} {j : Nat} {p : Int} (C : Codes w m S rows) (hn : P.Nodup) (hP : ∀ x, x ∈ P → x ∈ S) (hp : S[j]? = some p) (hlt : Bits w m P p < w) :
    ∃ r rest, ((zer S P rows).filter fun r => decide (r.getD j 0 = 2 ^ Bits w m P p)) = r :: rest ∧ First w m S (unk w m P p) r := by
  have hb := two_pos (Bits w m P p)
  have hb2 := two_lt hlt
  have mem : ∀ r, r ∈ ((zer S P rows).filter fun r => decide (r.getD j 0 = 2 ^ Bits w m P p)) ↔ ∃ f, Fit w m (unk w m P p) f ∧ r = rowOf w S f := by
    intro r
    rw [List.mem_filter, zer_mem C hP]
    constructor
    · rintro ⟨⟨f, h1, rfl, h2⟩, h3⟩
      rw [decide_eq_true_eq, rowOf_at hp] at h3
      refine ⟨f, ⟨h1, fun q hq => ?_⟩, rfl⟩
      rcases List.mem_append.mp hq with hq | hq
      · obtain ⟨b, hb, rfl⟩ := List.mem_map.mp hq
        rw [show ev f b - 0 = ev f b by omega]
        exact h2 b hb
      · rw [List.mem_singleton.mp hq]
        refine Int.dvd_of_emod_eq_zero (Int.emod_eq_emod_iff_emod_sub_eq_zero.mp ?_)
        show ev f p % 2 ^ w = 2 ^ Bits w m P p % 2 ^ w
        rw [h3, Int.emod_eq_of_lt (by omega) hb2]
    · rintro ⟨f, hf, rfl⟩
      refine ⟨⟨f, hf.1, rfl, fun b hb => ?_⟩, ?_⟩
      · have := hf.2 (b, 0) (List.mem_append_left _ (List.mem_map.mpr ⟨b, hb, rfl⟩))
        rw [show ev f b - 0 = ev f b by omega] at this
        exact this
      · have h1 := hf.2 (p, 2 ^ Bits w m P p) (List.mem_append_right _ List.mem_cons_self)
        have h2 : ev f p % 2 ^ w = 2 ^ Bits w m P p % 2 ^ w := Int.emod_eq_emod_iff_emod_sub_eq_zero.mpr (Int.emod_eq_zero_of_dvd h1)
        rw [decide_eq_true_eq, rowOf_at hp, h2, Int.emod_eq_of_lt (by omega) hb2]
  have up : Srtd lexL ((zer S P rows).filter fun r => decide (r.getD j 0 = 2 ^ Bits w m P p)) := by
    unfold zer
    exact (C.up.filter _).filter _
  obtain ⟨f0, hf0⟩ := unk_fit w m hn p
  have h0 := (mem (rowOf w S f0)).mpr ⟨f0, hf0, rfl⟩
  revert mem up h0
  generalize ((zer S P rows).filter fun r => decide (r.getD j 0 = 2 ^ Bits w m P p)) = l
  intro mem up h0
  cases l with
  | nil => cases h0
  | cons r rest =>
    refine ⟨r, rest, rfl, (mem r).mp List.mem_cons_self, fun f g hf er hg => ?_⟩
    have hg2 := (mem (rowOf w S g)).mpr ⟨g, hg, rfl⟩
    refine lexL_at S ?_
    rw [← er]
    rcases List.mem_cons.mp hg2 with e | hm
    · rw [e]
      exact (lexL_swo (fun x => x)).refl r
    · exact srtd_head up _ hm
/-! ### how the law makes all rows -/
def mono (k : Nat) : List Int := List.replicate k 0 ++ [1]
theorem ev_mono (k : Nat) (x : Int) : ev (mono k) x = x ^ k := by
  induction k with
  | zero => simp [mono, ev]
  | succ k ih =>
    have : ev (mono (k + 1)) x = 0 + x * ev (mono k) x := by
      unfold mono; rw [List.replicate_succ]; rfl
    rw [this, ih, Int.pow_succ, Int.mul_comm]; omega
theorem ev_split : ∀ (k : Nat) (f : List Int) (x : Int), f.length ≤ k + 1 → ev f x = ev (f.take k) x + f.getD k 0 * x ^ k
  | 0, [], x, _ => by simp [ev]
  | 0, [c], x, _ => by simp [ev]
  | 0, _ :: _ :: _, x, h => by simp at h
  | k + 1, [], x, _ => by simp [ev]
  | k + 1, c :: f, x, h => by
    have ih := ev_split k f x (by simpa using h)
    rw [List.take_succ_cons, List.getD_cons_succ]
    simp only [ev]
    rw [ih, Int.pow_succ]
    grind
def addRow (w k : Nat) (c : Int) (S r : List Int) : List Int := (S.zip r).map fun q => (q.2 + c * q.1 ^ k) % 2 ^ w
theorem addRow_of (w k : Nat) (c : Int) (S f : List Int) : addRow w k c S (rowOf w S f) = S.map fun a => (ev f a + c * a ^ k) % 2 ^ w := by
  unfold addRow rowOf
  induction S with
  | nil => rfl
  | cons a S ih =>
    rw [List.map_cons, List.zip_cons_cons, List.map_cons, List.map_cons, ih]
    congr 1
    exact Int.emod_add_emod ..
def Stage (w k : Nat) (S : List Int) (rows : List (List Int)) : Prop := ∀ r, r ∈ rows ↔ ∃ f : List Int, f.length ≤ k ∧ r = rowOf w S f
theorem stage_zero (w : Nat) (S : List Int) : Stage w 0 S [List.replicate S.length 0] := fun r => by
  have e : ∀ f : List Int, f.length ≤ 0 → rowOf w S f = List.replicate S.length 0 := fun f hf => by
    cases f with
    | nil =>
      unfold rowOf
      induction S with
      | nil => rfl
      | cons a S ih => rw [List.map_cons, ih, List.length_cons, List.replicate_succ]; simp [ev]
    | cons => simp at hf
  rw [List.mem_singleton]
  constructor
  · rintro rfl
    exact ⟨[], Nat.le_refl _, (e [] (Nat.le_refl _)).symm⟩
  · rintro ⟨f, hf, rfl⟩
    exact e f hf
theorem stage_next {w k : Nat} {S : List Int} {rows rows' : List (List Int)} (h : Stage w k S rows) (h' : ∀ r', r' ∈ rows' ↔ ∃ r c, r ∈ rows ∧ (0 : Int) ≤ c ∧ c < 2 ^ w ∧ r' = addRow w k c S r) : Stage w (k + 1) S rows' := fun r' => by
  rw [h']
  have hp := two_pos w
  constructor
  · rintro ⟨r, c, hr, c0, c1, rfl⟩
    obtain ⟨f, hf, rfl⟩ := (h r).mp hr
    refine ⟨padd f (psc c (mono k)), ?_, ?_⟩
    · rw [len_padd, len_psc]
      have : (mono k).length = k + 1 := by simp [mono]
      omega
    · rw [addRow_of]
      unfold rowOf
      refine List.map_congr_left fun a _ => ?_
      rw [ev_padd, ev_psc, ev_mono]
  · rintro ⟨f, hf, rfl⟩
    refine ⟨rowOf w S (f.take k), f.getD k 0 % 2 ^ w, (h _).mpr ⟨f.take k, by rw [List.length_take]; omega, rfl⟩, Int.emod_nonneg _ (by omega), Int.emod_lt_of_pos _ hp, ?_⟩
    rw [addRow_of]
    unfold rowOf
    refine List.map_congr_left fun a _ => ?_
    rw [ev_split k f a hf]
    have e1 : f.getD k 0 % 2 ^ w * a ^ k % 2 ^ w = f.getD k 0 * a ^ k % 2 ^ w := by rw [Int.mul_emod, Int.emod_emod_of_dvd _ (Int.dvd_refl _), ← Int.mul_emod]
    rw [Int.add_emod, ← e1, ← Int.add_emod]
theorem codes_from {w m : Nat} {S : List Int} {rows rows' : List (List Int)} (h : Stage w m S rows) (p : rows'.Perm rows) (up : Srtd lexL rows') : Codes w m S rows' := ⟨up, fun r => by rw [p.mem_iff]; exact h r⟩
/-! ### closures -/
theorem clo_mem {w m : Nat} {S P : List Int} {x : Int} : x ∈ clo w m S P ↔ x ∈ S ∧ Bits w m P x = w := by
  unfold clo
  rw [List.mem_filter, decide_eq_true_eq]
theorem clo_part {w m : Nat} {S P : List Int} (hS : Pl w S) : Part S (clo w m S P) :=
  ⟨fun x hx => (clo_mem.mp hx).1, hS.up.filter _, Nat.le_trans (List.length_filter_le _ _) hS.len⟩
theorem Bits_up {w m : Nat} {P P' : List Int} (h : P.Nodup) (h' : P'.Nodup) (hs : ∀ x, x ∈ P → x ∈ P') {x : Int} (e : Bits w m P x = w) : Bits w m P' x = w :=
  (Bits_whole h' x).mpr fun f hf hv => (Bits_whole h x).mp e f hf fun a ha => hv a (hs a ha)
theorem clo_mono {w m : Nat} {S P P' : List Int} (h : P.Nodup) (h' : P'.Nodup) (hs : ∀ x, x ∈ P → x ∈ P') {x : Int} (hx : x ∈ clo w m S P) : x ∈ clo w m S P' :=
  clo_mem.mpr ⟨(clo_mem.mp hx).1, Bits_up h h' hs (clo_mem.mp hx).2⟩
theorem clo_idem {w m : Nat} {S P : List Int} (hS : Pl w S) (hP : Part S P) : clo w m S (clo w m S P) = clo w m S P := by
  have hn := (clo_part (m := m) (P := P) hS).nd
  unfold clo
  refine List.filter_congr fun x hx => ?_
  have : Bits w m (clo w m S P) x = w ↔ Bits w m P x = w := by
    constructor
    · intro e
      refine (Bits_whole hP.nd x).mpr fun f hf hv => (Bits_whole hn x).mp e f hf fun a ha => ?_
      exact (Bits_whole hP.nd a).mp (clo_mem.mp ha).2 f hf hv
    · intro e
      exact Bits_up hP.nd hn (fun a ha => clo_mem.mpr ⟨hP.mem a ha, Bits_mem hP.nd ha⟩) e
  exact decide_eq_decide.mpr this
/-- the amount does not grow: told whole -/
theorem amt_same {w m : Nat} {P P' : List Int} {p : Int} (h : P.Nodup) (h' : P'.Nodup) (e : ∀ x, x ∈ P' ↔ x = p ∨ x ∈ P) : Amt w m P' = Amt w m P ↔ Bits w m P p = w := by
  have := Amt_step (w := w) (m := m) h h' e
  have := Bits_le w m P p
  omega
end Ap

namespace Ap
open PySem PySem.Spec PyProof.Rows L2 Evl
section
variable {K : PySem.W.Frag} {σ : L2.St} {H H' : Hp} {ta tb te tx tc td : TE} {t u : TT} {x y z v : V} {D : Ends} {tu tw tz : TS} {g : TG}
theorem ev_int {i : Int} (ha : Ev ta σ H (.int i)) : Ev (tCB (fun xs H Q => (∃ i, xs = [V.int i] ∧ Q (.int i) H) ∨ ∃ k, xs = [V.bl k] ∧ Q (.int (if k then 1 else 0)) H) (tCons ta tNil)) σ H (.int i) := fun H1 e Q q =>
  ha H1 e _ fun H2 e2 => .inl ⟨i, rfl, q H2 e2⟩
theorem ev_intB {b : Bool} (ha : Ev ta σ H (.bl b)) : Ev (tCB (fun xs H Q => (∃ i, xs = [V.int i] ∧ Q (.int i) H) ∨ ∃ k, xs = [V.bl k] ∧ Q (.int (if k then 1 else 0)) H) (tCons ta tNil)) σ H (.int (if b then 1 else 0)) := fun H1 e Q q =>
  ha H1 e _ fun H2 e2 => .inr ⟨b, rfl, q H2 e2⟩
theorem ev_bits {i : Int} (ha : Ev ta σ H (.int i)) : Ev (tBits ta) σ H (.int (Builtin.Int.intBits i : Nat)) := fun H1 e Q q => ha H1 e _ fun H2 e2 => ⟨i, rfl, q H2 e2⟩
end
/-! ### draws -/
def sp_law_hash (K : PySem.W.Frag) : Sp := fun vs H Q _ => ∃ a b : Int, vs = [.int a, .int b] ∧ 0 ≤ a ∧ a < 2 ^ 31 ∧ 0 ≤ b ∧ b < 2 ^ 31 ∧ RetR (fun v => ∃ i : Int, v = .int i ∧ 0 ≤ i ∧ i < 2 ^ 31) H Q
theorem sr_law_hash {K : PySem.W.Frag} {H : Hp} {a b : Int} (h1 : 0 ≤ a) (h2 : a < 2 ^ 31) (h3 : 0 ≤ b) (h4 : b < 2 ^ 31) : SpR (sp_law_hash K) [.int a, .int b] H (fun v => ∃ i : Int, v = .int i ∧ 0 ≤ i ∧ i < 2 ^ 31) :=
  fun H1 e Q q _ => ⟨a, b, rfl, h1, h2, h3, h4, fun v H2 e2 p => q v H2 e2 p⟩
theorem sc_law_hash : FnScope ["_law_seed", "_law_index", "_law_mixed"] ["_law_seed", "_law_index"] (defScope sLawHash) := ⟨rfl, rfl, rfl, by decide +kernel, rfl, by decide +kernel, by decide +kernel⟩
theorem has_law_hash {P : Program} {w : World} {K : PySem.W.Frag} {mg : Str → Option Value} {base : Heap} (T : Txt K mg) : Has P w K mg base "_law_hash" ["_law_seed", "_law_index"] 1 (sp_law_hash K) := by
  refine Has.of T.gLawHash T.dLawHash (fun fd F => FunD.ok F sc_law_hash (fun vs H Q E h => ?_) (fun cdv A outer s H vs Q E hr h => ?_)) fun _ _ _ _ _ _ us hl => match us, hl with | [_, _], _ => rfl
  · obtain ⟨a, b, rfl, h1, h2, h3, h4, k⟩ := h
    rfl
  · have hr : Room 0 _ := hr

    obtain ⟨a, b, rfl, h1, h2, h3, h4, k⟩ := h
    refine ⟨(tSeq (tAsg (tOp _ (tCB _ (tCons (tOp _ (tOp _ (tOp _ (tOp _ (tVar 0) (tC _)) (tOp _ (tOp _ (tC _) (tVar 1)) (tVar 1))) (tOp _ (tC _) (tVar 1))) (tC _)) tNil)) (tC _)) (gName 2))
      (tSeq (tAsg (tOp _ (tCB _ (tCons (tOp _ (tOp _ (tOp _ (tVar 2) (tVar 2)) (tOp _ (tC _) (tVar 1))) (tC _)) tNil)) (tC _)) (gName 2))
      (tRet (tOp _ (tCB _ (tCons (tOp _ (tVar 2) (tC _)) tNil)) (tC _))))), PSs.nox (pss_cons (ps_set (i := 2) sc_law_hash.nd rfl (Or.inl rfl) (pe_op op_mod (pe_callTy call_int1 (by rfl) T.z_int (by decide +kernel) (pa_cons (pe_op op_add (pe_op op_add (pe_op op_add (pe_op op_mulX (pv 0) pe_int) (pe_op op_mulX (pe_op op_mulX pe_int (pv 1)) (pv 1))) (pe_op op_mulX pe_int (pv 1))) pe_int) pa_nil)) pe_int))
    (pss_cons (ps_set (i := 2) sc_law_hash.nd rfl (Or.inl rfl) (pe_op op_mod (pe_callTy call_int1 (by rfl) T.z_int (by decide +kernel) (pa_cons (pe_op op_add (pe_op op_add (pe_op op_mulX (pv 2) (pv 2)) (pe_op op_mulX pe_int (pv 1))) pe_int) pa_nil)) pe_int))
    (pss_one (ps_ret (pe_op op_mod (pe_callTy call_int1 (by rfl) T.z_int (by decide +kernel) (pa_cons (pe_op op_mulX (pv 2) pe_int) pa_nil)) pe_int))))), ?_⟩
    have na := nat_of h1 h2
    have nb := nat_of h3 h4
    refine q_asg (v := .int ((a * 1140671 + 27644437 * b * b + 131 * b + 19) % 2147483629)) (ev_op (ev_int (ev_op (ev_op (ev_op (ev_op (ev_var rfl) ev_c (rv_I (mulx_ok (b := 21) na (by decide) (by decide)))) (ev_op (ev_op ev_c (ev_var rfl) (rv_I (mulx_ok (a := 25) (by decide) nb (by decide)))) (ev_var rfl) (rv_I (mulx_ok (wide_lt (a := 25) (by decide) nb) nb (by decide)))) rv_I0) (ev_op ev_c (ev_var rfl) (rv_I (mulx_ok (a := 8) (by decide) nb (by decide)))) rv_I0) ev_c rv_I0)) ev_c (rv_I (by decide))) fun H1 e1 => ?_
    have m0 := Int.emod_nonneg (a * 1140671 + 27644437 * b * b + 131 * b + 19) (show (2147483629 : Int) ≠ 0 by decide)
    have m1 := Int.emod_lt_of_pos (a * 1140671 + 27644437 * b * b + 131 * b + 19) (show (0 : Int) < 2147483629 by decide)
    revert m0 m1
    generalize (a * 1140671 + 27644437 * b * b + 131 * b + 19) % 2147483629 = m
    intro m0 m1
    have nm := nat_of (n := 31) m0 (by omega)
    refine q_asg (v := .int ((m * m + 62089 * b + 32416187) % 2147483587)) (ev_op (ev_int (ev_op (ev_op (ev_op (ev_var rfl) (ev_var rfl) (rv_I (mulx_ok nm nm (by decide)))) (ev_op ev_c (ev_var rfl) (rv_I (mulx_ok (a := 16) (by decide) nb (by decide)))) rv_I0) ev_c rv_I0)) ev_c (rv_I (by decide))) fun H2 e2 => ?_
    have r0 := Int.emod_nonneg (m * m + 62089 * b + 32416187) (show (2147483587 : Int) ≠ 0 by decide)
    have r1 := Int.emod_lt_of_pos (m * m + 62089 * b + 32416187) (show (0 : Int) < 2147483587 by decide)
    revert r0 r1
    generalize (m * m + 62089 * b + 32416187) % 2147483587 = r
    intro r0 r1
    refine s_ret (v := .int (r * 48271 % 2147483647)) (ev_op (ev_int (ev_op (ev_var rfl) ev_c (rv_I (mulx_ok (b := 16) (nat_of (n := 31) r0 (by omega)) (by decide) (by decide))))) ev_c (rv_I (by decide))) fun H3 e3 => ?_
    have s0 := Int.emod_nonneg (r * 48271) (show (2147483647 : Int) ≠ 0 by decide)
    have s1 := Int.emod_lt_of_pos (r * 48271) (show (0 : Int) < 2147483647 by decide)
    exact k.go ((e1.trans e2).trans e3) ⟨_, rfl, s0, by omega⟩

/-- all but the draws' list is kept -/
def Exg (g : Addr) (H H' : Hp) : Prop := ∀ a o, a ≠ g → H a = some o → H' a = some o
theorem Exg.refl (g : Addr) (H : Hp) : Exg g H H := fun _ _ _ h => h
theorem Exg.trans {g : Addr} {H H1 H2 : Hp} (a : Exg g H H1) (b : Exg g H1 H2) : Exg g H H2 := fun x o n h => b x o n (a x o n h)
theorem Exg.of {g : Addr} {H H' : Hp} (e : Ex H H') : Exg g H H' := fun a o _ h => e a o h
theorem Exg.upd {g : Addr} {H : Hp} {o : HO} : Exg g H (upd H g o) := fun a u n h => by rw [upd_ne n]; exact h
/-- the heap but that list -/
def dg (g : Addr) (H : Hp) : Hp := fun a => if a = g then none else H a
theorem dg_ne {g a : Addr} {H : Hp} (h : a ≠ g) : dg g H a = H a := if_neg h
theorem dg_at {g : Addr} {H : Hp} : dg g H g = none := if_pos rfl
theorem Exg.ex {g : Addr} {H H' : Hp} (e : Exg g H H') : Ex (dg g H) H' := fun a o h => by
  by_cases n : a = g
  · rw [n, dg_at] at h; cases h
  · rw [dg_ne n] at h
    exact e a o n h
theorem Exg.from {g : Addr} {H H' : Hp} (e : Ex (dg g H) H') : Exg g H H' := fun a o n h => e a o (by rw [dg_ne n]; exact h)
theorem exg_back {g a : Addr} {H H' : Hp} (e : Exg g H H') (hg : H g ≠ none) (h : H' a = none) (h' : H' g ≠ none) : H a = none := by
  by_cases n : a = g
  · subst n; exact absurd h h'
  · cases q : H a with
    | none => rfl
    | some o => rw [e a o n q] at h; cases h
/-- the draws' list: what is left of the seed, the hash's seed, the count -/
structure GnAt (H : Hp) (g : Addr) (N : Nat) (x y z : Int) : Prop where
  at' : H g = some (.lst [.int x, .int y, .int z])
  x0 : 0 ≤ x
  x1 : x < 2 ^ 2000
  y0 : 0 ≤ y
  y1 : y < 2 ^ 31
  z0 : 0 ≤ z
  z1 : z ≤ N
def Gn (H : Hp) (g : Addr) (N : Nat) : Prop := ∃ x y z, GnAt H g N x y z
theorem Gn.mono {H H' : Hp} {g : Addr} {N : Nat} (h : Gn H g N) (e : Ex H H') : Gn H' g N := by
  obtain ⟨x, y, z, a⟩ := h
  exact ⟨x, y, z, e _ _ a.at', a.x0, a.x1, a.y0, a.y1, a.z0, a.z1⟩
theorem Gn.up {H : Hp} {g : Addr} {N M : Nat} (h : Gn H g N) (e : N ≤ M) : Gn H g M := by
  obtain ⟨x, y, z, a⟩ := h
  exact ⟨x, y, z, a.at', a.x0, a.x1, a.y0, a.y1, a.z0, by have := a.z1; omega⟩
theorem Gn.there {H : Hp} {g : Addr} {N : Nat} (h : Gn H g N) : H g ≠ none := by
  obtain ⟨x, y, z, a⟩ := h
  rw [a.at']; exact fun h => nomatch h
theorem Gn.new {H : Hp} {g p : Addr} {N : Nat} {o : HO} (h : Gn H g N) (hp : H p = none) : Gn (upd H p o) g N := h.mono (Ex.new hp)
theorem Gn.put {H : Hp} {g p : Addr} {N : Nat} {o : HO} (h : Gn H g N) (hp : g ≠ p) : Gn (upd H p o) g N := by
  obtain ⟨x, y, z, a⟩ := h
  exact ⟨x, y, z, by rw [upd_ne hp]; exact a.at', a.x0, a.x1, a.y0, a.y1, a.z0, a.z1⟩
def sp_law_random (K : PySem.W.Frag) : Sp := fun vs H Q _ => ∃ (g : Addr) (n : Int) (N : Nat), vs = [.ref g, .int n] ∧ Gn H g N ∧ N ≤ 1000000 ∧ 1 ≤ n ∧ n ≤ 1024 ∧ ∀ (v : Int) H', 0 ≤ v → v < n → Exg g H H' → Gn H' g (N + 1) → Q (.int v) H'
theorem sc_law_random : FnScope ["_law_generator_here", "_law_bound", "_law_drawn", "_law_turn"] ["_law_generator_here", "_law_bound"] (defScope sLawRandom) := ⟨rfl, rfl, rfl, by decide +kernel, rfl, by decide +kernel, by decide +kernel⟩
theorem has_law_random {P : Program} {w : World} {K : PySem.W.Frag} {mg : Str → Option Value} {base : Heap} (T : Txt K mg) : Has P w K mg base "_law_random" ["_law_generator_here", "_law_bound"] 2 (sp_law_random K) := by
  refine Has.of T.gLawRandom T.dLawRandom (fun fd F => FunD.ok F sc_law_random (fun vs H Q E h => ?_) (fun cdv A outer s H vs Q E hr h => ?_)) fun _ _ _ _ _ _ us hl => match us, hl with | [_, _], _ => rfl
  · obtain ⟨g, n, N, rfl, hg, hN, h1, h2, k⟩ := h
    rfl
  · have hr : Room 1 _ := hr
    have h_law_hash := has_law_hash (P := P) (w := w) (base := base) T
    obtain ⟨g, n, N, rfl, hg, hN, h1, h2, k⟩ := h
    refine ⟨(tSeq (tIfS (tTest (tOp _ (tOp (rIxL K) (tVar 0) (tC _)) (tC _))) (tSeq (tAsg (tOp _ (tCB _ (tCons (tOp (rIxL K) (tVar 0) (tC _)) tNil)) (tVar 1)) (gName 2))
      (tSeq (tAsg (tOp _ (tOp (rIxL K) (tVar 0) (tC _)) (tVar 1)) (gSub (tVar 0) (tC _) rSetL))
      (tRet (tVar 2)))) tNext)
      (tSeq (tAsg (tC _) (gName 2))
      (tSeq (tFor (iRng1 (tCons (tOp _ (tC _) (tOp _ (tBits (tVar 1)) (tC _))) tNil)) (gName 3) (tSeq (tAsg (tOp _ (tOp (rIxL K) (tVar 0) (tC _)) (tC _)) (gSub (tVar 0) (tC _) rSetL))
      (tAsg (tOp _ (tOp _ (tVar 2) (tC _)) (tCall _ [] E0 (tCons (tOp (rIxL K) (tVar 0) (tC _)) (tCons (tOp (rIxL K) (tVar 0) (tC _)) tNil)))) (gName 2))))
      (tRet (tOp _ (tCB _ (tCons (tVar 2) tNil)) (tVar 1)))))), PSs.nox (pss_cons (ps_if (pt_cmpR op_gt (pe_ix ix_list (pv 0) pe_int (fun _ _ => rfl)) pe_int (nomark _)) (pss_cons (ps_set (i := 2) sc_law_random.nd rfl (Or.inl rfl) (pe_op op_mod (pe_callTy call_int1 (by rfl) T.z_int (by decide +kernel) (pa_cons (pe_ix ix_list (pv 0) pe_int (fun _ _ => rfl)) pa_nil)) (pv 1)))
    (pss_cons (ps_asg (pe_op op_fdivW (pe_ix ix_list (pv 0) pe_int (fun _ _ => rfl)) (pv 1)) (pg_sub (pv 0) pe_int set_list))
    (pss_one (ps_ret (pv 2))))) pss_nil)
    (pss_cons (ps_set (i := 2) sc_law_random.nd rfl (Or.inl rfl) pe_int)
    (pss_cons (ps_for PassesOwn.never (by rfl) (pi_range1 (by rfl) T.z_range (pa_cons (pe_op op_add pe_int (pe_op op_fdivW (pe_bits (pv 1)) pe_int)) pa_nil)) (pg_name (i := 3) sc_law_random.nd rfl (Or.inl rfl)) (pss_cons (ps_asg (pe_op op_add (pe_ix ix_list (pv 0) pe_int (fun _ _ => rfl)) pe_int) (pg_sub (pv 0) pe_int set_list))
    (pss_one (ps_set (i := 2) sc_law_random.nd rfl (Or.inl rfl) (pe_op op_add (pe_op op_mulX (pv 2) pe_int) (pe_has h_law_hash (hr.mono (by decide)) (pa_cons (pe_ix ix_list (pv 0) pe_int (fun _ _ => rfl)) (pa_cons (pe_ix ix_list (pv 0) pe_int (fun _ _ => rfl)) pa_nil))))))))
    (pss_one (ps_ret (pe_op op_mod (pe_callTy call_int1 (by rfl) T.z_int (by decide +kernel) (pa_cons (pv 2) pa_nil)) (pv 1))))))), ?_⟩
    obtain ⟨x, y, z, G⟩ := hg
    have n11 : n.natAbs < 2 ^ 11 := by omega
    have cd : ∀ i : Int, CDivW i n := fun i => wide_div (b := 11) (by omega) n11 (by decide) (by decide)
    refine q_when (b := decide (x > 0)) (et_test (ev_op (ev_op (ev_var rfl) ev_c (rv_ixL (.of G.at') (atI_nat (j := 0) rfl))) ev_c rv_I0)) (fun hb H1 e1 => ?_) fun hb H1 e1 => ?_
    · have hx : 0 < x := of_decide_eq_true hb
      have a1 := e1 _ _ G.at'
      refine q_asg (v := .int (x % n)) (ev_op (ev_int (ev_op (ev_var rfl) ev_c (rv_ixL (.of a1) (atI_nat (j := 0) rfl)))) (ev_var rfl) (rv_I (by omega))) fun H2 e2 => ?_
      have a2 := e2 _ _ a1
      refine q_setL (j := 0) (v := .int (x / n)) a2 (ev_op (ev_op (ev_var rfl) ev_c (rv_ixL (.of a2) (atI_nat (j := 0) rfl))) (ev_var rfl) (rv_I (cd x))) (ev_var rfl) ev_c (by simp) fun H3 e3 => ?_
      refine s_ret (v := .int (x % n)) (ev_var rfl) fun H4 e4 => ?_
      have hd0 : 0 ≤ x / n := Int.ediv_nonneg (by omega) (by omega)
      have hd1 : x / n ≤ x := Int.ediv_le_self _ (by omega)
      refine k _ _ (Int.emod_nonneg _ (by omega)) (Int.emod_lt_of_pos _ (by omega)) (((Exg.of ((e1.trans e2).trans e3)).trans Exg.upd).trans (Exg.of e4)) (Gn.mono ⟨x / n, y, z, upd_same, hd0, Int.lt_of_le_of_lt hd1 G.x1, G.y0, G.y1, G.z0, by have := G.z1; omega⟩ e4)
    have a1 := e1 _ _ G.at'
    refine q_asg (v := .int 0) ev_c fun H2 e2 => ?_
    have a2 := e2 _ _ a1
    have hbits : Builtin.Int.intBits n ≤ 11 := PyProof.Rows.intBits_le n11
    have hb30 : (1 : Int) + (Builtin.Int.intBits n : Nat) / 30 = 1 := by
      have : ((Builtin.Int.intBits n : Nat) : Int) / 30 = 0 := Int.ediv_eq_zero_of_lt (by omega) (by omega)
      omega
    refine q_forR1 (n := 1) (ea_cons (ev_is (ev_op ev_c (ev_op (ev_bits (ev_var rfl)) ev_c (rv_I (wide_div (b := 5) (by decide) (by decide) (by decide) (by decide)))) rv_I0) (by rw [hb30])) ea_nil) ⟨by decide, by decide⟩
      (fun i σ' H' => ∃ (d : Int) (y3 : Option V), σ' = [some (.ref g), some (.int n), some (.int d), y3] ∧ (i = 0 → d = 0) ∧ 0 ≤ d ∧ Exg g H H' ∧ ∃ z, GnAt H' g (N + i) x y z)
      (fun H3 e3 => ⟨0, none, rfl, fun _ => rfl, Int.le_refl _, Exg.of ((e1.trans e2).trans e3), z, e3 _ _ a2, G.x0, G.x1, G.y0, G.y1, G.z0, G.z1⟩) ?_ ?_
    · rintro i σ' H' hi ⟨d, y3, rfl, hd, _, eg, z', G'⟩
      obtain rfl : i = 0 := by omega
      obtain rfl := hd rfl
      refine q_setL (j := 2) (v := .int (z' + 1)) G'.at' (ev_op (ev_op (ev_var rfl) ev_c (rv_ixL (.of G'.at') (atI_nat (j := 2) rfl))) ev_c rv_I0) (ev_var rfl) ev_c (by simp) fun H3 e3 => ?_
      have z0 := G'.z0
      have z1 := G'.z1
      have a3 : (upd H3 g (.lst [.int x, .int y, .int (z' + 1)])) g = some (.lst [.int x, .int y, .int (z' + 1)]) := upd_same
      have x3 : Exg g H (upd H3 g (.lst [.int x, .int y, .int (z' + 1)])) := (eg.trans (Exg.of e3)).trans Exg.upd
      show (tAsg _ (gName 2)) _ _ (upd H3 g (.lst [.int x, .int y, .int (z' + 1)]))
      generalize upd H3 g (.lst [.int x, .int y, .int (z' + 1)]) = H5 at a3 x3 ⊢
      refine er_op (P := fun v => v = .int 0) (P2 := fun v => ∃ i : Int, v = .int i ∧ 0 ≤ i ∧ i < 2 ^ 31) (P3 := fun v => ∃ i : Int, v = .int i ∧ 0 ≤ i) (er_ev (ev_is (ev_op (ev_var rfl) ev_c (rv_I (mulx_ok (a := 1) (b := 31) (by decide) (by decide) (by decide)))) (by simp)) rfl) (er_call (ea_cons (ev_op (ev_var rfl) ev_c (rv_ixL (.of a3) (atI_nat (j := 1) rfl))) (ea_cons (ev_op (ev_var rfl) ev_c (rv_ixL (.of a3) (atI_nat (j := 2) rfl))) ea_nil)) (sr_law_hash G.y0 G.y1 (by omega) (by omega))) (fun a b ha ⟨i, hb, i0, _⟩ => ⟨.int (0 + i), by subst ha hb; exact rv_I0, _, rfl, by omega⟩) H5 (Ex.refl _) _ fun v H6 e6 ⟨i, hv, i0⟩ => ?_
      subst hv
      exact ⟨i, some (.int ((0 : Nat) : Int)), rfl, fun h => by omega, i0, x3.trans (Exg.of e6), z' + 1, e6 _ _ a3, G.x0, G.x1, G.y0, G.y1, by omega, by omega⟩
    · rintro σ' H' ⟨d, y3, rfl, _, d0, eg, z', G'⟩
      refine s_ret (v := .int (d % n)) (ev_op (ev_int (ev_var rfl)) (ev_var rfl) (rv_I (by omega))) fun H3 e3 => ?_
      exact k _ _ (Int.emod_nonneg _ (by omega)) (Int.emod_lt_of_pos _ (by omega)) (eg.trans (Exg.of e3)) (Gn.mono ⟨x, y, z', G'⟩ e3)

end Ap


namespace Ap
open PySem PySem.Spec PyProof.Rows L2 Evl
/-! ### the script's cells, the draws' list -/
def sp_law_cell (K : PySem.W.Frag) : Sp := fun vs H Q _ => ∃ (a : Addr) (ns : List Int) (i : Nat), vs = [.ref a, .int (i : Int)] ∧ SqL K H a (iL ns) ∧ ns.length ≤ 63 ∧ RetR (fun v => ∃ n : Int, v = .int n) H Q
theorem sr_law_cell {K : PySem.W.Frag} {H : Hp} {a : Addr} {ns : List Int} {i : Nat} (h1 : SqL K H a (iL ns)) (h2 : ns.length ≤ 63) : SpR (sp_law_cell K) [.ref a, .int (i : Int)] H (fun v => ∃ n : Int, v = .int n) :=
  fun H1 e Q q _ => ⟨a, ns, i, rfl, ex_l e h1, h2, fun v H2 e2 p => q v H2 e2 p⟩
theorem sc_law_cell : FnScope ["_law_script", "_law_index"] ["_law_script", "_law_index"] (defScope sLawCell) := ⟨rfl, rfl, rfl, by decide +kernel, rfl, by decide +kernel, by decide +kernel⟩
theorem has_law_cell {P : Program} {w : World} {K : PySem.W.Frag} {mg : Str → Option Value} {base : Heap} (T : Txt K mg) : Has P w K mg base "_law_cell" ["_law_script", "_law_index"] 1 (sp_law_cell K) := by
  refine Has.of T.gLawCell T.dLawCell (fun fd F => FunD.ok F sc_law_cell (fun vs H Q E h => ?_) (fun cdv A outer s H vs Q E hr h => ?_)) fun _ _ _ _ _ _ us hl => match us, hl with | [_, _], _ => rfl
  · obtain ⟨a, ns, i, rfl, h1, h2, k⟩ := h
    rfl
  · have hr : Room 0 _ := hr

    obtain ⟨a, ns, i, rfl, h1, h2, k⟩ := h
    refine ⟨(tSeq (tIfS (tTest (tOp _ (tVar 1) (tCB (Evl.rLenS K) (tCons (tVar 0) tNil)))) (tRet (tOp (rIxL K) (tVar 0) (tVar 1))) tNext)
      (tRet (tOp _ (tCB (rSum K) (tCons (tSl (rSlL K) (tVar 0) tNoPart (tPart (tC _))) tNil)) (tC _)))), PSs.nox (pss_cons (ps_if (pt_cmpR op_lt (pv 1) (pe_callB call_len_seq (by rfl) T.z_len (by decide +kernel) (pa_cons (pv 0) pa_nil)) (nomark _)) (pss_one (ps_ret (pe_ix ix_list (pv 0) (pv 1) (fun _ _ => rfl)))) pss_nil)
    (pss_one (ps_ret (pe_op op_mod (pe_callB (cr_sum (by rfl)) (by rfl) T.z_sum (by decide +kernel) (pa_cons (pe_slice sl_list (pv 0) po_none (po_some pe_int)) pa_nil)) pe_int)))), ?_⟩
    refine q_when (b := decide (i < ns.length)) (et_test (ev_is (ev_op (ev_var rfl) (ev_len (ev_var rfl) h1) rv_I0) (by rw [iL_len]; congr 1; simp))) (fun hb H1 e1 => ?_) fun hb H1 e1 => ?_
    · have hi : i < ns.length := of_decide_eq_true hb
      exact s_ret (v := .int ns[i]) (ev_op (ev_var rfl) (ev_var rfl) (rv_ixL (ex_l e1 h1) (atI_nat (iL_get (List.getElem?_eq_getElem hi))))) fun H2 e2 => k.go (e1.trans e2) ⟨_, rfl⟩
    · refine s_ret (v := .int ((ns.take 1).sum % 1000003)) (ev_op (ev_sumL (el_is (el_sl (ev_var rfl) eo_none (eo_some ev_c) (ex_l e1 h1)) (by rw [show (1 : Int) = ((1 : Nat) : Int) from rfl, cut_take, iL_take]))) ev_c (rv_I (by decide))) fun H2 e2 => k.go (e1.trans e2) ⟨_, rfl⟩

def sp_law_generator (K : PySem.W.Frag) : Sp := fun vs H Q _ => ∃ (a : Addr) (ns : List Int) (i : Nat), vs = [.ref a, .int (i : Int)] ∧ SqL K H a (iL ns) ∧ ns.length ≤ 63 ∧ i ≤ 3 ∧ ∀ p H', H p = none → Ex H H' → Gn H' p 4000 → Q (.ref p) H'
theorem big_seed : ((10 : Int) ^ (60 : Int).toNat) ^ (10 : Int).toNat < 2 ^ 2000 := by decide +kernel
theorem big_pos : (0 : Int) < ((10 : Int) ^ (60 : Int).toNat) ^ (10 : Int).toNat := by decide +kernel
theorem sc_law_generator : FnScope ["_law_script", "_law_index", "_law_seed"] ["_law_script", "_law_index"] (defScope sLawGenerator) := ⟨rfl, rfl, rfl, by decide +kernel, rfl, by decide +kernel, by decide +kernel⟩
theorem has_law_generator {P : Program} {w : World} {K : PySem.W.Frag} {mg : Str → Option Value} {base : Heap} (T : Txt K mg) : Has P w K mg base "_law_generator" ["_law_script", "_law_index"] 2 (sp_law_generator K) := by
  refine Has.of T.gLawGenerator T.dLawGenerator (fun fd F => FunD.ok F sc_law_generator (fun vs H Q E h => ?_) (fun cdv A outer s H vs Q E hr h => ?_)) fun _ _ _ _ _ _ us hl => match us, hl with | [_, _], _ => rfl
  · obtain ⟨a, ns, i, rfl, h1, h2, h3, k⟩ := h
    rfl
  · have hr : Room 1 _ := hr
    have h_law_cell := has_law_cell (P := P) (w := w) (base := base) T
    obtain ⟨a, ns, i, rfl, h1, h2, h3, k⟩ := h
    refine ⟨(tSeq (tAsg (tCall _ [] E0 (tCons (tVar 0) (tCons (tVar 1) tNil))) (gName 2))
      (tRet (tLst (tCons (tOp _ (tCB _ (tCons (tCB _ (tCons (tOp _ (tVar 2) (tOp _ (tC _) (tC _))) (tCons (tC _) tNil))) tNil)) (tOp _ (tOp _ (tC _) (tC _)) (tC _))) (tCons (tOp _ (tCB _ (tCons (tVar 2) tNil)) (tC _)) (tCons (tOp _ (tC _) (tVar 1)) tNil)))))), PSs.nox (pss_cons (ps_set (i := 2) sc_law_generator.nd rfl (Or.inl rfl) (pe_has h_law_cell (hr.mono (by decide)) (pa_cons (pv 0) (pa_cons (pv 1) pa_nil))))
    (pss_one (ps_ret (pe_lst (pa_cons (pe_op op_mod (pe_callTy call_int1 (by rfl) T.z_int (by decide +kernel) (pa_cons (pe_callB (call_max2 (by rfl)) (by rfl) T.z_max (by decide +kernel) (pa_cons (pe_op op_sub (pv 2) (pe_op op_powX pe_int pe_int)) (pa_cons pe_int pa_nil))) pa_nil)) (pe_op op_powX (pe_op op_powX pe_int pe_int) pe_int)) (pa_cons (pe_op op_mod (pe_callTy call_int1 (by rfl) T.z_int (by decide +kernel) (pa_cons (pv 2) pa_nil)) pe_int) (pa_cons (pe_op op_mulX pe_int (pv 1)) pa_nil))))))), ?_⟩
    refine q_asgR (er_call (ea_cons (ev_var rfl) (ea_cons (ev_var rfl) ea_nil)) (sr_law_cell (i := i) h1 h2)) fun v H1 ⟨n, hv⟩ e1 => ?_
    subst hv
    have c18 : CPowX 10 18 := ⟨by decide, by decide +kernel⟩
    have c60 : CPowX 10 60 := ⟨by decide, by decide +kernel⟩
    have c600 : CPowX ((10 : Int) ^ (60 : Int).toNat) 10 := ⟨by decide, by decide +kernel⟩
    have i64 : ((i : Int)).natAbs < 2 ^ 2 := by show i < 4; omega
    refine s_retL (el_lst (ea_cons (ev_op (ev_int (ev_max2 (ev_op (ev_var rfl) (ev_op ev_c ev_c (rv_I c18)) rv_I0) ev_c)) (ev_op (ev_op ev_c ev_c (rv_I c60)) ev_c (rv_I c600)) (rv_I big_pos)) (ea_cons (ev_op (ev_int (ev_var rfl)) ev_c (rv_I (by decide))) (ea_cons (ev_op ev_c (ev_var rfl) (rv_I (mulx_ok (a := 10) (by decide) i64 (by decide)))) ea_nil))) (by show 3 ≤ 100000; decide)) fun p H2 hp e2 h => ?_
    refine k p H2 (fresh_back e1 hp) (e1.trans e2) ⟨_, _, _, h, Int.emod_nonneg _ (by have := big_pos; omega), Int.lt_trans (Int.emod_lt_of_pos _ big_pos) big_seed, Int.emod_nonneg _ (by decide), ?_, by omega, by omega⟩
    have := Int.emod_lt_of_pos n (show (0 : Int) < 2147483647 by decide)
    omega

/-! ### factors two, powers -/
def sp_law_twos (K : PySem.W.Frag) : Sp := fun vs H Q _ => ∃ n : Int, vs = [.int n] ∧ RetV (.int (ltw n : Nat)) H Q
theorem sv_law_twos {K : PySem.W.Frag} {H : Hp} {n : Int} : SpV (sp_law_twos K) [.int n] H (.int (ltw n : Nat)) := fun H1 _ Q q _ => ⟨n, rfl, q⟩
theorem sc_law_twos : FnScope ["_law_number", "_law_found"] ["_law_number"] (defScope sLawTwos) := ⟨rfl, rfl, rfl, by decide +kernel, rfl, by decide +kernel, by decide +kernel⟩
theorem has_law_twos {P : Program} {w : World} {K : PySem.W.Frag} {mg : Str → Option Value} {base : Heap} (T : Txt K mg) : Has P w K mg base "_law_twos" ["_law_number"] 1 (sp_law_twos K) := by
  refine Has.of T.gLawTwos T.dLawTwos (fun fd F => FunD.ok F sc_law_twos (fun vs H Q E h => ?_) (fun cdv A outer s H vs Q E hr h => ?_)) fun _ _ _ _ _ _ us hl => match us, hl with | [_], _ => rfl
  · obtain ⟨n, rfl, k⟩ := h
    rfl
  · have hr : Room 0 _ := hr

    obtain ⟨n, rfl, k⟩ := h
    refine ⟨(tSeq (tIfS (tTest (tOp _ (tVar 0) (tC _))) (tRet (tC _)) tNext)
      (tSeq (tAsg (tC _) (gName 1))
      (tSeq (tWhile (tTest (tOp _ (tOp _ (tCB _ (tCons (tVar 0) tNil)) (tC _)) (tC _))) (tPar 0 1 (tCons (tOp _ (tVar 0) (tC _)) (tCons (tOp _ (tVar 1) (tC _)) tNil))))
      (tRet (tVar 1))))), PSs.nox (pss_cons (ps_if (pt_cmpR op_eq (pv 0) pe_int (nomark _)) (pss_one (ps_ret pe_int)) pss_nil)
    (pss_cons (ps_set (i := 1) sc_law_twos.nd rfl (Or.inl rfl) pe_int)
    (pss_cons (ps_while PassesOwn.never (pt_cmpR op_eq (pe_op op_mod (pe_callTy call_int1 (by rfl) T.z_int (by decide +kernel) (pa_cons (pv 0) pa_nil)) pe_int) pe_int (nomark _)) (pss_one (ps_par (i := 0) (j := 1) (by rfl) sc_law_twos.nd rfl rfl (by decide) rfl rfl (pa_cons (pe_op op_fdivW (pv 0) pe_int) (pa_cons (pe_op op_add (pv 1) pe_int) pa_nil)) (by rfl))))
    (pss_one (ps_ret (pv 1)))))), ?_⟩
    refine q_when (b := decide (n = 0)) (et_test (ev_is (ev_op (ev_var rfl) ev_c (rv_eq rfl)) (by simp))) (fun hb H1 e1 => ?_) fun hb H1 e1 => ?_
    · have : ltw n = 999 := if_pos (of_decide_eq_true hb)
      rw [this] at k
      exact s_ret (v := .int 999) ev_c fun H2 e2 => k.go (e1.trans e2)
    have h : n ≠ 0 := of_decide_eq_false hb
    have : ltw n = twos n := if_neg h
    rw [this] at k
    refine q_asg (v := .int 0) ev_c fun H2 e2 => ?_
    refine q_while (fun m σ H' => ∃ (a : Int) (c : Nat), σ = [some (.int a), some (.int (c : Int))] ∧ a ≠ 0 ∧ c + twos a = twos n ∧ m = twos a ∧ Ex H H') (twos n) ⟨n, 0, rfl, h, by omega, rfl, e1.trans e2⟩ ?_
    rintro m σ' H' ⟨a, c, rfl, ha, hc, rfl, e⟩
    refine ⟨decide (a % 2 = 0), et_test (ev_is (ev_op (ev_op (ev_int (ev_var rfl)) ev_c (rv_I (by decide))) ev_c (rv_eq rfl)) (by simp)), fun hb H2 e2 => ?_, fun hb H2 e2 => ?_⟩
    · have hb : a % 2 = 0 := of_decide_eq_true hb
      have ht := twos_even ha hb
      refine ⟨fun σ H' => ∃ (a' : Int) (c : Nat), σ = [some (.int a'), some (.int (c : Int))] ∧ a' ≠ 0 ∧ c + twos a' = twos n ∧ twos a' < twos a ∧ Ex H H', fun σ2 H3 ⟨a', c', r1, r2, r3, r4, r5⟩ => ⟨twos a', r4, a', c', r1, r2, r3, rfl, r5⟩, ?_⟩
      exact s_par (ea_cons (ev_op (ev_var rfl) ev_c (rv_I div2)) (ea_cons (ev_op (ev_var rfl) ev_c rv_I0) ea_nil)) fun H3 e3 => ⟨a / 2, c + 1, rfl, by omega, by omega, by omega, (e.trans e2).trans e3⟩
    · have hb : a % 2 ≠ 0 := of_decide_eq_false hb
      have ht := twos_odd hb
      refine s_ret (v := .int (c : Int)) (ev_var rfl) fun H3 e3 => ?_
      have : c = twos n := by omega
      rw [this]
      exact k.go ((e.trans e2).trans e3)

def sp_law_power (K : PySem.W.Frag) : Sp := fun vs H Q _ => ∃ n : Nat, vs = [.int (n : Int)] ∧ n ≤ 100 ∧ RetV (.int (2 ^ n)) H Q
theorem sv_law_power {K : PySem.W.Frag} {H : Hp} {n : Nat} (h : n ≤ 100) : SpV (sp_law_power K) [.int (n : Int)] H (.int (2 ^ n)) := fun H1 _ Q q _ => ⟨n, rfl, h, q⟩
theorem two_nat (n : Nat) : ((2 : Int) ^ n).natAbs < 2 ^ (n + 1) := by
  rw [Int.natAbs_pow]
  exact Nat.pow_lt_pow_right (by decide) (by omega)
theorem sc_law_power : FnScope ["_law_times", "_law_found", "_law_turn"] ["_law_times"] (defScope sLawPower) := ⟨rfl, rfl, rfl, by decide +kernel, rfl, by decide +kernel, by decide +kernel⟩
theorem has_law_power {P : Program} {w : World} {K : PySem.W.Frag} {mg : Str → Option Value} {base : Heap} (T : Txt K mg) : Has P w K mg base "_law_power" ["_law_times"] 1 (sp_law_power K) := by
  refine Has.of T.gLawPower T.dLawPower (fun fd F => FunD.ok F sc_law_power (fun vs H Q E h => ?_) (fun cdv A outer s H vs Q E hr h => ?_)) fun _ _ _ _ _ _ us hl => match us, hl with | [_], _ => rfl
  · obtain ⟨n, rfl, h, k⟩ := h
    rfl
  · have hr : Room 0 _ := hr

    obtain ⟨n, rfl, h, k⟩ := h
    refine ⟨(tSeq (tAsg (tC _) (gName 1))
      (tSeq (tFor (iRng1 (tCons (tVar 0) tNil)) (gName 2) (tAsg (tOp _ (tVar 1) (tC _)) (gName 1)))
      (tRet (tVar 1)))), PSs.nox (pss_cons (ps_set (i := 1) sc_law_power.nd rfl (Or.inl rfl) pe_int)
    (pss_cons (ps_for PassesOwn.never (by rfl) (pi_range1 (by rfl) T.z_range (pa_cons (pv 0) pa_nil)) (pg_name (i := 2) sc_law_power.nd rfl (Or.inl rfl)) (pss_one (ps_set (i := 1) sc_law_power.nd rfl (Or.inl rfl) (pe_op op_mulX (pv 1) pe_int))))
    (pss_one (ps_ret (pv 1))))), ?_⟩
    refine q_asg (v := .int 1) ev_c fun H1 e1 => ?_
    refine q_forR1 (n := (n : Int)) (ea_cons (ev_var rfl) ea_nil) ⟨by omega, by omega⟩ (fun i σ' H' => ∃ y2, σ' = [some (.int (n : Int)), some (.int (2 ^ i)), y2] ∧ Ex H H') (fun H2 e2 => ⟨none, rfl, e1.trans e2⟩) ?_ ?_
    · rintro i σ' H' hi ⟨y2, rfl, e⟩
      refine s_asg (v := .int (2 ^ (i + 1))) (ev_is (ev_op (ev_var rfl) ev_c (rv_I (mulx_ok (b := 2) (two_nat i) (by decide) (by omega)))) (by rw [Int.pow_succ])) fun H2 e2 => ⟨_, rfl, e.trans e2⟩
    · rintro σ' H' ⟨y2, rfl, e⟩
      exact s_ret (v := .int (2 ^ n)) (ev_var rfl) fun H2 e2 => k.go (e.trans e2)

end Ap


namespace Ap
open PySem PySem.Spec PyProof.Rows L2 Evl
/-! ### the law's own order -/
theorem cost_sum (x : Int) : ∀ pre : List Int, (pre.map fun o => twos (x - o)).sum = cost pre x
  | [] => rfl
  | a :: pre => by rw [List.map_cons, List.sum_cons, cost_sum x pre]; rfl
/-- least among the first i costs, the first such -/
def BestAt (cs : List Nat) (i j : Nat) : Prop := j < i ∧ (∀ l, l < i → ∀ c c', cs[j]? = some c → cs[l]? = some c' → c ≤ c') ∧ ∀ l, l < j → ∀ c c', cs[j]? = some c → cs[l]? = some c' → c < c'
theorem best_pick {pre left : List Int} {j : Nat} (h : BestAt (costs pre left) left.length j) : pickAt pre left = j := by
  obtain ⟨h1, h2, h3⟩ := h
  have hl : (costs pre left).length = left.length := List.length_map _
  have e1 := List.getElem?_eq_getElem (l := costs pre left) (show j < (costs pre left).length by omega)
  have em : minL (costs pre left) = (costs pre left)[j] := minL_eq (List.mem_of_getElem? e1) fun x hx => by
    obtain ⟨l, hl2⟩ := List.mem_iff_getElem?.mp hx
    have := (List.getElem?_eq_some_iff.mp hl2).1
    exact h2 l (by omega) _ _ e1 hl2
  unfold pickAt
  rw [em]
  refine fidx_eq e1 fun i hi e => ?_
  have := h3 i hi _ _ e1 e
  omega
def sp_law_order (K : PySem.W.Frag) : Sp := fun vs H Q _ => ∃ (a : Addr) (S : List Int), vs = [.ref a] ∧ H a = some (.lst (iL S)) ∧ S.Nodup ∧ S.length ≤ 100 ∧ ∀ p q r H', H p = none → H q = none → H r = none → Ex H H' → H' p = some (.lst [.ref q, .ref r]) → H' q = some (.lst (iL (goodRow S).1)) → H' r = some (.lst (nL (goodRow S).2)) → Q (.ref p) H'
/-- behind each turn -/
structure LoW (H H' : Hp) (S : List Int) (pr pt pn : Addr) (pre left : List Int) (nums : List Nat) : Prop where
  ex : Ex H H'
  t : H' pt = some (.lst (iL pre))
  n : H' pn = some (.lst (nL nums))
  l : H' pr = some (.lst (iL left))
  e1 : pre ++ (goodGo left.length pre left).1 = (goodRow S).1
  e2 : nums ++ (goodGo left.length pre left).2 = (goodRow S).2
  sz : pre.length + left.length ≤ 100
  nn : nums.length = pre.length
  nd : left.Nodup
  dj : ∀ x, x ∈ left → x ∉ pre
theorem LoW.put {H H' H2 : Hp} {S : List Int} {pr pt pn : Addr} {pre left : List Int} {nums : List Nat} (W : LoW H H' S pr pt pn pre left nums) (e : Ex H' H2) : LoW H H2 S pr pt pn pre left nums := ⟨W.ex.trans e, e _ _ W.t, e _ _ W.n, e _ _ W.l, W.e1, W.e2, W.sz, W.nn, W.nd, W.dj⟩
section
variable {K : PySem.W.Frag} {σ : L2.St} {H H' : Hp} {ta tb te tx tc td : TE} {t u : TT} {x y z v : V} {D : Ends} {tu tw tz : TS} {g : TG}
theorem q_par3N {i j l : Nat} {o1 o2 o3 : HO} (h1 : EvN ta σ H o1) (h2 : EvN tb σ H o2) (h3 : EvN tc σ H o3)
    (k : ∀ p q r H1, H p = none → H q = none → H r = none → p ≠ q → p ≠ r → q ≠ r → Ex H H1 → H1 p = some o1 → H1 q = some o2 → H1 r = some o3 → tz D (((σ.set i (some (.ref p))).set j (some (.ref q))).set l (some (.ref r))) H1) :
    tSeq (tPar3 i j l (tCons ta (tCons tb (tCons tc tNil)))) tz D σ H := h1 H (Ex.refl H) _ fun p H1 hp e1 k1 => h2 H1 e1 _ fun q H2 hq e2 k2 => h3 H2 (e1.trans e2) _ fun r H3 hr e3 k3 =>
  ⟨_, _, _, rfl, k p q r H3 hp (fresh_back e1 hq) (fresh_back (e1.trans e2) hr) (ne_of_none k1 hq) (ne_of_none (e2 _ _ k1) hr) (ne_of_none k2 hr) ((e1.trans e2).trans e3) (e3 _ _ (e2 _ _ k1)) (e3 _ _ k2) k3⟩
theorem s_rem {l : Addr} {ns : List Int} {j : Nat} {k0 : Int} (hl : H l = some (.lst (iL ns))) (ha : Ev ta σ H (.ref l)) (hb : Ev tb σ H (.int k0)) (hj : ns[j]? = some k0) (hno : ∀ m : Nat, m < j → ns[m]? ≠ some k0) (k : ∀ H1, Ex H H1 → D.nx σ (upd H1 l (.lst (iL (ns.eraseIdx j))))) :
    tDrop (tBM K "list" rRemI ta (tCons tb tNil)) D σ H := ha H (Ex.refl H) _ fun H1 e1 =>
  ⟨Or.inl ⟨rfl, _, sq_of (e1 l _ hl)⟩, hb H1 e1 _ fun H2 e2 => ⟨l, ns, k0, j, rfl, rfl, e2 l _ (e1 l _ hl), hj, hno, k H2 (e1.trans e2)⟩⟩
end
theorem sc_law_order : FnScope ["_law_spots_here", "_law_rest", "_law_taken", "_law_numbers", "_law_best", "_law_least", "_law_item", "_law_cost", "_law_other"] ["_law_spots_here"] (defScope sLawOrder) := ⟨rfl, rfl, rfl, by decide +kernel, rfl, by decide +kernel, by decide +kernel⟩
theorem has_law_order {P : Program} {w : World} {K : PySem.W.Frag} {mg : Str → Option Value} {base : Heap} (T : Txt K mg) : Has P w K mg base "_law_order" ["_law_spots_here"] 2 (sp_law_order K) := by
  refine Has.of T.gLawOrder T.dLawOrder (fun fd F => FunD.ok F sc_law_order (fun vs H Q E h => ?_) (fun cdv A outer s H vs Q E hr h => ?_)) fun _ _ _ _ _ _ us hl => match us, hl with | [_], _ => rfl
  · obtain ⟨a, S, rfl, hS, hnd, hlen, k⟩ := h
    rfl
  · have hr : Room 1 _ := hr
    have h_law_twos := has_law_twos (P := P) (w := w) (base := base) T
    obtain ⟨a, S, rfl, hS, hnd, hlen, k⟩ := h
    refine ⟨(tSeq (tPar3 1 2 3 (tCons (tCB (Evl.rListS K) (tCons (tVar 0) tNil)) (tCons (tLst tNil) (tCons (tLst tNil) tNil))))
      (tSeq (tWhile (tTest (tOp (rNeD K) (tVar 1) (tLst tNil))) (tSeq (tPar 4 5 (tCons (tOp (rIxL K) (tVar 1) (tC _)) (tCons (tC _) tNil)))
      (tSeq (tFor (iList K (tVar 1)) (gName 6) (tSeq (tAsg (tCB (rSum K) (tCons (tLc (iList K (tVar 2)) (gName 8) tYes (tCall _ [] E0 (tCons (tOp _ (tVar 6) (tVar 8)) tNil)) [8]) tNil)) (gName 7))
      (tIfS (tOr (tTest (tOp _ (tVar 5) (tC _))) (tTest (tOp _ (tVar 7) (tVar 5)))) (tPar 4 5 (tCons (tVar 6) (tCons (tVar 7) tNil))) tNext)))
      (tSeq (tDrop (tBM K "list" rAppend (tVar 2) (tCons (tVar 4) tNil)))
      (tSeq (tDrop (tBM K "list" rAppend (tVar 3) (tCons (tVar 5) tNil)))
      (tDrop (tBM K "list" rRemI (tVar 1) (tCons (tVar 4) tNil))))))))
      (tRet (tLst (tCons (tVar 2) (tCons (tVar 3) tNil)))))), PSs.nox (pss_cons (ps_par3 (i := 1) (j := 2) (l := 3) (by rfl) sc_law_order.nd rfl rfl rfl (by decide) (by decide) (by decide) rfl rfl rfl (pa_cons (pe_callTy call_list_of (by rfl) T.z_list (by decide +kernel) (pa_cons (pv 0) pa_nil)) (pa_cons (pe_lst pa_nil) (pa_cons (pe_lst pa_nil) pa_nil))) (by rfl))
    (pss_cons (ps_while PassesOwn.never (pt_cmpR (op_neD hr.units) (pv 1) (pe_lst pa_nil) (nomark _)) (pss_cons (ps_par (i := 4) (j := 5) (by rfl) sc_law_order.nd rfl rfl (by decide) rfl rfl (pa_cons (pe_ix ix_list (pv 1) pe_int (fun _ _ => rfl)) (pa_cons pe_non pa_nil)) (by rfl))
    (pss_cons (ps_for PassesOwn.never (by rfl) (pi_list (pv 1)) (pg_name (i := 6) sc_law_order.nd rfl (Or.inr rfl)) (pss_cons (ps_set (i := 7) sc_law_order.nd rfl (Or.inl rfl) (pe_callB (cr_sum (by rfl)) (by rfl) T.z_sum (by decide +kernel) (pa_cons (pe_lc (own := [("_law_other", 8)]) (g := (gName 8)) (tt := tYes) (te := (tCall _ [] E0 (tCons (tOp _ (tVar 6) (tVar 8)) tNil))) (by rfl) sc_law_order.nd (pi_list (pv 2)) (blkOk_by (own := [("_law_other", 8)]) (N := ["_law_spots_here", "_law_rest", "_law_taken", "_law_numbers", "_law_best", "_law_least", "_law_item", "_law_cost", "_law_other"]) (sc := defScope sLawOrder) (by decide +kernel)) (fun _ _ _ _ _ => (pg_name (i := 8) sc_law_order.nd rfl (Or.inl rfl))) (fun _ _ _ _ _ => pts_nil) (fun _ _ _ _ _ => (pe_has h_law_twos (hr.mono (by decide)) (pa_cons (pe_op op_sub (pv 6) (pv 8)) pa_nil)))) pa_nil)))
    (pss_one (ps_if (PW.pt (pw_or (pt_cmpR op_isN (pv 5) pe_non (nomark _)) (pw_or1 (pt_cmpR op_lt (pv 7) (pv 5) (nomark _))))) (pss_one (ps_par (i := 4) (j := 5) (by rfl) sc_law_order.nd rfl rfl (by decide) rfl rfl (pa_cons (pv 6) (pa_cons (pv 7) pa_nil)) (by rfl))) pss_nil))))
    (pss_cons (ps_expr (pe_bm PySem.F.plainAttrs_list PySem.F.slot_list_append PySem.F.type_list_append mt_append (pv 2) (pa_cons (pv 4) pa_nil)))
    (pss_cons (ps_expr (pe_bm PySem.F.plainAttrs_list PySem.F.slot_list_append PySem.F.type_list_append mt_append (pv 3) (pa_cons (pv 5) pa_nil)))
    (pss_one (ps_expr (pe_bm PySem.F.plainAttrs_list PySem.F.slot_list_remove PySem.F.type_list_remove mt_remove (pv 1) (pa_cons (pv 4) pa_nil)))))))))
    (pss_one (ps_ret (pe_lst (pa_cons (pv 2) (pa_cons (pv 3) pa_nil))))))), ?_⟩
    refine q_par3N (el_list (ev_var rfl) (.of hS)) el_nil el_nil fun pr pt pn H1 hpr hpt hpn nrt nrn ntn e1 kr kt kn => ?_
    refine q_while (fun m σ H' => ∃ (pre left : List Int) (nums : List Nat) (y4 y5 y6 y7 : Option V), σ = [some (.ref a), some (.ref pr), some (.ref pt), some (.ref pn), y4, y5, y6, y7, none] ∧ m = left.length ∧ LoW H H' S pr pt pn pre left nums)
      S.length ⟨[], S, [], none, none, none, none, rfl, rfl, e1, kt, kn, kr, rfl, rfl, by simpa using hlen, rfl, hnd, fun _ _ => List.not_mem_nil⟩ ?_
    rintro m σ' H' ⟨pre, left, nums, y4, y5, y6, y7, rfl, rfl, W⟩
    refine ⟨!decide (left = []), et_test (ev_neN (ev_var rfl) W.l), fun hb H2 e2 => ?_, fun hb H2 e2 => ?_⟩
    · have hne : left ≠ [] := by simpa using hb
      have W := W.put e2
      have hsz := W.sz
      have hcl : (costs pre left).length = left.length := List.length_map _
      have hat : ∀ (i : Nat) x, left[i]? = some x → (costs pre left)[i]? = some (cost pre x) := fun i x hx => by unfold costs; rw [List.getElem?_map, hx]; rfl
      have hpos : 0 < left.length := List.length_pos_iff.mpr hne
      refine ⟨fun σ H' => ∃ (pre' left' : List Int) (nums : List Nat) (y4 y5 y6 y7 : Option V), σ = [some (.ref a), some (.ref pr), some (.ref pt), some (.ref pn), y4, y5, y6, y7, none] ∧ left'.length < left.length ∧ LoW H H' S pr pt pn pre' left' nums,
        fun σ2 H2 ⟨p', l', nu, z4, z5, z6, z7, r1, r2, r3⟩ => ⟨l'.length, r2, p', l', nu, z4, z5, z6, z7, r1, rfl, r3⟩, ?_⟩
      refine q_par (v := .int left[0]) (v2 := .non) (ea_cons (ev_ixI (i := 0) (ev_var rfl) ev_c W.l (List.getElem?_eq_getElem hpos)) (ea_cons ev_c ea_nil)) fun H3 e3 => ?_
      have W := W.put e3
      refine q_forLn (xs := iL left) (ev_var rfl) (.of W.l) (fun i σ' H' => ∃ (b l : V) (y6 y7 : Option V), σ' = [some (.ref a), some (.ref pr), some (.ref pt), some (.ref pn), some b, some l, y6, y7, none] ∧ LoW H H' S pr pt pn pre left nums ∧
          ((i = 0 ∧ l = .non) ∨ ∃ (j : Nat) (x : Int), BestAt (costs pre left) i j ∧ left[j]? = some x ∧ b = .int x ∧ l = .int (cost pre x : Nat)))
        (fun H4 e4 => ⟨_, _, _, _, rfl, W.put e4, .inl ⟨rfl, rfl⟩⟩) (fun i σ' H' _ ⟨_, _, _, _, _, W, _⟩ => .of W.l) ?_ ?_
      · rintro i x' σ' H' hx ⟨b, l, y6, y7, rfl, W, hbl⟩
        obtain ⟨x, hxl, rfl⟩ := iL_of hx
        have hxp := W.dj x (List.mem_of_getElem? hxl)
        refine q_asg (v := .int (cost pre x : Nat)) (ev_is (ev_sumL (l := (pre.map fun o => twos (x - o)).map fun (n : Nat) => (n : Int)) (el_is (el_lcL (fun _ => true) (fun i => .int ((pre.map fun o => twos (x - o)).getD i 0 : Nat)) (ev_var rfl) (.of W.t) (by rw [iL_len]; omega) (fun _ => rfl) (fun i y H5 e5 hy => et_yes) (fun i y H5 e5 hy _ => ?_)) ?_)) (by rw [sum_cast, cost_sum])) fun H5 e5 => ?_
        · obtain ⟨o, ho, rfl⟩ := iL_of hy
          refine ev_is (ev_call (ea_cons (ev_op (ev_var rfl) (ev_var rfl) rv_I0) ea_nil) sv_law_twos) ?_
          have : x - o ≠ 0 := fun z => hxp (by rw [show x = o by omega]; exact List.mem_of_getElem? ho)
          rw [List.getD_eq_getElem?_getD, List.getElem?_map, ho]
          show V.int ((ltw (x - o) : Nat) : Int) = V.int ((twos (x - o) : Nat) : Int)
          unfold ltw
          rw [if_neg this]
        · have e9 : (iL pre).length = (pre.map fun o => twos (x - o)).length := by rw [iL_len, List.length_map]
          rw [e9, ← nL_iL]
          exact given_nL _
        have W := W.put e5
        rcases hbl with ⟨rfl, rfl⟩ | ⟨j, z, hB, hz, rfl, rfl⟩
        · refine s_when (b := true) (et_is (et_or (a := true) (b := false) (et_test (ev_op (ev_var rfl) ev_c rv_isN)) (fun h => by cases h)) rfl) (fun _ H6 e6 => ?_) (fun h => by cases h)
          refine s_par (v := .int x) (v2 := .int (cost pre x : Nat)) (ea_cons (ev_var rfl) (ea_cons (ev_var rfl) ea_nil)) fun H7 e7 => ⟨_, _, _, _, rfl, W.put (e6.trans e7), .inr ⟨0, x, ⟨by omega, fun l hl c c' h1 h2 => ?_, fun l hl => by omega⟩, hxl, rfl, rfl⟩⟩
          obtain rfl : l = 0 := by omega
          rw [h1] at h2; cases h2; exact Nat.le_refl _
        · have hci := hat i x hxl
          have hcj := hat j z hz
          refine s_when (b := decide (cost pre x < cost pre z)) (et_is (et_or (a := false) (et_test (ev_op (ev_var rfl) ev_c rv_isN)) (fun _ => et_test (ev_op (ev_var rfl) (ev_var rfl) rv_I0))) (by simp)) (fun hb H6 e6 => ?_) (fun hb H6 e6 => ?_)
          · have hlt := of_decide_eq_true hb
            refine s_par (v := .int x) (v2 := .int (cost pre x : Nat)) (ea_cons (ev_var rfl) (ea_cons (ev_var rfl) ea_nil)) fun H7 e7 => ⟨_, _, _, _, rfl, W.put (e6.trans e7), .inr ⟨i, x, ⟨by omega, fun l hl c c' h1 h2 => ?_, fun l hl c c' h1 h2 => ?_⟩, hxl, rfl, rfl⟩⟩
            · rw [hci] at h1; cases h1
              by_cases e : l = i
              · subst e; rw [hci] at h2; cases h2; exact Nat.le_refl _
              · have := hB.2.1 l (by omega) _ _ hcj h2; omega
            · rw [hci] at h1; cases h1
              have := hB.2.1 l hl _ _ hcj h2; omega
          · have hge := of_decide_eq_false hb
            refine ⟨_, _, _, _, rfl, W.put e6, .inr ⟨j, z, ⟨by have := hB.1; omega, fun l hl c c' h1 h2 => ?_, hB.2.2⟩, hz, rfl, rfl⟩⟩
            by_cases e : l = i
            · subst e; rw [hci] at h2; cases h2; rw [hcj] at h1; cases h1; omega
            · exact hB.2.1 l (by omega) _ _ h1 h2
      · rintro σ' H' ⟨b, l, y6, y7, rfl, W, hbl⟩
        rw [iL_len] at hbl
        rcases hbl with ⟨h0, _⟩ | ⟨j, z, hB, hz, rfl, rfl⟩
        · omega
        have hj := best_pick hB
        subst hj
        obtain ⟨nd1, nd2⟩ := nodup_erase W.nd hz
        have hmem := mem_erase_iff hz
        have hlt := (List.getElem?_eq_some_iff.mp hz).1
        have hle' : (left.eraseIdx (pickAt pre left)).length = left.length - 1 := List.length_eraseIdx_of_lt hlt
        have eg : goodGo left.length pre left = (z :: (goodGo (left.length - 1) (pre ++ [z]) (left.eraseIdx (pickAt pre left))).1, cost pre z :: (goodGo (left.length - 1) (pre ++ [z]) (left.eraseIdx (pickAt pre left))).2) := by
          have e0 : left.length = (left.length - 1) + 1 := by omega
          have e1 : left.getD (pickAt pre left) 0 = z := by rw [List.getD_eq_getElem?_getD, hz]; rfl
          conv => lhs; rw [e0]
          rw [goodGo_cons _ _ _ hne, e1]
        refine q_app (xs := iL pre) (v := .int z) W.t (ev_var rfl) (ev_var rfl) (by rw [iL_len]; omega) fun H4 e4 => ?_
        rw [← iL_app]
        refine q_app (xs := nL nums) (v := .int (cost pre z : Nat)) (l := pn) (by rw [upd_ne ntn.symm]; exact e4 _ _ W.n) (ev_var rfl) (ev_var rfl) (by rw [nL_len, W.nn]; omega) fun H5 e5 => ?_
        rw [← nL_app]
        refine s_rem (l := pr) (ns := left) (j := pickAt pre left) (by rw [upd_ne nrn]; exact e5 _ _ (by rw [upd_ne nrt]; exact e4 _ _ W.l)) (ev_var rfl) (ev_var rfl) hz (fun m hm e => ?_) fun H6 e6 => ?_
        · have := nd_ix W.nd e hz
          omega
        refine ⟨pre ++ [z], left.eraseIdx (pickAt pre left), nums ++ [cost pre z], _, _, _, _, rfl, by omega, ⟨?_, ?_, ?_, upd_same, ?_, ?_, ?_, ?_, nd1, fun x hx hz2 => ?_⟩⟩
        · exact ((((W.ex.trans e4).mut hpt).trans e5).mut hpn |>.trans e6).mut hpr
        · rw [upd_ne nrt.symm]
          exact e6 _ _ (by rw [upd_ne ntn]; exact e5 _ _ upd_same)
        · rw [upd_ne nrn.symm]
          exact e6 _ _ upd_same
        · rw [← W.e1, eg, hle']; simp
        · rw [← W.e2, eg, hle']; simp
        · simp only [List.length_append, List.length_singleton]; omega
        · simp only [List.length_append, List.length_singleton, W.nn]
        · rcases List.mem_append.mp hz2 with q | q
          · exact W.dj x ((hmem x).mpr (.inr hx)) q
          · rw [List.mem_singleton.mp q] at hx; exact nd2 hx
    · have hl0 : left = [] := by simpa using hb
      subst hl0
      have r1 : pre = (goodRow S).1 := by have := W.e1; simpa [goodGo] using this
      have r2 : nums = (goodRow S).2 := by have := W.e2; simpa [goodGo] using this
      refine s_retL (el_lst (ea_cons (ev_var rfl) (ea_cons (ev_var rfl) ea_nil)) (by show 2 ≤ 100000; decide)) fun p H3 hp e3 h3 => ?_
      have hp0 := fresh_back (W.ex.trans e2) hp
      have W := W.put (e2.trans e3)
      exact k p pt pn H3 hp0 hpt hpn W.ex h3 (by rw [← r1]; exact W.t) (by rw [← r2]; exact W.n)

def sp_law_amount (K : PySem.W.Frag) : Sp := fun vs H Q _ => ∃ (w : Nat) (a : Addr) (S : List Int) (m : Nat), vs = [.int (w : Int), .ref a, .int (m : Int)] ∧ H a = some (.lst (iL S)) ∧ S.Nodup ∧ S.length ≤ 100 ∧ RetV (.int (Amt w m S : Nat)) H Q
theorem sv_law_amount {K : PySem.W.Frag} {H : Hp} {w m : Nat} {a : Addr} {S : List Int} (h1 : H a = some (.lst (iL S))) (h2 : S.Nodup) (h3 : S.length ≤ 100) : SpV (sp_law_amount K) [.int (w : Int), .ref a, .int (m : Int)] H (.int (Amt w m S : Nat)) := fun H1 e Q q _ => ⟨w, a, S, m, rfl, e a _ h1, h2, h3, q⟩
/-- law_order(places)[1] -/
theorem el_lo1 {K : PySem.W.Frag} {σ : L2.St} {H : Hp} {E : XK} {S : List Int} {a : Addr} {ta : TA} (h : EvA ta σ H [.ref a]) (h1 : H a = some (.lst (iL S))) (h2 : S.Nodup) (h3 : S.length ≤ 100) : EvL (tOp (rIxL K) (tCall (sp_law_order K) [] E ta) (tC (.int 1))) σ H (nL (goodRow S).2) := fun H0 e0 Q q => h H0 e0 _ fun H1 e1 =>
  ⟨a, S, rfl, e1 a _ (e0 a _ h1), h2, h3, fun p l r H2 hp hl hr e2 k1 k2 k3 => ⟨p, _, 1, .ref r, rfl, rfl, .of k1, atI_nat (j := 1) rfl, q r H2 (fresh_back e1 hr) (e1.trans e2) k3⟩⟩
theorem sc_law_amount : FnScope ["_law_bits", "_law_spots_here", "_law_many", "_law_number"] ["_law_bits", "_law_spots_here", "_law_many"] (defScope sLawAmount) := ⟨rfl, rfl, rfl, by decide +kernel, rfl, by decide +kernel, by decide +kernel⟩
theorem has_law_amount {P : Program} {w : World} {K : PySem.W.Frag} {mg : Str → Option Value} {base : Heap} (T : Txt K mg) : Has P w K mg base "_law_amount" ["_law_bits", "_law_spots_here", "_law_many"] 3 (sp_law_amount K) := by
  refine Has.of T.gLawAmount T.dLawAmount (fun fd F => FunD.ok F sc_law_amount (fun vs H Q E h => ?_) (fun cdv A outer s H vs Q E hr h => ?_)) fun _ _ _ _ _ _ us hl => match us, hl with | [_, _, _], _ => rfl
  · obtain ⟨w, a, S, m, rfl, h1, h2, h3, k⟩ := h
    rfl
  · have hr : Room 2 _ := hr
    have h_law_order := has_law_order (P := P) (w := w) (base := base) T
    obtain ⟨w, a, S, m, rfl, h1, h2, h3, k⟩ := h
    refine ⟨(tRet (tCB (rSum K) (tCons (tLc (iList K (tSl (rSlL K) (tOp (rIxL K) (tCall _ [] E0 (tCons (tVar 1) tNil)) (tC _)) tNoPart (tPart (tVar 2)))) (gName 3) tYes (tCB _ (tCons (tC _) (tCons (tOp _ (tVar 0) (tVar 3)) tNil))) [3]) tNil))), PSs.nox (pss_one (ps_ret (pe_callB (cr_sum (by rfl)) (by rfl) T.z_sum (by decide +kernel) (pa_cons (pe_lc (own := [("_law_number", 3)]) (g := (gName 3)) (tt := tYes) (te := (tCB _ (tCons (tC _) (tCons (tOp _ (tVar 0) (tVar 3)) tNil)))) (by rfl) sc_law_amount.nd (pi_list (pe_slice sl_list (pe_ix ix_list (pe_has h_law_order (hr.mono (by decide)) (pa_cons (pv 1) pa_nil)) pe_int (fun _ _ => rfl)) po_none (po_some (pv 2)))) (blkOk_by (own := [("_law_number", 3)]) (N := ["_law_bits", "_law_spots_here", "_law_many", "_law_number"]) (sc := defScope sLawAmount) (by decide +kernel)) (fun _ _ _ _ _ => (pg_name (i := 3) sc_law_amount.nd rfl (Or.inl rfl))) (fun _ _ _ _ _ => pts_nil) (fun _ _ _ _ _ => (pe_callB (call_max2 (by rfl)) (by rfl) T.z_max (by decide +kernel) (pa_cons pe_int (pa_cons (pe_op op_sub (pv 0) (pv 3)) pa_nil))))) pa_nil)))), ?_⟩
    have hlen := (goodRow_len h2).2
    refine s_ret (v := .int (Amt w m S : Nat)) (ev_is (ev_sumL (l := (((goodRow S).2.take m).map fun o => w - o).map fun (n : Nat) => (n : Int)) (el_is (el_lcNL (xs := nL ((goodRow S).2.take m)) (fun _ => true) (fun i => .int ((((goodRow S).2.take m).map fun o => w - o).getD i 0 : Nat))
      (el_is (el_slN (el_lo1 (ea_cons (ev_var rfl) ea_nil) h1 h2 h3) eo_none (eo_some (ev_var rfl))) (by rw [cut_take, nL_take])) (by rw [nL_len, List.length_take]; omega) (fun _ => rfl) (fun i x H1 e hx => et_yes) (fun i x H1 e hx _ => ?_)) ?_)) (by rw [sum_cast]; rfl)) k
    · obtain ⟨o, ho, rfl⟩ := nL_of hx
      refine ev_is (ev_maxS (n := o) ev_c (ev_op (ev_var rfl) (ev_var rfl) rv_I0)) ?_
      rw [List.getD_eq_getElem?_getD, List.getElem?_map, ho]
      rfl
    · have e1 : (nL ((goodRow S).2.take m)).length = (((goodRow S).2.take m).map fun o => w - o).length := by rw [nL_len, List.length_map]
      rw [e1, ← nL_iL]
      exact given_nL _

end Ap


namespace Ap
open PySem PySem.Spec PyProof.Rows L2 Evl
/-! ### expressions that draw -/
def EvG (te : TE) (σ : L2.St) (H : Hp) (g : Addr) (N M : Nat) (P : V → Prop) : Prop := ∀ H1, Exg g H H1 → Gn H1 g N → ∀ Q : VK, (∀ v H2, Exg g H1 H2 → Gn H2 g M → P v → Q v H2) → te σ H1 Q
section
variable {K : PySem.W.Frag} {σ : L2.St} {H H' : Hp} {ta tb te tx tc td : TE} {t u : TT} {x y z v : V} {D : Ends} {tu tw tz : TS} {g : Addr} {N M L : Nat} {P P2 P3 : V → Prop}
theorem eg_ev (h : Ev te σ (dg g H) v) : EvG te σ H g N N (fun x => x = v) := fun H1 e G Q q => h H1 e.ex Q fun H2 e2 => q v H2 (Exg.of e2) (G.mono e2) rfl
theorem eg_rnd {E : XK} {n : Int} (ha : Ev ta σ (dg g H) (.ref g)) (hb : Ev tb σ (dg g H) (.int n)) (h1 : 1 ≤ n) (h2 : n ≤ 1024) (hN : N ≤ 1000000) : EvG (tCall (sp_law_random K) [] E (tCons ta (tCons tb tNil))) σ H g N (N + 1) (fun v => ∃ i : Int, v = .int i ∧ 0 ≤ i ∧ i < n) := fun H1 e G Q q =>
  ha H1 e.ex _ fun H2 e2 => hb H2 (e.ex.trans e2) _ fun H3 e3 => ⟨g, n, N, rfl, G.mono (e2.trans e3), hN, h1, h2, fun v H4 v0 v1 e4 G4 => q _ H4 ((Exg.of (e2.trans e3)).trans e4) G4 ⟨v, rfl, v0, v1⟩⟩
theorem eg_op {r : R2} (ha : EvG ta σ H g N M P) (hb : EvG tb σ H g M L P2) (hr : ∀ x y, P x → P2 y → ∃ z, RV r x y (dg g H) z ∧ P3 z) : EvG (tOp r ta tb) σ H g N L P3 := fun H1 e G Q q =>
  ha H1 e G _ fun x H2 e2 G2 px => hb H2 (e.trans e2) G2 _ fun y H3 e3 G3 py => by
    obtain ⟨z, h1, h2⟩ := hr x y px py
    exact h1 H3 ((e.trans e2).trans e3).ex Q fun H4 e4 => q z H4 ((e2.trans e3).trans (Exg.of e4)) (G3.mono e4) h2
theorem q_asgG {i : Nat} (h : EvG te σ H g N M P) (G : Gn H g N) (k : ∀ v H1, Exg g H H1 → Gn H1 g M → P v → tz D (σ.set i (some v)) H1) : tSeq (tAsg te (gName i)) tz D σ H := h H (Exg.refl _ _) G _ k
theorem s_asgG {i : Nat} (h : EvG te σ H g N M P) (G : Gn H g N) (k : ∀ v H1, Exg g H H1 → Gn H1 g M → P v → D.nx (σ.set i (some v)) H1) : tAsg te (gName i) D σ H := h H (Exg.refl _ _) G _ k
theorem q_par3G {i j l : Nat} {v1 : V} {o : HO} (h1 : Ev ta σ H v1) (h2 : EvG tb σ H g N M P) (h3 : ∀ H2, EvN tc σ H2 o) (G : Gn H g N)
    (k : ∀ v p H1, P v → H p = none → p ≠ g → Exg g H H1 → Gn H1 g M → H1 p = some o → tz D (((σ.set i (some v1)).set j (some v)).set l (some (.ref p))) H1) : tSeq (tPar3 i j l (tCons ta (tCons tb (tCons tc tNil)))) tz D σ H :=
  h1 H (Ex.refl H) _ fun H1 e1 => h2 H1 (Exg.of e1) (G.mono e1) _ fun v H2 e2 G2 pv => h3 H2 H2 (Ex.refl H2) _ fun p H3 hp e3 k3 =>
    ⟨_, _, _, rfl, k v p H3 pv (exg_back ((Exg.of e1).trans e2) G.there hp G2.there) (fun z => G2.there (z ▸ hp)) (((Exg.of e1).trans e2).trans (Exg.of e3)) (G2.mono e3) k3⟩
/-- range(a draw) -/
theorem q_forRG {j : Nat} (h : EvG te σ H g N M P) (G : Gn H g N) (hP : ∀ v, P v → ∃ n : Nat, v = .int (n : Int) ∧ n ≤ 1000) (Pv : Nat → L2.St → Hp → Prop) (h0 : ∀ H1, Exg g H H1 → Gn H1 g M → Pv 0 σ H1)
    (hs : ∀ (n i : Nat) σ' H', P (.int (n : Int)) → i < n → Pv i σ' H' → tu { D with nx := Pv (i + 1), ct := Pv (i + 1), bk := tz D } (σ'.set j (some (.int (i : Int)))) H') (hd : ∀ (n : Nat) σ' H', P (.int (n : Int)) → Pv n σ' H' → tz D σ' H') : tSeq (tFor (iRng1 (tCons te tNil)) (gName j) tu) tz D σ H :=
  h H (Exg.refl _ _) G _ fun v H1 e1 G1 pv => by
    obtain ⟨n, rfl, hn⟩ := hP v pv
    refine ⟨(n : Int), rfl, by omega, by omega, for_range (D := { D with nx := tz D }) (lo := 0) (n := (n : Int).toNat) Pv (h0 H1 e1 G1) (fun i σ' H' hi p => ?_) fun σ' H' p => ?_⟩
    · have e0 : (0 : Int) + (i : Int) = (i : Int) := Int.zero_add _
      show tu { D with nx := Pv (i + 1), ct := Pv (i + 1), bk := tz D } (σ'.set j (some (.int ((0 : Int) + (i : Int))))) H'
      rw [e0]
      exact hs n i σ' H' pv (by omega) p
    · rw [Int.toNat_natCast] at p
      exact hd n σ' H' pv p
/-- an if whose branches meet -/
theorem q_whenM {b : Bool} (Mid : L2.St → Hp → Prop) (h : EvT t σ H b) (k : ∀ σ' H', Mid σ' H' → tz D σ' H') (h1 : (∀ σ' H', Mid σ' H' → tz D σ' H') → b = true → ∀ H1, Ex H H1 → tu { D with nx := tz D } σ H1) (h2 : b = false → ∀ H1, Ex H H1 → Mid σ H1) : tSeq (tIfS t tu tNext) tz D σ H :=
  q_when h (h1 k) fun hb H1 e1 => k _ _ (h2 hb H1 e1)
/-- list(range(i, j)) -/
theorem el_rg {i j : Int} (ha : Ev ta σ H (.int i)) (hb : Ev tb σ H (.int j)) (ok : RgOk i j) : EvL (tLstRg (tRg2 ta tb)) σ H (rgV i j) := fun H1 e Q q =>
  ha H1 e _ fun H2 e2 => hb H2 (e.trans e2) _ fun H3 e3 => ⟨i, j, rfl, rfl, ok, fun p hp => q p _ (fresh_back (e2.trans e3) hp) ((e2.trans e3).trans (Ex.new hp)) upd_same⟩
theorem ep_sorted {a : Addr} {l : List Int} (ha : Ev ta σ H (.ref a)) (h : H a = some (.lst (iL l))) : ∀ H1, Ex H H1 → ∀ Q : VK, (∀ p l' H2, H1 p = none → Ex H1 H2 → H2 p = some (.lst (iL l')) → l'.Perm l → l'.Pairwise (· ≤ ·) → Q (.ref p) H2) → tCB (rSortedI K) (tCons ta tNil) σ H1 Q := fun H1 e Q q =>
  ha H1 e _ fun H2 e2 => ⟨a, l, rfl, .of (e2 _ _ (e _ _ h)), fun ns' p hp hs hpn => q p ns' _ (fresh_back e2 hpn) (e2.trans (Ex.new hpn)) upd_same hp hs⟩
end
theorem rg_iL (lo : Int) (m : Nat) : rgV lo (lo + m) = iL ((List.range m).map fun (i : Nat) => lo + ((i : Nat) : Int)) := by
  unfold rgV iL
  rw [show (lo + (m : Int) - lo).toNat = m by omega, List.map_map]
  rfl
/-- the spots that the law draws -/
structure SpOk (b m : Nat) (S : List Int) : Prop where
  ne : S ≠ []
  up : S.Pairwise (· < ·)
  mem : ∀ x, x ∈ S → 0 ≤ x ∧ x < 2 ^ b
  len : S.length ≤ m
def sp_law_spots (K : PySem.W.Frag) : Sp := fun vs H Q _ => ∃ (g : Addr) (b m N : Nat), vs = [.ref g, .int (b : Int), .int (m : Int)] ∧ Gn H g N ∧ N ≤ 900000 ∧ 1 ≤ b ∧ b ≤ 6 ∧ 1 ≤ m ∧ m ≤ 16 ∧
  ∀ p S H', H p = none → p ≠ g → Exg g H H' → Gn H' g (N + 1000) → H' p = some (.lst (iL S)) → SpOk b m S → Q (.ref p) H'
theorem sc_law_spots : FnScope ["_law_generator_here", "_law_bits", "_law_many", "_law_top", "_law_way", "_law_found", "_law_turn", "_law_low", "_law_item", "_law_step", "_law_bit"] ["_law_generator_here", "_law_bits", "_law_many"] (defScope sLawSpots) := ⟨rfl, rfl, rfl, by decide +kernel, rfl, by decide +kernel, by decide +kernel⟩
theorem has_law_spots {P : Program} {w : World} {K : PySem.W.Frag} {mg : Str → Option Value} {base : Heap} (T : Txt K mg) : Has P w K mg base "_law_spots" ["_law_generator_here", "_law_bits", "_law_many"] 3 (sp_law_spots K) := by
  refine Has.of T.gLawSpots T.dLawSpots (fun fd F => FunD.ok F sc_law_spots (fun vs H Q E h => ?_) (fun cdv A outer s H vs Q E hr h => ?_)) fun _ _ _ _ _ _ us hl => match us, hl with | [_, _, _], _ => rfl
  · obtain ⟨g, b, m, N, rfl, hG, hN, hb1, hb2, hm1, hm2, k⟩ := h
    rfl
  · have hr : Room 2 _ := hr
    have h_law_random := has_law_random (P := P) (w := w) (base := base) T
    obtain ⟨g, b, m, N, rfl, hG, hN, hb1, hb2, hm1, hm2, k⟩ := h
    refine ⟨(tSeq (tPar3 3 4 5 (tCons (tC _) (tCons (tCall _ [] E0 (tCons (tVar 0) (tCons (tC _) tNil))) (tCons (tLst tNil) tNil))))
      (tSeq (tFor (iRng1 (tCons (tVar 1) tNil)) (gName 6) (tAsg (tOp _ (tVar 3) (tC _)) (gName 3)))
      (tSeq (tAsg (tCB _ (tCons (tVar 2) (tCons (tVar 3) tNil))) (gName 2))
      (tSeq (tIfS (tTest (tOp _ (tVar 4) (tC _))) (tSeq (tAsg (tCall _ [] E0 (tCons (tVar 0) (tCons (tOp _ (tOp _ (tVar 3) (tVar 2)) (tC _)) tNil))) (gName 7))
      (tRet (tLstRg (tRg2 (tVar 7) (tOp _ (tVar 7) (tVar 2)))))) tNext)
      (tSeq (tFor (iRng1 (tCons (tOp _ (tC _) (tVar 2)) tNil)) (gName 6) (tSeq (tAsg (tCall _ [] E0 (tCons (tVar 0) (tCons (tVar 3) tNil))) (gName 8))
      (tSeq (tIfS (tAnd (tTest (tOp _ (tVar 4) (tC _))) (tTest (tOp (rNeD K) (tVar 5) (tLst tNil)))) (tSeq (tAsg (tOp (rIxL K) (tVar 5) (tCall _ [] E0 (tCons (tVar 0) (tCons (tCB (Evl.rLenS K) (tCons (tVar 5) tNil)) tNil)))) (gName 8))
      (tSeq (tAsg (tC _) (gName 9))
      (tSeq (tFor (iRng1 (tCons (tCall _ [] E0 (tCons (tVar 0) (tCons (tVar 1) tNil))) tNil)) (gName 10) (tAsg (tOp _ (tVar 9) (tC _)) (gName 9)))
      (tAsg (tOp _ (tCB _ (tCons (tOp _ (tVar 8) (tVar 9)) tNil)) (tVar 3)) (gName 8))))) tNext)
      (tIfS (tAnd (tTest (tOp (rIn K true) (tVar 8) (tVar 5))) (tTest (tOp _ (tCB (Evl.rLenS K) (tCons (tVar 5) tNil)) (tVar 2)))) (tDrop (tBM K "list" rAppend (tVar 5) (tCons (tVar 8) tNil))) tNext))))
      (tRet (tCB (rSortedI K) (tCons (tVar 5) tNil)))))))), PSs.nox (pss_cons (ps_par3 (i := 3) (j := 4) (l := 5) (by rfl) sc_law_spots.nd rfl rfl rfl (by decide) (by decide) (by decide) rfl rfl rfl (pa_cons pe_int (pa_cons (pe_has h_law_random (hr.mono (by decide)) (pa_cons (pv 0) (pa_cons pe_int pa_nil))) (pa_cons (pe_lst pa_nil) pa_nil))) (by rfl))
    (pss_cons (ps_for PassesOwn.never (by rfl) (pi_range1 (by rfl) T.z_range (pa_cons (pv 1) pa_nil)) (pg_name (i := 6) sc_law_spots.nd rfl (Or.inl rfl)) (pss_one (ps_set (i := 3) sc_law_spots.nd rfl (Or.inl rfl) (pe_op op_mulX (pv 3) pe_int))))
    (pss_cons (ps_set (i := 2) sc_law_spots.nd rfl (Or.inl rfl) (pe_callB (call_min2 (by rfl)) (by rfl) T.z_min (by decide +kernel) (pa_cons (pv 2) (pa_cons (pv 3) pa_nil))))
    (pss_cons (ps_if (pt_cmpR op_eq (pv 4) pe_int (nomark _)) (pss_cons (ps_set (i := 7) sc_law_spots.nd rfl (Or.inl rfl) (pe_has h_law_random (hr.mono (by decide)) (pa_cons (pv 0) (pa_cons (pe_op op_add (pe_op op_sub (pv 3) (pv 2)) pe_int) pa_nil))))
    (pss_one (ps_ret (pe_listRg (by rfl) (by rfl) T.z_list (prg_2 (by rfl) T.z_range (pv 7) (pe_op op_add (pv 7) (pv 2))))))) pss_nil)
    (pss_cons (ps_for PassesOwn.never (by rfl) (pi_range1 (by rfl) T.z_range (pa_cons (pe_op op_mulX pe_int (pv 2)) pa_nil)) (pg_name (i := 6) sc_law_spots.nd rfl (Or.inl rfl)) (pss_cons (ps_set (i := 8) sc_law_spots.nd rfl (Or.inl rfl) (pe_has h_law_random (hr.mono (by decide)) (pa_cons (pv 0) (pa_cons (pv 3) pa_nil))))
    (pss_cons (ps_if (PW.pt (pw_and (pt_cmpR op_eq (pv 4) pe_int (nomark _)) (pw_and1 (pt_cmpR (op_neD hr.units) (pv 5) (pe_lst pa_nil) (nomark _))))) (pss_cons (ps_set (i := 8) sc_law_spots.nd rfl (Or.inl rfl) (pe_ix ix_list (pv 5) (pe_has h_law_random (hr.mono (by decide)) (pa_cons (pv 0) (pa_cons (pe_callB call_len_seq (by rfl) T.z_len (by decide +kernel) (pa_cons (pv 5) pa_nil)) pa_nil))) (fun _ _ => rfl)))
    (pss_cons (ps_set (i := 9) sc_law_spots.nd rfl (Or.inl rfl) pe_int)
    (pss_cons (ps_for PassesOwn.never (by rfl) (pi_range1 (by rfl) T.z_range (pa_cons (pe_has h_law_random (hr.mono (by decide)) (pa_cons (pv 0) (pa_cons (pv 1) pa_nil))) pa_nil)) (pg_name (i := 10) sc_law_spots.nd rfl (Or.inl rfl)) (pss_one (ps_set (i := 9) sc_law_spots.nd rfl (Or.inl rfl) (pe_op op_mulX (pv 9) pe_int))))
    (pss_one (ps_set (i := 8) sc_law_spots.nd rfl (Or.inl rfl) (pe_op op_mod (pe_callTy call_int1 (by rfl) T.z_int (by decide +kernel) (pa_cons (pe_op op_add (pv 8) (pv 9)) pa_nil)) (pv 3))))))) pss_nil)
    (pss_one (ps_if (PW.pt (pw_and (pt_cmpR op_notIn_seq (pv 8) (pv 5) (by first | exact nomark _ | rfl)) (pw_and1 (pt_cmpR op_lt (pe_callB call_len_seq (by rfl) T.z_len (by decide +kernel) (pa_cons (pv 5) pa_nil)) (pv 2) (nomark _))))) (pss_one (ps_expr (pe_bm PySem.F.plainAttrs_list PySem.F.slot_list_append PySem.F.type_list_append mt_append (pv 5) (pa_cons (pv 8) pa_nil)))) pss_nil)))))
    (pss_one (ps_ret (pe_callB cr_sortedI (by rfl) T.z_sorted (by decide +kernel) (pa_cons (pv 5) pa_nil))))))))), ?_⟩
    refine q_par3G (g := g) (N := N) ev_c (eg_rnd (n := 4) (ev_var rfl) ev_c (by decide) (by decide) (by omega)) (fun H2 => el_nil) hG fun way pf H1 ⟨wy, hwy, w0, w1⟩ hpf hpg e1 G1 kf => ?_
    subst hwy
    have hT2 : (2 : Int) ≤ 2 ^ b := by
      have := pow_dvd hb1
      exact Int.le_of_dvd (two_pos b) this
    have hT64 : (2 : Int) ^ b ≤ 64 := by
      have := pow_dvd hb2
      exact Int.le_of_dvd (by decide) this
    refine q_forR1 (n := (b : Int)) (ea_cons (ev_var rfl) ea_nil) ⟨by omega, by omega⟩ (fun i σ' H' => ∃ y6, σ' = [some (.ref g), some (.int (b : Int)), some (.int (m : Int)), some (.int (2 ^ i)), some (.int wy), some (.ref pf), y6, none, none, none, none] ∧ Ex H1 H') (fun H2 e2 => ⟨none, rfl, e2⟩) ?_ ?_
    · rintro i σ' H' hi ⟨y6, rfl, e⟩
      exact s_asg (v := .int (2 ^ (i + 1))) (ev_is (ev_op (ev_var rfl) ev_c (rv_I (mulx_ok (b := 2) (two_nat i) (by decide) (by omega)))) (by rw [Int.pow_succ])) fun H2 e2 => ⟨_, rfl, e.trans e2⟩
    rintro σ' H2 ⟨y6, rfl, e2⟩
    rw [Int.toNat_natCast]
    obtain ⟨T, hT⟩ : ∃ T : Nat, (2 : Int) ^ b = (T : Int) := ⟨2 ^ b, by simp⟩
    obtain ⟨mm, hmm⟩ : ∃ mm : Nat, mm = min m T := ⟨_, rfl⟩
    have hmm1 : 1 ≤ mm := by omega
    have hmm2 : mm ≤ 16 ∧ mm ≤ m ∧ mm ≤ T := by omega
    rw [hT] at hT2 hT64 ⊢
    refine q_asg (v := .int (mm : Int)) (ev_is (ev_minS (ev_var rfl) (ev_var rfl)) (by rw [hmm])) fun H3 e3 => ?_
    have X3 := e1.trans (Exg.of (e2.trans e3))
    have G3 := G1.mono (e2.trans e3)
    have kf3 := e3 _ _ (e2 _ _ kf)
    refine q_when (b := decide (wy = 0)) (et_test (ev_is (ev_op (ev_var rfl) ev_c (rv_eq rfl)) (by simp))) (fun hb H4 e4 => ?_) fun hb H4 e4 => ?_
    · refine q_asgG (g := g) (eg_rnd (n := (T : Int) - (mm : Int) + 1) (ev_var rfl) (ev_op (ev_op (ev_var rfl) (ev_var rfl) rv_I0) ev_c rv_I0) (by omega) (by omega) (by omega)) (G3.mono e4) fun v H5 e5 G5 ⟨lo, hv, l0, l1⟩ => ?_
      subst hv
      refine s_retL (el_is (el_rg (ev_var rfl) (ev_op (ev_var rfl) (ev_var rfl) rv_I0) (.of_le l0 (by omega) (by omega) (by omega))) (rg_iL lo mm)) fun p H6 hp e6 h6 => ?_
      have X5 := (X3.trans (Exg.of e4)).trans e5
      refine k p _ H6 (exg_back X5 hG.there hp G5.there) (fun z => G5.there (z ▸ hp)) (X5.trans (Exg.of e6)) ((G5.mono e6).up (by omega)) h6 ⟨?_, ?_, ?_, ?_⟩
      · intro z
        have := congrArg List.length z
        simp at this
        omega
      · rw [List.pairwise_map]
        exact List.pairwise_lt_range.imp fun h => by omega
      · intro x hx
        obtain ⟨i, hi, rfl⟩ := List.mem_map.mp hx
        have := List.mem_range.mp hi
        rw [hT]; omega
      · simp; omega
    have X4 := X3.trans (Exg.of e4)
    have G4 := G3.mono e4
    have kf4 := e4 _ _ kf3
    refine q_forR1 (n := ((9 * mm : Nat) : Int)) (ea_cons (ev_is (ev_op ev_c (ev_var rfl) (rv_I (mulx_ok (a := 4) (b := 5) (by decide) (by show mm < 32; omega) (by decide)))) (by congr 1)) ea_nil) ⟨by omega, by omega⟩
      (fun i σ' H' => ∃ (fl : List Int) (y6 y7 y8 y9 y10 : Option V), σ' = [some (.ref g), some (.int (b : Int)), some (.int (mm : Int)), some (.int (T : Int)), some (.int wy), some (.ref pf), y6, y7, y8, y9, y10] ∧ Exg g H H' ∧ Gn H' g (N + 1 + 4 * i) ∧ H' pf = some (.lst (iL fl)) ∧ fl.Nodup ∧ (∀ x, x ∈ fl → 0 ≤ x ∧ x < (T : Int)) ∧ fl.length ≤ mm ∧ (0 < i → fl ≠ []))
      (fun H5 e5 => ⟨[], y6, none, none, none, none, rfl, X4.trans (Exg.of e5), G4.mono e5, e5 _ _ kf4, List.nodup_nil, fun x hx => (List.not_mem_nil hx).elim, Nat.zero_le _, fun h => by omega⟩) ?_ ?_
    · rintro i σ' H5 hi ⟨fl, y6, y7, y8, y9, y10, rfl, X5, G5, kf5, nd, fb, fz, fn⟩
      refine q_asgG (g := g) (eg_rnd (n := (T : Int)) (ev_var rfl) (ev_var rfl) (by omega) (by omega) (by omega)) G5 fun v H6 e6 G6 ⟨it, hv, i0, i1⟩ => ?_
      subst hv
      have kf6 := e6 _ _ hpg kf5
      refine q_whenM (fun σ' H' => ∃ (it : Int) (y9 y10 : Option V), σ' = [some (.ref g), some (.int (b : Int)), some (.int (mm : Int)), some (.int (T : Int)), some (.int wy), some (.ref pf), some (.int (i : Int)), y7, some (.int it), y9, y10] ∧ 0 ≤ it ∧ it < (T : Int) ∧ Exg g H H' ∧ Gn H' g (N + 1 + 4 * i + 3) ∧ H' pf = some (.lst (iL fl)))
        (et_and (et_test (ev_is (ev_op (ev_var rfl) ev_c (rv_eq rfl)) (show V.bl _ = V.bl (decide (wy = 2)) by simp))) (fun _ => et_test (ev_neN (ev_var rfl) kf6))) ?_ (fun kk hb2 H7 e7 => ?_) (fun hb2 H7 e7 => ⟨it, _, _, rfl, i0, i1, (X5.trans e6).trans (Exg.of e7), (G6.mono e7).up (by omega), e7 _ _ kf6⟩)
      · rintro σ' H7 ⟨it, y9, y10, rfl, i0, i1, X7, G7, kf7⟩
        refine s_when (b := (!decide (it ∈ fl)) && decide (fl.length < mm)) (et_and (et_test (ev_niI (ev_var rfl) (ev_var rfl) kf7)) (fun _ => et_test (ev_is (ev_op (ev_lenI (ev_var rfl) kf7) (ev_var rfl) rv_I0) (by congr 1; simp)))) (fun hb3 H8 e8 => ?_) (fun hb3 H8 e8 => ?_)
        · rw [Bool.and_eq_true] at hb3
          have hni : it ∉ fl := by simpa using hb3.1
          have hlt : fl.length < mm := of_decide_eq_true hb3.2
          refine s_app (v := .int it) (e8 _ _ kf7) (ev_var rfl) (ev_var rfl) (by rw [iL_len]; omega) fun H9 e9 => ?_
          rw [← iL_app]
          refine ⟨fl ++ [it], _, _, _, _, _, rfl, fun a o hn ha => ?_, ((G7.mono (e8.trans e9)).put (Ne.symm hpg)).up (by omega), upd_same, ?_, fun x hx => ?_, ?_, fun _ => by simp⟩
          · have hne : a ≠ pf := fun z => by rw [z, hpf] at ha; cases ha
            rw [upd_ne hne]
            exact e9 _ _ (e8 _ _ (X7 a o hn ha))
          · rw [List.nodup_append]
            exact ⟨nd, by simp, fun x hx y hy => by rw [List.mem_singleton.mp hy]; intro e; exact hni (e ▸ hx)⟩
          · rcases List.mem_append.mp hx with h | h
            · exact fb x h
            · rw [List.mem_singleton.mp h]; exact ⟨i0, i1⟩
          · simp only [List.length_append, List.length_singleton]; omega
        · refine ⟨fl, _, _, _, _, _, rfl, X7.trans (Exg.of e8), (G7.mono e8).up (by omega), e8 _ _ kf7, nd, fb, fz, fun _ z => ?_⟩
          subst z
          simp at hb3
          omega
      · rw [Bool.and_eq_true] at hb2
        have hne : fl ≠ [] := by simpa using hb2.2
        have hpos : 0 < fl.length := List.length_pos_iff.mpr hne
        have kf7 := e7 _ _ kf6
        have kfd : (dg g H7) pf = some (.lst (iL fl)) := by rw [dg_ne hpg]; exact kf7
        refine q_asgG (g := g) (P := fun v => ∃ z : Int, v = .int z ∧ z ∈ fl) (eg_op (eg_ev (ev_var rfl)) (eg_rnd (n := (fl.length : Int)) (ev_var rfl) (ev_lenI (ev_var rfl) kfd) (by omega) (by omega) (by omega)) (fun x y hx ⟨j, hy, j0, j1⟩ => ?_)) (G6.mono e7) fun v H8 e8 G8 ⟨z, hv, hz⟩ => ?_
        · subst hx hy
          obtain ⟨j', rfl⟩ := Int.eq_ofNat_of_zero_le j0
          have hj : j' < fl.length := by omega
          exact ⟨.int fl[j'], rv_ixL (.of kfd) (atI_nat (iL_get (List.getElem?_eq_getElem hj))), _, rfl, List.getElem_mem hj⟩
        subst hv
        have hzb := fb z hz
        have kf8 := e8 _ _ hpg kf7
        have X8 := ((X5.trans e6).trans (Exg.of e7)).trans e8
        refine q_asg (v := .int 1) ev_c fun H9 e9 => ?_
        have kf9 := e9 _ _ kf8
        refine q_forRG (g := g) (eg_rnd (n := (b : Int)) (ev_var rfl) (ev_var rfl) (by omega) (by omega) (by omega)) (G8.mono e9) (fun v ⟨j, hv, j0, j1⟩ => ?_) (fun j σ' H' => ∃ y10, σ' = [some (.ref g), some (.int (b : Int)), some (.int (mm : Int)), some (.int (T : Int)), some (.int wy), some (.ref pf), some (.int (i : Int)), y7, some (.int z), some (.int (2 ^ j)), y10] ∧ Exg g H9 H' ∧ Gn H' g (N + 1 + 4 * i + 3)) (fun H10 e10 G10 => ⟨y10, rfl, e10, G10.up (by omega)⟩) ?_ ?_
        · obtain ⟨j', rfl⟩ := Int.eq_ofNat_of_zero_le j0
          exact ⟨j', hv, by omega⟩
        · rintro n j σ' H10 ⟨j2, hj2, j0, j1⟩ hj ⟨y10, rfl, e10, G10⟩
          cases hj2
          exact s_asg (v := .int (2 ^ (j + 1))) (ev_is (ev_op (ev_var rfl) ev_c (rv_I (mulx_ok (b := 2) (two_nat j) (by decide) (by omega)))) (by rw [Int.pow_succ])) fun H11 e11 => ⟨_, rfl, e10.trans (Exg.of e11), G10.mono e11⟩
        · rintro n σ' H10 _ ⟨y10, rfl, e10, G10⟩
          refine s_asg (v := .int ((z + 2 ^ n) % (T : Int))) (ev_op (ev_int (ev_op (ev_var rfl) (ev_var rfl) rv_I0)) (ev_var rfl) (rv_I (by omega))) fun H11 e11 => ?_
          exact kk _ _ ⟨_, _, _, rfl, Int.emod_nonneg _ (by omega), Int.emod_lt_of_pos _ (by omega), ((X8.trans (Exg.of e9)).trans e10).trans (Exg.of e11), G10.mono e11, e11 _ _ (e10 _ _ hpg kf9)⟩
    · rintro σ' H5 ⟨fl, y6, y7, y8, y9, y10, rfl, X5, G5, kf5, nd, fb, fz, fn⟩
      rw [Int.toNat_natCast] at G5 fn
      refine ep_sorted (ev_var rfl) kf5 H5 (Ex.refl H5) _ fun p l' H6 hp e6 k6 pm srt => ?_
      refine k p l' H6 (exg_back X5 hG.there hp G5.there) (fun z => G5.there (z ▸ hp)) (X5.trans (Exg.of e6)) ((G5.mono e6).up (by omega)) k6 ⟨fun z => ?_, le_lt srt (pm.nodup_iff.mpr nd), fun x hx => ?_, by rw [pm.length_eq]; omega⟩
      · subst z
        exact fn (by omega) pm.symm.eq_nil
      · rw [hT]; exact fb x (pm.mem_iff.mp hx)

end Ap


namespace Ap
open PySem PySem.Spec PyProof.Rows L2 Evl
/-! ### some of the items -/
def sp_law_some (K : PySem.W.Frag) : Sp := fun vs H Q _ => ∃ (g a : Addr) (l : List Int) (N : Nat), vs = [.ref g, .ref a] ∧ Gn H g N ∧ N ≤ 900000 ∧ H a = some (.lst (iL l)) ∧ a ≠ g ∧ l.length ≤ 100 ∧
  ∀ p P H', H p = none → p ≠ g → Exg g H H' → Gn H' g (N + 1000) → H' p = some (.lst (iL P)) → P.Sublist l → Q (.ref p) H'
theorem sc_law_some : FnScope ["_law_generator_here", "_law_items", "_law_item"] ["_law_generator_here", "_law_items"] (defScope sLawSome) := ⟨rfl, rfl, rfl, by decide +kernel, rfl, by decide +kernel, by decide +kernel⟩
theorem has_law_some {P : Program} {w : World} {K : PySem.W.Frag} {mg : Str → Option Value} {base : Heap} (T : Txt K mg) : Has P w K mg base "_law_some" ["_law_generator_here", "_law_items"] 3 (sp_law_some K) := by
  refine Has.of T.gLawSome T.dLawSome (fun fd F => FunD.ok F sc_law_some (fun vs H Q E h => ?_) (fun cdv A outer s H vs Q E hr h => ?_)) fun _ _ _ _ _ _ us hl => match us, hl with | [_, _], _ => rfl
  · obtain ⟨g, a, l, N, rfl, hG, hN, ha, hag, hl, k⟩ := h
    rfl
  · have hr : Room 2 _ := hr
    have h_law_random := has_law_random (P := P) (w := w) (base := base) T
    obtain ⟨g, a, l, N, rfl, hG, hN, ha, hag, hl, k⟩ := h
    refine ⟨(tRet (tLc (iList K (tVar 1)) (gName 2) (tTest (tOp _ (tCall _ [] E0 (tCons (tVar 0) (tCons (tC _) tNil))) (tC _))) (tVar 2) [2])), PSs.nox (pss_one (ps_ret (pe_lc (own := [("_law_item", 2)]) (g := (gName 2)) (tt := (tTest (tOp _ (tCall _ [] E0 (tCons (tVar 0) (tCons (tC _) tNil))) (tC _)))) (te := (tVar 2)) (by rfl) sc_law_some.nd (pi_list (pv 1)) (blkOk_by (own := [("_law_item", 2)]) (N := ["_law_generator_here", "_law_items", "_law_item"]) (sc := defScope sLawSome) (by decide +kernel)) (fun _ _ _ _ _ => (pg_name (i := 2) sc_law_some.nd rfl (Or.inl rfl))) (fun _ _ _ _ _ => (pts_one (pt_cmpR op_eq (pe_has h_law_random (hr.mono (by decide)) (pa_cons (pv 0) (pa_cons pe_int pa_nil))) pe_int (nomark _)))) (fun _ _ _ _ _ => (pv 2))))), ?_⟩
    refine (show tRet (tLc (iList K (tVar 1)) (gName 2) _ _ _) _ _ _ from ?_)
    refine ⟨.ref a, rfl, a, rfl, ⟨iL l, .of ha⟩, fun Dl hD => ?_⟩
    have hDg : Dl ≠ g := fun z => hG.there (z ▸ hD)
    refine lc_list (xs := iL l) (fun i H' => Exg g H H' ∧ Gn H' g (N + i) ∧ ∃ acc : List Int, H' Dl = some (.lst (iL acc)) ∧ acc.Sublist (l.take i)) ⟨Exg.of (Ex.new hD), hG.new hD, [], upd_same, List.nil_sublist _⟩ (fun i H' _ p => .of (p.1 _ _ hag ha)) (fun i x H' hi ⟨e, G, acc, k1, k2⟩ => ?_) fun H' ⟨e, G, acc, k1, k2⟩ => ?_
    · obtain ⟨y, hy, rfl⟩ := iL_of hi
      have hil := (List.getElem?_eq_some_iff.mp hy).1
      have ht : l.take (i + 1) = l.take i ++ [y] := by rw [List.take_add_one, hy]; rfl
      refine ⟨rfl, ?_⟩
      refine eg_op (g := g) (P3 := fun v => ∃ b : Bool, v = .bl b) (eg_rnd (n := 2) (ev_var rfl) ev_c (by decide) (by decide) (by omega)) (eg_ev ev_c) (fun x y ⟨j, hx, _, _⟩ hy => ⟨.bl (decide (V.int j = V.int 0)), by subst hx hy; exact rv_eq (x := .int j) (y := .int 0) rfl, _, rfl⟩) H' (Exg.refl _ _) G _ fun v H2 e2 G2 ⟨b, hv⟩ => ⟨b, hv, ?_⟩
      cases b with
      | false => exact ⟨e.trans e2, G2, acc, e2 _ _ hDg k1, by rw [ht]; exact k2.trans (List.sublist_append_left _ _)⟩
      | true =>
        refine ⟨.int y, rfl, iL acc, e2 _ _ hDg k1, sz_lt (by rw [iL_len]; have := k2.length_le; rw [List.length_take] at this; omega), ?_⟩
        rw [← iL_app]
        refine ⟨fun a o hn h => ?_, G2.put (Ne.symm hDg), acc ++ [y], upd_same, by rw [ht]; exact k2.append (List.Sublist.refl _)⟩
        have hne : a ≠ Dl := fun z => by rw [z, hD] at h; cases h
        rw [upd_ne hne]
        exact e2 _ _ hn (e _ _ hn h)
    · rw [iL_len] at G k2
      rw [List.take_length] at k2
      exact k Dl acc H' hD hDg e (G.up (by omega)) k1 k2

end Ap


namespace Ap
open PySem PySem.Spec PyProof.Rows L2 Evl
section
variable {K : PySem.W.Frag} {σ : L2.St} {H H' : Hp} {ta tb te tx tc td : TE} {t u : TT} {x y z v : V} {D : Ends} {tu tw tz : TS} {g : Addr} {N M L : Nat} {P P2 P3 : V → Prop}
/-- xs = law_spots(g, a draw, m) -/
theorem q_spots {i : Nat} {E : XK} {m : Nat} (ha : Ev ta σ (dg g H) (.ref g)) (hb : EvG tb σ H g N M P) (hc : Ev tc σ (dg g H) (.int (m : Int))) (G : Gn H g N) (hP : ∀ v, P v → ∃ b : Nat, v = .int (b : Int) ∧ 1 ≤ b ∧ b ≤ 6) (hM : M ≤ 900000) (h1 : 1 ≤ m) (h2 : m ≤ 16)
    (k : ∀ (b : Nat) p S H1, P (.int (b : Int)) → H p = none → p ≠ g → Exg g H H1 → Gn H1 g (M + 1000) → H1 p = some (.lst (iL S)) → SpOk b m S → tz D (σ.set i (some (.ref p))) H1) :
    tSeq (tAsg (tCall (sp_law_spots K) [] E (tCons ta (tCons tb (tCons tc tNil)))) (gName i)) tz D σ H :=
  ha H (Exg.refl _ _).ex _ fun H1 e1 => hb H1 (Exg.of e1) (G.mono e1) _ fun v H2 e2 G2 pv => hc H2 ((Exg.of e1).trans e2).ex _ fun H3 e3 => by
    obtain ⟨b, rfl, hb1, hb2⟩ := hP v pv
    have X3 := ((Exg.of e1).trans e2).trans (Exg.of e3)
    exact ⟨g, b, m, M, rfl, G2.mono e3, hM, hb1, hb2, h1, h2, fun p S H4 hp hpg e4 G4 k4 ok => k b p S H4 pv (exg_back X3 G.there hp (G2.mono e3).there) hpg (X3.trans e4) G4 k4 ok⟩
/-- return [x, a new list, z] -/
theorem s_retL3N {ys : List V} (h1 : Ev ta σ H x) (h2 : EvL tb σ H ys) (h3 : Ev tc σ H z) (k : ∀ p q H1, H p = none → H q = none → Ex H H1 → H1 p = some (.lst [x, .ref q, z]) → H1 q = some (.lst ys) → D.rt (.ref p) H1) : tRet (tLst (tCons ta (tCons tb (tCons tc tNil)))) D σ H :=
  h1 H (Ex.refl H) _ fun H1 e1 => h2 H1 e1 _ fun q H2 hq e2 k2 => h3 H2 (e1.trans e2) _ fun H3 e3 => ⟨sz_of (by show 3 ≤ 100000; decide), fun p hp => k p q _ (fresh_back ((e1.trans e2).trans e3) hp) (fresh_back e1 hq) (((e1.trans e2).trans e3).trans (Ex.new hp)) upd_same (Ex.new hp _ _ (e3 _ _ k2))⟩
/-- a if c else a new list, where c does not hold -/
theorem el_else {ys : List V} (h : EvT t σ H false) (h2 : EvL tb σ H ys) : EvL (tIf t ta tb) σ H ys := fun H1 e Q q => h H1 e _ fun H2 e2 => h2 H2 (e.trans e2) Q fun p H3 hp e3 k3 => q p H3 (fresh_back e2 hp) (e2.trans e3) k3
end
/-- a small code -/
structure SmOk (w m : Nat) (S : List Int) : Prop where
  w1 : 1 ≤ w
  w3 : w ≤ 3
  pl : Pl w S
  len : S.length ≤ 5
  wm : w * m ≤ 9
def sp_law_small (K : PySem.W.Frag) : Sp := fun vs H Q _ => ∃ (g : Addr) (N : Nat), vs = [.ref g] ∧ Gn H g N ∧ N ≤ 100000 ∧
  ∀ p q w m S H', H p = none → q ≠ g → Exg g H H' → Gn H' g (N + 2000) → H' p = some (.lst [.int ((w : Nat) : Int), .ref q, .int ((m : Nat) : Int)]) → H' q = some (.lst (iL S)) → SmOk w m S → Q (.ref p) H'
theorem sc_law_small : FnScope ["_law_generator_here", "_law_bits", "_law_spots_here", "_law_top", "_law_many", "_law_spot"] ["_law_generator_here"] (defScope sLawSmall) := ⟨rfl, rfl, rfl, by decide +kernel, rfl, by decide +kernel, by decide +kernel⟩
theorem has_law_small {P : Program} {w : World} {K : PySem.W.Frag} {mg : Str → Option Value} {base : Heap} (T : Txt K mg) : Has P w K mg base "_law_small" ["_law_generator_here"] 4 (sp_law_small K) := by
  refine Has.of T.gLawSmall T.dLawSmall (fun fd F => FunD.ok F sc_law_small (fun vs H Q E h => ?_) (fun cdv A outer s H vs Q E hr h => ?_)) fun _ _ _ _ _ _ us hl => match us, hl with | [_], _ => rfl
  · obtain ⟨g, N, rfl, hG, hN, k⟩ := h
    rfl
  · have hr : Room 3 _ := hr
    have h_law_random := has_law_random (P := P) (w := w) (base := base) T
    have h_law_power := has_law_power (P := P) (w := w) (base := base) T
    have h_law_spots := has_law_spots (P := P) (w := w) (base := base) T
    obtain ⟨g, N, rfl, hG, hN, k⟩ := h
    refine ⟨(tSeq (tAsg (tOp _ (tC _) (tCall _ [] E0 (tCons (tVar 0) (tCons (tC _) tNil)))) (gName 1))
      (tSeq (tAsg (tCall _ [] E0 (tCons (tVar 0) (tCons (tOp _ (tVar 1) (tOp _ (tCall _ [] E0 (tCons (tVar 0) (tCons (tC _) tNil))) (tCB _ (tCons (tOp _ (tVar 1) (tC _)) tNil)))) (tCons (tC _) tNil)))) (gName 2))
      (tSeq (tAsg (tCall _ [] E0 (tCons (tVar 1) tNil)) (gName 3))
      (tSeq (tAsg (tLc (iList K (tVar 2)) (gName 5) (tTest (tOp _ (tVar 5) (tVar 3))) (tVar 5) [5]) (gName 2))
      (tSeq (tAsg (tCall _ [] E0 (tCons (tVar 0) (tCons (tOp (rIxL K) (tLst (tCons (tC _) (tCons (tC _) (tCons (tC _) (tCons (tC _) tNil))))) (tVar 1)) tNil))) (gName 4))
      (tRet (tLst (tCons (tVar 1) (tCons (tIf (tTest (tOp (rNeD K) (tVar 2) (tLst tNil))) (tVar 2) (tLst (tCons (tC _) tNil))) (tCons (tVar 4) tNil)))))))))), PSs.nox (pss_cons (ps_set (i := 1) sc_law_small.nd rfl (Or.inl rfl) (pe_op op_add pe_int (pe_has h_law_random (hr.mono (by decide)) (pa_cons (pv 0) (pa_cons pe_int pa_nil)))))
    (pss_cons (ps_set (i := 2) sc_law_small.nd rfl (Or.inl rfl) (pe_has h_law_spots (hr.mono (by decide)) (pa_cons (pv 0) (pa_cons (pe_op op_add (pv 1) (pe_op op_mulX (pe_has h_law_random (hr.mono (by decide)) (pa_cons (pv 0) (pa_cons pe_int pa_nil))) (pe_callTy call_int1 (by rfl) T.z_int (by decide +kernel) (pa_cons (pe_cmpR op_lt (pv 1) pe_int (nomark _)) pa_nil)))) (pa_cons pe_int pa_nil)))))
    (pss_cons (ps_set (i := 3) sc_law_small.nd rfl (Or.inr rfl) (pe_has h_law_power (hr.mono (by decide)) (pa_cons (pv 1) pa_nil)))
    (pss_cons (ps_setLc (i := 2) (own := [("_law_spot", 5)]) (g := (gName 5)) (tt := (tTest (tOp _ (tVar 5) (tVar 3)))) (te := (tVar 5)) (by rfl) sc_law_small.nd rfl rfl (sw_true rfl rfl rfl (by decide +kernel)) (pi_list (pv 2)) (blkOk_by (own := [("_law_spot", 5)]) (N := ["_law_generator_here", "_law_bits", "_law_spots_here", "_law_top", "_law_many", "_law_spot"]) (sc := defScope sLawSmall) (by decide +kernel)) (fun _ _ _ _ _ => (pg_name (i := 5) sc_law_small.nd rfl (Or.inl rfl))) (fun _ _ _ _ _ => (pts_one (pt_cmpR op_lt (pv 5) (pv 3) (nomark _)))) (fun _ _ _ _ _ => (pv 5)))
    (pss_cons (ps_set (i := 4) sc_law_small.nd rfl (Or.inl rfl) (pe_has h_law_random (hr.mono (by decide)) (pa_cons (pv 0) (pa_cons (pe_ix ix_list (pe_lst (pa_cons pe_int (pa_cons pe_int (pa_cons pe_int (pa_cons pe_int pa_nil))))) (pv 1) (fun _ _ => rfl)) pa_nil))))
    (pss_one (ps_ret (pe_lst (pa_cons (pv 1) (pa_cons (pe_ifExp (pt_cmpR (op_neD hr.units) (pv 2) (pe_lst pa_nil) (nomark _)) (pv 2) (pe_lst (pa_cons pe_int pa_nil))) (pa_cons (pv 4) pa_nil))))))))))), ?_⟩
    refine q_asgG (g := g) (P := fun v => ∃ B : Nat, v = .int (B : Int) ∧ 1 ≤ B ∧ B ≤ 3) (eg_op (eg_ev ev_c) (eg_rnd (n := 3) (ev_var rfl) ev_c (by decide) (by decide) (by omega)) (fun x y hx ⟨j, hy, j0, j1⟩ => ?_)) hG fun v H1 e1 G1 ⟨B, hv, B1, B3⟩ => ?_
    · subst hx hy
      obtain ⟨j', rfl⟩ := Int.eq_ofNat_of_zero_le j0
      exact ⟨.int (1 + (j' : Int)), rv_I0, 1 + j', by simp, by omega, by omega⟩
    subst hv
    refine q_spots (g := g) (m := 5) (P := fun v => ∃ b : Nat, v = .int (b : Int) ∧ 1 ≤ b ∧ b ≤ 6) (ev_var rfl) (eg_op (P2 := fun v => ∃ b : Nat, v = .int (b : Int) ∧ b ≤ 1) (eg_ev (ev_var rfl)) (eg_op (eg_rnd (n := 2) (ev_var rfl) ev_c (by decide) (by decide) (by omega)) (eg_ev (ev_intB (b := decide (B < 3)) (ev_is (ev_op (ev_var rfl) ev_c rv_I0) (by congr 1; simp; omega)))) (fun x y ⟨j, hx, j0, j1⟩ hy => ?_)) (fun x y hx ⟨b, hy, hb⟩ => ?_)) ev_c G1 (fun v h => h) (by omega) (by decide) (by decide) fun b ps S H2 _ hps hpsg e2 G2 ks ok => ?_
    · subst hx hy
      obtain ⟨j', rfl⟩ := Int.eq_ofNat_of_zero_le j0
      refine ⟨.int ((j' : Int) * (if decide (B < 3) = true then 1 else 0)), rv_I (mulx_ok (a := 2) (b := 2) (by omega) (by split <;> decide) (by decide)), if decide (B < 3) = true then j' else 0, ?_, ?_⟩
      · congr 1; split <;> simp
      · split <;> omega
    · subst hx hy
      exact ⟨.int ((B : Int) + (b : Int)), rv_I0, B + b, by simp, by omega, by omega⟩
    refine q_asg (v := .int (2 ^ B)) (ev_call (ea_cons (ev_var rfl) ea_nil) (sv_law_power (by omega))) fun H3 e3 => ?_
    have ks3 := e3 _ _ ks
    have h5 := ok.len
    refine q_asgL (xs := iL (S.filter fun x => decide (x < 2 ^ B))) (el_is (el_lcL (fun i => decide (S.getD i 0 < 2 ^ B)) (fun i => .int (S.getD i 0)) (ev_var rfl) (.of ks3) (by rw [iL_len]; omega) (fun _ => rfl) (fun i x H4 e4 hx => ?_) (fun i x H4 e4 hx _ => ?_)) ?_) fun pf H4 hpf e4 kf => ?_
    · obtain ⟨y, hy, rfl⟩ := iL_of hx
      rw [List.getD_eq_getElem?_getD, hy]
      exact et_test (ev_op (ev_var rfl) (ev_var rfl) rv_I0)
    · obtain ⟨y, hy, rfl⟩ := iL_of hx
      rw [List.getD_eq_getElem?_getD, hy]
      exact ev_var rfl
    · rw [iL_len]
      exact given_filter S _ (fun x => decide (x < 2 ^ B)) fun i x hx => by rw [List.getD_eq_getElem?_getD, hx]; rfl
    have G4 := G2.mono (e3.trans e4)
    have X4 := (e1.trans e2).trans (Exg.of (e3.trans e4))
    have hpfg : pf ≠ g := fun z => (G2.mono e3).there (z ▸ hpf)
    refine q_asgG (g := g) (M := N + 1 + 1 + 1000 + 1) (P := fun v => ∃ m : Nat, v = .int (m : Int) ∧ B * m ≤ 9) (fun H5 e5 G5 Q q => ?_) G4 fun v H5 e5 G5 ⟨m, hv, hm⟩ => ?_
    · have hn : ([0, 5, 4, 4] : List Int)[B]? = some (if B = 1 then 5 else 4) := by
        rcases (by omega : B = 1 ∨ B = 2 ∨ B = 3) with rfl | rfl | rfl <;> rfl
      refine eg_rnd (H := H5) (n := if B = 1 then 5 else 4) (ev_var rfl) (ev_opL1 (xs := iL [0, 5, 4, 4]) (el_lst (ea_cons ev_c (ea_cons ev_c (ea_cons ev_c (ea_cons ev_c ea_nil)))) (by show 4 ≤ 100000; decide)) (fun H6 _ => ev_var rfl) (fun p H6 k6 _ => rv_ixL (.of k6) (atI_nat (iL_get hn)))) (by split <;> omega) (by split <;> omega) (by omega) H5 (Exg.refl _ _) G5 Q fun v H6 e6 G6 ⟨j, hv, j0, j1⟩ => q v H6 e6 G6 ?_
      obtain ⟨j', rfl⟩ := Int.eq_ofNat_of_zero_le j0
      refine ⟨j', hv, ?_⟩
      rcases (by omega : B = 1 ∨ B = 2 ∨ B = 3) with rfl | rfl | rfl
      · rw [if_pos rfl] at j1; omega
      · rw [if_neg (by decide)] at j1; omega
      · rw [if_neg (by decide)] at j1; omega
    subst hv
    have kf5 := e5 _ _ hpfg kf
    have X5 := X4.trans e5
    have fin : ∀ p q Sx H', H5 p = none → q ≠ g → Exg g H5 H' → Gn H' g (N + 2000) → H' p = some (.lst [.int (B : Int), .ref q, .int (m : Int)]) → H' q = some (.lst (iL Sx)) → SmOk B m Sx → Q (.ref p) H' := fun p q Sx H' h1 h2 h3 h4 h5 h6 h7 => k p q B m Sx H' (exg_back X5 hG.there h1 G5.there) h2 (X5.trans h3) h4 h5 h6 h7
    have hsl : (S.filter fun x => decide (x < 2 ^ B)).length ≤ 5 := Nat.le_trans (List.length_filter_le _ _) h5
    have hsm : ∀ x, x ∈ (S.filter fun x => decide (x < 2 ^ B)) → 0 ≤ x ∧ x < 2 ^ B := fun x hx => by
      rw [List.mem_filter, decide_eq_true_eq] at hx
      exact ⟨(ok.mem x hx.1).1, hx.2⟩
    by_cases hne : (S.filter fun x => decide (x < 2 ^ B)) = []
    · refine s_retL3N (ev_var rfl) (el_else (et_test (ev_is (ev_neN (ev_var rfl) kf5) (by rw [decide_eq_true hne]; rfl))) (el_lst (ea_cons ev_c ea_nil) (by show 1 ≤ 100000; decide))) (ev_var rfl) fun p q H6 hp hq e6 k6 k7 => ?_
      refine fin p q [0] _ hp (fun z => G5.there (z ▸ hq)) (Exg.of e6) ((G5.mono e6).up (by omega)) k6 k7 ⟨B1, B3, ⟨by simp, fun x hx => by rw [List.mem_singleton.mp hx]; exact ⟨Int.le_refl _, two_pos B⟩, by simp, by simp⟩, by simp, hm⟩
    · refine s_retL (el_lst (ea_cons (ev_var rfl) (ea_cons (x := .ref pf) (ev_if (b := true) (et_test (ev_is (ev_neN (ev_var rfl) kf5) (by rw [decide_eq_false hne]; rfl))) (fun _ => ev_var rfl) (fun h => by cases h)) (ea_cons (ev_var rfl) ea_nil))) (show 3 ≤ 100000 by decide)) fun p H6 hp e6 k6 => ?_
      exact fin p pf _ H6 hp hpfg (Exg.of e6) ((G5.mono e6).up (by omega)) k6 (e6 _ _ kf5) ⟨B1, B3, ⟨hne, hsm, ok.up.filter _, by omega⟩, hsl, hm⟩

end Ap


namespace Ap
open PySem PySem.Spec PyProof.Rows L2 Evl SrtO
/-! ### lists of rows -/
def Lr (r : List Int) : HO := .lst (iL r)
def unI : V → Int
  | .int i => i
  | _ => 0
def rowIn (H : Hp) : V → List Int
  | .ref t => match H t with
    | some (.lst l) => l.map unI
    | _ => []
  | _ => []
theorem un_iL (r : List Int) : (iL r).map unI = r := by
  unfold iL
  rw [List.map_map]
  exact List.map_id r
theorem rowIn_of {H : Hp} {t : Addr} {r : List Int} (h : H t = some (Lr r)) : rowIn H (.ref t) = r := by
  unfold Lr at h
  simp only [rowIn, h, un_iL]
theorem Os.back {H : Hp} {a : Addr} {rows : List (List Int)} (h : Os H a (rows.map Lr)) : ∃ ts : List Addr, H a = some (.lst (ts.map V.ref)) ∧ (∀ t, t ∈ ts → H t = some (Lr (rowIn H (.ref t)))) ∧ (ts.map V.ref).map (rowIn H) = rows := by
  obtain ⟨ts, h1, h2, h3⟩ := h
  rw [List.length_map] at h2
  have at' : ∀ (i : Nat) t r, ts[i]? = some t → rows[i]? = some r → H t = some (Lr r) := fun i t r ht hr => h3 i t _ ht (by rw [List.getElem?_map, hr]; rfl)
  refine ⟨ts, h1, fun t ht => ?_, ?_⟩
  · obtain ⟨i, hi⟩ := List.mem_iff_getElem?.mp ht
    have hlt := (List.getElem?_eq_some_iff.mp hi).1
    have e := at' i t _ hi (List.getElem?_eq_getElem (show i < rows.length by omega))
    rw [rowIn_of e]; exact e
  · apply List.ext_getElem?
    intro i
    rw [List.getElem?_map, List.getElem?_map]
    by_cases hi : i < ts.length
    · have e1 := List.getElem?_eq_getElem hi
      have e2 := List.getElem?_eq_getElem (show i < rows.length by omega)
      rw [e1, e2]
      simp only [Option.map_some, rowIn_of (at' i _ _ e1 e2)]
    · rw [List.getElem?_eq_none (by omega), List.getElem?_eq_none (by omega)]; rfl
theorem Os.of_ts {H : Hp} {a : Addr} {ts : List Addr} (h1 : H a = some (.lst (ts.map V.ref))) (h2 : ∀ t, t ∈ ts → H t = some (Lr (rowIn H (.ref t)))) : Os H a (((ts.map V.ref).map (rowIn H)).map Lr) :=
  ⟨ts, h1, by simp, fun i t o ht ho => by
    rw [List.getElem?_map, List.getElem?_map, List.getElem?_map, ht] at ho
    have : Lr (rowIn H (.ref t)) = o := by simpa using ho
    rw [← this]
    exact h2 t (List.mem_of_getElem? ht)⟩
/-- what is new in H, as H0 tells -/
def nwp (H0 H : Hp) : Hp := fun a => match H0 a with
  | none => H a
  | some _ => none
theorem nwp_at {H0 H : Hp} {a : Addr} (h : H0 a = none) : nwp H0 H a = H a := by
  unfold nwp
  rw [h]
theorem nwp_old {H0 H : Hp} {a : Addr} {o : HO} (h : nwp H0 H a = some o) : H0 a = none ∧ H a = some o := by
  unfold nwp at h
  cases e : H0 a with
  | none => rw [e] at h; exact ⟨rfl, h⟩
  | some u => rw [e] at h; cases h
theorem nwp_up (H0 H : Hp) : Ex (nwp H0 H) H := fun a o h => (nwp_old h).2
theorem nwp_mono {H0 H H' : Hp} (e : Ex H H') : Ex (nwp H0 H) (nwp H0 H') := fun a o h => by
  obtain ⟨h1, h2⟩ := nwp_old h
  rw [nwp_at h1]
  exact e a o h2
theorem nwp_base {H0 H H' : Hp} (e : Ex H0 H) : Ex (nwp H H') (nwp H0 H') := fun a o h => by
  obtain ⟨h1, h2⟩ := nwp_old h
  rw [nwp_at (fresh_back e h1)]
  exact h2
theorem nwp_dg {H0 H : Hp} {g : Addr} (h : H0 g ≠ none) : Ex (nwp H0 H) (dg g H) := fun a o ha => by
  obtain ⟨h1, h2⟩ := nwp_old ha
  have n : a ≠ g := fun z => h (by rw [← z]; exact h1)
  rw [dg_ne n]
  exact h2
theorem Os.nmono {H0 H H' : Hp} {a : Addr} {os : List HO} (h : Os (nwp H0 H) a os) (e : Ex H H') : Os (nwp H0 H') a os := h.mono (nwp_mono e)
theorem Os.nup {H0 H : Hp} {a : Addr} {os : List HO} (h : Os (nwp H0 H) a os) : Os H a os := h.mono (nwp_up H0 H)
section
variable {K : PySem.W.Frag} {σ : L2.St} {H H' : Hp} {ta tb te tx tc td : TE} {t u : TT} {x y z v : V} {D : Ends} {tu tw tz : TS}
theorem eo_sorted {a : Addr} {rows : List (List Int)} {H0 : Hp} (hE : Ex H0 H) (ha : Ev ta σ H (.ref a)) (h : Os (nwp H0 H) a (rows.map Lr)) : ∀ H1, Ex H H1 → ∀ Q : VK, (∀ p rows' H2, H1 p = none → Ex H1 H2 → Os (nwp H0 H2) p (rows'.map Lr) → rows'.Perm rows → Srtd lexL rows' → Q (.ref p) H2) → tCB (rSortedLL K) (tCons ta tNil) σ H1 Q := fun H1 e Q q =>
  ha H1 e _ fun H2 e2 => by
    obtain ⟨ts, k1, k2, k3⟩ := (h.nmono (e.trans e2)).back
    have up := nwp_up H0 H2
    refine ⟨a, ts.map V.ref, rowIn (nwp H0 H2), rfl, .of (up _ _ k1), fun x hx => ?_, fun ys p hs pm hp => ?_⟩
    · obtain ⟨t, ht, rfl⟩ := List.mem_map.mp hx
      exact ⟨t, rfl, up _ _ (k2 t ht)⟩
    · have hp0 : H0 p = none := fresh_back ((hE.trans e).trans e2) hp
      have hr : (ys.map refOf).map V.ref = ys := refs_back fun y hy => by
        obtain ⟨t, _, e⟩ := List.mem_map.mp (pm.mem_iff.mp hy)
        exact ⟨t, e.symm⟩
      have hm : ∀ t, t ∈ ys.map refOf → t ∈ ts := fun t ht => by
        have : V.ref t ∈ ys := by rw [← hr]; exact List.mem_map.mpr ⟨t, ht, rfl⟩
        obtain ⟨t', h1, h2⟩ := List.mem_map.mp (pm.mem_iff.mp this)
        cases h2; exact h1
      have e3 : Ex (nwp H0 H2) (nwp H0 (upd H2 p (.lst ys))) := nwp_mono (Ex.new hp)
      have same : ∀ t, t ∈ ts → rowIn (nwp H0 (upd H2 p (.lst ys))) (.ref t) = rowIn (nwp H0 H2) (.ref t) := fun t ht => rowIn_of (e3 _ _ (k2 t ht))
      have ho : Os (nwp H0 (upd H2 p (.lst ys))) p ((((ys.map refOf).map V.ref).map (rowIn (nwp H0 (upd H2 p (.lst ys))))).map Lr) := Os.of_ts (by rw [hr, nwp_at hp0]; exact upd_same) fun t ht => by
        rw [same t (hm t ht)]
        exact e3 _ _ (k2 t (hm t ht))
      rw [hr] at ho
      have hc : ys.map (rowIn (nwp H0 (upd H2 p (.lst ys)))) = ys.map (rowIn (nwp H0 H2)) := by
        apply List.map_congr_left
        intro y hy
        obtain ⟨t, ht, e⟩ := List.mem_map.mp (pm.mem_iff.mp hy)
        subst e
        exact same t ht
      rw [hc] at ho
      refine q p _ _ (fresh_back e2 hp) (e2.trans (Ex.new hp)) ho ?_ (List.pairwise_map.mpr hs)
      rw [← k3]
      exact pm.map _
/-- [0] * n -/
theorem el_rep {n : Nat} {c : V} (hb : Ev tb σ H (.int (n : Int))) (hn : n ≤ 1000) : EvL (tOp rRep (tLst (tCons (tC c) tNil)) tb) σ H (List.replicate n c) := fun H0 e0 Q q =>
  (el_lst (vs := [c]) (ea_cons ev_c ea_nil) (by show 1 ≤ 100000; decide)) H0 e0 _ fun p H1 hp e1 k1 => hb H1 (e0.trans e1) _ fun H2 e2 => ⟨p, (n : Int), [c], rfl, rfl, e2 _ _ k1, by omega, by omega, sz_of (by simp; omega), fun r hr => q r _ (fresh_back (e1.trans e2) hr) ((e1.trans e2).trans (Ex.new hr)) (by
    rw [upd_same, Int.toNat_natCast]
    congr 2
    clear hb hn e2 q hr
    induction n with
    | zero => rfl
    | succ n ih => rw [List.replicate_succ, List.replicate_succ, List.flatten_cons, ih]; rfl)⟩
/-- a, b = e, [a new object] -/
theorem q_parM {i j : Nat} {o : HO} (h1 : Ev ta σ H v) (h2 : EvN tb σ H o) (k : ∀ p H1, H p = none → Ex H H1 → Os (nwp H H1) p [o] → tz D ((σ.set i (some v)).set j (some (.ref p))) H1) : tSeq (tPar i j (tCons ta (tCons (tLst (tCons tb tNil)) tNil))) tz D σ H :=
  h1 H (Ex.refl H) _ fun H1 e1 => h2 H1 e1 _ fun q H2 hq e2 k2 => ⟨sz_of (by show 1 ≤ 100000; decide), fun p hp => by
    have X := e1.trans e2
    have hp0 := fresh_back X hp
    refine ⟨_, _, rfl, k p _ hp0 (X.trans (Ex.new hp)) ⟨[q], by rw [nwp_at hp0]; exact upd_same, rfl, fun i t o' ht ho => ?_⟩⟩
    cases i with
    | zero =>
      cases ht; cases ho
      rw [nwp_at (fresh_back e1 hq)]
      exact Ex.new hp _ _ k2
    | succ i => simp at ht⟩
theorem en_dnewT : EvN tDNewT σ H (.dT []) := fun H1 e Q q p hp => q p _ hp (Ex.new hp) upd_same
theorem q_asgN {i : Nat} {o : HO} (h : EvN te σ H o) (k : ∀ p H1, H p = none → Ex H H1 → H1 p = some o → tz D (σ.set i (some (.ref p))) H1) : tSeq (tAsg te (gName i)) tz D σ H := h H (Ex.refl H) _ k
end
/-! ### dicts whose keys are rows -/
def kR (r : List Int) : List Key := r.map Sum.inl
theorem kR_kV (r : List Int) : (kR r).map kV = iL r := by
  unfold kR iL
  rw [List.map_map]; rfl
theorem kR_inj {r s : List Int} (h : kR r = kR s) : r = s := by
  have h2 := congrArg (List.map kV) h
  rw [kR_kV, kR_kV] at h2
  have h3 := congrArg (List.map unI) h2
  rw [un_iL, un_iL] at h3
  exact h3
def dTr (rows : List (List Int)) : List (List Key × V) := rows.map fun r => (kR r, V.bl true)
def insR (rows : List (List Int)) (r : List Int) : List (List Int) := if r ∈ rows then rows else rows ++ [r]
theorem insR_mem (rows : List (List Int)) (r s : List Int) : s ∈ insR rows r ↔ s ∈ rows ∨ s = r := by
  unfold insR
  split
  · next h =>
    constructor
    · exact .inl
    · rintro (h' | rfl)
      · exact h'
      · exact h
  · simp
theorem insR_len (rows : List (List Int)) (r : List Int) : (insR rows r).length ≤ rows.length + 1 := by
  unfold insR
  split <;> simp
theorem dTr_put (rows : List (List Int)) (r : List Int) : putK (dTr rows) (kR r) (.bl true) = dTr (insR rows r) := by
  have hany : ((dTr rows).any fun z => decide (z.1 = kR r)) = decide (r ∈ rows) := by
    unfold dTr
    induction rows with
    | nil => rfl
    | cons s rows ih =>
      rw [List.map_cons, List.any_cons, ih]
      by_cases e : s = r
      · simp [e]
      · have h1 : ¬ kR s = kR r := fun z => e (kR_inj z)
        have h2 : ¬ r = s := fun z => e z.symm
        simp [h1, h2]
  unfold putK insR
  rw [hany]
  by_cases h : r ∈ rows
  · rw [decide_eq_true h, if_pos rfl, if_pos h]
    unfold dTr
    rw [List.map_map]
    refine List.map_congr_left fun s _ => ?_
    show (if kR s = kR r then (kR s, V.bl true) else (kR s, V.bl true)) = (kR s, V.bl true)
    split <;> rfl
  · rw [decide_eq_false h, if_neg Bool.false_ne_true, if_neg h]
    simp [dTr]
end Ap


namespace Ap
open PySem PySem.Spec PyProof.Rows L2 Evl SrtO
section
variable {K : PySem.W.Frag} {σ : L2.St} {H H' : Hp} {ta tb te tx tc td : TE} {t u : TT} {x y z v : V} {D : Ends} {tu tw tz : TS}
def rTupleOf (K : PySem.W.Frag) : List V → Hp → VK → Prop := fun xs H Q => ∃ p ys, xs = [V.ref p] ∧ ((SqL K H p ys ∧ ∀ l, H l = none → Q (.ref l) (upd H l (.tup ys))) ∨ (SqT K H p ys ∧ Q (.ref p) H))
theorem eu_tupleOf {p : Addr} {xs : List V} (ha : Ev ta σ H (.ref p)) (h : H p = some (.lst xs)) : EvU (tCB (rTupleOf K) (tCons ta tNil)) σ H xs := fun H1 e Q q =>
  ha H1 e _ fun H2 e2 => ⟨p, xs, rfl, .inl ⟨.of (e2 _ _ (e _ _ h)), fun l hl => q l _ (fresh_back e2 hl) (e2.trans (Ex.new hl)) upd_same⟩⟩
theorem s_dputT {d : Addr} {rows : List (List Int)} {r : List Int} (hv : Ev te σ H (.bl true)) (ha : Ev ta σ H (.ref d)) (hk : EvU tb σ H (iL r)) (h : H d = some (.dT (dTr rows))) (hl : rows.length < 100000) (k : ∀ H1, Ex H H1 → D.nx σ (upd H1 d (.dT (dTr (insR rows r))))) : sDPut ta tb te D σ H :=
  hv H (Ex.refl H) _ fun H1 e1 => ha H1 e1 _ fun H2 e2 => hk H2 (e1.trans e2) _ fun q H3 _ e3 kq => ⟨d, _, rfl, DPut.t (k := kR r) (((e1.trans e2).trans e3) d _ h) (by rw [kR_kV]; exact kq) (sz_lt (by unfold dTr; rw [List.length_map]; exact hl)), by
    rw [dTr_put]
    exact k H3 ((e1.trans e2).trans e3)⟩
theorem en_listT {p : Addr} {xs : List V} (ha : Ev ta σ H (.ref p)) (h : H p = some (.tup xs)) : EvN (tCB (rListS K) (tCons ta tNil)) σ H (.lst xs) := fun H1 e Q q =>
  ha H1 e _ fun H2 e2 => ⟨p, xs, rfl, .inr (.of (e2 _ _ (e _ _ h))), fun l hl => q l _ (fresh_back e2 hl) (e2.trans (Ex.new hl)) upd_same⟩
/-- found = [list(row) for row in longer] -/
theorem s_rowsOf {d : Addr} {ac : List (List Int)} {i j : Nat} {vs : List Nat} (ha : ∀ H, Ev ta σ H (.ref d)) (h : H d = some (.dT (dTr ac))) (hz : ac.length ≤ 40000) (hw : ∀ x, wipe ((wipe σ vs).set j (some x)) vs = wipe σ vs) (hb : ∀ x H, Ev tb ((wipe σ vs).set j (some x)) H x)
    (k : ∀ p H1, H p = none → Ex H H1 → Os (nwp H H1) p (ac.map Lr) → D.nx (σ.set i (some (.ref p))) H1) : tLock (tAsg (tLc (iKeys ta) (gName j) tYes (tCB (rListS K) (tCons tb tNil)) vs) (gName i)) D σ H := by
  have hla : (dTr ac).length = ac.length := List.length_map _
  refine ⟨d, .dT (dTr ac), h, True.intro, fun od => ?_⟩
  refine ha _ _ (Ex.refl _) _ fun H2 e2 => ⟨d, od, rfl, .inr ⟨dTr ac, e2 _ _ upd_same, fun Dl hD => ?_⟩⟩
  have hD0 := fresh_back e2 hD
  obtain ⟨hDd, hDH⟩ := upd_none hD0
  refine lc_it walk_keysT (fun i H' => H2 Dl = none ∧ Ex H2 H' ∧ ∃ ts : List Addr, H' Dl = some (.lst (ts.map V.ref)) ∧ ts.length = i ∧ ∀ (j : Nat) t o, ts[j]? = some t → (ac.map Lr)[j]? = some o → H' t = some o ∧ t ≠ Dl ∧ H t = none) ⟨hD, Ex.new hD, [], upd_same, rfl, fun j t o h => by simp at h⟩ (fun i H' _ p => p.2.1 _ _ (e2 _ _ upd_same)) (fun i x H3 H4 hi p ⟨e4, kk, vv, q, hk, hx, hq⟩ => ?_) fun H' p => ?_
  · subst e4 hx
    have hi' : i < ac.length := by omega
    have hk' : (dTr ac)[i]? = some (kR ac[i], .bl true) := by unfold dTr; rw [List.getElem?_map, List.getElem?_eq_getElem hi']; rfl
    rw [hk'] at hk
    cases hk
    rw [kR_kV] at hq
    have ho : (ac.map Lr)[i]? = some (Lr ac[i]) := by rw [List.getElem?_map, List.getElem?_eq_getElem hi']; rfl
    refine ⟨hw _, ?_⟩
    obtain ⟨p1, p2, ts, p3, p4, p5⟩ := p
    refine et_yes H4 (Ex.refl H4) _ fun H5 e5 => ?_
    rw [if_pos rfl]
    refine (en_listT (hb (.ref q) H5) (e5 _ _ hq)) H5 (Ex.refl H5) _ fun q' H6 hq' e6 k6 => ⟨ts.map V.ref, e6 _ _ (e5 _ _ p3), sz_lt (by rw [List.length_map]; omega), p1, Ex.mut ((p2.trans e5).trans e6) p1, ts ++ [q'], by rw [upd_same, List.map_append]; rfl, by simp [p4], fun j t o' hj ho' => ?_⟩
    have hqD : q' ≠ Dl := fun e => by rw [e, e5 _ _ p3] at hq'; cases hq'
    have hqH : H q' = none := (upd_none (fresh_back ((e2.trans p2).trans e5) hq')).2
    by_cases hlt : j < ts.length
    · rw [List.getElem?_append_left hlt] at hj
      obtain ⟨a, b, c⟩ := p5 j t o' hj ho'
      exact ⟨by rw [upd_ne b]; exact e6 _ _ (e5 _ _ a), b, c⟩
    · have : j = i := by have := (List.getElem?_eq_some_iff.mp hj).1; simp at this; omega
      subst this
      rw [List.getElem?_append_right (by omega)] at hj
      rw [show j - ts.length = 0 by omega] at hj
      cases hj
      rw [ho] at ho'
      cases ho'
      exact ⟨by rw [upd_ne hqD]; exact k6, hqD, hqH⟩
  · rw [hla] at p
    have X : Ex (upd H d (.frz od (.dT (dTr ac)))) H' := e2.trans p.2.1
    refine ⟨X _ _ upd_same, k Dl _ hDH (fun a o hha => ?_) ?_⟩
    · by_cases n : a = d
      · rw [n, h] at hha; cases hha
        rw [n]; exact upd_same
      · rw [upd_ne n]
        exact X _ _ (by rw [upd_ne n]; exact hha)
    · obtain ⟨_, _, ts, p3, p4, p5⟩ := p
      refine ⟨ts, by rw [nwp_at hDH, upd_ne hDd]; exact p3, by rw [p4, List.length_map], fun i t o ht ho => ?_⟩
      obtain ⟨a, _, hn⟩ := p5 i t o ht ho
      have hne : t ≠ d := fun z => by
        rw [z, X _ _ upd_same] at a
        cases a
        rw [List.getElem?_map] at ho
        obtain ⟨r, _, e⟩ := Option.map_eq_some_iff.mp ho
        cases e
      rw [nwp_at hn, upd_ne hne]
      exact a
end
def sp_law_all (K : PySem.W.Frag) : Sp := fun vs H Q _ => ∃ (w : Nat) (a : Addr) (S : List Int) (m : Nat), vs = [.int (w : Int), .ref a, .int (m : Int)] ∧ H a = some (.lst (iL S)) ∧ SmOk w m S ∧
  ∀ p rows H', H p = none → Ex H H' → Os (nwp H H') p (rows.map Lr) → Codes w m S rows → rows.length ≤ 512 → Q (.ref p) H'
/-- what the rows of one more power are, once j rows are done -/
def Made (w k : Nat) (S : List Int) (rows : List (List Int)) (j : Nat) (ac : List (List Int)) : Prop := ∀ r', r' ∈ ac ↔ ∃ (l : Nat) (r : List Int) (c : Int), l < j ∧ rows[l]? = some r ∧ 0 ≤ c ∧ c < 2 ^ w ∧ r' = addRow w k c S r
theorem addRow_len (w k : Nat) (c : Int) {S r : List Int} (h : r.length = S.length) : (addRow w k c S r).length = S.length := by
  unfold addRow
  rw [List.length_map, List.length_zip, h, Nat.min_self]
theorem addRow_at {w k : Nat} {c : Int} {S r : List Int} {i : Nat} {s n : Int} (hs : S[i]? = some s) (hn : r[i]? = some n) : (addRow w k c S r)[i]? = some ((n + c * s ^ k) % 2 ^ w) := by
  unfold addRow
  rw [List.getElem?_map, List.getElem?_zip_eq_some (z := (s, n)) |>.mpr ⟨hs, hn⟩]; rfl
theorem pow_small {s : Int} (h0 : 0 ≤ s) (h : s < 8) : ∀ t : Nat, (s ^ t).natAbs < 2 ^ (3 * t + 1)
  | 0 => by simp
  | t + 1 => by
    have ih := pow_small h0 h t
    rw [Int.pow_succ, show 3 * (t + 1) + 1 = (3 * t + 1) + 3 by omega]
    exact wide_lt ih (by omega)
theorem sc_law_all : FnScope ["_law_bits", "_law_spots_here", "_law_many", "_law_top", "_law_found", "_law_power_here", "_law_longer", "_law_row", "_law_factor", "_law_made", "_law_at", "_law_spot", "_law_term", "_law_turn"] ["_law_bits", "_law_spots_here", "_law_many"] (defScope sLawAll) := ⟨rfl, rfl, rfl, by decide +kernel, rfl, by decide +kernel, by decide +kernel⟩
theorem has_law_all {P : Program} {w : World} {K : PySem.W.Frag} {mg : Str → Option Value} {base : Heap} (T : Txt K mg) : Has P w K mg base "_law_all" ["_law_bits", "_law_spots_here", "_law_many"] 2 (sp_law_all K) := by
  refine Has.of T.gLawAll T.dLawAll (fun fd F => FunD.ok F sc_law_all (fun vs H Q E h => ?_) (fun cdv A outer s H vs Q E hr h => ?_)) fun _ _ _ _ _ _ us hl => match us, hl with | [_, _, _], _ => rfl
  · obtain ⟨w, a, S, m, rfl, hS, ok, k⟩ := h
    rfl
  · have hr : Room 1 _ := hr
    have h_law_power := has_law_power (P := P) (w := w) (base := base) T
    obtain ⟨w, a, S, m, rfl, hS, ok, k⟩ := h
    refine ⟨(tSeq (tPar 3 4 (tCons (tCall _ [] E0 (tCons (tVar 0) tNil)) (tCons (tLst (tCons (tOp _ (tLst (tCons (tC _) tNil)) (tCB (Evl.rLenS K) (tCons (tVar 1) tNil))) tNil)) tNil)))
      (tSeq (tFor (iRng1 (tCons (tVar 2) tNil)) (gName 5) (tSeq (tAsg tDNewT (gName 6))
      (tSeq (tFor (iList K (tVar 4)) (gName 7) (tFor (iRng1 (tCons (tVar 3) tNil)) (gName 8) (tSeq (tAsg (tLst tNil) (gName 9))
      (tSeq (tFor (iEnum K (tCons (tVar 1) tNil)) (gTup K 2 (gCons (gName 10) (gCons (gName 11) gNil))) (tSeq (tAsg (tVar 8) (gName 12))
      (tSeq (tFor (iRng1 (tCons (tVar 5) tNil)) (gName 13) (tAsg (tOp _ (tVar 12) (tVar 11)) (gName 12)))
      (tDrop (tBM K "list" rAppend (tVar 9) (tCons (tOp _ (tCB _ (tCons (tOp _ (tOp (rIxL K) (tVar 7) (tVar 10)) (tVar 12)) tNil)) (tVar 3)) tNil))))))
      (sDPut (tVar 6) (tCB (rTupleOf K) (tCons (tVar 9) tNil)) (tC _))))))
      (tLock (tAsg (tLc (iKeys (tVar 6)) (gName 7) tYes (tCB (Evl.rListS K) (tCons (tVar 7) tNil)) [7]) (gName 4))))))
      (tRet (tCB (rSortedLL K) (tCons (tVar 4) tNil))))), PSs.nox (pss_cons (ps_par (i := 3) (j := 4) (by rfl) sc_law_all.nd rfl rfl (by decide) rfl rfl (pa_cons (pe_has h_law_power (hr.mono (by decide)) (pa_cons (pv 0) pa_nil)) (pa_cons (pe_lst (pa_cons (pe_op op_rep (pe_lst (pa_cons pe_int pa_nil)) (pe_callB call_len_seq (by rfl) T.z_len (by decide +kernel) (pa_cons (pv 1) pa_nil))) pa_nil)) pa_nil)) (by rfl))
    (pss_cons (ps_for PassesOwn.never (by rfl) (pi_range1 (by rfl) T.z_range (pa_cons (pv 2) pa_nil)) (pg_name (i := 5) sc_law_all.nd rfl (Or.inl rfl)) (pss_cons (ps_set (i := 6) sc_law_all.nd rfl (Or.inl rfl) pe_dnewT)
    (pss_cons (ps_for PassesOwn.never (by rfl) (pi_list (pv 4)) (pg_name (i := 7) sc_law_all.nd rfl (Or.inl rfl)) (pss_one (ps_for PassesOwn.never (by rfl) (pi_range1 (by rfl) T.z_range (pa_cons (pv 3) pa_nil)) (pg_name (i := 8) sc_law_all.nd rfl (Or.inl rfl)) (pss_cons (ps_set (i := 9) sc_law_all.nd rfl (Or.inl rfl) (pe_lst pa_nil))
    (pss_cons (ps_for PassesOwn.never (by rfl) (pi_enum (by rfl) T.z_enumerate (pa_cons (pv 1) pa_nil)) (pg_tup (by rfl) (pgs_cons (pg_name (i := 10) sc_law_all.nd rfl (Or.inl rfl)) (pgs_cons (pg_name (i := 11) sc_law_all.nd rfl (Or.inl rfl)) pgs_nil))) (pss_cons (ps_set (i := 12) sc_law_all.nd rfl (Or.inl rfl) (pv 8))
    (pss_cons (ps_for PassesOwn.never (by rfl) (pi_range1 (by rfl) T.z_range (pa_cons (pv 5) pa_nil)) (pg_name (i := 13) sc_law_all.nd rfl (Or.inl rfl)) (pss_one (ps_set (i := 12) sc_law_all.nd rfl (Or.inl rfl) (pe_op op_mulX (pv 12) (pv 11)))))
    (pss_one (ps_expr (pe_bm PySem.F.plainAttrs_list PySem.F.slot_list_append PySem.F.type_list_append mt_append (pv 9) (pa_cons (pe_op op_mod (pe_callTy call_int1 (by rfl) T.z_int (by decide +kernel) (pa_cons (pe_op op_add (pe_ix ix_list (pv 7) (pv 10) (fun _ _ => rfl)) (pv 12)) pa_nil)) (pv 3)) pa_nil)))))))
    (pss_one (ps_dput (hu_of hr) (pv 6) (pe_callTy call_tuple_of (by rfl) T.z_tuple (by decide +kernel) (pa_cons (pv 9) pa_nil)) pe_bl (by rfl))))))))
    (pss_one (ps_lock (ps_setLc (i := 4) (own := [("_law_row", 7)]) (g := (gName 7)) (tt := tYes) (te := (tCB (Evl.rListS K) (tCons (tVar 7) tNil))) (by rfl) sc_law_all.nd rfl rfl (sw_true rfl rfl rfl (by decide +kernel)) (pi_keys (pv 6)) (blkOk_by (own := [("_law_row", 7)]) (N := ["_law_bits", "_law_spots_here", "_law_many", "_law_top", "_law_found", "_law_power_here", "_law_longer", "_law_row", "_law_factor", "_law_made", "_law_at", "_law_spot", "_law_term", "_law_turn"]) (sc := defScope sLawAll) (by decide +kernel)) (fun _ _ _ _ _ => (pg_name (i := 7) sc_law_all.nd rfl (Or.inl rfl))) (fun _ _ _ _ _ => pts_nil) (fun _ _ _ _ _ => (pe_callTy call_list_of (by rfl) T.z_list (by decide +kernel) (pa_cons (pv 7) pa_nil)))))))))
    (pss_one (ps_ret (pe_callB (cr_sortedLL hr.units) (by rfl) T.z_sorted (by decide +kernel) (pa_cons (pv 4) pa_nil)))))), ?_⟩
    have w1 := ok.w1
    have w3 := ok.w3
    have hl5 := ok.len
    have hwm := ok.wm
    have hm9 : m ≤ 9 := Nat.le_trans (Nat.le_mul_of_pos_left m w1) hwm
    have hT8 : (2 : Int) ^ w ≤ 8 := Int.le_of_dvd (by decide) (pow_dvd (b := 3) w3)
    have hT0 := two_pos w
    refine q_parM (v := .int (2 ^ w)) (o := Lr (List.replicate S.length 0)) (ev_call (ea_cons (ev_var rfl) ea_nil) (sv_law_power (by omega))) (show EvN _ _ _ (Lr _) from el_is (el_rep (ev_lenI (ev_var rfl) hS) (by omega)) (by simp [iL])) fun pf0 H1 hpf0 e1 kf0 => ?_
    refine q_forR1 (n := (m : Int)) (ea_cons (ev_var rfl) ea_nil) ⟨by omega, by omega⟩ (fun i σ' H' => ∃ (pf : Addr) (rows : List (List Int)) (y5 y6 y7 y8 y9 y10 y11 y12 y13 : Option V), σ' = [some (.int (w : Int)), some (.ref a), some (.int (m : Int)), some (.int (2 ^ w)), some (.ref pf), y5, y6, y7, y8, y9, y10, y11, y12, y13] ∧ Ex H H' ∧ Os (nwp H H') pf (rows.map Lr) ∧ Stage w i S rows ∧ rows.length ≤ 2 ^ (w * i))
      (fun H2 e2 => ⟨pf0, [List.replicate S.length 0], none, none, none, none, none, none, none, none, none, rfl, e1.trans e2, kf0.nmono e2, stage_zero w S, by simp⟩) ?_ ?_
    · rintro i σ' H2 hi ⟨pf, rows, y5, y6, y7, y8, y9, y10, y11, y12, y13, rfl, X2, kf, st, hrl⟩
      have him : i < m := by omega
      have hrow : ∀ r, r ∈ rows → r.length = S.length := fun r hr => by
        obtain ⟨f, _, rfl⟩ := (st r).mp hr
        exact rowOf_len w S f
      have hpw : 2 ^ (w * (i + 1)) ≤ 512 := by
        have : w * (i + 1) ≤ 9 := Nat.le_trans (Nat.mul_le_mul_left w (by omega)) hwm
        exact Nat.le_trans (Nat.pow_le_pow_right (by decide) this) (by decide)
      have hpe : 2 ^ (w * (i + 1)) = 2 ^ (w * i) * 2 ^ w := by rw [Nat.mul_add, Nat.mul_one, Nat.pow_add]
      refine q_asgN en_dnewT fun pl H3 hpl e3 kl => ?_
      have kfo := kf
      have kf := kf.nup
      have kf3 := kf.mono e3
      obtain ⟨ts, t1, t2, t3⟩ := kf3.back
      have htl : ts.length = rows.length := by rw [← t3]; simp
      have t4 : ∀ (j : Nat) t, ts[j]? = some t → ∃ r, rows[j]? = some r ∧ H3 t = some (Lr r) := fun j t ht => ⟨_, by rw [← t3, List.getElem?_map, List.getElem?_map, ht]; rfl, t2 t (List.mem_of_getElem? ht)⟩
      refine q_forLn (xs := ts.map V.ref) (ev_var rfl) (.of t1) (fun j σ' H' => ∃ (ac : List (List Int)) (y7 y8 y9 y10 y11 y12 y13 : Option V), σ' = [some (.int (w : Int)), some (.ref a), some (.int (m : Int)), some (.int (2 ^ w)), some (.ref pf), some (.int (i : Int)), some (.ref pl), y7, y8, y9, y10, y11, y12, y13] ∧ Ex H2 H' ∧ H' pl = some (.dT (dTr ac)) ∧ Made w i S rows j ac ∧ ac.length ≤ j * 2 ^ w)
        (fun H4 e4 => ⟨[], _, _, _, _, _, _, _, rfl, e3.trans e4, e4 _ _ kl, fun r' => ⟨fun h => (List.not_mem_nil h).elim, fun ⟨l, _, _, h, _⟩ => by omega⟩, Nat.zero_le _⟩) (fun j σ' H' _ ⟨ac, _, _, _, _, _, _, _, _, X, _⟩ => .of (by
          obtain ⟨tsx, h1, h2, h3⟩ := kf
          have e5 := e3 _ _ h1
          rw [e5] at t1
          have e6 : tsx.map V.ref = ts.map V.ref := by injection t1 with q; injection q
          rw [← e6]
          exact X _ _ h1)) ?_ ?_
      · rintro j x σ' H4 hx ⟨ac, y7, y8, y9, y10, y11, y12, y13, rfl, X4, kl4, md, hal⟩
        rw [List.getElem?_map] at hx
        obtain ⟨t, ht, rfl⟩ := Option.map_eq_some_iff.mp hx
        obtain ⟨r, hr, kt⟩ := t4 j t ht
        have kt4 : H4 t = some (Lr r) := by
          obtain ⟨tsx, h1, h2, h3⟩ := kf
          have e5 := e3 _ _ h1
          rw [e5] at t1
          have e6 : tsx.map V.ref = ts.map V.ref := by injection t1 with q; injection q
          have hx2 : (tsx.map V.ref)[j]? = some (V.ref t) := by rw [e6, List.getElem?_map, ht]; rfl
          rw [List.getElem?_map] at hx2
          obtain ⟨t', ht', ett⟩ := Option.map_eq_some_iff.mp hx2
          cases ett
          exact X4 _ _ (h3 j t _ ht' (by rw [List.getElem?_map, hr]; rfl))
        have hrn := hrow r (List.mem_of_getElem? hr)
        have hjl : j < rows.length := (List.getElem?_eq_some_iff.mp hr).1
        have hj2 : (j + 1) * 2 ^ w ≤ 512 := Nat.le_trans (Nat.mul_le_mul_right (2 ^ w) (show j + 1 ≤ rows.length by omega)) (by rw [hpe] at hpw; exact Nat.le_trans (Nat.mul_le_mul_right _ hrl) hpw)
        have hj3 : (j + 1) * 2 ^ w = j * 2 ^ w + 2 ^ w := by rw [Nat.add_mul, Nat.one_mul]
        have hTn : ((2 : Int) ^ w).toNat = 2 ^ w := by
          have : (2 : Int) ^ w = ((2 ^ w : Nat) : Int) := by simp
          rw [this, Int.toNat_natCast]
        refine s_forR1 (n := 2 ^ w) (ea_cons (ev_var rfl) ea_nil) ⟨by omega, by omega⟩ (fun c σ' H' => ∃ (ac' : List (List Int)) (y8 y9 y10 y11 y12 y13 : Option V), σ' = [some (.int (w : Int)), some (.ref a), some (.int (m : Int)), some (.int (2 ^ w)), some (.ref pf), some (.int (i : Int)), some (.ref pl), some (.ref t), y8, y9, y10, y11, y12, y13] ∧ Ex H2 H' ∧ H' t = some (Lr r) ∧ H' pl = some (.dT (dTr ac')) ∧ (∀ r', r' ∈ ac' ↔ r' ∈ ac ∨ ∃ c' : Int, 0 ≤ c' ∧ c' < c ∧ r' = addRow w i c' S r) ∧ ac'.length ≤ j * 2 ^ w + c)
          (fun H5 e5 => ⟨ac, _, _, _, _, _, _, rfl, X4.trans e5, e5 _ _ kt4, e5 _ _ kl4, fun r' => ⟨.inl, fun h => by rcases h with h | ⟨c', h1, h2, _⟩; exact h; omega⟩, by omega⟩) ?_ ?_
        · rintro c σ' H5 hc ⟨ac', y8, y9, y10, y11, y12, y13, rfl, X5, kt5, kl5, md', hal'⟩
          have hcn : c < 2 ^ w := by omega
          refine q_asgL el_nil fun pm H6 hpm e6 km => ?_
          have kt6 := e6 _ _ kt5
          have kl6 := e6 _ _ kl5
          have X6 := X5.trans e6
          have hpm0 := fresh_back X5 hpm
          have nmt : t ≠ pm := ne_of_none kt5 hpm
          have nml : pl ≠ pm := ne_of_none kl5 hpm
          have hS6 := X6 _ _ (X2 _ _ hS)
          refine q_forEn (xs := iL S) (ea_cons (ev_var rfl) ea_nil) hS6 (fun l σ' H' => ∃ (y10 y11 y12 y13 : Option V), σ' = [some (.int (w : Int)), some (.ref a), some (.int (m : Int)), some (.int (2 ^ w)), some (.ref pf), some (.int (i : Int)), some (.ref pl), some (.ref t), some (.int (c : Int)), some (.ref pm), y10, y11, y12, y13] ∧ Ex H5 H' ∧ H' pm = some (.lst (iL ((addRow w i c S r).take l))))
            (fun H7 e7 => ⟨_, _, _, _, rfl, e6.trans e7, e7 _ _ km⟩) (fun l σ' H' ⟨_, _, _, _, _, X, _⟩ => X _ _ (X5 _ _ (X2 _ _ hS))) ?_ ?_
          · rintro l x Tt σ' H7 hx ⟨y10, y11, y12, y13, rfl, X7, km7⟩ hTt
            obtain ⟨s, hs, rfl⟩ := iL_of hx
            have X8 : Ex H5 (upd H7 Tt (.tup [.int (l : Int), .int s])) := X7.trans (Ex.new hTt)
            have km8 : (upd H7 Tt (.tup [.int (l : Int), .int s])) pm = some (.lst (iL ((addRow w i c S r).take l))) := Ex.new hTt _ _ km7
            generalize upd H7 Tt (.tup [.int (l : Int), .int s]) = H8 at X8 km8 ⊢
            have hls := (List.getElem?_eq_some_iff.mp hs).1
            have hsb := ok.pl.mem s (List.mem_of_getElem? hs)
            have hn : r[l]? = some (r[l]'(by omega)) := List.getElem?_eq_getElem (by omega)
            refine q_asg (v := .int (c : Int)) (ev_var rfl) fun H9 e9 => ?_
            refine q_forR1 (n := (i : Int)) (ea_cons (ev_var rfl) ea_nil) ⟨by omega, by omega⟩ (fun q σ' H' => ∃ y13, σ' = [some (.int (w : Int)), some (.ref a), some (.int (m : Int)), some (.int (2 ^ w)), some (.ref pf), some (.int (i : Int)), some (.ref pl), some (.ref t), some (.int (c : Int)), some (.ref pm), some (.int (l : Int)), some (.int s), some (.int ((c : Int) * s ^ q)), y13] ∧ Ex H8 H') (fun H10 e10 => ⟨y13, by rw [Int.pow_zero, Int.mul_one]; rfl, e9.trans e10⟩) ?_ ?_
            · rintro q σ' H10 hq ⟨y13, rfl, e10⟩
              refine s_asg (v := .int ((c : Int) * s ^ (q + 1))) (ev_is (ev_op (ev_var rfl) (ev_var rfl) (rv_I (mulx_ok (a := 3 + (3 * q + 1)) (b := 3) (wide_lt (by omega) (pow_small hsb.1 (by omega) q)) (by omega) (by omega)))) (by rw [Int.pow_succ, Int.mul_assoc])) fun H11 e11 => ⟨_, rfl, e10.trans e11⟩
            · rintro σ' H10 ⟨y13, rfl, e10⟩
              rw [Int.toNat_natCast]
              refine s_app (v := .int ((r[l]'(by omega) + (c : Int) * s ^ i) % 2 ^ w)) (e10 _ _ km8) (ev_var rfl) (ev_op (ev_int (ev_op (ev_ixI (i := l) (ev_var rfl) (ev_var rfl) (e10 _ _ (X8 _ _ kt5)) hn) (ev_var rfl) rv_I0)) (ev_var rfl) (rv_I hT0)) (by rw [iL_len, List.length_take, addRow_len w i c hrn]; omega) fun H11 e11 => ?_
              refine ⟨_, _, _, _, rfl, ((X8.trans e10).trans e11).mut hpm, ?_⟩
              rw [upd_same, List.take_add_one, addRow_at hs hn, ← iL_app]
              rfl
          · rintro σ' H7 ⟨y10, y11, y12, y13, rfl, X7, km7⟩
            rw [iL_len, List.take_of_length_le (by rw [addRow_len w i c hrn]; exact Nat.le_refl _)] at km7
            refine s_dputT ev_c (ev_var rfl) (eu_tupleOf (ev_var rfl) km7) (X7 _ _ kl5) (by omega) fun H8 e8 => ?_
            have ntl : t ≠ pl := fun z => by rw [z, kl5] at kt5; cases kt5
            have hpl2 : H2 pl = none := hpl
            refine ⟨insR ac' (addRow w i c S r), _, _, _, _, _, _, rfl, ((X5.trans X7).trans e8).mut hpl2, by rw [upd_ne ntl]; exact e8 _ _ (X7 _ _ kt5), upd_same, fun r' => ?_, by have := insR_len ac' (addRow w i c S r); omega⟩
            rw [insR_mem, md']
            constructor
            · rintro ((h | ⟨c', h1, h2, h3⟩) | rfl)
              · exact .inl h
              · exact .inr ⟨c', h1, by omega, h3⟩
              · exact .inr ⟨c, by omega, by omega, rfl⟩
            · rintro (h | ⟨c', h1, h2, h3⟩)
              · exact .inl (.inl h)
              · by_cases e : c' = (c : Int)
                · rw [e] at h3; exact .inr h3
                · exact .inl (.inr ⟨c', h1, by omega, h3⟩)
        · rintro σ' H5 ⟨ac', y8, y9, y10, y11, y12, y13, rfl, X5, kt5, kl5, md', hal'⟩
          rw [hTn] at md' hal'
          refine ⟨ac', _, _, _, _, _, _, _, rfl, X5, kl5, fun r' => ?_, by omega⟩
          rw [md', md]
          have hcast : ((2 ^ w : Nat) : Int) = 2 ^ w := by simp
          constructor
          · rintro (⟨l, r0, c', h1, h2⟩ | ⟨c', h1, h2, h3⟩)
            · exact ⟨l, r0, c', by omega, h2⟩
            · exact ⟨j, r, c', by omega, hr, h1, by omega, h3⟩
          · rintro ⟨l, r0, c', h1, h2, h3, h4, h5⟩
            by_cases e : l < j
            · exact .inl ⟨l, r0, c', e, h2, h3, h4, h5⟩
            · have : l = j := by omega
              subst this
              rw [hr] at h2
              cases h2
              exact .inr ⟨c', h3, by omega, h5⟩
      · rintro σ' H4 ⟨ac, y7, y8, y9, y10, y11, y12, y13, rfl, X4, kl4, md, hal⟩
        rw [List.length_map, htl] at md hal
        have hal2 : ac.length ≤ 2 ^ (w * (i + 1)) := by
          rw [hpe]
          exact Nat.le_trans hal (Nat.mul_le_mul_right _ hrl)
        refine s_rowsOf (fun H => ev_var rfl) kl4 (by omega) (fun _ => rfl) (fun x H => ev_var rfl) fun p H5 hp e5 k5 => ?_
        refine ⟨p, ac, _, _, _, _, _, _, _, _, _, rfl, (X2.trans X4).trans e5, k5.mono (nwp_base (X2.trans X4)), stage_next st fun r' => ?_, hal2⟩
        rw [md]
        constructor
        · rintro ⟨l, r, c, h1, h2, h3⟩
          exact ⟨r, c, List.mem_of_getElem? h2, h3⟩
        · rintro ⟨r, c, h1, h2⟩
          obtain ⟨l, hl⟩ := List.mem_iff_getElem?.mp h1
          exact ⟨l, r, c, (List.getElem?_eq_some_iff.mp hl).1, hl, h2⟩
    · rintro σ' H2 ⟨pf, rows, y5, y6, y7, y8, y9, y10, y11, y12, y13, rfl, X2, kf, st, hrl⟩
      rw [Int.toNat_natCast] at st hrl
      have h512 : rows.length ≤ 512 := Nat.le_trans hrl (Nat.le_trans (Nat.pow_le_pow_right (by decide) hwm) (by decide))
      refine eo_sorted X2 (ev_var rfl) kf H2 (Ex.refl H2) _ fun p rows' H3 hp e3 k3 pm srt => ?_
      exact k p rows' H3 (fresh_back X2 hp) (X2.trans e3) k3 (codes_from st pm srt) (by rw [pm.length_eq]; exact h512)

end Ap


namespace Ap
open PySem PySem.Spec PyProof.Rows L2 Evl SrtO
theorem given_gen {α : Type} (l : List α) (f : Nat → Bool) (v : Nat → V) (p : α → Bool) (u : α → V) (h : ∀ i x, l[i]? = some x → f i = p x ∧ v i = u x) : given l.length f v = (l.filter p).map u := by
  have key : ∀ n, n ≤ l.length → given n f v = ((l.take n).filter p).map u := by
    intro n
    induction n with
    | zero => intro _; simp [given]
    | succ n ih =>
      intro hn
      have hg : l[n]? = some l[n] := List.getElem?_eq_getElem (by omega)
      rw [List.take_add_one, hg, List.filter_append]
      obtain ⟨hp, hv⟩ := h n _ hg
      cases hf : f n with
      | true =>
        rw [given_yes hf, ih (by omega), hv]
        rw [hf] at hp
        simp [← hp]
      | false =>
        rw [given_no hf, ih (by omega)]
        rw [hf] at hp
        simp [← hp]
  have := key l.length (Nat.le_refl _)
  rwa [List.take_length] at this
theorem Kn.os {H : Hp} {a : Addr} {kv : List (Int × Int)} (h : Kn H a kv) : Os H a (kv.map tp) := by
  obtain ⟨ts, h1, h2, h3⟩ := h
  refine ⟨ts, h1, by rw [h2, List.length_map], fun i t o ht ho => ?_⟩
  rw [List.getElem?_map] at ho
  obtain ⟨q, hq, e⟩ := Option.map_eq_some_iff.mp ho
  rw [← e]
  exact h3 i t q ht hq
/-! ### data of such lists -/
structure DaOk {α : Type} (o : α → HO) (da : α → PyData) : Prop where
  dp : ∀ (K : PySem.W.Frag) (H : Hp) (t : Addr) (x : α), H t = some (o x) → Dp K H (.ref t) (da x)
  lay : ∀ x, (da x).canLay0 = true
  dep : ∀ x, (da x).depth ≤ 5
def daR (r : List Int) : PyData := .list (r.map PyData.int)
def daP (q : Int × Int) : PyData := .tuple [.int q.1, .int q.2]
theorem daR_ok : DaOk Lr daR := ⟨fun K H t r h => .lst (.of h) (dp_iL r), fun r => by simp [daR, PyData.canLay0, lay_all], fun r => by simp [daR, PyData.depth, dep_all]⟩
theorem daP_ok : DaOk tp daP := ⟨fun K H t q h => .tup (.of h) (.cons (.int q.1) (.cons (.int q.2) .nil)), fun q => by simp [daP, PyData.canLay0, PyData.canLayAll0], fun q => by simp [daP, PyData.depth, PyData.depthAll]⟩
section
variable {α : Type} {o : α → HO} {da : α → PyData}
theorem DaOk.shape (d : DaOk o da) (l : List α) : SeqAt.shaped (.list (l.map da)) = true := by
  have h1 : PyData.canLayAll0 (l.map da) = true := by
    induction l with
    | nil => simp [PyData.canLayAll0]
    | cons x l ih => simp [PyData.canLayAll0, d.lay x, ih]
  have h2 : PyData.depthAll (l.map da) ≤ 5 := by
    induction l with
    | nil => simp [PyData.depthAll]
    | cons x l ih =>
      have := d.dep x
      have h1' : PyData.canLayAll0 (l.map da) = true := by simp [PyData.canLayAll0] at h1; exact h1.2
      have := ih h1'
      simp only [List.map_cons, PyData.depthAll]
      omega
  unfold SeqAt.shaped
  rw [Bool.and_eq_true]
  refine ⟨by rw [PyData.canLay0]; exact h1, ?_⟩
  rw [decide_eq_true_eq, PyData.depth]
  omega
theorem DaOk.all (d : DaOk o da) {K : PySem.W.Frag} {H : Hp} : ∀ (ts : List Addr) (l : List α), ts.length = l.length → (∀ (i : Nat) t x, ts[i]? = some t → l[i]? = some x → H t = some (o x)) → DpAll K H (ts.map V.ref) (l.map da)
  | [], [], _, _ => .nil
  | t :: ts, x :: l, hl, h => .cons (d.dp K H t x (h 0 t x rfl rfl)) (d.all ts l (by simpa using hl) fun i t x a b => h (i + 1) t x (by simpa using a) (by simpa using b))
  | [], _ :: _, hl, _ => by simp at hl
  | _ :: _, [], hl, _ => by simp at hl
theorem Os.at' {H : Hp} {a : Addr} {l : List α} (h : Os H a (l.map o)) : ∃ ts : List Addr, H a = some (.lst (ts.map V.ref)) ∧ ts.length = l.length ∧ ∀ (i : Nat) t x, ts[i]? = some t → l[i]? = some x → H t = some (o x) := by
  obtain ⟨ts, h1, h2, h3⟩ := h
  exact ⟨ts, h1, by rw [h2, List.length_map], fun i t x ht hx => h3 i t _ ht (by rw [List.getElem?_map, hx]; rfl)⟩
theorem Os.dp (d : DaOk o da) {K : PySem.W.Frag} {H : Hp} {a : Addr} {l : List α} (h : Os H a (l.map o)) : Dp K H (.ref a) (.list (l.map da)) := by
  obtain ⟨ts, h1, h2, h3⟩ := h.at'
  exact .lst (.of h1) (d.all ts l h2 h3)
theorem eqv_nil (l : List α) : PyData.eqv (.list (l.map da)) (.list []) = decide (l = []) := by
  cases l <;> simp [PyData.eqv, PyData.eqvAll]
variable {K : PySem.W.Frag} {σ : L2.St} {H H' : Hp} {ta tb te tx tc td : TE} {t u : TT} {x y z v : V} {D : Ends} {tu tw tz : TS}
theorem dp_nil {q : Addr} (hq : H q = some (.lst (iL []))) : Dp K H (.ref q) (.list []) := .lst (.of hq) .nil
theorem ev_neO {a : Addr} {l : List α} (d : DaOk o da) (ha : Ev ta σ H (.ref a)) (h : Os H a (l.map o)) : Ev (tOp (rNeD K) ta (tLst tNil)) σ H (.bl (!decide (l = []))) := ev_opL ha el_nil fun q H1 hq e H2 e2 Q k => by
  have := k H2 (Ex.refl H2)
  refine ⟨_, _, ((h.mono (e.trans e2)).dp d), dp_nil (e2 _ _ hq), d.shape l, d.shape [], ?_⟩
  rw [eqv_nil]
  exact this
/-- a new list of objects == [] -/
theorem ev_eqM {l : List α} (d : DaOk o da) (ha : EvM ta σ H (l.map o)) : Ev (tOp (rEqD K) ta (tLst tNil)) σ H (.bl (decide (l = []))) := fun H0 e0 Q k =>
  ha H0 e0 _ fun p H1 _ e1 k1 => el_nil H1 (e0.trans e1) _ fun q H2 _ e2 k2 => ⟨_, _, ((k1.mono e2).dp d), dp_nil k2, d.shape l, d.shape [], by
    rw [eqv_nil]
    exact k H2 (e1.trans e2)⟩
/-- the items that pass a test, themselves -/
theorem em_lcSel {a : Addr} {l : List α} {tl : TE} {j : Nat} {vs : List Nat} (p : α → Bool) (h : Ev tl σ H (.ref a)) (hx : Os H a (l.map o)) (hz : l.length ≤ 40000) (hw : ∀ x, wipe ((wipe σ vs).set j (some x)) vs = wipe σ vs) (hj : ∀ x, ((wipe σ vs).set j (some x))[j]? = some (some x))
    (ht : ∀ (x : α) (s : Addr) H1, x ∈ l → Ex H H1 → H1 s = some (o x) → EvT t ((wipe σ vs).set j (some (.ref s))) H1 (p x)) : EvM (tLc (iList K tl) (gName j) t (tVar j) vs) σ H ((l.filter p).map o) := by
  obtain ⟨ts, h1, h2, h3⟩ := hx.at'
  have hzl : (ts.zip l).length = ts.length := by rw [List.length_zip]; omega
  have hz2 : ∀ i (q : Addr × α), (ts.zip l)[i]? = some q → ts[i]? = some q.1 ∧ l[i]? = some q.2 := fun i q hq => List.getElem?_zip_eq_some.mp hq
  have hgz : ∀ i (s : V), (ts.map V.ref)[i]? = some s → ∃ q : Addr × α, (ts.zip l)[i]? = some q ∧ s = .ref q.1 ∧ q.2 ∈ l ∧ H q.1 = some (o q.2) := fun i s hs => by
    rw [List.getElem?_map] at hs
    obtain ⟨s', hs', rfl⟩ := Option.map_eq_some_iff.mp hs
    have hi := (List.getElem?_eq_some_iff.mp hs').1
    have hl := List.getElem?_eq_getElem (l := l) (show i < l.length by omega)
    exact ⟨(s', _), List.getElem?_zip_eq_some.mpr ⟨hs', hl⟩, rfl, List.mem_of_getElem? hl, h3 i _ _ hs' hl⟩
  have hel : EvL (tLc (iList K tl) (gName j) t (tVar j) vs) σ H (((ts.zip l).filter fun (q : Addr × α) => p q.2).map fun (q : Addr × α) => V.ref q.1) := by
    refine el_is (el_lcL (fun i => ((ts.zip l)[i]?.map fun q => p q.2).getD false) (fun i => ((ts.zip l)[i]?.map fun q => V.ref q.1).getD .non) h (.of h1) (by rw [List.length_map]; omega) hw (fun i s H2 e2 hs => ?_) (fun i s H2 e2 hs _ => ?_)) ?_
    · obtain ⟨q, hq, rfl, hm, ho⟩ := hgz i s hs
      rw [hq]
      exact ht q.2 q.1 H2 hm e2 (e2 _ _ ho)
    · obtain ⟨q, hq, rfl, hm, ho⟩ := hgz i s hs
      rw [hq]
      exact ev_var (hj _)
    · rw [List.length_map, ← hzl]
      exact given_gen (ts.zip l) _ _ (fun q => p q.2) (fun q => V.ref q.1) fun i q hq => by rw [hq]; exact ⟨rfl, rfl⟩
  intro H0 e0 Q k
  refine hel H0 e0 Q fun r H1 hr e1 k1 => k r H1 hr e1 ⟨((ts.zip l).filter fun q => p q.2).map (·.1), by rw [k1, List.map_map]; rfl, ?_, fun i s ob hs ho => ?_⟩
  · have e2 : l.filter p = ((ts.zip l).filter fun q => p q.2).map (·.2) := by
      have : l = (ts.zip l).map (·.2) := by rw [List.map_snd_zip (by omega)]
      conv => lhs; rw [this]
      rw [List.filter_map]; rfl
    rw [e2, List.length_map, List.length_map, List.length_map]
  · have e2 : l.filter p = ((ts.zip l).filter fun q => p q.2).map (·.2) := by
      have : l = (ts.zip l).map (·.2) := by rw [List.map_snd_zip (by omega)]
      conv => lhs; rw [this]
      rw [List.filter_map]; rfl
    rw [e2, List.map_map, List.getElem?_map] at ho
    rw [List.getElem?_map] at hs
    obtain ⟨q, hq, rfl⟩ := Option.map_eq_some_iff.mp hs
    rw [hq] at ho
    cases ho
    have hm := List.mem_of_getElem? hq
    rw [List.mem_filter] at hm
    obtain ⟨i', hi'⟩ := List.mem_iff_getElem?.mp hm.1
    obtain ⟨a1, a2⟩ := hz2 i' q hi'
    exact (e0.trans e1) _ _ (h3 i' _ _ a1 a2)
/-- a value of each -/
theorem el_lcO {a : Addr} {l : List α} {tl : TE} {j : Nat} {vs : List Nat} (w : α → V) (h : Ev tl σ H (.ref a)) (hx : Os H a (l.map o)) (hz : l.length ≤ 40000) (hw : ∀ x, wipe ((wipe σ vs).set j (some x)) vs = wipe σ vs)
    (he : ∀ (x : α) (s : Addr) H1, x ∈ l → Ex H H1 → H1 s = some (o x) → Ev te ((wipe σ vs).set j (some (.ref s))) H1 (w x)) : EvL (tLc (iList K tl) (gName j) tYes te vs) σ H (l.map w) := by
  obtain ⟨ts, h1, h2, h3⟩ := hx.at'
  refine el_is (el_lcL (fun _ => true) (fun i => (l[i]?.map w).getD .non) h (.of h1) (by rw [List.length_map]; omega) hw (fun i s H2 e2 hs => et_yes) (fun i s H2 e2 hs _ => ?_)) ?_
  · rw [List.getElem?_map] at hs
    obtain ⟨s', hs', rfl⟩ := Option.map_eq_some_iff.mp hs
    have hi := (List.getElem?_eq_some_iff.mp hs').1
    have hl := List.getElem?_eq_getElem (l := l) (show i < l.length by omega)
    rw [hl]
    exact he _ s' H2 (List.mem_of_getElem? hl) e2 (e2 _ _ (h3 i _ _ hs' hl))
  · rw [List.length_map, h2]
    have := given_gen l (fun _ => true) (fun i => (l[i]?.map w).getD .non) (fun _ => true) w fun i x hx => by rw [hx]; exact ⟨rfl, rfl⟩
    rw [this, List.filter_eq_self.mpr fun _ _ => rfl]
theorem q_asgM {i : Nat} {os : List HO} (h : EvM te σ H os) (k : ∀ p H1, H p = none → Ex H H1 → Os H1 p os → tz D (σ.set i (some (.ref p))) H1) : tSeq (tAsg te (gName i)) tz D σ H := h H (Ex.refl H) _ k
theorem el_cat {xs ys : List V} (ha : EvL ta σ H xs) (hb : EvL tb σ H ys) (hl : xs.length + ys.length ≤ 100000) : EvL (tOp rCat ta tb) σ H (xs ++ ys) := fun H0 e0 Q q =>
  ha H0 e0 _ fun p H1 _ e1 k1 => hb H1 (e0.trans e1) _ fun r H2 _ e2 k2 => ⟨p, r, xs, ys, rfl, rfl, e2 _ _ k1, k2, sz_of hl, fun s hs => q s _ (fresh_back (e1.trans e2) hs) ((e1.trans e2).trans (Ex.new hs)) upd_same⟩
theorem ev_minNL {l : List Nat} (h : EvL te σ H (nL l)) (hl : l ≠ []) : Ev (tCB (rMin K) (tCons te tNil)) σ H (.int (minL l : Nat)) := fun H1 e Q q => h H1 e _ fun p H2 _ e2 k2 =>
  ⟨p, l.map fun n => ((n : Nat) : Int), rfl, .of (by rw [k2]; congr 2; rw [nL_iL]; rfl), by rw [List.length_map]; exact List.length_pos_iff.mpr hl, fun m hm hy => by
    obtain ⟨n, hn, rfl⟩ := List.mem_map.mp hm
    have : minL l = n := minL_eq hn fun x hx => by
      have := hy _ (List.mem_map.mpr ⟨x, hx, rfl⟩)
      omega
    rw [← this]
    exact q H2 e2⟩
end
end Ap


namespace Ap
open PySem PySem.Spec PyProof.Rows L2 Evl SrtO
/-! ### the rows with given words -/
def fitR (S : List Int) (kv : List (Int × Int)) (r : List Int) : Bool := decide ((kv.filter fun q => !decide (r.getD (zidx q.1 S) 0 = q.2)) = [])
def sp_law_fitting (K : PySem.W.Frag) : Sp := fun vs H Q _ => ∃ (a b c : Addr) (rows : List (List Int)) (S : List Int) (kv : List (Int × Int)), vs = [.ref a, .ref b, .ref c] ∧ Os H a (rows.map Lr) ∧ rows.length ≤ 1000 ∧ H b = some (.lst (iL S)) ∧ Os H c (kv.map tp) ∧ kv.length ≤ 1000 ∧ (∀ q, q ∈ kv → q.1 ∈ S) ∧ (∀ r, r ∈ rows → r.length = S.length) ∧
  ∀ p H', H p = none → Ex H H' → Os H' p ((rows.filter (fitR S kv)).map Lr) → Q (.ref p) H'
theorem sc_law_fitting : FnScope ["_law_rows", "_law_spots_here", "_law_pairs_here", "_law_row", "_law_pair"] ["_law_rows", "_law_spots_here", "_law_pairs_here"] (defScope sLawFitting) := ⟨rfl, rfl, rfl, by decide +kernel, rfl, by decide +kernel, by decide +kernel⟩
theorem has_law_fitting {P : Program} {w : World} {K : PySem.W.Frag} {mg : Str → Option Value} {base : Heap} (T : Txt K mg) : Has P w K mg base "_law_fitting" ["_law_rows", "_law_spots_here", "_law_pairs_here"] 1 (sp_law_fitting K) := by
  refine Has.of T.gLawFitting T.dLawFitting (fun fd F => FunD.ok F sc_law_fitting (fun vs H Q E h => ?_) (fun cdv A outer s H vs Q E hr h => ?_)) fun _ _ _ _ _ _ us hl => match us, hl with | [_, _, _], _ => rfl
  · obtain ⟨a, b, c, rows, S, kv, rfl, h1, h2, h3, h4, h5, h6, h7, k⟩ := h
    rfl
  · have hr : Room 0 _ := hr

    obtain ⟨a, b, c, rows, S, kv, rfl, h1, h2, h3, h4, h5, h6, h7, k⟩ := h
    refine ⟨(tRet (tLc (iList K (tVar 0)) (gName 3) (tTest (tOp (rEqD K) (tLc (iList K (tVar 2)) (gName 4) (tTest (tOp _ (tOp (rIxL K) (tVar 3) (tBM K "list" (rIndex K) (tVar 1) (tCons (tOp (rIxT K) (tVar 4) (tC _)) tNil))) (tOp (rIxT K) (tVar 4) (tC _)))) (tVar 4) [4]) (tLst tNil))) (tVar 3) [3])), PSs.nox (pss_one (ps_ret (pe_lc (own := [("_law_row", 3)]) (g := (gName 3)) (tt := (tTest (tOp (rEqD K) (tLc (iList K (tVar 2)) (gName 4) (tTest (tOp _ (tOp (rIxL K) (tVar 3) (tBM K "list" (rIndex K) (tVar 1) (tCons (tOp (rIxT K) (tVar 4) (tC _)) tNil))) (tOp (rIxT K) (tVar 4) (tC _)))) (tVar 4) [4]) (tLst tNil)))) (te := (tVar 3)) (by rfl) sc_law_fitting.nd (pi_list (pv 0)) (blkOk_by (own := [("_law_row", 3)]) (N := ["_law_rows", "_law_spots_here", "_law_pairs_here", "_law_row", "_law_pair"]) (sc := defScope sLawFitting) (by decide +kernel)) (fun _ _ _ _ _ => (pg_name (i := 3) sc_law_fitting.nd rfl (Or.inr rfl))) (fun _ _ _ _ _ => (pts_one (pt_cmpR (op_eqD hr.units) (pe_lc (own := [("_law_pair", 4)]) (g := (gName 4)) (tt := (tTest (tOp _ (tOp (rIxL K) (tVar 3) (tBM K "list" (rIndex K) (tVar 1) (tCons (tOp (rIxT K) (tVar 4) (tC _)) tNil))) (tOp (rIxT K) (tVar 4) (tC _))))) (te := (tVar 4)) (by rfl) sc_law_fitting.nd (pi_list (pv 2)) (blkOk_by (own := [("_law_pair", 4)]) (N := ["_law_rows", "_law_spots_here", "_law_pairs_here", "_law_row", "_law_pair"]) (sc := { kind := .function, names := [(Str.ofString ".0", .local), (Str.ofString "_law_row", .cell), (Str.ofString "_law_pairs_here", .cell), (Str.ofString "_law_spots_here", .cell)], isGenerator := false, isCoroutine := false, more := [] }) (by decide +kernel)) (fun _ _ _ _ _ => (pg_name (i := 4) sc_law_fitting.nd rfl (Or.inl rfl))) (fun _ _ _ _ _ => (pts_one (pt_cmpR op_ne (pe_ix ix_list (pv 3) (pe_bm PySem.F.plainAttrs_list PySem.F.slot_list_index PySem.F.type_list_index mt_index (pv 1) (pa_cons (pe_ix ix_tup (pv 4) pe_int (fun _ _ => rfl)) pa_nil)) (fun _ _ => rfl)) (pe_ix ix_tup (pv 4) pe_int (fun _ _ => rfl)) (nomark _)))) (fun _ _ _ _ _ => (pv 4))) (pe_lst pa_nil) (nomark _)))) (fun _ _ _ _ _ => (pv 3))))), ?_⟩
    refine (em_lcSel (o := Lr) (l := rows) (fitR S kv) (ev_var rfl) h1 (by omega) (fun _ => rfl) (fun _ => rfl) fun r s H1 hr e1 hs => ?_) H (Ex.refl H) _ fun p H1 hp e1 k1 => k p H1 hp e1 k1
    refine et_test (ev_eqM daP_ok (em_lcSel (o := tp) (l := kv) (fun q => !decide (r.getD (zidx q.1 S) 0 = q.2)) (ev_var rfl) (h4.mono e1) (by omega) (fun _ => rfl) (fun _ => rfl) fun q s2 H2 hq e2 hs2 => ?_))
    have hqS := h6 q hq
    have hz := zidx_at q.1 S hqS
    have hzl := (List.getElem?_eq_some_iff.mp hz).1
    have hrl := h7 r hr
    have hg : r[zidx q.1 S]? = some (r.getD (zidx q.1 S) 0) := by rw [List.getD_eq_getElem?_getD, List.getElem?_eq_getElem (by omega)]; rfl
    refine et_test (ev_is (ev_op (ev_ixI (i := zidx q.1 S) (ev_var rfl) (ev_indexI (ev_var rfl) (ev_op (ev_var rfl) ev_c (rv_ixT (.of hs2) (atI_nat (j := 0) rfl))) (e2 _ _ (e1 _ _ h3)) hqS) (e2 _ _ hs) hg) (ev_op (ev_var rfl) ev_c (rv_ixT (.of hs2) (atI_nat (j := 1) rfl))) (rv_ne rfl)) (by simp))

/-! ### the row that is due -/
theorem fitR_zer (S P : List Int) (rows : List (List Int)) : rows.filter (fitR S (P.map fun x => (x, (0 : Int)))) = zer S P rows := by
  unfold zer
  refine List.filter_congr fun r _ => ?_
  unfold fitR
  rw [show (P.all fun x => decide (r.getD (zidx x S) 0 = 0)) = decide (∀ x, x ∈ P → r.getD (zidx x S) 0 = 0) by
    rw [Bool.eq_iff_iff, List.all_eq_true, decide_eq_true_eq]
    exact ⟨fun h x hx => of_decide_eq_true (h x hx), fun h x hx => decide_eq_true (h x hx)⟩]
  refine decide_eq_decide.mpr ?_
  rw [List.filter_eq_nil_iff]
  constructor
  · intro h x hx
    have := h (x, 0) (List.mem_map.mpr ⟨x, hx, rfl⟩)
    simpa using this
  · intro h q hq
    obtain ⟨x, hx, rfl⟩ := List.mem_map.mp hq
    have := h x hx
    simpa using this
def RetX (P : List Int → Prop) (H : Hp) (Q : VK) : Prop := ∀ t row H', Ex H H' → H' t = some (.lst (iL row)) → P row → Q (.ref t) H'
theorem RetX.go {P : List Int → Prop} {H H' H2 : Hp} {Q : VK} (k : RetX P H Q) (e : Ex H H') {t : Addr} {row : List Int} (e2 : Ex H' H2) (h : H2 t = some (.lst (iL row))) (hP : P row) : Q (.ref t) H2 := k t row H2 (e.trans e2) h hP
def sp_law_untold_due (K : PySem.W.Frag) : Sp := fun vs H Q _ => ∃ (a b c : Addr) (rows : List (List Int)) (S P : List Int) (j w m : Nat) (p : Int), vs = [.ref a, .ref b, .ref c, .int (j : Int), .int (w : Int)] ∧ Os H a (rows.map Lr) ∧ rows.length ≤ 1000 ∧ Codes w m S rows ∧ H b = some (.lst (iL S)) ∧ H c = some (.lst (iL P)) ∧ P.Nodup ∧ (∀ x, x ∈ P → x ∈ S) ∧ P.length ≤ 100 ∧ S[j]? = some p ∧ w ≤ 64 ∧
  (Bits w m P p = w → RetV .non H Q) ∧ (Bits w m P p < w → RetX (First w m S (unk w m P p)) H Q)
section
variable {K : PySem.W.Frag} {σ : L2.St} {H H' : Hp} {ta tb te tx tc td : TE} {t u : TT} {x y z v : V} {D : Ends} {tu tw tz : TS}
theorem em_fit {E : XK} {a b : Addr} {rows : List (List Int)} {S : List Int} {kv : List (Int × Int)} (ha : Ev ta σ H (.ref a)) (hb : Ev tb σ H (.ref b)) (hc : EvM tc σ H (kv.map tp)) (h1 : Os H a (rows.map Lr)) (h2 : rows.length ≤ 1000) (h3 : H b = some (.lst (iL S))) (h5 : kv.length ≤ 1000) (h6 : ∀ q, q ∈ kv → q.1 ∈ S) (h7 : ∀ r, r ∈ rows → r.length = S.length) :
    EvM (tCall (sp_law_fitting K) [] E (tCons ta (tCons tb (tCons tc tNil)))) σ H ((rows.filter (fitR S kv)).map Lr) := fun H0 e0 Q q =>
  ha H0 e0 _ fun H1 e1 => hb H1 (e0.trans e1) _ fun H2 e2 => hc H2 ((e0.trans e1).trans e2) _ fun c H3 _ e3 k3 => by
    have X := ((e0.trans e1).trans e2).trans e3
    exact ⟨a, b, c, rows, S, kv, rfl, h1.mono X, h2, X _ _ h3, k3, h5, h6, h7, fun p H4 hp e4 k4 => q p H4 (fresh_back ((e1.trans e2).trans e3) hp) (((e1.trans e2).trans e3).trans e4) k4⟩
end
theorem sc_law_untold_due : FnScope ["_law_rows", "_law_spots_here", "_law_near", "_law_at", "_law_bits", "_law_still", "_law_many", "_law_found", "_law_spot", "_law_row"] ["_law_rows", "_law_spots_here", "_law_near", "_law_at", "_law_bits"] (defScope sLawUntoldDue) := ⟨rfl, rfl, rfl, by decide +kernel, rfl, by decide +kernel, by decide +kernel⟩
theorem has_law_untold_due {P : Program} {w : World} {K : PySem.W.Frag} {mg : Str → Option Value} {base : Heap} (T : Txt K mg) : Has P w K mg base "_law_untold_due" ["_law_rows", "_law_spots_here", "_law_near", "_law_at", "_law_bits"] 2 (sp_law_untold_due K) := by
  refine Has.of T.gLawUntoldDue T.dLawUntoldDue (fun fd F => FunD.ok F sc_law_untold_due (fun vs H Q E h => ?_) (fun cdv A outer s H vs Q E hr h => ?_)) fun _ _ _ _ _ _ us hl => match us, hl with | [_, _, _, _, _], _ => rfl
  · obtain ⟨a, b, c, rows, S, P, j, w, m, p, rfl, h1, h2, hC, h3, h4, h5, h6, h7, h8, h9, k1, k2⟩ := h
    rfl
  · have hr : Room 1 _ := hr
    have h_law_power := has_law_power (P := P) (w := w) (base := base) T
    have h_law_twos := has_law_twos (P := P) (w := w) (base := base) T
    have h_law_fitting := has_law_fitting (P := P) (w := w) (base := base) T
    obtain ⟨a, b, c, rows, S, P, j, w, m, p, rfl, h1, h2, hC, h3, h4, h5, h6, h7, h8, h9, k1, k2⟩ := h
    refine ⟨(tSeq (tAsg (tCall _ [] E0 (tCons (tVar 0) (tCons (tVar 1) (tCons (tLc (iList K (tVar 2)) (gName 8) tYes (tTup (tCons (tVar 8) (tCons (tC _) tNil))) [8]) tNil)))) (gName 5))
      (tSeq (tAsg (tCB (rMin K) (tCons (tOp _ (tLst (tCons (tVar 4) tNil)) (tLc (iList K (tVar 5)) (gName 9) tYes (tCall _ [] E0 (tCons (tOp (rIxL K) (tVar 9) (tVar 3)) tNil)) [9])) tNil)) (gName 6))
      (tSeq (tAsg (tLc (iList K (tVar 5)) (gName 9) (tAnd (tTest (tOp _ (tVar 6) (tVar 4))) (tTest (tOp _ (tOp (rIxL K) (tVar 9) (tVar 3)) (tCall _ [] E0 (tCons (tVar 6) tNil))))) (tVar 9) [9]) (gName 7))
      (tRet (tIf (tTest (tOp (rNeD K) (tVar 7) (tLst tNil))) (tOp (rIxL K) (tVar 7) (tC _)) (tC _)))))), PSs.nox (pss_cons (ps_set (i := 5) sc_law_untold_due.nd rfl (Or.inl rfl) (pe_has h_law_fitting (hr.mono (by decide)) (pa_cons (pv 0) (pa_cons (pv 1) (pa_cons (pe_lc (own := [("_law_spot", 8)]) (g := (gName 8)) (tt := tYes) (te := (tTup (tCons (tVar 8) (tCons (tC _) tNil)))) (by rfl) sc_law_untold_due.nd (pi_list (pv 2)) (blkOk_by (own := [("_law_spot", 8)]) (N := ["_law_rows", "_law_spots_here", "_law_near", "_law_at", "_law_bits", "_law_still", "_law_many", "_law_found", "_law_spot", "_law_row"]) (sc := defScope sLawUntoldDue) (by decide +kernel)) (fun _ _ _ _ _ => (pg_name (i := 8) sc_law_untold_due.nd rfl (Or.inl rfl))) (fun _ _ _ _ _ => pts_nil) (fun _ _ _ _ _ => (pe_tup (pa_cons (pv 8) (pa_cons pe_int pa_nil))))) pa_nil)))))
    (pss_cons (ps_set (i := 6) sc_law_untold_due.nd rfl (Or.inr rfl) (pe_callB (cr_min (by rfl)) (by rfl) T.z_min (by decide +kernel) (pa_cons (pe_op op_cat (pe_lst (pa_cons (pv 4) pa_nil)) (pe_lc (own := [("_law_row", 9)]) (g := (gName 9)) (tt := tYes) (te := (tCall _ [] E0 (tCons (tOp (rIxL K) (tVar 9) (tVar 3)) tNil))) (by rfl) sc_law_untold_due.nd (pi_list (pv 5)) (blkOk_by (own := [("_law_row", 9)]) (N := ["_law_rows", "_law_spots_here", "_law_near", "_law_at", "_law_bits", "_law_still", "_law_many", "_law_found", "_law_spot", "_law_row"]) (sc := defScope sLawUntoldDue) (by decide +kernel)) (fun _ _ _ _ _ => (pg_name (i := 9) sc_law_untold_due.nd rfl (Or.inl rfl))) (fun _ _ _ _ _ => pts_nil) (fun _ _ _ _ _ => (pe_has h_law_twos (hr.mono (by decide)) (pa_cons (pe_ix ix_list (pv 9) (pv 3) (fun _ _ => rfl)) pa_nil))))) pa_nil)))
    (pss_cons (ps_setLc (i := 7) (own := [("_law_row", 9)]) (g := (gName 9)) (tt := (tAnd (tTest (tOp _ (tVar 6) (tVar 4))) (tTest (tOp _ (tOp (rIxL K) (tVar 9) (tVar 3)) (tCall _ [] E0 (tCons (tVar 6) tNil)))))) (te := (tVar 9)) (by rfl) sc_law_untold_due.nd rfl rfl (sw_true rfl rfl rfl (by decide +kernel)) (pi_list (pv 5)) (blkOk_by (own := [("_law_row", 9)]) (N := ["_law_rows", "_law_spots_here", "_law_near", "_law_at", "_law_bits", "_law_still", "_law_many", "_law_found", "_law_spot", "_law_row"]) (sc := defScope sLawUntoldDue) (by decide +kernel)) (fun _ _ _ _ _ => (pg_name (i := 9) sc_law_untold_due.nd rfl (Or.inl rfl))) (fun _ _ _ _ _ => (pts_one (PW.pt (pw_and (pt_cmpR op_lt (pv 6) (pv 4) (nomark _)) (pw_and1 (pt_cmpR op_eq (pe_ix ix_list (pv 9) (pv 3) (fun _ _ => rfl)) (pe_has h_law_power (hr.mono (by decide)) (pa_cons (pv 6) pa_nil)) (nomark _))))))) (fun _ _ _ _ _ => (pv 9)))
    (pss_one (ps_ret (pe_ifExp (pt_cmpR (op_neD hr.units) (pv 7) (pe_lst pa_nil) (nomark _)) (pe_ix ix_list (pv 7) pe_int (fun _ _ => rfl)) pe_non)))))), ?_⟩
    have hrl : ∀ r, r ∈ rows → r.length = S.length := fun r hr => by
      obtain ⟨f, _, rfl⟩ := (hC.mem r).mp hr
      exact rowOf_len w S f
    have hjl := (List.getElem?_eq_some_iff.mp h8).1
    have hbits := due_bits (j := j) (p := p) hC h9 h5 h6 h8
    have hble := Bits_le w m P p
    refine q_asgM (os := (zer S P rows).map Lr) (by
      rw [← fitR_zer]
      refine em_fit (kv := P.map fun x => (x, (0 : Int))) (ev_var rfl) (ev_var rfl) (em_lcL (ev_var rfl) (.of h4) (by rw [iL_len]; omega) (by rw [iL_len, List.length_map, List.length_map]) (fun _ => rfl) (fun _ _ _ _ _ => et_yes) (fun i x o H1 e hx ho => ?_)) h1 h2 h3 (by rw [List.length_map]; omega) (fun q hq => ?_) hrl
      · obtain ⟨y, hy, rfl⟩ := iL_of hx
        rw [List.getElem?_map, List.getElem?_map, hy] at ho
        cases ho
        exact en_pair (ev_var rfl) ev_c
      · obtain ⟨x, hx, rfl⟩ := List.mem_map.mp hq
        exact h6 x hx) fun ps H1 hps e1 ks => ?_
    have hzr : ∀ r, r ∈ zer S P rows → r.length = S.length := fun r hr => hrl r (List.mem_filter.mp hr).1
    have hzl : (zer S P rows).length ≤ 1000 := Nat.le_trans (List.length_filter_le _ _) h2
    have rat : ∀ r, r ∈ zer S P rows → r[j]? = some (r.getD j 0) := fun r hr => by
      rw [List.getD_eq_getElem?_getD, List.getElem?_eq_getElem (by rw [hzr r hr]; exact hjl)]; rfl
    refine q_asg (v := .int (Bits w m P p : Nat)) (ev_is (ev_minNL (l := w :: (zer S P rows).map fun r => ltw (r.getD j 0)) (el_is (el_cat (xs := nL [w]) (ys := (zer S P rows).map fun r => V.int (ltw (r.getD j 0) : Nat)) (el_lst (ea_cons (ev_var rfl) ea_nil) (by show 1 ≤ 100000; decide)) (el_lcO (o := Lr) (fun r => V.int (ltw (r.getD j 0) : Nat)) (ev_var rfl) ks (by omega) (fun _ => rfl) fun r s H2 hr e2 hs => ?_) (by rw [nL_len, List.length_map, List.length_singleton]; omega)) (by unfold nL; simp)) (by simp)) (by rw [hbits])) fun H2 e2 => ?_
    · exact ev_call (ea_cons (ev_ixI (i := j) (ev_var rfl) (ev_var rfl) hs (rat r hr)) ea_nil) sv_law_twos
    have ks2 := ks.mono e2
    refine q_asgM (os := ((zer S P rows).filter fun r => decide (Bits w m P p < w) && decide (r.getD j 0 = 2 ^ Bits w m P p)).map Lr) (em_lcSel (o := Lr) (fun r => decide (Bits w m P p < w) && decide (r.getD j 0 = 2 ^ Bits w m P p)) (ev_var rfl) ks2 (by omega) (fun _ => rfl) (fun _ => rfl) fun r s H3 hr e3 hs => ?_) fun pf H3 hpf e3 kf => ?_
    · refine et_and (et_test (ev_is (ev_op (ev_var rfl) (ev_var rfl) rv_I0) (by simp))) fun _ => et_test (ev_is (ev_op (ev_ixI (i := j) (ev_var rfl) (ev_var rfl) hs (rat r hr)) (ev_call (ea_cons (ev_var rfl) ea_nil) (sv_law_power (by omega))) (rv_eq rfl)) (by simp))
    have X3 := (e1.trans e2).trans e3
    by_cases hlt : Bits w m P p < w
    · obtain ⟨r, rest, er, hF⟩ := due_rows (j := j) hC h5 h6 h8 hlt
      have eff : ((zer S P rows).filter fun r => decide (Bits w m P p < w) && decide (r.getD j 0 = 2 ^ Bits w m P p)) = r :: rest := by
        rw [← er]
        refine List.filter_congr fun r _ => ?_
        rw [decide_eq_true hlt, Bool.true_and]
      rw [eff] at kf
      obtain ⟨ts, t1, t2, t3⟩ := kf.at'
      cases ts with
      | nil => simp at t2
      | cons t ts =>
        have ht := t3 0 t r rfl rfl
        exact s_ret (v := .ref t) (ev_if (b := true) (et_test (ev_is (ev_neO daR_ok (ev_var rfl) kf) rfl)) (fun _ => ev_op (ev_var rfl) ev_c (rv_ixL (.of t1) (atI_nat (j := 0) rfl))) (fun h => by cases h)) fun H4 e4 => (k2 hlt).go X3 e4 (e4 _ _ ht) hF
    · have eff : ((zer S P rows).filter fun r => decide (Bits w m P p < w) && decide (r.getD j 0 = 2 ^ Bits w m P p)) = [] := by
        rw [List.filter_eq_nil_iff]
        intro r _
        rw [decide_eq_false hlt]
        simp
      rw [eff] at kf
      exact s_ret (v := .non) (ev_if (b := false) (et_test (ev_is (ev_neO daR_ok (l := []) (ev_var rfl) kf) rfl)) (fun h => by cases h) (fun _ => ev_c)) fun H4 e4 => (k1 (by omega)).go (X3.trans e4)

end Ap


namespace Ap
open PySem PySem.Spec PyProof.Rows L2 Evl SrtO
theorem dg_up (g : Addr) (H : Hp) : Ex (dg g H) H := (Exg.refl g H).ex
theorem dg_mono {g : Addr} {H H' : Hp} (e : Exg g H H') : Ex (dg g H) (dg g H') := fun a o h => by
  by_cases n : a = g
  · rw [n, dg_at] at h; cases h
  · rw [dg_ne n] at h ⊢
    exact e a o n h
def Ok64 (l : List Int) : Prop := l.length ≤ 1000 ∧ ∀ x, x ∈ l → x.natAbs < 2 ^ 64
section
variable {K : PySem.W.Frag} {σ : L2.St} {H H' : Hp} {ta tb te tx tc td tf : TE} {t u : TT} {x y z v : V} {D : Ends} {tu tw tz : TS} {g : Addr} {N M : Nat} {P : V → Prop}
theorem ev_reprL {a : Addr} {l : List Int} (ha : Ev ta σ H (.ref a)) (h : H a = some (.lst (iL l))) (ok : Ok64 l) : Ev (tCB (rReprL K) (tCons ta tNil)) σ H (.str (lTxt l)) := fun H1 e Q q =>
  ha H1 e _ fun H2 e2 => .inl ⟨a, l, rfl, .of (e2 _ _ (e _ _ h)), ok.1, ok.2, q H2 e2⟩
theorem ev_reprLN {l : List Int} (ha : EvL ta σ H (iL l)) (ok : Ok64 l) : Ev (tCB (rReprL K) (tCons ta tNil)) σ H (.str (lTxt l)) := fun H1 e Q q =>
  ha H1 e _ fun a H2 _ e2 h2 => .inl ⟨a, l, rfl, .of h2, ok.1, ok.2, q H2 e2⟩
theorem ev_reprN (ha : Ev ta σ H .non) : Ev (tCB (rReprL K) (tCons ta tNil)) σ H (.str "None") := fun H1 e Q q =>
  ha H1 e _ fun H2 e2 => .inr ⟨rfl, q H2 e2⟩
theorem et_isNR {b : Bool} (h : EvR te σ H P) (hb : ∀ v, P v → decide (v = V.non) = b) : EvT (tTest (tOp (fun x y H Q => y = V.non ∧ Q (V.bl (decide (x = V.non))) H) te (tC .non))) σ H b := fun H1 e Q q =>
  h H1 e _ fun v H2 e2 pv => ⟨rfl, b, by rw [hb v pv], q H2 e2⟩
/-- over enumerate(xs) -/
theorem el_lcEn {p : Addr} {xs : List V} {j1 j2 : Nat} {ta : TA} {vs : List Nat} (f : Nat → Bool) (w : Nat → V) (h : EvA ta σ H [.ref p]) (hp : H p = some (.lst xs)) (hz : xs.length ≤ 40000)
    (hw : ∀ x y, wipe (((wipe σ vs).set j1 (some x)).set j2 (some y)) vs = wipe σ vs)
    (ht : ∀ (i : Nat) (x : V) H1, Ex H H1 → xs[i]? = some x → EvT t (((wipe σ vs).set j1 (some (.int (i : Int)))).set j2 (some x)) H1 (f i))
    (he : ∀ (i : Nat) (x : V) H1, Ex H H1 → xs[i]? = some x → f i = true → Ev te (((wipe σ vs).set j1 (some (.int (i : Int)))).set j2 (some x)) H1 (w i)) :
    EvL (tLc (iEnum K ta) (gTup K 2 (gCons (gName j1) (gCons (gName j2) gNil))) t te vs) σ H (given xs.length f w) := fun H0 e Q k => h H0 e _ fun H1 e1 => ⟨p, xs, rfl, .of ((e.trans e1) p _ hp), fun Dl hD =>
  lc_it (walk_enum (K := K) (a := p)) (Cw H1 f w Dl) ⟨hD, Ex.new hD, upd_same⟩ (fun i H2 _ c => .of (c.2.1 p _ ((e.trans e1) p _ hp))) (fun i v H2 H3 hi c y => by
    obtain ⟨T, a, b, rfl, hT, rfl, ha, hb⟩ := y
    have ea : a = .int (i : Int) := (Option.some.inj ha).symm
    subst ea
    refine ⟨T, [_, b], rfl, .of upd_same, rfl, _, [b], rfl, b, [], rfl, rfl, hw _ b, ?_⟩
    have c' : Cw H1 f w Dl i (upd H2 T (.tup [.int (i : Int), b])) := ⟨c.1, c.2.1.trans (Ex.new hT), by rw [upd_ne (ne_of_none c.2.2 hT)]; exact c.2.2⟩
    exact cw_turn c' (by omega) (ht i b H1 (e.trans e1) hb) (fun hf => he i b H1 (e.trans e1) hb hf))
    (fun H2 c => k Dl H2 (fresh_back e1 c.1) (e1.trans c.2.1) c.2.2)⟩
theorem q_small {i j l : Nat} {E : XK} (ha : Ev ta σ H (.ref g)) (G : Gn H g N) (hN : N ≤ 100000)
    (k : ∀ (q : Addr) (w m : Nat) S H1, q ≠ g → Exg g H H1 → Gn H1 g (N + 2000) → H1 q = some (.lst (iL S)) → SmOk w m S → tz D (((σ.set i (some (.int ((w : Nat) : Int)))).set j (some (.ref q))).set l (some (.int ((m : Nat) : Int)))) H1) :
    tSeq (tAsg (tCall (sp_law_small K) [] E (tCons ta tNil)) (gUnl K 3 (gCons (gName i) (gCons (gName j) (gCons (gName l) gNil))))) tz D σ H :=
  ha H (Ex.refl H) _ fun H1 e1 => ⟨g, N, rfl, G.mono e1, hN, fun p q w m S H2 hp hq e2 G2 k1 k2 ok => ⟨p, _, rfl, .of k1, rfl, _, _, rfl, _, _, rfl, _, _, rfl, rfl, k q w m S H2 hq ((Exg.of e1).trans e2) G2 k2 ok⟩⟩
theorem q_all {i : Nat} {E : XK} {a : Addr} {w m : Nat} {S : List Int} {ta : TA} (h : EvA ta σ H [.int (w : Int), .ref a, .int (m : Int)]) (hS : H a = some (.lst (iL S))) (ok : SmOk w m S)
    (k : ∀ p rows H1, H p = none → Ex H H1 → Os (nwp H H1) p (rows.map Lr) → Codes w m S rows → rows.length ≤ 512 → tz D (σ.set i (some (.ref p))) H1) : tSeq (tAsg (tCall (sp_law_all K) [] E ta) (gName i)) tz D σ H :=
  h H (Ex.refl H) _ fun H1 e1 => ⟨w, a, S, m, rfl, e1 _ _ hS, ok, fun p rows H2 hp e2 k2 hc hl => k p rows H2 (fresh_back e1 hp) (e1.trans e2) (k2.mono (nwp_base e1)) hc hl⟩
theorem q_some {i : Nat} {E : XK} {a : Addr} {l : List Int} (ha : Ev ta σ H (.ref g)) (hb : Ev tb σ H (.ref a)) (G : Gn H g N) (hN : N ≤ 900000) (h : H a = some (.lst (iL l))) (hag : a ≠ g) (hl : l.length ≤ 100)
    (k : ∀ p P H1, H p = none → p ≠ g → Exg g H H1 → Gn H1 g (N + 1000) → H1 p = some (.lst (iL P)) → P.Sublist l → tz D (σ.set i (some (.ref p))) H1) : tSeq (tAsg (tCall (sp_law_some K) [] E (tCons ta (tCons tb tNil))) (gName i)) tz D σ H :=
  ha H (Ex.refl H) _ fun H1 e1 => hb H1 e1 _ fun H2 e2 => by
    have X := e1.trans e2
    exact ⟨g, a, l, N, rfl, G.mono X, hN, X _ _ h, hag, hl, fun p P H3 hp hpg e3 G3 k3 hs => k p P H3 (fresh_back X hp) hpg ((Exg.of X).trans e3) G3 k3 hs⟩
theorem q_par2L {i j : Nat} {xs ys : List V} (h1 : EvL ta σ H xs) (h2 : EvL tb σ H ys) (k : ∀ p q H1, H p = none → H q = none → p ≠ q → Ex H H1 → H1 p = some (.lst xs) → H1 q = some (.lst ys) → tz D ((σ.set i (some (.ref p))).set j (some (.ref q))) H1) :
    tSeq (tPar i j (tCons ta (tCons tb tNil))) tz D σ H := h1 H (Ex.refl H) _ fun p H1 hp e1 k1 => h2 H1 e1 _ fun q H2 hq e2 k2 => ⟨_, _, rfl, k p q H2 hp (fresh_back e1 hq) (ne_of_none k1 hq) (e1.trans e2) (e2 _ _ k1) k2⟩
/-- the due row, to be told by repr -/
def UdT (w m : Nat) (S P : List Int) (p : Int) (T : Str) : Prop := (Bits w m P p = w ∧ T = "None") ∨ (Bits w m P p < w ∧ ∃ row, First w m S (unk w m P p) row ∧ T = lTxt row)
theorem sr_ud {a b c : Addr} {rows : List (List Int)} {S P : List Int} {j w m : Nat} {p : Int} (h1 : Os H a (rows.map Lr)) (h2 : rows.length ≤ 1000) (h3 : Codes w m S rows) (h4 : H b = some (.lst (iL S))) (h5 : H c = some (.lst (iL P))) (h6 : P.Nodup) (h7 : ∀ x, x ∈ P → x ∈ S) (h8 : P.length ≤ 100) (h9 : S[j]? = some p) (h10 : w ≤ 64) :
    SpR (sp_law_untold_due K) [.ref a, .ref b, .ref c, .int (j : Int), .int (w : Int)] H (fun v => (Bits w m P p = w ∧ v = .non) ∨ (Bits w m P p < w ∧ ∃ t, v = .ref t)) := fun H1 e Q q _ =>
  ⟨a, b, c, rows, S, P, j, w, m, p, rfl, h1.mono e, h2, h3, e _ _ h4, e _ _ h5, h6, h7, h8, h9, h10, fun he H2 e2 => q _ H2 e2 (.inl ⟨he, rfl⟩), fun hl t row H2 e2 _ _ => q _ H2 e2 (.inr ⟨hl, t, rfl⟩)⟩
/-- repr(untold_due(..)) -/
theorem er_reprUd {E : XK} {a b c : Addr} {rows : List (List Int)} {S P : List Int} {j w m : Nat} {p : Int} {ta : TA} (h : EvA ta σ H [.ref a, .ref b, .ref c, .int (j : Int), .int (w : Int)]) (h1 : Os H a (rows.map Lr)) (h2 : rows.length ≤ 1000) (h3 : Codes w m S rows) (h4 : H b = some (.lst (iL S))) (h5 : H c = some (.lst (iL P))) (h6 : P.Nodup) (h7 : ∀ x, x ∈ P → x ∈ S) (h8 : P.length ≤ 100) (h9 : S[j]? = some p) (h10 : w ≤ 64) (h11 : S.length ≤ 1000) :
    EvR (tCB (rReprL K) (tCons (tCall (sp_law_untold_due K) [] E ta) tNil)) σ H (fun v => ∃ T, v = .str T ∧ UdT w m S P p T) := fun H0 e0 Q q =>
  h H0 e0 _ fun H1 e1 => ⟨a, b, c, rows, S, P, j, w, m, p, rfl, h1.mono (e0.trans e1), h2, h3, (e0.trans e1) _ _ h4, (e0.trans e1) _ _ h5, h6, h7, h8, h9, h10, fun he H2 e2 => .inr ⟨rfl, q _ H2 (e1.trans e2) ⟨_, rfl, .inl ⟨he, rfl⟩⟩⟩, fun hl t row H2 e2 k2 hF => .inl ⟨t, row, rfl, .of k2, by rw [hF.len]; exact h11, fun x hx => by
    have := hF.bound x hx
    have := pw_le h10
    exact nat_of (by omega) (by omega), q _ H2 (e1.trans e2) ⟨_, rfl, .inr ⟨hl, row, hF, rfl⟩⟩⟩⟩
theorem q_untold {i : Nat} {E : XK} {w m : Nat} {a b : Addr} {S P : List Int} {p : Int} {ta : TA} (h : EvA ta σ H [.int (w : Int), .ref a, .int (m : Int), .ref b, .int p]) (h0 : 1 ≤ w) (h1 : w ≤ 64) (h2 : H a = some (.lst (iL S))) (h3 : Pl w S) (h4 : m ≤ 100) (h5 : H b = some (.lst (iL P))) (h6 : Part S P) (h7 : p ∈ S)
    (k1 : Bits w m P p = w → ∀ H1, Ex H H1 → tz D (σ.set i (some .non)) H1) (k2 : Bits w m P p < w → ∀ r row H1, H r = none → Ex H H1 → H1 r = some (.lst (iL row)) → First w m S (unk w m P p) row → tz D (σ.set i (some (.ref r))) H1) :
    tSeq (tAsg (tCall (sp_untold K) [] E ta) (gName i)) tz D σ H := h H (Ex.refl H) _ fun H1 e1 =>
  ⟨w, a, S, m, b, P, p, rfl, h0, h1, e1 _ _ h2, h3, h4, e1 _ _ h5, h6, h7, fun he H2 e2 => k1 he H2 (e1.trans e2), fun hl r row H2 hr e2 k2' hF => k2 hl r row H2 (fresh_back e1 hr) (e1.trans e2) k2' hF⟩
end
end Ap


namespace Ap
open PySem PySem.Spec PyProof.Rows L2 Evl SrtO
theorem rv_notN {x : V} {H : Hp} : RV (fun x y H Q => y = V.non ∧ Q (V.bl (!decide (x = V.non))) H) x .non H (.bl (!decide (x = .non))) := fun H1 _ _ q => ⟨rfl, q H1 (Ex.refl H1)⟩
/-! ### the small codes -/
def sp_law_small_right (K : PySem.W.Frag) : Sp := fun vs H Q _ => ∃ (g : Addr) (N : Nat), vs = [.ref g] ∧ Gn H g N ∧ N ≤ 10000 ∧ ∀ H', Exg g H H' → Q (.bl true) H'
/-- what holds ahead of each turn -/
structure SmW (H H' : Hp) (g ps pr : Addr) (N w m : Nat) (S : List Int) (rows : List (List Int)) : Prop where
  ex : Exg g H H'
  gn : Gn H' g N
  sp : H' ps = some (.lst (iL S))
  ro : Os (dg g H') pr (rows.map Lr)
theorem sc_law_small_right : FnScope ["_law_generator_here", "_law_bits", "_law_spots_here", "_law_many", "_law_rows", "_law_turn", "_law_near", "_law_at", "_law_spot", "_law_due", "_law_handed", "_law_told", "_law_due_row", "_law_turn_again", "_law_row"] ["_law_generator_here"] (defScope sLawSmallRight) := ⟨rfl, rfl, rfl, by decide +kernel, rfl, by decide +kernel, by decide +kernel⟩
theorem has_law_small_right {P : Program} {w : World} {K : PySem.W.Frag} {mg : Str → Option Value} {base : Heap} (T : Txt K mg) : HasG P w K mg base "_law_small_right" ["_law_generator_here"] 9 (sp_law_small_right K) := by
  refine HasG.of T.gLawSmallRight T.dLawSmallRight (fun fd F => fnG_of F sc_law_small_right (fun vs H Q E h => ?_) (fun cdv A outer s H vs Q E hgd hr h => ?_)) fun _ _ _ _ _ _ us hl => match us, hl with | [_], _ => rfl
  · obtain ⟨g, N, rfl, hG, hN, k⟩ := h
    rfl
  · have hr : Room 8 _ := hr
    have h_closure := has_closure (P := P) (w := w) (base := base) T
    have h_untold := has_untold (P := P) (w := w) (base := base) T
    have h_law_untold_due := has_law_untold_due (P := P) (w := w) (base := base) T
    have h_law_some := has_law_some (P := P) (w := w) (base := base) T
    have h_law_all := has_law_all (P := P) (w := w) (base := base) T
    have h_law_small := has_law_small (P := P) (w := w) (base := base) T
    obtain ⟨g, N, rfl, hG, hN, k⟩ := h
    refine ⟨(tSeq (tAsg (tCall _ [] E0 (tCons (tVar 0) tNil)) (gUnl K 3 (gCons (gName 1) (gCons (gName 2) (gCons (gName 3) gNil)))))
      (tSeq (tAsg (tCall _ [] E0 (tCons (tVar 1) (tCons (tVar 2) (tCons (tVar 3) tNil)))) (gName 4))
      (tSeq (tFor (iRng1 (tCons (tC _) tNil)) (gName 5) (tSeq (tAsg (tCall _ [] E0 (tCons (tVar 0) (tCons (tVar 2) tNil))) (gName 6))
      (tSeq (tAsg (tLc (iEnum K (tCons (tVar 2) tNil)) (gTup K 2 (gCons (gName 7) (gCons (gName 8) gNil))) (tTest (tOp _ (tCall _ [] E0 (tCons (tVar 4) (tCons (tVar 2) (tCons (tVar 6) (tCons (tVar 7) (tCons (tVar 1) tNil)))))) (tC _))) (tVar 8) [7, 8]) (gName 9))
      (tSeq (tPar 10 11 (tCons (tCB (Evl.rListS K) (tCons (tVar 6) tNil)) (tCons (tCall _ [] E0 (tCons (tVar 1) (tCons (tVar 2) (tCons (tVar 3) (tCons (tVar 6) tNil))))) tNil)))
      (tSeq (tIfS (tOr (tTest (tOp _ (tCB _ (tCons (tVar 11) tNil)) (tCB _ (tCons (tVar 9) tNil)))) (tTest (tOp (rNeD K) (tVar 6) (tVar 10)))) (tRet (tC _)) tNext)
      (tSeq (tFor (iEnum K (tCons (tVar 2) tNil)) (gTup K 2 (gCons (gName 7) (gCons (gName 8) gNil))) (tSeq (tAsg (tCB _ (tCons (tCall _ [] E0 (tCons (tVar 4) (tCons (tVar 2) (tCons (tVar 6) (tCons (tVar 7) (tCons (tVar 1) tNil)))))) tNil)) (gName 12))
      (tFor (iRng1 (tCons (tC _) tNil)) (gName 13) (tSeq (tAsg (tCall _ [] E0 (tCons (tVar 1) (tCons (tVar 2) (tCons (tVar 3) (tCons (tVar 6) (tCons (tVar 8) tNil)))))) (gName 14))
      (tSeq (tIfS (tTest (tOp _ (tCB _ (tCons (tVar 14) tNil)) (tVar 12))) (tRet (tC _)) tNext)
      (tIfS (tTest (tOp _ (tVar 14) (tC _))) (tDrop (tBM K "list" rAppend (tVar 14) (tCons (tC _) tNil))) tNext))))))
      (tSeq (tDrop (tBM K "list" rAppend (tVar 11) (tCons (tC _) tNil)))
      (tIfS (tTest (tOp _ (tCB _ (tCons (tCall _ [] E0 (tCons (tVar 1) (tCons (tVar 2) (tCons (tVar 3) (tCons (tVar 6) tNil))))) tNil)) (tCB _ (tCons (tVar 9) tNil)))) (tRet (tC _)) tNext))))))))
      (tRet (tC _))))), PSs.nox (pss_cons (ps_asg (pe_has h_law_small (hr.mono (by decide)) (pa_cons (pv 0) pa_nil)) (pg_unl (by rfl) (pgs_cons (pg_name (i := 1) sc_law_small_right.nd rfl (Or.inr rfl)) (pgs_cons (pg_name (i := 2) sc_law_small_right.nd rfl (Or.inr rfl)) (pgs_cons (pg_name (i := 3) sc_law_small_right.nd rfl (Or.inl rfl)) pgs_nil)))))
    (pss_cons (ps_set (i := 4) sc_law_small_right.nd rfl (Or.inr rfl) (pe_has h_law_all (hr.mono (by decide)) (pa_cons (pv 1) (pa_cons (pv 2) (pa_cons (pv 3) pa_nil)))))
    (pss_cons (ps_for PassesOwn.never (by rfl) (pi_range1 (by rfl) T.z_range (pa_cons pe_int pa_nil)) (pg_name (i := 5) sc_law_small_right.nd rfl (Or.inl rfl)) (pss_cons (ps_set (i := 6) sc_law_small_right.nd rfl (Or.inr rfl) (pe_has h_law_some (hr.mono (by decide)) (pa_cons (pv 0) (pa_cons (pv 2) pa_nil))))
    (pss_cons (ps_setLc (i := 9) (own := [("_law_at", 7), ("_law_spot", 8)]) (g := (gTup K 2 (gCons (gName 7) (gCons (gName 8) gNil)))) (tt := (tTest (tOp _ (tCall _ [] E0 (tCons (tVar 4) (tCons (tVar 2) (tCons (tVar 6) (tCons (tVar 7) (tCons (tVar 1) tNil)))))) (tC _)))) (te := (tVar 8)) (by rfl) sc_law_small_right.nd rfl rfl (sw_true rfl rfl rfl (by decide +kernel)) (pi_enum (by rfl) T.z_enumerate (pa_cons (pv 2) pa_nil)) (blkOk_by (own := [("_law_at", 7), ("_law_spot", 8)]) (N := ["_law_generator_here", "_law_bits", "_law_spots_here", "_law_many", "_law_rows", "_law_turn", "_law_near", "_law_at", "_law_spot", "_law_due", "_law_handed", "_law_told", "_law_due_row", "_law_turn_again", "_law_row"]) (sc := defScope sLawSmallRight) (by decide +kernel)) (fun _ _ _ _ _ => (pg_tup (by rfl) (pgs_cons (pg_name (i := 7) sc_law_small_right.nd rfl (Or.inl rfl)) (pgs_cons (pg_name (i := 8) sc_law_small_right.nd rfl (Or.inl rfl)) pgs_nil)))) (fun _ _ _ _ _ => (pts_one (pt_cmpR op_isN (pe_has h_law_untold_due (hr.mono (by decide)) (pa_cons (pv 4) (pa_cons (pv 2) (pa_cons (pv 6) (pa_cons (pv 7) (pa_cons (pv 1) pa_nil)))))) pe_non (nomark _)))) (fun _ _ _ _ _ => (pv 8)))
    (pss_cons (ps_par (i := 10) (j := 11) (by rfl) sc_law_small_right.nd rfl rfl (by decide) rfl rfl (pa_cons (pe_callTy call_list_of (by rfl) T.z_list (by decide +kernel) (pa_cons (pv 6) pa_nil)) (pa_cons (pe_has h_closure (hr.mono (by decide)) (pa_cons (pv 1) (pa_cons (pv 2) (pa_cons (pv 3) (pa_cons (pv 6) pa_nil))))) pa_nil)) (by rfl))
    (pss_cons (ps_if (PW.pt (pw_or (pt_cmpR op_ne (pe_callB (call_reprL hgd hr.units) (by rfl) T.z_repr (by decide +kernel) (pa_cons (pv 11) pa_nil)) (pe_callB (call_reprL hgd hr.units) (by rfl) T.z_repr (by decide +kernel) (pa_cons (pv 9) pa_nil)) (nomark _)) (pw_or1 (pt_cmpR (op_neD hr.units) (pv 6) (pv 10) (nomark _))))) (pss_one (ps_ret pe_bl)) pss_nil)
    (pss_cons (ps_for PassesOwn.never (by rfl) (pi_enum (by rfl) T.z_enumerate (pa_cons (pv 2) pa_nil)) (pg_tup (by rfl) (pgs_cons (pg_name (i := 7) sc_law_small_right.nd rfl (Or.inl rfl)) (pgs_cons (pg_name (i := 8) sc_law_small_right.nd rfl (Or.inl rfl)) pgs_nil))) (pss_cons (ps_set (i := 12) sc_law_small_right.nd rfl (Or.inl rfl) (pe_callB (call_reprL hgd hr.units) (by rfl) T.z_repr (by decide +kernel) (pa_cons (pe_has h_law_untold_due (hr.mono (by decide)) (pa_cons (pv 4) (pa_cons (pv 2) (pa_cons (pv 6) (pa_cons (pv 7) (pa_cons (pv 1) pa_nil)))))) pa_nil)))
    (pss_one (ps_for PassesOwn.never (by rfl) (pi_range1 (by rfl) T.z_range (pa_cons pe_int pa_nil)) (pg_name (i := 13) sc_law_small_right.nd rfl (Or.inl rfl)) (pss_cons (ps_set (i := 14) sc_law_small_right.nd rfl (Or.inl rfl) (pe_has h_untold (hr.mono (by decide)) (pa_cons (pv 1) (pa_cons (pv 2) (pa_cons (pv 3) (pa_cons (pv 6) (pa_cons (pv 8) pa_nil)))))))
    (pss_cons (ps_if (pt_cmpR op_ne (pe_callB (call_reprL hgd hr.units) (by rfl) T.z_repr (by decide +kernel) (pa_cons (pv 14) pa_nil)) (pv 12) (nomark _)) (pss_one (ps_ret pe_bl)) pss_nil)
    (pss_one (ps_if (pt_cmpR op_notN (pv 14) pe_non (nomark _)) (pss_one (ps_expr (pe_bm PySem.F.plainAttrs_list PySem.F.slot_list_append PySem.F.type_list_append mt_append (pv 14) (pa_cons pe_int pa_nil)))) pss_nil))))))))
    (pss_cons (ps_expr (pe_bm PySem.F.plainAttrs_list PySem.F.slot_list_append PySem.F.type_list_append mt_append (pv 11) (pa_cons pe_int pa_nil)))
    (pss_one (ps_if (pt_cmpR op_ne (pe_callB (call_reprL hgd hr.units) (by rfl) T.z_repr (by decide +kernel) (pa_cons (pe_has h_closure (hr.mono (by decide)) (pa_cons (pv 1) (pa_cons (pv 2) (pa_cons (pv 3) (pa_cons (pv 6) pa_nil))))) pa_nil)) (pe_callB (call_reprL hgd hr.units) (by rfl) T.z_repr (by decide +kernel) (pa_cons (pv 9) pa_nil)) (nomark _)) (pss_one (ps_ret pe_bl)) pss_nil)))))))))
    (pss_one (ps_ret pe_bl))))), ?_⟩
    refine q_small (ev_var rfl) hG (by omega) fun ps w m S H1 hps e1 G1 ks ok => ?_
    have w1 := ok.w1
    have w3 := ok.w3
    have hl5 := ok.len
    have hm9 : m ≤ 9 := Nat.le_trans (Nat.le_mul_of_pos_left m w1) ok.wm
    have hT8 : (2 : Int) ^ w ≤ 8 := Int.le_of_dvd (by decide) (pow_dvd (b := 3) w3)
    refine q_all (ea_cons (ev_var rfl) (ea_cons (ev_var rfl) (ea_cons (ev_var rfl) ea_nil))) ks ok fun pr rows H2 hpr e2 kr hC hrl => ?_
    have G2 := G1.mono e2
    refine q_forR1 (n := 4) (ea_cons ev_c ea_nil) ⟨by decide, by decide⟩ (fun i σ' H' => ∃ (y5 y6 y7 y8 y9 y10 y11 y12 y13 y14 : Option V), σ' = [some (.ref g), some (.int (w : Int)), some (.ref ps), some (.int (m : Int)), some (.ref pr), y5, y6, y7, y8, y9, y10, y11, y12, y13, y14] ∧ SmW H H' g ps pr (N + 2000 + 1000 * i) w m S rows)
      (fun H3 e3 => ⟨none, none, none, none, none, none, none, none, none, none, rfl, (e1.trans (Exg.of e2)).trans (Exg.of e3), G2.mono e3, e3 _ _ (e2 _ _ ks), (kr.mono (nwp_dg G1.there)).mono (dg_mono (Exg.of e3))⟩) ?_ ?_
    · rintro i σ' H3 hi ⟨y5, y6, y7, y8, y9, y10, y11, y12, y13, y14, rfl, W⟩
      refine q_some (g := g) (ev_var rfl) (ev_var rfl) W.gn (by omega) W.sp hps (by omega) fun pn P H4 hpn hpng e4 G4 kn hsub => ?_
      have k4 := e4 _ _ hps W.sp
      have ro4 : Os H4 pr (rows.map Lr) := W.ro.mono ((dg_mono e4).trans (dg_up g H4))
      have X4 := W.ex.trans e4
      have rod4 : Os (dg g H4) pr (rows.map Lr) := W.ro.mono (dg_mono e4)
      clear W e4
      have hP : Part S P := ⟨fun x hx => hsub.subset hx, ok.pl.up.sublist hsub, by have := hsub.length_le; omega⟩
      have hPl : P.length ≤ 100 := by have := hsub.length_le; omega
      have o64 : ∀ l : List Int, (∀ x, x ∈ l → x ∈ S) → l.length ≤ 1000 → Ok64 l := fun l h1 h2 => ⟨h2, fun x hx => by
        have := ok.pl.mem x (h1 x hx)
        omega⟩
      have hcl : ∀ x, x ∈ clo w m S P → x ∈ S := fun x hx => (clo_mem.mp hx).1
      have hcl2 : (clo w m S P).length ≤ 5 := Nat.le_trans (List.length_filter_le _ _) hl5
      have oc := o64 _ hcl (by omega)
      -- due
      refine q_asgL (xs := iL (clo w m S P)) (el_is (el_lcEn (xs := iL S) (fun i => decide (Bits w m P (S.getD i 0) = w)) (fun i => .int (S.getD i 0)) (ea_cons (ev_var rfl) ea_nil) k4 (by rw [iL_len]; omega) (fun _ _ => rfl) (fun i x H5 e5 hx => ?_) (fun i x H5 e5 hx _ => ?_)) ?_) fun pd H5 hpd e5 kd => ?_
      · obtain ⟨y, hy, rfl⟩ := iL_of hx
        rw [List.getD_eq_getElem?_getD, hy]
        refine et_isNR (er_call (ea_cons (ev_var rfl) (ea_cons (ev_var rfl) (ea_cons (ev_var rfl) (ea_cons (ev_var rfl) (ea_cons (ev_var rfl) ea_nil))))) (sr_ud (m := m) (ro4.mono e5) (by omega) hC (e5 _ _ k4) (e5 _ _ kn) hP.nd hP.mem hPl hy (by omega))) fun v hv => ?_
        rcases hv with ⟨h, rfl⟩ | ⟨h, t, rfl⟩
        · simp [h]
        · have : ¬ Bits w m P y = w := by omega
          simp [this]
      · obtain ⟨y, hy, rfl⟩ := iL_of hx
        rw [List.getD_eq_getElem?_getD, hy]
        exact ev_var rfl
      · rw [iL_len]
        exact given_filter S _ (fun x => decide (Bits w m P x = w)) fun i x hx => by rw [List.getD_eq_getElem?_getD, hx]; rfl
      -- handed, told
      refine q_par2L (el_list (ev_var rfl) (.of (e5 _ _ kn))) (el_call (ea_cons (ev_var rfl) (ea_cons (ev_var rfl) (ea_cons (ev_var rfl) (ea_cons (ev_var rfl) ea_nil)))) (sl_closure (m := m) w1 (by omega) (e5 _ _ k4) ok.pl (e5 _ _ kn) hP)) fun ph pt H6 hph hpt _ e6 kh kt => ?_
      have X46 := e5.trans e6
      refine q_when (b := false) (et_is (et_or (a := false) (b := false) (et_test (ev_is (ev_op (ev_reprL (ev_var rfl) kt oc) (ev_reprL (ev_var rfl) (e6 _ _ kd) oc) (rv_ne rfl)) (by simp))) (fun _ => et_test (ev_is (ev_op (ev_var rfl) (ev_var rfl) (rv_neL (X46 _ _ kn) kh)) (by simp)))) rfl) (fun h => by cases h) fun _ H7 e7 => ?_
      have X47 := X46.trans e7
      have kt7 := e7 _ _ kt
      refine q_forEn (xs := iL S) (ea_cons (ev_var rfl) ea_nil) (X47 _ _ k4) (fun l σ' H' => ∃ (y7 y8 y12 y13 y14 : Option V), σ' = [some (.ref g), some (.int (w : Int)), some (.ref ps), some (.int (m : Int)), some (.ref pr), some (.int (i : Int)), some (.ref pn), y7, y8, some (.ref pd), some (.ref ph), some (.ref pt), y12, y13, y14] ∧ Ex H7 H')
        (fun H8 e8 => ⟨_, _, _, _, _, rfl, e8⟩) (fun l σ' H' ⟨_, _, _, _, _, _, X⟩ => X _ _ (X47 _ _ k4)) ?_ ?_
      · rintro l x T σ' H8 hx ⟨y7, y8, y12, y13, y14, rfl, X8⟩ hT
        obtain ⟨p, hp, rfl⟩ := iL_of hx
        have X8 := X8.trans (Ex.new (o := .tup [.int (l : Int), .int p]) hT)
        generalize upd H8 T (.tup [.int (l : Int), .int p]) = H9 at X8 ⊢
        have X49 := X47.trans X8
        have hpS : p ∈ S := List.mem_of_getElem? hp
        refine q_asgR (er_reprUd (m := m) (p := p) (ea_cons (ev_var rfl) (ea_cons (ev_var rfl) (ea_cons (ev_var rfl) (ea_cons (ev_var rfl) (ea_cons (ev_var rfl) ea_nil))))) (ro4.mono X49) (by omega) hC (X49 _ _ k4) (X49 _ _ kn) hP.nd hP.mem hPl hp (by omega) (by omega)) fun v H10 ⟨Tx, hv, hU⟩ e10 => ?_
        subst hv
        refine s_forR1 (n := 2) (ea_cons ev_c ea_nil) ⟨by decide, by decide⟩ (fun c σ' H' => ∃ (y13 y14 : Option V), σ' = [some (.ref g), some (.int (w : Int)), some (.ref ps), some (.int (m : Int)), some (.ref pr), some (.int (i : Int)), some (.ref pn), some (.int (l : Int)), some (.int p), some (.ref pd), some (.ref ph), some (.ref pt), some (.str Tx), y13, y14] ∧ Ex H7 H') (fun H11 e11 => ⟨_, _, rfl, (X8.trans e10).trans e11⟩) ?_ ?_
        · rintro c σ' H11 _ ⟨y13, y14, rfl, X11⟩
          have X411 := X47.trans X11
          refine q_untold (ea_cons (ev_var rfl) (ea_cons (ev_var rfl) (ea_cons (ev_var rfl) (ea_cons (ev_var rfl) (ea_cons (ev_var rfl) ea_nil))))) w1 (by omega) (X411 _ _ k4) ok.pl (by omega) (X411 _ _ kn) hP hpS (fun he H12 e12 => ?_) fun hl r row H12 hr e12 kr2 hF => ?_
          · have hTx : Tx = "None" := by
              rcases hU with ⟨_, h⟩ | ⟨h, _⟩
              · exact h
              · omega
            subst hTx
            refine q_when (b := false) (et_test (ev_is (ev_op (ev_reprN (ev_var rfl)) (ev_var rfl) (rv_ne rfl)) (by simp))) (fun h => by cases h) fun _ H13 e13 => ?_
            exact s_when (b := false) (et_test (ev_op (ev_var rfl) ev_c rv_notN)) (fun h => by cases h) fun _ H14 e14 => ⟨_, _, rfl, ((X11.trans e12).trans e13).trans e14⟩
          · have hTx : Tx = lTxt row := by
              rcases hU with ⟨h, _⟩ | ⟨_, row2, hF2, h⟩
              · omega
              · rw [h, hF.unique hF2]
            subst hTx
            have orow : Ok64 row := ⟨by rw [hF.len]; omega, fun x hx => by have := hF.bound x hx; omega⟩
            refine q_when (b := false) (et_test (ev_is (ev_op (ev_reprL (ev_var rfl) kr2 orow) (ev_var rfl) (rv_ne rfl)) (by simp))) (fun h => by cases h) fun _ H13 e13 => ?_
            have hr7 : H7 r = none := fresh_back X11 hr
            refine s_when (b := true) (et_test (ev_op (ev_var rfl) ev_c rv_notN)) (fun _ H14 e14 => ?_) (fun h => by cases h)
            refine s_app (v := .int 9) (e14 _ _ (e13 _ _ kr2)) (ev_var rfl) ev_c (by rw [iL_len, hF.len]; omega) fun H15 e15 => ?_
            exact ⟨_, _, rfl, ((((X11.trans e12).trans e13).trans e14).trans e15).mut hr7⟩
        · rintro σ' H11 ⟨y13, y14, rfl, X11⟩
          exact ⟨_, _, _, _, _, rfl, X11⟩
      · rintro σ' H8 ⟨y7, y8, y12, y13, y14, rfl, X8⟩
        refine q_app (v := .int 99) (X8 _ _ kt7) (ev_var rfl) ev_c (by rw [iL_len]; omega) fun H9 e9 => ?_
        have hpt4 : H4 pt = none := fresh_back e5 hpt
        have X49 : Ex H4 (upd H9 pt (.lst (iL (clo w m S P) ++ [.int 99]))) := ((X47.trans X8).trans e9).mut hpt4
        have kd9 : (upd H9 pt (.lst (iL (clo w m S P) ++ [.int 99]))) pd = some (.lst (iL (clo w m S P))) := by
          rw [upd_ne (ne_of_none kd hpt)]
          exact e9 _ _ (X8 _ _ (e7 _ _ (e6 _ _ kd)))
        generalize upd H9 pt (.lst (iL (clo w m S P) ++ [.int 99])) = H10 at X49 kd9 ⊢
        refine s_when (b := false) (et_test (ev_is (ev_op (ev_reprLN (el_call (ea_cons (ev_var rfl) (ea_cons (ev_var rfl) (ea_cons (ev_var rfl) (ea_cons (ev_var rfl) ea_nil)))) (sl_closure (m := m) w1 (by omega) (X49 _ _ k4) ok.pl (X49 _ _ kn) hP)) oc) (ev_reprL (ev_var rfl) kd9 oc) (rv_ne rfl)) (by simp))) (fun h => by cases h) fun _ H11 e11 => ?_
        have X411 := X49.trans e11
        exact ⟨_, _, _, _, _, _, _, _, _, _, rfl, X4.trans (Exg.of X411), (G4.mono X411).up (by omega), X411 _ _ k4, rod4.mono (dg_mono (Exg.of X411))⟩
    · rintro σ' H3 ⟨y5, y6, y7, y8, y9, y10, y11, y12, y13, y14, rfl, W⟩
      exact s_ret (v := .bl true) ev_c fun H4 e4 => k H4 (W.ex.trans (Exg.of e4))

end Ap


/-! list(zip(xs, ys)) of two lists of numbers -/
namespace Zl
open PySem PySem.Spec PyProof.Rows PySem.Calls PySem.W
open PySem.Sem (wp)
theorem no_len : typeLookup (.type "zip") "__len__" = pure none := by rw [typeLookup_type, builtinLookup_eq_fast]; kernel_rfl
theorem no_hint : typeLookup (.type "zip") "__length_hint__" = pure none := by rw [typeLookup_type, builtinLookup_eq_fast]; kernel_rfl
/-- the zip at z ahead of its i-th pair; its last pair, if any, lies above S -/
structure Zt (h : Heap) (z TI TO i1 i2 l1 l2 S : Addr) (xs ys : Array Value) (i : Nat) : Prop where
  z : (IsZip h z TI TO .none ∧ ∃ a b, IsPair h TO a b) ∨ ∃ T f oT, IsZipHeld h z TI TO T f ∧ h.get? T = some oT ∧ S < T
  ti : IsPair h TI (.ref i1) (.ref i2)
  i1 : h.IsListIter i1 l1 i
  i2 : h.IsListIter i2 l2 i
  l1 : h.IsList l1 xs
  l2 : h.IsList l2 ys
/-- what lies where -/
structure Zd (z TI TO i1 i2 l1 l2 S : Addr) : Prop where
  ap : ZipApart z TI TO i1 i2 l1 l2
  l1z : l1 ≠ z
  l2z : l2 ≠ z
  l1TO : l1 ≠ TO
  l2TO : l2 ≠ TO
  z : z < S
  TI : TI < S
  TO : TO < S
  i1 : i1 < S
  i2 : i2 < S
  l1 : l1 < S
  l2 : l2 < S
theorem Zt.keep {h h' : Heap} {z TI TO i1 i2 l1 l2 S : Addr} {xs ys : Array Value} {i : Nat} (t : Zt h z TI TO i1 i2 l1 l2 S xs ys i) (d : Zd z TI TO i1 i2 l1 l2 S) (k : ∀ b o, b ≠ S → h.get? b = some o → h'.get? b = some o) : Zt h' z TI TO i1 i2 l1 l2 S xs ys i := by
  have nS : ∀ {b : Addr}, b < S → b ≠ S := fun h => Nat.ne_of_lt h
  refine ⟨?_, k _ _ (nS d.TI) t.ti, t.i1.at fun o e => k _ o (nS d.i1) e, t.i2.at fun o e => k _ o (nS d.i2) e, ?_, ?_⟩
  · rcases t.z with ⟨hz, a, b, hp⟩ | ⟨T, f, oT, hz, hT, hlt⟩
    · exact .inl ⟨k _ _ (nS d.z) hz, a, b, k _ _ (nS d.TO) hp⟩
    · exact .inr ⟨T, f, oT, k _ _ (nS d.z) hz, k _ _ (Nat.ne_of_gt hlt) hT, hlt⟩
  · obtain ⟨o, e, x⟩ := t.l1
    exact ⟨o, k _ o (nS d.l1) e, x⟩
  · obtain ⟨o, e, x⟩ := t.l2
    exact ⟨o, k _ o (nS d.l2) e, x⟩
section
variable {prog : Program} {w : World} {A : Around} {E : Value → Shared → Prop} {s : Shared} {z TI TO i1 i2 l1 l2 S : Addr} {xs ys : Array Value} {i : Nat}
theorem zl_item {x y : Value} {Q : Option Value → Shared → Prop} (d : Zd z TI TO i1 i2 l1 l2 S) (t : Zt s.heap z TI TO i1 i2 l1 l2 S xs ys i) (hS : S < s.heap.objs.size) (hx : xs[i]? = some x) (hy : ys[i]? = some y)
    (hQ : ∀ h', Zt h' z TI TO i1 i2 l1 l2 S xs ys (i + 1) → IsPair h' s.heap.objs.size x y → h'.objs.size = s.heap.objs.size + 1 → (∀ c o, S ≤ c → s.heap.get? c = some o → h'.get? c = some o) → (∀ c o, c ≠ z → c ≠ TO → c ≠ i1 → c ≠ i2 → s.heap.get? c = some o → h'.get? c = some o) → Q (some (.ref s.heap.objs.size)) { s with heap := h' }) :
    wpAny (model prog w) A (pyNext (.ref z)) Q E s := by
  have hi : ∀ {b c : Addr}, b < S → S ≤ c → c ≠ b := fun h1 h2 => Nat.ne_of_gt (Nat.lt_of_lt_of_le h1 h2)
  rcases t.z with ⟨hz, a, b, hp⟩ | ⟨T, f, oT, hz, hT, hlt⟩
  · refine wpAny_pyNext_zip_item d.ap hz t.ti hp t.i1 t.i2 t.l1 t.l2 hx hy fun h' z' to' j1 j2 hn hsz hk => ?_
    refine hQ h' ⟨.inr ⟨s.heap.objs.size, false, _, z', hn, hS⟩, hk _ _ d.ap.TIz d.ap.TITO d.ap.TIi1 d.ap.TIi2 t.ti, j1, j2, ?_, ?_⟩ hn hsz (fun c o hc e => hk c o (hi d.z hc) (hi d.TO hc) (hi d.i1 hc) (hi d.i2 hc) e) hk
    · obtain ⟨o, e, q⟩ := t.l1
      exact ⟨o, hk _ o d.l1z d.l1TO d.ap.l1i1 d.ap.l1i2 e, q⟩
    · obtain ⟨o, e, q⟩ := t.l2
      exact ⟨o, hk _ o d.l2z d.l2TO d.ap.l2i1 d.ap.l2i2 e, q⟩
  · refine wpAny_pyNext_zip_item_held d.ap hz hT t.ti t.i1 t.i2 t.l1 t.l2 hx hy fun h' z' j1 j2 hn hsz hk => ?_
    refine hQ h' ⟨.inr ⟨T, true, oT, z', hk T oT (hi d.z (Nat.le_of_lt hlt)) (hi d.i1 (Nat.le_of_lt hlt)) (hi d.i2 (Nat.le_of_lt hlt)) hT, hlt⟩, hk _ _ d.ap.TIz d.ap.TIi1 d.ap.TIi2 t.ti, j1, j2, ?_, ?_⟩ hn hsz (fun c o hc e => hk c o (hi d.z hc) (hi d.i1 hc) (hi d.i2 hc) e) fun c o c1 _ c3 c4 e => hk c o c1 c3 c4 e
    · obtain ⟨o, e, q⟩ := t.l1
      exact ⟨o, hk _ o d.l1z d.ap.l1i1 d.ap.l1i2 e, q⟩
    · obtain ⟨o, e, q⟩ := t.l2
      exact ⟨o, hk _ o d.l2z d.ap.l2i1 d.ap.l2i2 e, q⟩
theorem zl_done {Q : Option Value → Shared → Prop} (hh : A.handled = none) (d : Zd z TI TO i1 i2 l1 l2 S) (t : Zt s.heap z TI TO i1 i2 l1 l2 S xs ys i) (hx : xs[i]? = none)
    (hQ : ∀ h', (∀ c o, S ≤ c → s.heap.get? c = some o → h'.get? c = some o) → (∀ c o, c ≠ z → c ≠ TO → c ≠ i1 → c ≠ i2 → s.heap.get? c = some o → h'.get? c = some o) → Q none { s with heap := h' }) : wpAny (model prog w) A (pyNext (.ref z)) Q E s := by
  have hi : ∀ {b c : Addr}, b < S → S ≤ c → c ≠ b := fun h1 h2 => Nat.ne_of_gt (Nat.lt_of_lt_of_le h1 h2)
  rcases t.z with ⟨hz, a, b, hp⟩ | ⟨T, f, oT, hz, hT, hlt⟩
  · exact wpAny_pyNext_zip_end hh d.ap hz t.ti hp t.i1 t.i2 t.l1 t.l2 (.inl hx) fun h' hk => hQ h' (fun c o hc e => hk c o (hi d.z hc) (hi d.TO hc) (hi d.i1 hc) (hi d.i2 hc) e) hk
  · exact wpAny_pyNext_zip_end_held hh d.ap hz hT t.ti t.i1 t.i2 t.l1 t.l2 (.inl hx) fun h' hk => hQ h' (fun c o hc e => hk c o (hi d.z hc) (hi d.i1 hc) (hi d.i2 hc) e) fun c o c1 _ c3 c4 e => hk c o c1 c3 c4 e
end
/-- the pairs' places: as, their keys and values vs -/
structure Zg (xs ys : Array Value) (lo : Addr) (h : Heap) (as : List Addr) : Prop where
  rise : as.Pairwise (· < ·)
  above : ∀ a ∈ as, lo < a
  pairs : ∀ (j : Nat) (a : Addr), as[j]? = some a → ∃ x y, xs[j]? = some x ∧ ys[j]? = some y ∧ IsPair h a x y
section
variable {prog : Program} {w : World} {A : Around} {s : Shared} {R : Result → Shared → Prop} {z TI TO i1 i2 l1 l2 S : Addr} {xs ys : Array Value}
theorem zl_loop (hh : A.handled = none) (d : Zd z TI TO i1 i2 l1 l2 S) (hxy : xs.size = ys.size) (hn : xs.size ≤ sizeLine) (res : Value) {h₁ : Heap} (hz₁ : ∀ b o, h₁.get? b = some o → b ≠ z ∧ b ≠ TO ∧ b ≠ i1 ∧ b ≠ i2 ∧ b ≠ S)
    (hR : ∀ h' tk acc c as, (∀ b o, h₁.get? b = some o → h'.get? b = some o) → h'.get? S = some { cls := .type "list", dict := none, data := .seq acc c, slots := #[] } → as.length = xs.size → Zg xs ys S h' as → acc.toList = as.map Value.ref → R (.ok (.ret res)) { s with heap := h', toks := tk }) :
    ∀ (k i : Nat) (h : Heap) (tk c : Nat) (acc : Array Value) (as : List Addr), xs.size - i = k → i ≤ xs.size → Zt h z TI TO i1 i2 l1 l2 S xs ys i → (∀ b o, h₁.get? b = some o → h.get? b = some o) →
      h.get? S = some { cls := .type "list", dict := none, data := .seq acc c, slots := #[] } → acc.toList = as.map Value.ref → as.length = i → Zg xs ys S h as →
      codeAny (model prog w) A (.builtin "list.extend.loop" ⟨[.ref S, .ref z, res], []⟩) R { s with heap := h, toks := tk } := by
  intro k
  induction k with
  | zero =>
    intro i h tk c acc as hk hi t kp hS hacc hal hG
    refine codeAny_builtin F.entry_extend_loop ?_
    rw [Around.under_plainId F.plain_extend_loop _]
    show wpAny _ A.in1 (pyNext (.ref z) >>= _) _ _ _
    refine wpAny_bind (zl_done (s := { s with heap := h, toks := tk }) (A := A.in1) hh d t (by simp; omega) fun h' hup hkp => wpAny_pure (hR h' tk acc c as (fun b o e => ?_) (hup S _ (Nat.le_refl _) hS) (by omega) ⟨hG.rise, hG.above, fun j a hj => ?_⟩ hacc))
    · obtain ⟨n1, n2, n3, n4, _⟩ := hz₁ b o e
      exact hkp b o n1 n2 n3 n4 (kp b o e)
    · obtain ⟨x, y, e1, e2, e3⟩ := hG.pairs j a hj
      exact ⟨x, y, e1, e2, hup a _ (Nat.le_of_lt (hG.above a (List.mem_of_getElem? hj))) e3⟩
  | succ k ih =>
    intro i h tk c acc as hk hi t kp hS hacc hal hG
    have hlt : i < xs.size := by omega
    have hx : xs[i]? = some xs[i] := by simp [hlt]
    have hy : ys[i]? = some (ys[i]'(by omega)) := Array.getElem?_eq_getElem (by omega)
    have hsz : acc.size = i := by rw [← Array.length_toList, hacc, List.length_map, hal]
    have hSl : S < h.objs.size := Heap.lt_size hS
    refine codeAny_builtin F.entry_extend_loop ?_
    rw [Around.under_plainId F.plain_extend_loop _]
    show wpAny _ A.in1 (pyNext (.ref z) >>= _) _ _ _
    refine wpAny_bind (zl_item (s := { s with heap := h, toks := tk }) (A := A.in1) d t hSl hx hy fun h' t' hp hs' hup hkp => ?_)
    dsimp only at hp hs' hup hkp ⊢
    have hS' := hup S _ (Nat.le_refl _) hS
    have oth : ∀ b o, b ≠ S → h'.get? b = some o → (h'.update S (Obj.mapSeq (·.push (Value.ref h.objs.size)))).get? b = some o := fun b o hb e => (Heap.get?_update_other _ _ (Ne.symm hb)).trans e
    show wpAny _ A.in1 (updateSeq S (·.push (Value.ref h.objs.size)) >>= _) _ _ _
    refine wpAny_bind ?_
    refine wpAny_updateSeq hS' rfl (wpAny_pure ⟨plainId_quiet F.plain_extend_loop _, ih (i + 1) _ tk _ (acc.push (Value.ref h.objs.size)) (as ++ [h.objs.size]) (by omega) hlt (t'.keep d oth) (fun b o e => ?_) (Heap.get?_update_self _ hS' rfl) (by rw [Array.toList_push, hacc, List.map_append]; rfl) (by rw [List.length_append, hal]; rfl) ⟨?_, ?_, ?_⟩⟩) (by rw [hsz]; omega) (by show (acc.push (Value.ref h.objs.size)).size ≤ sizeLine + 1; rw [Array.size_push, hsz]; omega)
    · obtain ⟨n1, n2, n3, n4, n5⟩ := hz₁ b o e
      exact oth b o n5 (hkp b o n1 n2 n3 n4 (kp b o e))
    · refine List.pairwise_append.mpr ⟨hG.rise, List.pairwise_singleton _ _, fun a ha b hb => ?_⟩
      rw [List.mem_singleton.mp hb]
      obtain ⟨j, hj⟩ := List.mem_iff_getElem?.mp ha
      obtain ⟨_, _, _, _, e⟩ := hG.pairs j a hj
      exact Heap.lt_size e
    · intro a ha
      rcases List.mem_append.mp ha with ha | ha
      · exact hG.above a ha
      · rw [List.mem_singleton.mp ha]; exact hSl
    · intro j b hj
      by_cases h1 : j < as.length
      · rw [List.getElem?_append_left h1] at hj
        obtain ⟨x, y, e1, e2, e3⟩ := hG.pairs j b hj
        have hb := hG.above b (List.mem_of_getElem? hj)
        exact ⟨x, y, e1, e2, oth b _ (Nat.ne_of_gt hb) (hup b _ (Nat.le_of_lt hb) e3)⟩
      · have hj2 := (List.getElem?_eq_some_iff.mp hj).1
        rw [List.length_append, List.length_singleton] at hj2
        have : j = i := by omega
        subst this
        rw [List.getElem?_append_right (by omega), hal, Nat.sub_self] at hj
        cases hj
        exact ⟨_, _, hx, hy, oth _ _ (Nat.ne_of_gt hSl) hp⟩
theorem zl_extend (hh : A.handled = none) (d : Zd z TI TO i1 i2 l1 l2 S) (hxy : xs.size = ys.size) (hn : xs.size ≤ sizeLine) (res : Value) (c₀ : Nat) (t : Zt s.heap z TI TO i1 i2 l1 l2 S xs ys 0) (hz : IsZip s.heap z TI TO .none) (hS : s.heap.get? S = some { cls := .type "list", data := .seq #[] c₀ })
    {h₁ : Heap} (hz₁ : ∀ b o, h₁.get? b = some o → b ≠ z ∧ b ≠ TO ∧ b ≠ i1 ∧ b ≠ i2 ∧ b ≠ S) (kp : ∀ b o, h₁.get? b = some o → s.heap.get? b = some o)
    (hR : ∀ h' tk acc c as, (∀ b o, h₁.get? b = some o → h'.get? b = some o) → h'.get? S = some { cls := .type "list", dict := none, data := .seq acc c, slots := #[] } → as.length = xs.size → Zg xs ys S h' as → acc.toList = as.map Value.ref → R (.ok (.ret res)) { s with heap := h', toks := tk }) :
    wpAny (model prog w) A.in1 (Builtin.List.listExtendWith (.ref S) (.ref z) res) (fun fin s' => match fin with | .done f => R (.ok f) s' | .again c' => c'.quiet = true ∧ codeAny (model prog w) A c' R s') (fun e s' => R (.error e) s') s := by
  have hT : s.TypeIs (.ref z) "zip" := ⟨_, hz, rfl⟩
  have hne : S ≠ z := Nat.ne_of_gt d.z
  unfold Builtin.List.listExtendWith
  refine wpAny_bind (wpAny_typeOf hT ?_)
  have q1 : Builtin.List.listSameRef (.ref S) (.ref z) = false := by simp [Builtin.List.listSameRef, hne]
  have q2 : (Value.type "zip" == Value.type "list") = false := by decide
  have q3 : (Value.type "zip" == Value.type "tuple") = false := by decide
  simp only [q1, q2, q3, Bool.or_false, Bool.false_eq_true, if_false]
  refine wpAny_bind (wpAny_pyIter_zip hz ?_)
  refine wpAny_bind (wpAny_holding ?_)
  unfold Builtin.List.listLengthHint
  refine wpAny_bind (wpAny_specialOf hT no_len ?_)
  show wpAny _ A.in1 (specialOf (Value.ref z) (Str.ofString "__length_hint__") >>= _) _ _ _
  refine wpAny_bind (wpAny_specialOf hT no_hint (wpAny_pure ?_))
  show wpAny _ A.in1 (rule "list.extend.makes-room" >>= fun _ => Builtin.List.listTouch (.ref S) >>= fun _ => again (.builtin "list.extend.loop" ⟨[.ref S, .ref z, res], []⟩)) _ _ _
  refine wpAny_bind (wpAny_rule (wpAny_bind ?_))
  show wpAny _ A.in1 (updateSeq S (·.push .none) >>= fun _ => updateSeq S (·.pop)) _ _ _
  refine wpAny_bind (wpAny_updateSeq hS rfl ?_)
  have hS₂ := Heap.get?_update_self (Obj.mapSeq (·.push Value.none)) hS rfl
  refine wpAny_updateSeq (hz := by seq_fits) hS₂ rfl ?_
  have hS₃ := Heap.get?_update_self (Obj.mapSeq (·.pop)) hS₂ rfl
  have oth : ∀ b o, b ≠ S → s.heap.get? b = some o → ((s.heap.update S (Obj.mapSeq (·.push Value.none))).update S (Obj.mapSeq (·.pop))).get? b = some o := fun b o hb e => (Heap.get?_update_other _ _ (Ne.symm hb)).trans ((Heap.get?_update_other _ _ (Ne.symm hb)).trans e)
  exact wpAny_pure ⟨plainId_quiet F.plain_extend_loop _, zl_loop (s := s) hh d hxy hn res hz₁ hR xs.size 0 _ s.toks _ #[] [] (Nat.sub_zero _) (Nat.zero_le _) (t.keep d oth) (fun b o e => oth b o (hz₁ b o e).2.2.2.2 (kp b o e)) hS₃ rfl rfl ⟨List.Pairwise.nil, (fun _ ha => nomatch ha), fun j a hj => by simp at hj⟩⟩
end
section
variable {prog : Program} {w : World} {A : Around} {E : Value → Shared → Prop} {s : Shared}
/-- list(z) of a zip just made -/
theorem zl_call {p q : Addr} {xs ys : Array Value} {Q : Value → Shared → Prop} {h₁ : Heap} {z TI TO i1 i2 : Addr} (hh : A.handled = none) (ap : ZipApart z TI TO i1 i2 p q) (hz : IsZip s.heap z TI TO .none) (hTI : IsPair s.heap TI (.ref i1) (.ref i2)) (hTO : IsPair s.heap TO .none .none) (h1 : s.heap.IsListIter i1 p 0) (h2 : s.heap.IsListIter i2 q 0)
    (hl1 : s.heap.IsList p xs) (hl2 : s.heap.IsList q ys) (hz₁ : ∀ b o, h₁.get? b = some o → b ≠ z ∧ b ≠ TO ∧ b ≠ i1 ∧ b ≠ i2) (kp : ∀ b o, h₁.get? b = some o → s.heap.get? b = some o) (hxy : xs.size = ys.size) (hn : xs.size ≤ sizeLine)
    (hQ : ∀ h' tk acc c as, (∀ b o, h₁.get? b = some o → h'.get? b = some o) → h'.get? s.heap.objs.size = some { cls := .type "list", dict := none, data := .seq acc c, slots := #[] } → as.length = xs.size → Zg xs ys s.heap.objs.size h' as → acc.toList = as.map Value.ref → Q (.ref s.heap.objs.size) { s with heap := h', toks := tk }) :
    wpAny (model prog w) A (call (.type "list") [.ref z]) Q E s := by
  refine callType_codes (Q₁ := fun obj s₁ => obj = .ref s.heap.objs.size ∧ s₁ = { s with heap := s.heap.push { cls := .type "list", data := .seq #[] } }) PySem.F.called_list (PySem.F.typeCall_list_1 _) PySem.F.entry_list_init (code_list_new _ ⟨rfl, rfl⟩) fun obj s₁ h₁' => ?_
  obtain ⟨rfl, rfl⟩ := h₁'
  have hS : (s.heap.push { cls := .type "list", data := .seq #[] }).get? s.heap.objs.size = some { cls := .type "list", data := .seq #[] } := Heap.get?_push_size _ rfl
  refine ⟨⟨_, hS, rfl⟩, PySem.F.args_list_init_2 _ _, ?_⟩
  have low : ∀ {b : Addr} {o : Obj}, s.heap.get? b = some o → b < s.heap.objs.size := fun e => Heap.lt_size e
  obtain ⟨o1, e1, _⟩ := id hl1
  obtain ⟨o2, e2, _⟩ := id hl2
  obtain ⟨o3, e3, _⟩ := id h1
  obtain ⟨o4, e4, _⟩ := id h2
  have d : Zd z TI TO i1 i2 p q s.heap.objs.size := ⟨ap, ap.l1z, ap.l2z, ap.l1TO, ap.l2TO, low hz, low hTI, low hTO, low e3, low e4, low e1, low e2⟩
  have up : ∀ b o, s.heap.get? b = some o → ((s.heap.push { cls := .type "list", data := .seq #[] }).update s.heap.objs.size (Obj.mapSeq (fun _ => (#[] : Array Value)))).get? b = some o := fun b o e => (Heap.get?_update_other _ _ (Nat.ne_of_gt (low e))).trans (Heap.get?_push_of_some _ e)
  show wpAny _ _ (do let old ← Builtin.List.listItems (.ref s.heap.objs.size); Builtin.List.listUpdate (.ref s.heap.objs.size) (fun _ => #[]); letGo old.toList.reverse; Builtin.List.listExtendWith (.ref s.heap.objs.size) (.ref z) .none) _ _ _
  refine wpAny_bind ?_
  unfold Builtin.List.listItems
  refine wpAny_bind (wpAny_seqItems hS rfl (wpAny_pure ?_))
  show wpAny _ _ (updateSeq s.heap.objs.size (fun _ => #[]) >>= fun _ => letGo (#[] : Array Value).toList.reverse >>= fun _ => Builtin.List.listExtendWith (.ref s.heap.objs.size) (.ref z) .none) _ _ _
  refine wpAny_bind (wpAny_updateSeq hS rfl ?_)
  have hS₂ := Heap.get?_update_self (Obj.mapSeq (fun _ => (#[] : Array Value))) hS rfl
  refine wpAny_bind (wpAny_letGo ?_)
  refine zl_extend (s := { s with heap := (s.heap.push { cls := .type "list", data := .seq #[] }).update s.heap.objs.size (Obj.mapSeq (fun _ => (#[] : Array Value))) }) (A := A.in1) (h₁ := h₁) hh d hxy hn .none _ ⟨.inl ⟨up _ _ hz, _, _, up _ _ hTO⟩, up _ _ hTI, h1.at fun o e => up _ o e, h2.at fun o e => up _ o e, ?_, ?_⟩ (up _ _ hz) hS₂ (fun b o e => ?_) (fun b o e => up b o (kp b o e)) fun h' tk acc c as hk hS' hl hG hacc => ⟨rfl, hQ h' tk acc c as hk hS' hl hG hacc⟩
  · obtain ⟨o, e, x⟩ := hl1
    exact ⟨o, up _ o e, x⟩
  · obtain ⟨o, e, x⟩ := hl2
    exact ⟨o, up _ o e, x⟩
  · obtain ⟨n1, n2, n3, n4⟩ := hz₁ b o e
    exact ⟨n1, n2, n3, n4, Nat.ne_of_lt (low (kp b o e))⟩
end
end Zl

namespace Ap
open PySem PySem.Spec PyProof.Rows L2 Evl
section
variable {X : Cx}
/-- pairs of numbers laid in the heap, and the list of them -/
theorem zip_laid {pins : List (Addr × Obj)} {σ : L2.St} {H : Hp} {s : Shared} {h' : Heap} {tk c : Nat} {kv : List (Int × Int)} {S : Addr} {as : List Addr} {acc : Array Value} (I : Inv X pins σ H s) (hz : kv.length ≤ sizeLine) (hlow : s.heap.objs.size ≤ S) (hk : ∀ b o, s.heap.get? b = some o → h'.get? b = some o)
    (hS : h'.get? S = some { cls := .type "list", dict := none, data := .seq acc c, slots := #[] }) (hl : as.length = kv.length) (rise : as.Pairwise (· < ·)) (above : ∀ a ∈ as, S < a)
    (hp : ∀ (j : Nat) a q, as[j]? = some a → kv[j]? = some q → ∃ t u, h'.get? a = some { cls := .type "tuple", data := .seq #[.int q.1 t, .int q.2 u] }) (hacc : acc.toList = as.map Value.ref) :
    ∃ H' : Hp, Ex H H' ∧ H S = none ∧ Kn H' S kv ∧ Inv X pins σ H' { s with heap := h', toks := tk } := by
  have nd : as.Nodup := rise.imp fun h => Nat.ne_of_lt h
  have nS : S ∉ as := fun z => Nat.lt_irrefl _ (above S z)
  have fr : ∀ a, a ∈ as → H a = none := fun a ha => I.hok.fresh (Nat.le_of_lt (Nat.lt_of_le_of_lt hlow (above a ha)))
  have frS : H S = none := I.hok.fresh hlow
  have at' := LiI.putT_at as (dI kv) (upd H S (.lst (as.map V.ref))) (by rw [dI_len]; exact hl) nd
  have off : ∀ b, b ∉ as → LiI.putT (upd H S (.lst (as.map V.ref))) as (dI kv) b = upd H S (.lst (as.map V.ref)) b := fun b hb => LiI.putT_off as (dI kv) _ hb
  have ex : Ex H (LiI.putT (upd H S (.lst (as.map V.ref))) as (dI kv)) := fun b o e => by
    rw [off b fun z => by rw [fr b z] at e; cases e]
    exact Ex.new frS b o e
  have eS : LiI.putT (upd H S (.lst (as.map V.ref))) as (dI kv) S = some (.lst (as.map V.ref)) := by rw [off S nS, upd_same]
  have tup : ∀ (j : Nat) a q, as[j]? = some a → kv[j]? = some q → LiI.putT (upd H S (.lst (as.map V.ref))) as (dI kv) a = some (.tup [.int q.1, .int q.2]) := fun j a q ha hq => by
    obtain ⟨y, hy, hF⟩ := LiI.paired_get at' ha
    have : (dI kv)[j]? = some (Sum.inl q.1, V.int q.2) := by unfold dI; rw [List.getElem?_map, hq]; rfl
    rw [this] at hy
    cases hy
    exact hF
  refine ⟨_, ex, frS, ⟨as, eS, hl, tup⟩, ?_⟩
  refine I.call' (ch := []) rfl ⟨fun b o q _ _ _ => hk b o q, fun b o q _ _ _ => ⟨o.slots, hk b o q⟩, fun b o q n _ => ?_, fun b o q _ => ⟨o, hk b o q⟩, fun b xs q => ex b _ q, fun b o u q => ex b _ q, fun b ps q => ⟨#[], by rw [ex b _ q]; simp⟩⟩ (fun b u q => ?_) I.bare fun b z => by simp at z
  · have hb := Heap.lt_size q
    rw [off b fun z => absurd (Nat.lt_of_le_of_lt hlow (above b z)) (Nat.not_lt.mpr (Nat.le_of_lt hb)), upd_ne (Nat.ne_of_lt (Nat.lt_of_lt_of_le hb hlow))]
    exact n
  · by_cases hb : b ∈ as
    · obtain ⟨j, hj⟩ := List.mem_iff_getElem?.mp hb
      have hjl := (List.getElem?_eq_some_iff.mp hj).1
      have hq := List.getElem?_eq_getElem (l := kv) (show j < kv.length by omega)
      rw [tup j b _ hj hq] at q
      cases q
      obtain ⟨t, u', e⟩ := hp j b _ hj hq
      exact ⟨by show 2 ≤ sizeLine; decide, [.int kv[j].1 t, .int kv[j].2 u'], .cons ⟨t, rfl⟩ (.cons ⟨u', rfl⟩ .nil), ⟨_, e, rfl, _, rfl⟩⟩
    · by_cases hb2 : b = S
      · rw [hb2] at q ⊢
        rw [eS] at q
        cases q
        refine ⟨by rw [List.length_map]; omega, acc.toList, c, by rw [hacc]; exact LiI.vals_refs as, ?_⟩
        rw [Array.toArray_toList]
        exact hS
      · rw [off b hb, upd_ne hb2] at q
        exact (I.hok b u q).stay (fun d v _ y => hk d v y) (fun d y => ex d _ y) fun d xs y => ex d _ y
theorem k1000 : (1000 : Nat) ≤ sizeLine := by decide
def tLstZip (K : PySem.W.Frag) (ta : TA) : TE := fun σ H Q => ta σ H fun xs H1 => ∃ (a b : Addr) (ns ms : List Int), xs = [.ref a, .ref b] ∧ SqL K H1 a (iL ns) ∧ SqL K H1 b (iL ms) ∧ ns.length = ms.length ∧ ns.length ≤ 1000 ∧ ∀ p H', H1 p = none → Ex H1 H' → Kn H' p (ns.zip ms) → Q (.ref p) H'
theorem pe_listZip {e e2 : Expr} {p p2 pos pos2 : Pos} {ta : TA} (hc : X.calm = true) (hm : X.mg "list" = none) (hm2 : X.mg "zip" = none) (ha : PA X [e, e2] ta) (hg : Gl X "list" := by rfl) (hg2 : Gl X "zip" := by rfl) (hv : bootBuiltins "list" = some (.type "list") := by decide +kernel)
    (hs : starEach [.Call (.Name "zip" p2) [e, e2] [] pos2] X.env = (false, eval (.Call (.Name "zip" p2) [e, e2] [] pos2) X.env) :: starEach [] X.env := by rfl) (hs2 : starEach [e, e2] X.env = (false, eval e X.env) :: starEach [e2] X.env := by rfl) (hpl : (backTo pos2 (starEach [e2] X.env)).any (·.1) = false := by rfl) :
    PE X (.Call (.Name "list" p) [.Call (.Name "zip" p2) [e, e2] [] pos2] [] pos) (tLstZip X.K ta) := by
  refine ⟨fun pins s σ H Q I hq => ?_⟩
  refine wpAny_Call_Name_kw (ld_blt I hg hm hv ?_)
  refine PyProof.Rows.callWith_type1 ?_ hs rfl
  rw [hs]
  show wpAny _ _ (spliced ((false, eval (.Call (.Name "zip" p2) [e, e2] [] pos2) X.env) :: backTo pos (starEach [] X.env))) _ _ s
  refine Calls.spliced_cons ?_
  refine Call_ (ld_blt I hg2 hm2 PyProof.Rows.boot_zip (PyProof.Rows.callWith_type1 (thn (ha.run pos2 pins s σ H _ I hq) fun us s1 ⟨vs, H1, I1, r1, a, b, ns, ms, ev, q1, q2, hlen, hmax, q⟩ => ?_) hs2 hpl))
  subst ev
  obtain ⟨u1, u2, rfl, ru1, ru2⟩ := vals2 r1
  cases (show u1 = Value.ref a from ru1)
  cases (show u2 = Value.ref b from ru2)
  obtain ⟨its, rv, P1, _⟩ := I1.list q1
  obtain ⟨its2, rv2, P2, _⟩ := I1.list q2
  have n1 : its.length = ns.length := by rw [← rv.length, iL_len]
  have n2 : its2.length = ms.length := by rw [← rv2.length, iL_len]
  refine call_zip_2 P1.isList P2.isList fun h' hz hTI hTO h1 h2 hsz hk => ?_
  refine Calls.spliced_nil ?_
  have low : ∀ {c : Addr} {o : Obj}, s1.heap.get? c = some o → c < s1.heap.objs.size := fun e => Heap.lt_size e
  have old : ∀ c o, s1.heap.get? c = some o → c ≠ s1.heap.objs.size + 4 ∧ c ≠ s1.heap.objs.size + 3 ∧ c ≠ s1.heap.objs.size ∧ c ≠ s1.heap.objs.size + 1 := fun c o e => by
    have h0 := low e
    exact ⟨Nat.ne_of_lt (Nat.lt_of_lt_of_le h0 (Nat.le_add_right _ 4)), Nat.ne_of_lt (Nat.lt_of_lt_of_le h0 (Nat.le_add_right _ 3)), Nat.ne_of_lt h0, Nat.ne_of_lt (Nat.lt_of_lt_of_le h0 (Nat.le_add_right _ 1))⟩
  obtain ⟨o1, e1, x1⟩ := P1.isList
  obtain ⟨o2, e2', x2⟩ := P2.isList
  refine Zl.zl_call (s := { s1 with heap := h' }) (h₁ := s1.heap) (I1.ok.hd hc) (PySem.W.ktu_apart s1.heap.objs.size a b P1.lt P2.lt) hz hTI hTO h1 h2 ⟨o1, hk _ _ e1, x1⟩ ⟨o2, hk _ _ e2', x2⟩ old hk (by simp only [List.size_toArray]; omega) (by simp only [List.size_toArray]; have := k1000; omega) fun h'' tk acc c as kp hS hl hG hacc => ?_
  have hl' : as.length = (ns.zip ms).length := by rw [hl, List.length_zip, List.size_toArray]; omega
  have hpr : ∀ (j : Nat) t q, as[j]? = some t → (ns.zip ms)[j]? = some q → ∃ t1 t2, h''.get? t = some { cls := .type "tuple", data := .seq #[.int q.1 t1, .int q.2 t2] } := fun j t q ht hq => by
    obtain ⟨x, y, ex, ey, eh⟩ := hG.pairs j t ht
    obtain ⟨z1, z2⟩ := List.getElem?_zip_eq_some.mp hq
    obtain ⟨t1, rfl⟩ := vals_int rv (by simpa using ex)
    obtain ⟨t2, rfl⟩ := vals_int rv2 (by simpa using ey)
    rw [List.getD_eq_getElem?_getD, z1, List.getD_eq_getElem?_getD, z2] at eh
    exact ⟨t1, t2, eh⟩
  obtain ⟨H', x1, x2, x3, x4⟩ := zip_laid (tk := tk) (kv := ns.zip ms) I1 (by rw [List.length_zip]; have := k1000; omega) (by show s1.heap.objs.size ≤ h'.objs.size; rw [hsz]; exact Nat.le_add_right _ _) kp hS hl' hG.rise hG.above hpr hacc
  exact ⟨.ref _, H', x4, rfl, q _ H' x2 x1 x3⟩
end
end Ap

namespace Ap
open PySem PySem.Spec PyProof.Rows L2 Evl SrtO
theorem cut_drop (xs : List V) (m : Nat) : cutV xs (some (m : Int)) none = xs.drop m := by
  unfold cutV
  rw [HT.sIx_nat, HT.sIx_none]
  rcases Nat.le_total m xs.length with h | h
  · rw [Nat.min_eq_left h, List.take_of_length_le (by rw [List.length_drop]; omega)]
  · rw [Nat.min_eq_right h, List.drop_length, List.drop_of_length_le h]; simp
section
variable {K : PySem.W.Frag} {σ : L2.St} {H H' : Hp} {ta tb te tx tc td tk t1 t2 t3 t4 t5 : TE} {t u : TT} {x y z v : V} {D : Ends} {tu tw tz : TS} {g : Addr} {N M L : Nat} {P P2 P3 : V → Prop}
/-- spots, many = (law_spots(g, a draw, m), a draw) -/
theorem q_tupSpots {i j : Nat} {E : XK} {m : Nat} (ha : Ev ta σ (dg g H) (.ref g)) (hb : EvG tb σ H g N M P) (hc : Ev tc σ (dg g H) (.int (m : Int))) (G : Gn H g N) (hP : ∀ v, P v → ∃ b : Nat, v = .int (b : Int) ∧ 1 ≤ b ∧ b ≤ 6) (hM : M ≤ 900000) (h1 : 1 ≤ m) (h2 : m ≤ 16) (hd : EvG td σ H g (M + 1000) L P2)
    (k : ∀ (b : Nat) p S v H1, P (.int (b : Int)) → P2 v → H p = none → p ≠ g → Exg g H H1 → Gn H1 g L → H1 p = some (.lst (iL S)) → SpOk b m S → tz D ((σ.set i (some (.ref p))).set j (some v)) H1) :
    tSeq (tAsg (tTup (tCons (tCall (sp_law_spots K) [] E (tCons ta (tCons tb (tCons tc tNil)))) (tCons td tNil))) (gTup K 2 (gCons (gName i) (gCons (gName j) gNil)))) tz D σ H :=
  ha H (Exg.refl _ _).ex _ fun H1 e1 => hb H1 (Exg.of e1) (G.mono e1) _ fun v H2 e2 G2 pv => hc H2 ((Exg.of e1).trans e2).ex _ fun H3 e3 => by
    obtain ⟨b, rfl, hb1, hb2⟩ := hP v pv
    have X3 := ((Exg.of e1).trans e2).trans (Exg.of e3)
    refine ⟨g, b, m, M, rfl, G2.mono e3, hM, hb1, hb2, h1, h2, fun p S H4 hp hpg e4 G4 k4 ok => hd H4 (X3.trans e4) G4 _ fun v H5 e5 G5 p2 => ⟨sz_of (by show 2 ≤ 100000; decide), fun T hT => ⟨T, _, rfl, .of upd_same, rfl, _, _, rfl, _, _, rfl, rfl, ?_⟩⟩⟩
    exact k b p S v _ pv p2 (exg_back X3 G.there hp (G2.mono e3).there) hpg (((X3.trans e4).trans e5).trans (Exg.of (Ex.new hT))) (G5.new hT) (Ex.new hT _ _ (e5 _ _ hpg k4)) ok
theorem el_catH {p : Addr} {xs ys : List V} (ha : Ev ta σ H (.ref p)) (hp : H p = some (.lst xs)) (hb : EvL tb σ H ys) (hl : xs.length + ys.length ≤ 100000) : EvL (tOp rCat ta tb) σ H (xs ++ ys) := fun H0 e0 Q q =>
  ha H0 e0 _ fun H1 e1 => hb H1 (e0.trans e1) _ fun r H2 _ e2 k2 => ⟨p, r, xs, ys, rfl, rfl, e2 _ _ (e1 _ _ (e0 _ _ hp)), k2, sz_of hl, fun s hs => q s _ (fresh_back (e1.trans e2) hs) ((e1.trans e2).trans (Ex.new hs)) upd_same⟩
/-- law_amount(w, sorted(a new list), m) -/
theorem ev_amtS {E : XK} {w m : Nat} {l : List Int} (h1 : Ev t1 σ H (.int (w : Int))) (h2 : EvL t2 σ H (iL l)) (h3 : Ev t3 σ H (.int (m : Int))) (hn : l.Nodup) (hl : l.length ≤ 100) : Ev (tCall (sp_law_amount K) [] E (tCons t1 (tCons (tCB (rSortedI K) (tCons t2 tNil)) (tCons t3 tNil)))) σ H (.int (Amt w m l : Nat)) := fun H0 e0 Q q =>
  h1 H0 e0 _ fun H1 e1 => h2 H1 (e0.trans e1) _ fun a H2 _ e2 k2 => ⟨a, l, rfl, .of k2, fun l' p pm _ hp => h3 _ (((e0.trans e1).trans e2).trans (Ex.new hp)) _ fun H3 e3 => by
    have e : Amt w m l' = Amt w m l := Amt_congr (pm.nodup_iff.mpr hn) hn fun x => pm.mem_iff
    refine ⟨w, p, l', m, rfl, e3 _ _ upd_same, pm.nodup_iff.mpr hn, by rw [pm.length_eq]; exact hl, ?_⟩
    rw [e]
    exact fun H4 e4 => q H4 ((((e1.trans e2).trans (Ex.new hp)).trans e3).trans e4)⟩
/-- closure(.., a new list) -/
theorem el_closL {E : XK} {w m : Nat} {a : Addr} {S P : List Int} (h1 : Ev t1 σ H (.int (w : Int))) (h2 : Ev t2 σ H (.ref a)) (h3 : Ev t3 σ H (.int (m : Int))) (h4 : EvL t4 σ H (iL P)) (hw : 1 ≤ w) (hw2 : w ≤ 64) (hS : H a = some (.lst (iL S))) (hp : Pl w S) (hP : Part S P) :
    EvL (tCall (sp_closure K) [] E (tCons t1 (tCons t2 (tCons t3 (tCons t4 tNil))))) σ H (iL (clo w m S P)) := fun H0 e0 Q q =>
  h1 H0 e0 _ fun H1 e1 => h2 H1 (e0.trans e1) _ fun H2 e2 => h3 H2 ((e0.trans e1).trans e2) _ fun H3 e3 => h4 H3 (((e0.trans e1).trans e2).trans e3) _ fun b H4 _ e4 k4 => by
    have X := ((e1.trans e2).trans e3).trans e4
    exact ⟨w, a, S, m, b, P, rfl, hw, hw2, (e0.trans X) _ _ hS, hp, k4, hP, fun p H5 hp' e5 k5 => q p H5 (fresh_back X hp') (X.trans e5) k5⟩
/-- list(zip(xs, ys)) -/
theorem ek_zip {a b : Addr} {ns ms : List Int} {ta : TA} (h : EvA ta σ H [.ref a, .ref b]) (h1 : H a = some (.lst (iL ns))) (h2 : H b = some (.lst (iL ms))) (hl : ns.length = ms.length) (hz : ns.length ≤ 1000) : EvK (tLstZip K ta) σ H (fun kv => kv = ns.zip ms) := fun H0 e0 Q q =>
  h H0 e0 _ fun H1 e1 => ⟨a, b, ns, ms, rfl, .of ((e0.trans e1) _ _ h1), .of ((e0.trans e1) _ _ h2), hl, hz, fun p H2 _ e2 k2 => q p _ H2 (e1.trans e2) k2 rfl⟩
/-- fits(.., pairs) -/
theorem ev_fitsK {E : XK} {w m : Nat} {a : Addr} {S : List Int} {Pk : List (Int × Int) → Prop} (h1 : Ev t1 σ H (.int (w : Int))) (h2 : Ev t2 σ H (.ref a)) (h3 : Ev t3 σ H (.int (m : Int))) (h4 : EvK tk σ H Pk) (hw : 1 ≤ w) (hw2 : w ≤ 64) (hS : H a = some (.lst (iL S))) (hp : Pl w S) (hk : ∀ kv, Pk kv → Kw w S kv ∧ ∃ f, Fit w m kv f) :
    Ev (tCall (sp_fits K) [] E (tCons t1 (tCons t2 (tCons t3 (tCons tk tNil))))) σ H (.bl true) := fun H0 e0 Q q =>
  h1 H0 e0 _ fun H1 e1 => h2 H1 (e0.trans e1) _ fun H2 e2 => h3 H2 ((e0.trans e1).trans e2) _ fun H3 e3 => h4 H3 (((e0.trans e1).trans e2).trans e3) _ fun b kv H4 e4 k4 pk => by
    have X := ((e1.trans e2).trans e3).trans e4
    exact ⟨w, a, S, m, b, kv, rfl, hw, hw2, (e0.trans X) _ _ hS, hp, k4, (hk kv pk).1, (hk kv pk).2, fun H5 e5 => q H5 (X.trans e5)⟩
/-- how_many_ahead(.., pairs, row) -/
theorem ev_aheadK {E : XK} {w m : Nat} {a c : Addr} {S row : List Int} {Pk : List (Int × Int) → Prop} (h1 : Ev t1 σ H (.int (w : Int))) (h2 : Ev t2 σ H (.ref a)) (h3 : Ev t3 σ H (.int (m : Int))) (h4 : EvK tk σ H Pk) (h5 : Ev t5 σ H (.ref c)) (hw : 1 ≤ w) (hw2 : w ≤ 64) (hS : H a = some (.lst (iL S))) (hp : Pl w S) (hm : m ≤ 100) (hc : H c = some (.lst (iL row)))
    (hk : ∀ kv, Pk kv → Kw w S kv ∧ First w m S kv row) : Ev (tCall (sp_how_many_ahead K) [] E (tCons t1 (tCons t2 (tCons t3 (tCons tk (tCons t5 tNil)))))) σ H (.int 0) := fun H0 e0 Q q =>
  h1 H0 e0 _ fun H1 e1 => h2 H1 (e0.trans e1) _ fun H2 e2 => h3 H2 ((e0.trans e1).trans e2) _ fun H3 e3 => h4 H3 (((e0.trans e1).trans e2).trans e3) _ fun b kv H4 e4 k4 pk => h5 H4 ((((e0.trans e1).trans e2).trans e3).trans e4) _ fun H5 e5 => by
    have X := (((e1.trans e2).trans e3).trans e4).trans e5
    exact ⟨w, a, S, m, b, kv, c, row, rfl, hw, hw2, (e0.trans X) _ _ hS, hp, hm, k4.mono e5, (hk kv pk).1, (e0.trans X) _ _ hc, (hk kv pk).2, fun H6 e6 => q H6 (X.trans e6)⟩
theorem sv_untoldN {a b : Addr} {w m : Nat} {S P : List Int} {p : Int} (h0 : 1 ≤ w) (h1 : w ≤ 64) (h2 : H a = some (.lst (iL S))) (h3 : Pl w S) (h4 : m ≤ 100) (h5 : H b = some (.lst (iL P))) (h6 : Part S P) (h7 : p ∈ S) (he : Bits w m P p = w) : SpV (sp_untold K) [.int (w : Int), .ref a, .int (m : Int), .ref b, .int p] H .non := fun H1 e Q q _ =>
  ⟨w, a, S, m, b, P, p, rfl, h0, h1, e _ _ h2, h3, h4, e _ _ h5, h6, h7, fun _ H2 e2 => q H2 e2, fun hl => by omega⟩
end
theorem zip_keys {S row : List Int} (h : row.length = S.length) : keys (S.zip row) = S := by
  unfold keys
  exact List.map_fst_zip (by omega)
end Ap


namespace Ap
open PySem PySem.Spec PyProof.Rows L2 Evl SrtO
theorem rv_notB {H : Hp} : RV rNotB (.bl true) (.bl true) H (.bl false) := fun H1 _ Q q => ⟨true, true, rfl, rfl, q H1 (Ex.refl H1)⟩
/-! ### the great codes -/
def sp_law_great_right (K : PySem.W.Frag) : Sp := fun vs H Q _ => ∃ (g : Addr) (N : Nat), vs = [.ref g] ∧ Gn H g N ∧ N ≤ 10000 ∧ ∀ H', Exg g H H' → Q (.bl true) H'
theorem sc_law_great_right : FnScope ["_law_generator_here", "_law_bits", "_law_spots_here", "_law_many", "_law_near", "_law_amount_due", "_law_spot", "_law_due", "_law_told", "_law_fewer", "_law_row", "_law_top", "_law_other"] ["_law_generator_here"] (defScope sLawGreatRight) := ⟨rfl, rfl, rfl, by decide +kernel, rfl, by decide +kernel, by decide +kernel⟩
theorem has_law_great_right {P : Program} {w : World} {K : PySem.W.Frag} {mg : Str → Option Value} {base : Heap} (T : Txt K mg) : HasG P w K mg base "_law_great_right" ["_law_generator_here"] 9 (sp_law_great_right K) := by
  refine HasG.of T.gLawGreatRight T.dLawGreatRight (fun fd F => fnG_of F sc_law_great_right (fun vs H Q E h => ?_) (fun cdv A outer s H vs Q E hgd hr h => ?_)) fun _ _ _ _ _ _ us hl => match us, hl with | [_], _ => rfl
  · obtain ⟨g, N, rfl, hG, hN, k⟩ := h
    rfl
  · have hr : Room 8 _ := hr
    have h_untold := has_untold (P := P) (w := w) (base := base) T
    have h_how_many_ahead := has_how_many_ahead (P := P) (w := w) (base := base) T
    have h_law_power := has_law_power (P := P) (w := w) (base := base) T
    have h_bits_told := has_bits_told (P := P) (w := w) (base := base) T
    have h_fits := has_fits (P := P) (w := w) (base := base) T
    have h_closure := has_closure (P := P) (w := w) (base := base) T
    have h_law_amount := has_law_amount (P := P) (w := w) (base := base) T
    have h_law_some := has_law_some (P := P) (w := w) (base := base) T
    have h_law_random := has_law_random (P := P) (w := w) (base := base) T
    have h_law_spots := has_law_spots (P := P) (w := w) (base := base) T
    obtain ⟨g, N, rfl, hG, hN, k⟩ := h
    refine ⟨(tSeq (tAsg (tOp _ (tC _) (tCall _ [] E0 (tCons (tVar 0) (tCons (tC _) tNil)))) (gName 1))
      (tSeq (tAsg (tTup (tCons (tCall _ [] E0 (tCons (tVar 0) (tCons (tOp _ (tC _) (tCall _ [] E0 (tCons (tVar 0) (tCons (tC _) tNil)))) (tCons (tC _) tNil)))) (tCons (tOp _ (tC _) (tCall _ [] E0 (tCons (tVar 0) (tCons (tC _) tNil)))) tNil))) (gTup K 2 (gCons (gName 2) (gCons (gName 3) gNil))))
      (tSeq (tAsg (tCall _ [] E0 (tCons (tVar 0) (tCons (tVar 2) tNil))) (gName 4))
      (tSeq (tAsg (tCall _ [] E0 (tCons (tVar 1) (tCons (tVar 4) (tCons (tVar 3) tNil)))) (gName 5))
      (tSeq (tAsg (tLc (iList K (tVar 2)) (gName 6) (tOr (tTest (tOp (rIn K false) (tVar 6) (tVar 4))) (tTest (tOp _ (tCall _ [] E0 (tCons (tVar 1) (tCons (tCB (rSortedI K) (tCons (tOp _ (tVar 4) (tLst (tCons (tVar 6) tNil))) tNil)) (tCons (tVar 3) tNil)))) (tVar 5)))) (tVar 6) [6]) (gName 7))
      (tSeq (tAsg (tCall _ [] E0 (tCons (tVar 1) (tCons (tVar 2) (tCons (tVar 3) (tCons (tVar 4) tNil))))) (gName 8))
      (tSeq (tIfS (tOr (tTest (tOp _ (tCB _ (tCons (tVar 8) tNil)) (tCB _ (tCons (tVar 7) tNil)))) (tTest (tOp (rNeD K) (tCall _ [] E0 (tCons (tVar 1) (tCons (tVar 2) (tCons (tVar 3) (tCons (tVar 8) tNil))))) (tVar 8)))) (tRet (tC _)) tNext)
      (tSeq (tAsg (tCall _ [] E0 (tCons (tVar 1) (tCons (tVar 2) (tCons (tVar 3) (tCons (tSl (rSlL K) (tVar 4) (tPart (tC _)) tNoPart) tNil))))) (gName 9))
      (tSeq (tIfS (tTest (tOp (rNeD K) (tLc (iList K (tVar 9)) (gName 6) (tTest (tOp (rIn K true) (tVar 6) (tVar 8))) (tVar 6) [6]) (tLst tNil))) (tRet (tC _)) tNext)
      (tSeq (tFor (iList K (tSl (rSlL K) (tLc (iList K (tVar 2)) (gName 6) (tTest (tOp (rIn K true) (tVar 6) (tVar 8))) (tVar 6) [6]) tNoPart (tPart (tC _)))) (gName 6) (tSeq (tAsg (tCall _ [] E0 (tCons (tVar 1) (tCons (tVar 2) (tCons (tVar 3) (tCons (tVar 4) (tCons (tVar 6) tNil)))))) (gName 10))
      (tSeq (tIfS (tTest (tOp (rNeD K) (tLc (iList K (tVar 4)) (gName 12) (tTest (tOp _ (tOp (rIxL K) (tVar 10) (tBM K "list" (rIndex K) (tVar 2) (tCons (tVar 12) tNil))) (tC _))) (tVar 12) [12]) (tLst tNil))) (tRet (tC _)) tNext)
      (tSeq (tIfS (tTest (tOp _ (tCall _ [] E0 (tCons (tVar 1) (tCons (tVar 2) (tCons (tVar 3) (tCons (tLstZip K (tCons (tVar 2) (tCons (tVar 10) tNil))) tNil))))) (tC _))) (tRet (tC _)) tNext)
      (tSeq (tAsg (tCall _ [] E0 (tCons (tCall _ [] E0 (tCons (tVar 1) (tCons (tVar 2) (tCons (tVar 3) (tCons (tVar 4) (tCons (tVar 6) tNil)))))) tNil)) (gName 11))
      (tSeq (tIfS (tTest (tOp _ (tOp (rIxL K) (tVar 10) (tBM K "list" (rIndex K) (tVar 2) (tCons (tVar 6) tNil))) (tVar 11))) (tRet (tC _)) tNext)
      (tIfS (tTest (tOp _ (tCall _ [] E0 (tCons (tVar 1) (tCons (tVar 2) (tCons (tVar 3) (tCons (tCB (rSortedPO K) (tCons (tOp _ (tLc (iList K (tVar 4)) (gName 12) tYes (tTup (tCons (tVar 12) (tCons (tC _) tNil))) [12]) (tLst (tCons (tTup (tCons (tVar 6) (tCons (tVar 11) tNil))) tNil))) tNil)) (tCons (tVar 10) tNil)))))) (tC _))) (tRet (tC _)) tNext)))))))
      (tRet (tOp (rEqD K) (tLc (iList K (tVar 8)) (gName 6) (tTest (tOp _ (tCall _ [] E0 (tCons (tVar 1) (tCons (tVar 2) (tCons (tVar 3) (tCons (tVar 4) (tCons (tVar 6) tNil)))))) (tC _))) (tVar 6) [6]) (tLst tNil))))))))))))), PSs.nox (pss_cons (ps_set (i := 1) sc_law_great_right.nd rfl (Or.inr rfl) (pe_op op_add pe_int (pe_has h_law_random (hr.mono (by decide)) (pa_cons (pv 0) (pa_cons pe_int pa_nil)))))
    (pss_cons (ps_asg (pe_tup (pa_cons (pe_has h_law_spots (hr.mono (by decide)) (pa_cons (pv 0) (pa_cons (pe_op op_add pe_int (pe_has h_law_random (hr.mono (by decide)) (pa_cons (pv 0) (pa_cons pe_int pa_nil)))) (pa_cons pe_int pa_nil)))) (pa_cons (pe_op op_add pe_int (pe_has h_law_random (hr.mono (by decide)) (pa_cons (pv 0) (pa_cons pe_int pa_nil)))) pa_nil))) (pg_tup (by rfl) (pgs_cons (pg_name (i := 2) sc_law_great_right.nd rfl (Or.inr rfl)) (pgs_cons (pg_name (i := 3) sc_law_great_right.nd rfl (Or.inr rfl)) pgs_nil))))
    (pss_cons (ps_set (i := 4) sc_law_great_right.nd rfl (Or.inr rfl) (pe_has h_law_some (hr.mono (by decide)) (pa_cons (pv 0) (pa_cons (pv 2) pa_nil))))
    (pss_cons (ps_set (i := 5) sc_law_great_right.nd rfl (Or.inr rfl) (pe_has h_law_amount (hr.mono (by decide)) (pa_cons (pv 1) (pa_cons (pv 4) (pa_cons (pv 3) pa_nil)))))
    (pss_cons (ps_setLc (i := 7) (own := [("_law_spot", 6)]) (g := (gName 6)) (tt := (tOr (tTest (tOp (rIn K false) (tVar 6) (tVar 4))) (tTest (tOp _ (tCall _ [] E0 (tCons (tVar 1) (tCons (tCB (rSortedI K) (tCons (tOp _ (tVar 4) (tLst (tCons (tVar 6) tNil))) tNil)) (tCons (tVar 3) tNil)))) (tVar 5))))) (te := (tVar 6)) (by rfl) sc_law_great_right.nd rfl rfl (sw_true rfl rfl rfl (by decide +kernel)) (pi_list (pv 2)) (blkOk_by (own := [("_law_spot", 6)]) (N := ["_law_generator_here", "_law_bits", "_law_spots_here", "_law_many", "_law_near", "_law_amount_due", "_law_spot", "_law_due", "_law_told", "_law_fewer", "_law_row", "_law_top", "_law_other"]) (sc := defScope sLawGreatRight) (by decide +kernel)) (fun _ _ _ _ _ => (pg_name (i := 6) sc_law_great_right.nd rfl (Or.inl rfl))) (fun _ _ _ _ _ => (pts_one (PW.pt (pw_or (pt_cmpR op_in_seq (pv 6) (pv 4) (by first | exact nomark _ | rfl)) (pw_or1 (pt_cmpR op_eq (pe_has h_law_amount (hr.mono (by decide)) (pa_cons (pv 1) (pa_cons (pe_callB cr_sortedI (by rfl) T.z_sorted (by decide +kernel) (pa_cons (pe_op op_cat (pv 4) (pe_lst (pa_cons (pv 6) pa_nil))) pa_nil)) (pa_cons (pv 3) pa_nil)))) (pv 5) (nomark _))))))) (fun _ _ _ _ _ => (pv 6)))
    (pss_cons (ps_set (i := 8) sc_law_great_right.nd rfl (Or.inr rfl) (pe_has h_closure (hr.mono (by decide)) (pa_cons (pv 1) (pa_cons (pv 2) (pa_cons (pv 3) (pa_cons (pv 4) pa_nil))))))
    (pss_cons (ps_if (PW.pt (pw_or (pt_cmpR op_ne (pe_callB (call_reprL hgd hr.units) (by rfl) T.z_repr (by decide +kernel) (pa_cons (pv 8) pa_nil)) (pe_callB (call_reprL hgd hr.units) (by rfl) T.z_repr (by decide +kernel) (pa_cons (pv 7) pa_nil)) (nomark _)) (pw_or1 (pt_cmpR (op_neD hr.units) (pe_has h_closure (hr.mono (by decide)) (pa_cons (pv 1) (pa_cons (pv 2) (pa_cons (pv 3) (pa_cons (pv 8) pa_nil))))) (pv 8) (nomark _))))) (pss_one (ps_ret pe_bl)) pss_nil)
    (pss_cons (ps_set (i := 9) sc_law_great_right.nd rfl (Or.inl rfl) (pe_has h_closure (hr.mono (by decide)) (pa_cons (pv 1) (pa_cons (pv 2) (pa_cons (pv 3) (pa_cons (pe_slice sl_list (pv 4) (po_some pe_int) po_none) pa_nil))))))
    (pss_cons (ps_if (pt_cmpR (op_neD hr.units) (pe_lc (own := [("_law_spot", 6)]) (g := (gName 6)) (tt := (tTest (tOp (rIn K true) (tVar 6) (tVar 8)))) (te := (tVar 6)) (by rfl) sc_law_great_right.nd (pi_list (pv 9)) (blkOk_by (own := [("_law_spot", 6)]) (N := ["_law_generator_here", "_law_bits", "_law_spots_here", "_law_many", "_law_near", "_law_amount_due", "_law_spot", "_law_due", "_law_told", "_law_fewer", "_law_row", "_law_top", "_law_other"]) (sc := defScope sLawGreatRight) (by decide +kernel)) (fun _ _ _ _ _ => (pg_name (i := 6) sc_law_great_right.nd rfl (Or.inl rfl))) (fun _ _ _ _ _ => (pts_one (pt_cmpR op_notIn_seq (pv 6) (pv 8) (by first | exact nomark _ | rfl)))) (fun _ _ _ _ _ => (pv 6))) (pe_lst pa_nil) (nomark _)) (pss_one (ps_ret pe_bl)) pss_nil)
    (pss_cons (ps_for PassesOwn.never (by rfl) (pi_list (pe_slice sl_list (pe_lc (own := [("_law_spot", 6)]) (g := (gName 6)) (tt := (tTest (tOp (rIn K true) (tVar 6) (tVar 8)))) (te := (tVar 6)) (by rfl) sc_law_great_right.nd (pi_list (pv 2)) (blkOk_by (own := [("_law_spot", 6)]) (N := ["_law_generator_here", "_law_bits", "_law_spots_here", "_law_many", "_law_near", "_law_amount_due", "_law_spot", "_law_due", "_law_told", "_law_fewer", "_law_row", "_law_top", "_law_other"]) (sc := defScope sLawGreatRight) (by decide +kernel)) (fun _ _ _ _ _ => (pg_name (i := 6) sc_law_great_right.nd rfl (Or.inl rfl))) (fun _ _ _ _ _ => (pts_one (pt_cmpR op_notIn_seq (pv 6) (pv 8) (by first | exact nomark _ | rfl)))) (fun _ _ _ _ _ => (pv 6))) po_none (po_some pe_int))) (pg_name (i := 6) sc_law_great_right.nd rfl (Or.inl rfl)) (pss_cons (ps_set (i := 10) sc_law_great_right.nd rfl (Or.inr rfl) (pe_has h_untold (hr.mono (by decide)) (pa_cons (pv 1) (pa_cons (pv 2) (pa_cons (pv 3) (pa_cons (pv 4) (pa_cons (pv 6) pa_nil)))))))
    (pss_cons (ps_if (pt_cmpR (op_neD hr.units) (pe_lc (own := [("_law_other", 12)]) (g := (gName 12)) (tt := (tTest (tOp _ (tOp (rIxL K) (tVar 10) (tBM K "list" (rIndex K) (tVar 2) (tCons (tVar 12) tNil))) (tC _)))) (te := (tVar 12)) (by rfl) sc_law_great_right.nd (pi_list (pv 4)) (blkOk_by (own := [("_law_other", 12)]) (N := ["_law_generator_here", "_law_bits", "_law_spots_here", "_law_many", "_law_near", "_law_amount_due", "_law_spot", "_law_due", "_law_told", "_law_fewer", "_law_row", "_law_top", "_law_other"]) (sc := defScope sLawGreatRight) (by decide +kernel)) (fun _ _ _ _ _ => (pg_name (i := 12) sc_law_great_right.nd rfl (Or.inl rfl))) (fun _ _ _ _ _ => (pts_one (pt_cmpR op_ne (pe_ix ix_list (pv 10) (pe_bm PySem.F.plainAttrs_list PySem.F.slot_list_index PySem.F.type_list_index mt_index (pv 2) (pa_cons (pv 12) pa_nil)) (fun _ _ => rfl)) pe_int (nomark _)))) (fun _ _ _ _ _ => (pv 12))) (pe_lst pa_nil) (nomark _)) (pss_one (ps_ret pe_bl)) pss_nil)
    (pss_cons (ps_if (pt_cmpR op_notBl (pe_has h_fits (hr.mono (by decide)) (pa_cons (pv 1) (pa_cons (pv 2) (pa_cons (pv 3) (pa_cons (pe_listZip (by rfl) T.z_list T.z_zip (pa_cons (pv 2) (pa_cons (pv 10) pa_nil))) pa_nil))))) pe_bl (nomark _)) (pss_one (ps_ret pe_bl)) pss_nil)
    (pss_cons (ps_set (i := 11) sc_law_great_right.nd rfl (Or.inl rfl) (pe_has h_law_power (hr.mono (by decide)) (pa_cons (pe_has h_bits_told (hr.mono (by decide)) (pa_cons (pv 1) (pa_cons (pv 2) (pa_cons (pv 3) (pa_cons (pv 4) (pa_cons (pv 6) pa_nil)))))) pa_nil)))
    (pss_cons (ps_if (pt_cmpR op_ne (pe_ix ix_list (pv 10) (pe_bm PySem.F.plainAttrs_list PySem.F.slot_list_index PySem.F.type_list_index mt_index (pv 2) (pa_cons (pv 6) pa_nil)) (fun _ _ => rfl)) (pv 11) (nomark _)) (pss_one (ps_ret pe_bl)) pss_nil)
    (pss_one (ps_if (pt_cmpR op_ne (pe_has h_how_many_ahead (hr.mono (by decide)) (pa_cons (pv 1) (pa_cons (pv 2) (pa_cons (pv 3) (pa_cons (pe_callB cr_sortedPO (by rfl) T.z_sorted (by decide +kernel) (pa_cons (pe_op op_cat (pe_lc (own := [("_law_other", 12)]) (g := (gName 12)) (tt := tYes) (te := (tTup (tCons (tVar 12) (tCons (tC _) tNil)))) (by rfl) sc_law_great_right.nd (pi_list (pv 4)) (blkOk_by (own := [("_law_other", 12)]) (N := ["_law_generator_here", "_law_bits", "_law_spots_here", "_law_many", "_law_near", "_law_amount_due", "_law_spot", "_law_due", "_law_told", "_law_fewer", "_law_row", "_law_top", "_law_other"]) (sc := defScope sLawGreatRight) (by decide +kernel)) (fun _ _ _ _ _ => (pg_name (i := 12) sc_law_great_right.nd rfl (Or.inl rfl))) (fun _ _ _ _ _ => pts_nil) (fun _ _ _ _ _ => (pe_tup (pa_cons (pv 12) (pa_cons pe_int pa_nil))))) (pe_lst (pa_cons (pe_tup (pa_cons (pv 6) (pa_cons (pv 11) pa_nil))) pa_nil))) pa_nil)) (pa_cons (pv 10) pa_nil)))))) pe_int (nomark _)) (pss_one (ps_ret pe_bl)) pss_nil))))))))
    (pss_one (ps_ret (pe_cmpR (op_eqD hr.units) (pe_lc (own := [("_law_spot", 6)]) (g := (gName 6)) (tt := (tTest (tOp _ (tCall _ [] E0 (tCons (tVar 1) (tCons (tVar 2) (tCons (tVar 3) (tCons (tVar 4) (tCons (tVar 6) tNil)))))) (tC _)))) (te := (tVar 6)) (by rfl) sc_law_great_right.nd (pi_list (pv 8)) (blkOk_by (own := [("_law_spot", 6)]) (N := ["_law_generator_here", "_law_bits", "_law_spots_here", "_law_many", "_law_near", "_law_amount_due", "_law_spot", "_law_due", "_law_told", "_law_fewer", "_law_row", "_law_top", "_law_other"]) (sc := defScope sLawGreatRight) (by decide +kernel)) (fun _ _ _ _ _ => (pg_name (i := 6) sc_law_great_right.nd rfl (Or.inl rfl))) (fun _ _ _ _ _ => (pts_one (pt_cmpR op_notN (pe_has h_untold (hr.mono (by decide)) (pa_cons (pv 1) (pa_cons (pv 2) (pa_cons (pv 3) (pa_cons (pv 4) (pa_cons (pv 6) pa_nil)))))) pe_non (nomark _)))) (fun _ _ _ _ _ => (pv 6))) (pe_lst pa_nil) (nomark _)))))))))))))), ?_⟩
    refine q_asgG (g := g) (P := fun v => ∃ w : Nat, v = .int (w : Int) ∧ 6 ≤ w ∧ w ≤ 64) (eg_op (eg_ev ev_c) (eg_rnd (n := 59) (ev_var rfl) ev_c (by decide) (by decide) (by omega)) (fun x y hx ⟨j, hy, j0, j1⟩ => ?_)) hG fun v H1 e1 G1 ⟨w, hv, w6, w64⟩ => ?_
    · subst hx hy
      obtain ⟨j', rfl⟩ := Int.eq_ofNat_of_zero_le j0
      exact ⟨.int (6 + (j' : Int)), rv_I0, 6 + j', by simp, by omega, by omega⟩
    subst hv
    refine q_tupSpots (g := g) (m := 16) (P := fun v => ∃ b : Nat, v = .int (b : Int) ∧ 1 ≤ b ∧ b ≤ 6) (P2 := fun v => ∃ m : Nat, v = .int (m : Int) ∧ m ≤ 9) (ev_var rfl) (eg_op (eg_ev ev_c) (eg_rnd (n := 3) (ev_var rfl) ev_c (by decide) (by decide) (by omega)) (fun x y hx ⟨j, hy, j0, j1⟩ => ?_)) ev_c G1 (fun v h => h) (by omega) (by decide) (by decide) (eg_op (eg_ev ev_c) (eg_rnd (n := 9) (ev_var rfl) ev_c (by decide) (by decide) (by omega)) (fun x y hx ⟨j, hy, j0, j1⟩ => ?_)) fun b ps S v H2 hb ⟨m, hv, hm9⟩ hps hpsg e2 G2 ks ok => ?_
    · subst hx hy
      obtain ⟨j', rfl⟩ := Int.eq_ofNat_of_zero_le j0
      exact ⟨.int (4 + (j' : Int)), rv_I0, 4 + j', by simp, by omega, by omega⟩
    · subst hx hy
      obtain ⟨j', rfl⟩ := Int.eq_ofNat_of_zero_le j0
      exact ⟨.int (1 + (j' : Int)), rv_I0, 1 + j', by simp, by omega⟩
    subst hv
    have hb6 : b ≤ 6 := by
      obtain ⟨b', e, h1, h2⟩ := hb
      have : b = b' := by injection e with e; omega
      omega
    have hl16 := ok.len
    have h26 : (2 : Int) ^ b ≤ 64 := Int.le_of_dvd (by decide) (pow_dvd (b := 6) hb6)
    have h2w : (64 : Int) ≤ 2 ^ w := Int.le_of_dvd (two_pos w) (pow_dvd (a := 6) w6)
    have hPl : Pl w S := ⟨ok.ne, fun x hx => by have := ok.mem x hx; omega, ok.up, by omega⟩
    have w1 : 1 ≤ w := by omega
    have m100 : m ≤ 100 := by omega
    refine q_some (g := g) (ev_var rfl) (ev_var rfl) G2 (by omega) ks hpsg (by omega) fun pn P H3 hpn hpng e3 G3 kn hsub => ?_
    have k3 := e3 _ _ hpsg ks
    have X3 := (e1.trans e2).trans e3
    clear e1 e2 e3 G1 G2 ks
    have hsl := hsub.length_le
    have hP : Part S P := ⟨fun x hx => hsub.subset hx, ok.up.sublist hsub, by omega⟩
    have o64 : ∀ l : List Int, (∀ x, x ∈ l → x ∈ S) → l.length ≤ 1000 → Ok64 l := fun l h1 h2 => ⟨h2, fun x hx => by
      have := ok.mem x (h1 x hx)
      omega⟩
    have hcl : ∀ x, x ∈ clo w m S P → x ∈ S := fun x hx => (clo_mem.mp hx).1
    have hcl2 : (clo w m S P).length ≤ 16 := Nat.le_trans (List.length_filter_le _ _) hl16
    have oc := o64 _ hcl (by omega)
    have hPc : Part S (clo w m S P) := clo_part hPl
    -- amount_due
    refine q_asg (v := .int (Amt w m P : Nat)) (ev_call (ea_cons (ev_var rfl) (ea_cons (ev_var rfl) (ea_cons (ev_var rfl) ea_nil))) (sv_law_amount kn hP.nd (by omega))) fun H4 e4 => ?_
    -- due
    refine q_asgL (xs := iL (clo w m S P)) (el_is (el_lcL (xs := iL S) (fun i => decide (Bits w m P (S.getD i 0) = w)) (fun i => .int (S.getD i 0)) (ev_var rfl) (.of (e4 _ _ k3)) (by rw [iL_len]; omega) (fun _ => rfl) (fun i x H5 e5 hx => ?_) (fun i x H5 e5 hx _ => ?_)) ?_) fun pd H5 hpd e5 kd => ?_
    · obtain ⟨p, hp, rfl⟩ := iL_of hx
      rw [List.getD_eq_getElem?_getD, hp]
      show EvT _ _ _ (decide (Bits w m P p = w))
      by_cases hpP : p ∈ P
      · rw [Bits_mem hP.nd hpP, decide_eq_true rfl]
        exact et_is (et_or (a := true) (b := true) (et_test (ev_is (ev_inI (ev_var rfl) (ev_var rfl) ((e4.trans e5) _ _ kn)) (by rw [decide_eq_true hpP]))) (fun h => by cases h)) rfl
      · have hnd : (P ++ [p]).Nodup := by
          rw [List.nodup_append]
          exact ⟨hP.nd, by simp, fun x hx y hy => by rw [List.mem_singleton.mp hy]; intro e; exact hpP (e ▸ hx)⟩
        have hsame := amt_same (w := w) (m := m) (p := p) hP.nd hnd fun x => by simp [or_comm]
        refine et_is (et_or (a := false) (b := decide (Bits w m P p = w)) (et_test (ev_is (ev_inI (ev_var rfl) (ev_var rfl) ((e4.trans e5) _ _ kn)) (by rw [decide_eq_false hpP]))) (fun _ => et_test (ev_is (ev_op (ev_amtS (l := P ++ [p]) (ev_var rfl) (el_is (el_catH (ev_var rfl) ((e4.trans e5) _ _ kn) (el_lst (vs := iL [p]) (ea_cons (ev_var rfl) ea_nil) (by show 1 ≤ 100000; decide)) (by rw [iL_len, iL_len, List.length_singleton]; omega)) (by unfold iL; rw [List.map_append])) (ev_var rfl) hnd (by simp; omega)) (ev_var rfl) (rv_eq rfl)) ?_))) rfl
        congr 1
        refine decide_eq_decide.mpr ?_
        rw [← hsame]
        constructor
        · intro h; injection h with h; omega
        · intro h; rw [h]
    · obtain ⟨y, hy, rfl⟩ := iL_of hx
      rw [List.getD_eq_getElem?_getD, hy]
      exact ev_var rfl
    · rw [iL_len]
      exact given_filter S _ (fun x => decide (Bits w m P x = w)) fun i x hx => by rw [List.getD_eq_getElem?_getD, hx]; rfl
    have X35 := e4.trans e5
    -- told
    refine q_asgL (el_call (ea_cons (ev_var rfl) (ea_cons (ev_var rfl) (ea_cons (ev_var rfl) (ea_cons (ev_var rfl) ea_nil)))) (sl_closure (m := m) w1 w64 (X35 _ _ k3) hPl (X35 _ _ kn) hP)) fun pt H6 hpt e6 kt => ?_
    have X36 := X35.trans e6
    refine q_when (b := false) (et_is (et_or (a := false) (b := false) (et_test (ev_is (ev_op (ev_reprL (ev_var rfl) kt oc) (ev_reprL (ev_var rfl) (e6 _ _ kd) oc) (rv_ne rfl)) (by simp))) (fun _ => et_test (ev_is (ev_opL1 (el_call (ea_cons (ev_var rfl) (ea_cons (ev_var rfl) (ea_cons (ev_var rfl) (ea_cons (ev_var rfl) ea_nil)))) (sl_closure (m := m) w1 w64 (X36 _ _ k3) hPl kt hPc)) (fun H7 _ => ev_var rfl) (fun q H7 hq e7 => rv_neL hq (e7 _ _ kt))) (by rw [clo_idem hPl hP]; simp)))) rfl) (fun h => by cases h) fun _ H7 e7 => ?_
    have X37 := X36.trans e7
    -- fewer
    have hPd : Part S (P.drop 1) := ⟨fun x hx => hP.mem x (List.mem_of_mem_drop hx), hP.up.sublist (List.drop_sublist 1 P), by rw [List.length_drop]; omega⟩
    refine q_asgL (el_closL (P := P.drop 1) (ev_var rfl) (ev_var rfl) (ev_var rfl) (el_is (el_sl (ev_var rfl) (eo_some ev_c) eo_none (.of (X37 _ _ kn))) (by rw [show (1 : Int) = ((1 : Nat) : Int) from rfl, cut_drop]; unfold iL; rw [List.map_drop])) w1 w64 (X37 _ _ k3) hPl hPd) fun pw H8 hpw e8 kw => ?_
    have X38 := X37.trans e8
    have kt8 := e8 _ _ (e7 _ _ kt)
    have hfl : (clo w m S (P.drop 1)).length ≤ 16 := Nat.le_trans (List.length_filter_le _ _) hl16
    refine q_when (b := false) (et_test (ev_is (ev_neNN (l := []) (el_is (el_lcL (xs := iL (clo w m S (P.drop 1))) (fun _ => false) (fun _ => .non) (ev_var rfl) (.of kw) (by rw [iL_len]; omega) (fun _ => rfl) (fun i x H9 e9 hx => ?_) (fun i x H9 e9 hx hf => by cases hf)) (given_none _))) rfl)) (fun h => by cases h) fun _ H9 e9 => ?_
    · obtain ⟨y, hy, rfl⟩ := iL_of hx
      have : y ∈ clo w m S P := clo_mono hPd.nd hP.nd (fun x hx => List.mem_of_mem_drop hx) (List.mem_of_getElem? hy)
      exact et_test (ev_is (ev_niI (ev_var rfl) (ev_var rfl) (e9 _ _ kt8)) (by rw [decide_eq_true this]; rfl))
    have X39 := X38.trans e9
    have kt9 := e9 _ _ kt8
    -- the loop
    refine q_forSL (xs := iL ((S.filter fun x => !decide (x ∈ clo w m S P)).take 2)) (el_is (el_slN (el_is (ys := iL (S.filter fun x => !decide (x ∈ clo w m S P))) (el_lcL (xs := iL S) (fun i => !decide (S.getD i 0 ∈ clo w m S P)) (fun i => .int (S.getD i 0)) (ev_var rfl) (.of (X39 _ _ k3)) (by rw [iL_len]; omega) (fun _ => rfl) (fun i x H10 e10 hx => ?_) (fun i x H10 e10 hx _ => ?_)) (by rw [iL_len]; exact given_filter S _ (fun x => !decide (x ∈ clo w m S P)) fun i x hx => by rw [List.getD_eq_getElem?_getD, hx]; rfl)) eo_none (eo_some ev_c)) (by rw [show (2 : Int) = ((2 : Nat) : Int) from rfl, cut_take, iL_take]))
      (fun i σ => ∃ (y6 y10 y11 : Option V), σ = [some (.ref g), some (.int (w : Int)), some (.ref ps), some (.int (m : Int)), some (.ref pn), some (.int (Amt w m P : Nat)), y6, some (.ref pd), some (.ref pt), some (.ref pw), y10, y11, none]) ⟨none, none, none, rfl⟩ ?_ ?_
    · obtain ⟨y, hy, rfl⟩ := iL_of hx
      rw [List.getD_eq_getElem?_getD, hy]
      exact et_test (ev_niI (ev_var rfl) (ev_var rfl) (e10 _ _ kt9))
    · obtain ⟨y, hy, rfl⟩ := iL_of hx
      rw [List.getD_eq_getElem?_getD, hy]
      exact ev_var rfl
    · rintro i x σ' H10 H0 hx ⟨y6, y10, y11, rfl⟩ e10 e10'
      obtain ⟨p, hp, rfl⟩ := iL_of hx
      have hpm := List.mem_of_mem_take (List.mem_of_getElem? hp)
      rw [List.mem_filter] at hpm
      have hpS := hpm.1
      have hpc : p ∉ clo w m S P := by simpa using hpm.2
      have hble := Bits_le w m P p
      have hlt : Bits w m P p < w := by
        have : ¬ Bits w m P p = w := fun e => hpc (clo_mem.mpr ⟨hpS, e⟩)
        omega
      have Y10 := X39.trans e10
      refine q_untold (ea_cons (ev_var rfl) (ea_cons (ev_var rfl) (ea_cons (ev_var rfl) (ea_cons (ev_var rfl) (ea_cons (ev_var rfl) ea_nil))))) w1 w64 (Y10 _ _ k3) hPl m100 (Y10 _ _ kn) hP hpS (fun he => by omega) fun _ r row H11 hr e11 kr hF => ?_
      have Y11 := Y10.trans e11
      obtain ⟨f, hf, erow⟩ := hF.code
      have hb2 := two_lt hlt
      have hb0 := two_pos (Bits w m P p)
      have row0 : ∀ o, o ∈ P → row.getD (zidx o S) 0 = 0 := fun o ho => by
        rw [erow, rowOf_idx (hP.mem o ho)]
        have := hf.2 (o, 0) (List.mem_append_left _ (List.mem_map.mpr ⟨o, ho, rfl⟩))
        rw [show ev f o - 0 = ev f o by omega] at this
        exact Int.emod_eq_zero_of_dvd this
      have rowp : row.getD (zidx p S) 0 = 2 ^ Bits w m P p := by
        rw [erow, rowOf_idx hpS]
        have h1 := hf.2 (p, 2 ^ Bits w m P p) (List.mem_append_right _ List.mem_cons_self)
        have h2 : ev f p % 2 ^ w = 2 ^ Bits w m P p % 2 ^ w := Int.emod_eq_emod_iff_emod_sub_eq_zero.mpr (Int.emod_eq_zero_of_dvd h1)
        rw [h2, Int.emod_eq_of_lt (by omega) hb2]
      have rat : ∀ o, o ∈ S → row[zidx o S]? = some (row.getD (zidx o S) 0) := fun o ho => by
        have hlt2 := (List.getElem?_eq_some_iff.mp (zidx_at o S ho)).1
        rw [List.getD_eq_getElem?_getD, List.getElem?_eq_getElem (by rw [hF.len]; exact hlt2)]; rfl
      -- the words of near are 0
      refine q_when (b := false) (et_test (ev_is (ev_neNN (l := []) (el_is (el_lcL (xs := iL P) (fun _ => false) (fun _ => .non) (ev_var rfl) (.of (Y11 _ _ kn)) (by rw [iL_len]; omega) (fun _ => rfl) (fun i x H12 e12 hx => ?_) (fun i x H12 e12 hx hf => by cases hf)) (given_none _))) rfl)) (fun h => by cases h) fun _ H12 e12 => ?_
      · obtain ⟨o, ho, rfl⟩ := iL_of hx
        have hoP := List.mem_of_getElem? ho
        exact et_test (ev_is (ev_op (ev_ixI (i := zidx o S) (ev_var rfl) (ev_indexI (ev_var rfl) (ev_var rfl) ((Y11.trans e12) _ _ k3) (hP.mem o hoP)) (e12 _ _ kr) (rat o (hP.mem o hoP))) ev_c (rv_ne rfl)) (by rw [row0 o hoP]; simp))
      have Y12 := Y11.trans e12
      have kr12 := e12 _ _ kr
      -- fits
      have hKz : Kw w S (S.zip row) ∧ ∃ f, Fit w m (S.zip row) f := by
        refine ⟨⟨fun q hq => ?_, by rw [zip_keys hF.len]; exact ok.up, by rw [List.length_zip]; omega⟩, f, hf.1, fun q hq => ?_⟩
        · have := List.of_mem_zip hq
          exact ⟨this.1, hF.bound _ this.2⟩
        · obtain ⟨i, hi⟩ := List.mem_iff_getElem?.mp hq
          obtain ⟨a1, a2⟩ := List.getElem?_zip_eq_some.mp hi
          rw [erow] at a2
          unfold rowOf at a2
          rw [List.getElem?_map, a1] at a2
          have : ev f q.1 % 2 ^ w = q.2 := by simpa using a2
          rw [← this]
          exact Int.dvd_self_sub_emod
      refine q_when (b := false) (et_test (ev_op (ev_fitsK (Pk := fun kv => kv = S.zip row) (ev_var rfl) (ev_var rfl) (ev_var rfl) (ek_zip (ea_cons (ev_var rfl) (ea_cons (ev_var rfl) ea_nil)) (Y12 _ _ k3) kr12 hF.len.symm (by omega)) w1 w64 (Y12 _ _ k3) hPl (fun kv e => by rw [e]; exact hKz)) ev_c rv_notB)) (fun h => by cases h) fun _ H13 e13 => ?_
      have Y13 := Y12.trans e13
      -- top
      refine q_asg (v := .int (2 ^ Bits w m P p)) (ev_call (ea_cons (ev_call (ea_cons (ev_var rfl) (ea_cons (ev_var rfl) (ea_cons (ev_var rfl) (ea_cons (ev_var rfl) (ea_cons (ev_var rfl) ea_nil))))) (sv_bits_told (m := m) w1 w64 (Y13 _ _ k3) hPl (Y13 _ _ kn) hP hpS)) ea_nil) (sv_law_power (by omega))) fun H14 e14 => ?_
      have Y14 := Y13.trans e14
      have kr14 := e14 _ _ (e13 _ _ kr12)
      refine q_when (b := false) (et_test (ev_is (ev_op (ev_ixI (i := zidx p S) (ev_var rfl) (ev_indexI (ev_var rfl) (ev_var rfl) (Y14 _ _ k3) hpS) kr14 (rat p hpS)) (ev_var rfl) (rv_ne rfl)) (by rw [rowp]; simp))) (fun h => by cases h) fun _ H15 e15 => ?_
      have Y15 := Y14.trans e15
      have kr15 := e15 _ _ kr14
      obtain ⟨hkv, hksub⟩ := unk_kv w64 hPl hP hpS hlt
      refine s_when (b := false) (et_test (ev_is (ev_op (ev_aheadK (m := m) (row := row) (ev_var rfl) (ev_var rfl) (ev_var rfl) (ek_sorted (ek_em (em_known (P := P) (p := p) (c := 2 ^ Bits w m P p) (ev_var rfl) (Y15 _ _ kn) (by omega) (fun _ => rfl) (fun y H16 e16 => ev_var rfl) (ev_var rfl) (ev_var rfl)))) (ev_var rfl) w1 w64 (Y15 _ _ k3) hPl m100 kr15 (fun kv ⟨kv0, e, pm, srt⟩ => ?_)) ev_c (rv_ne rfl)) rfl)) (fun h => by cases h) fun _ H16 e16 => ?_
      · subst e
        have pm : kv.Perm (unk w m P p) := pm
        have hkv' := hkv.perm pm
        exact ⟨⟨fun q hq => ⟨hksub _ ((keys_perm pm).mem_iff.mp (List.mem_map.mpr ⟨q, hq, rfl⟩)), hkv'.wd q hq⟩, le_lt srt hkv'.nd, hkv'.len⟩, hF.perm fun q => pm.mem_iff.symm⟩
      · exact ⟨((((e10'.trans e11).trans e12).trans e13).trans e14).trans (e15.trans e16), some (.int p), some (.ref r), some (.int (2 ^ Bits w m P p)), rfl⟩
    · rintro σ' H10 ⟨y6, y10, y11, rfl⟩ e10
      have Y10 := X39.trans e10
      refine s_ret (v := .bl true) (ev_eqNN (l := []) (el_is (el_lcL (xs := iL (clo w m S P)) (fun _ => false) (fun _ => .non) (ev_var rfl) (.of (e10 _ _ kt9)) (by rw [iL_len]; omega) (fun _ => rfl) (fun i x H11 e11 hx => ?_) (fun i x H11 e11 hx hf => by cases hf)) (given_none _))) fun H11 e11 => k H11 (X3.trans (Exg.of (Y10.trans e11)))
      obtain ⟨p, hp, rfl⟩ := iL_of hx
      obtain ⟨hpS, hpB⟩ := clo_mem.mp (List.mem_of_getElem? hp)
      exact et_test (ev_op (ev_call (ea_cons (ev_var rfl) (ea_cons (ev_var rfl) (ea_cons (ev_var rfl) (ea_cons (ev_var rfl) (ea_cons (ev_var rfl) ea_nil))))) (sv_untoldN w1 w64 ((Y10.trans e11) _ _ k3) hPl m100 ((Y10.trans e11) _ _ kn) hP hpS hpB)) ev_c rv_notN)

end Ap


namespace Ap
open PySem PySem.Spec PyProof.Rows L2 Evl SrtO
section
variable {K : PySem.W.Frag} {σ : L2.St} {H H' : Hp} {ta tb te tx tc td tk t1 t2 t3 t4 t5 : TE} {t u : TT} {x y z v : V} {D : Ends} {tu tw tz : TS}
theorem gen_ex {H0 H1 H2 H3 : Hp} {p : Addr} (e1 : Ex H0 H1) (hp : H1 p = none) (e2 : Ex H1 H2) (e3 : Exg p H2 H3) : Ex H0 H3 := fun a o h => by
  have h1 := e1 a o h
  exact e3 a o (fun z => by rw [z, hp] at h1; cases h1) (e2 a o h1)
theorem ev_small {E E2 : XK} {a : Addr} {ns : List Int} {i : Nat} {ta : TA} (h : EvA ta σ H [.ref a, .int (i : Int)]) (hs : SqL K H a (iL ns)) (hl : ns.length ≤ 63) (hi : i ≤ 3) : Ev (tCall (sp_law_small_right K) [] E (tCons (tCall (sp_law_generator K) [] E2 ta) tNil)) σ H (.bl true) := fun H0 e0 Q q =>
  h H0 e0 _ fun H1 e1 => ⟨a, ns, i, rfl, ex_l (e0.trans e1) hs, hl, hi, fun p H2 hp e2 G2 => ⟨p, 4000, rfl, G2, by decide, fun H3 e3 => q H3 (gen_ex e1 hp e2 e3)⟩⟩
theorem ev_great {E E2 : XK} {a : Addr} {ns : List Int} {i : Nat} {ta : TA} (h : EvA ta σ H [.ref a, .int (i : Int)]) (hs : SqL K H a (iL ns)) (hl : ns.length ≤ 63) (hi : i ≤ 3) : Ev (tCall (sp_law_great_right K) [] E (tCons (tCall (sp_law_generator K) [] E2 ta) tNil)) σ H (.bl true) := fun H0 e0 Q q =>
  h H0 e0 _ fun H1 e1 => ⟨a, ns, i, rfl, ex_l (e0.trans e1) hs, hl, hi, fun p H2 hp e2 G2 => ⟨p, 4000, rfl, G2, by decide, fun H3 e3 => q H3 (gen_ex e1 hp e2 e3)⟩⟩
/-- untold(.., a new list, p) -/
theorem el_untL {E : XK} {w m : Nat} {a : Addr} {S P row : List Int} {p : Int} (h1 : Ev t1 σ H (.int (w : Int))) (h2 : Ev t2 σ H (.ref a)) (h3 : Ev t3 σ H (.int (m : Int))) (h4 : EvL t4 σ H (iL P)) (h5 : Ev t5 σ H (.int p)) (hw : 1 ≤ w) (hw2 : w ≤ 64) (hS : H a = some (.lst (iL S))) (hp : Pl w S) (hm : m ≤ 100) (hP : Part S P) (hpS : p ∈ S)
    (hlt : Bits w m P p < w) (hu : ∀ row', First w m S (unk w m P p) row' → row' = row) : EvL (tCall (sp_untold K) [] E (tCons t1 (tCons t2 (tCons t3 (tCons t4 (tCons t5 tNil)))))) σ H (iL row) := fun H0 e0 Q q =>
  h1 H0 e0 _ fun H1 e1 => h2 H1 (e0.trans e1) _ fun H2 e2 => h3 H2 ((e0.trans e1).trans e2) _ fun H3 e3 => h4 H3 (((e0.trans e1).trans e2).trans e3) _ fun b H4 _ e4 k4 => h5 H4 ((((e0.trans e1).trans e2).trans e3).trans e4) _ fun H5 e5 => by
    have X := (((e1.trans e2).trans e3).trans e4).trans e5
    exact ⟨w, a, S, m, b, P, p, rfl, hw, hw2, (e0.trans X) _ _ hS, hp, hm, e5 _ _ k4, hP, hpS, fun he => by omega, fun _ r row' H6 hr e6 k6 hF => by
      rw [hu row' hF] at k6
      exact q r H6 (fresh_back X hr) (X.trans e6) k6⟩
theorem ev_untL {E : XK} {w m : Nat} {a : Addr} {S P : List Int} {p : Int} (h1 : Ev t1 σ H (.int (w : Int))) (h2 : Ev t2 σ H (.ref a)) (h3 : Ev t3 σ H (.int (m : Int))) (h4 : EvL t4 σ H (iL P)) (h5 : Ev t5 σ H (.int p)) (hw : 1 ≤ w) (hw2 : w ≤ 64) (hS : H a = some (.lst (iL S))) (hp : Pl w S) (hm : m ≤ 100) (hP : Part S P) (hpS : p ∈ S)
    (he : Bits w m P p = w) : Ev (tCall (sp_untold K) [] E (tCons t1 (tCons t2 (tCons t3 (tCons t4 (tCons t5 tNil)))))) σ H .non := fun H0 e0 Q q =>
  h1 H0 e0 _ fun H1 e1 => h2 H1 (e0.trans e1) _ fun H2 e2 => h3 H2 ((e0.trans e1).trans e2) _ fun H3 e3 => h4 H3 (((e0.trans e1).trans e2).trans e3) _ fun b H4 _ e4 k4 => h5 H4 ((((e0.trans e1).trans e2).trans e3).trans e4) _ fun H5 e5 => by
    have X := (((e1.trans e2).trans e3).trans e4).trans e5
    exact ⟨w, a, S, m, b, P, p, rfl, hw, hw2, (e0.trans X) _ _ hS, hp, hm, e5 _ _ k4, hP, hpS, fun _ H6 e6 => q H6 (X.trans e6), fun hl => by omega⟩
/-- closure(w, a new list, m, a new list) -/
theorem el_closLL {E : XK} {w m : Nat} {S P : List Int} (h1 : Ev t1 σ H (.int (w : Int))) (h2 : EvL t2 σ H (iL S)) (h3 : Ev t3 σ H (.int (m : Int))) (h4 : EvL t4 σ H (iL P)) (hw : 1 ≤ w) (hw2 : w ≤ 64) (hp : Pl w S) (hP : Part S P) :
    EvL (tCall (sp_closure K) [] E (tCons t1 (tCons t2 (tCons t3 (tCons t4 tNil))))) σ H (iL (clo w m S P)) := fun H0 e0 Q q =>
  h1 H0 e0 _ fun H1 e1 => h2 H1 (e0.trans e1) _ fun a H2 _ e2 k2 => h3 H2 ((e0.trans e1).trans e2) _ fun H3 e3 => h4 H3 (((e0.trans e1).trans e2).trans e3) _ fun b H4 _ e4 k4 => by
    have X := ((e1.trans e2).trans e3).trans e4
    exact ⟨w, a, S, m, b, P, rfl, hw, hw2, (e3.trans e4) _ _ k2, hp, k4, hP, fun p H5 hp' e5 k5 => q p H5 (fresh_back X hp') (X.trans e5) k5⟩
theorem q_lst4 {i : Nat} {xs ys zs : List V} (h1 : EvL ta σ H xs) (h2 : EvL tb σ H ys) (h3 : EvL tc σ H zs) (h4 : Ev td σ H v) (k : ∀ p a b c H1, Ex H H1 → H1 p = some (.lst [.ref a, .ref b, .ref c, v]) → H1 a = some (.lst xs) → H1 b = some (.lst ys) → H1 c = some (.lst zs) → tz D (σ.set i (some (.ref p))) H1) :
    tSeq (tAsg (tLst (tCons ta (tCons tb (tCons tc (tCons td tNil))))) (gName i)) tz D σ H :=
  h1 H (Ex.refl H) _ fun a H1 _ e1 k1 => h2 H1 e1 _ fun b H2 _ e2 k2 => h3 H2 (e1.trans e2) _ fun c H3 _ e3 k3 => h4 H3 ((e1.trans e2).trans e3) _ fun H4 e4 => ⟨sz_of (by show 4 ≤ 100000; decide), fun p hp => by
    have n := Ex.new (o := .lst [.ref a, .ref b, .ref c, v]) hp
    exact k p a b c _ ((((e1.trans e2).trans e3).trans e4).trans n) upd_same (n _ _ (e4 _ _ (e3 _ _ (e2 _ _ k1)))) (n _ _ (e4 _ _ (e3 _ _ k2))) (n _ _ (e4 _ _ k3))⟩
theorem ev_eq4 {p a b c s : Addr} {xs ys zs : List Int} (hx : Ev tx σ H (.ref p)) (hp : H p = some (.lst [.ref a, .ref b, .ref c, .non])) (ha : H a = some (.lst (iL xs))) (hb : H b = some (.lst (iL ys))) (hc : H c = some (.lst (iL zs))) (h1 : EvL t1 σ H (iL xs)) (h2 : Ev t2 σ H (.ref s)) (hs : H s = some (.lst (iL ys))) (h3 : EvL t3 σ H (iL zs)) :
    Ev (tOp (rEqD K) tx (tLst (tCons t1 (tCons t2 (tCons t3 (tCons (tC .non) tNil)))))) σ H (.bl true) := fun H0 e0 Q q =>
  hx H0 e0 _ fun H1 e1 => h1 H1 (e0.trans e1) _ fun a' H2 _ e2 k1 => h2 H2 ((e0.trans e1).trans e2) _ fun H3 e3 => h3 H3 (((e0.trans e1).trans e2).trans e3) _ fun c' H4 _ e4 k4 => ⟨sz_of (by show 4 ≤ 100000; decide), fun r hr => by
    have n := Ex.new (o := .lst [.ref a', .ref s, .ref c', .non]) hr
    have X := ((e1.trans e2).trans e3).trans e4
    have Y := (e0.trans X).trans n
    have sh : SeqAt.shaped (.list [.list (xs.map PyData.int), .list (ys.map PyData.int), .list (zs.map PyData.int), .none]) = true := by
      unfold SeqAt.shaped
      simp [PyData.canLay0, PyData.canLayAll0, lay_all, PyData.depth, PyData.depthAll, dep_all]
    refine ⟨_, _, .lst (.of (Y _ _ hp)) (.cons (.lst (.of (Y _ _ ha)) (dp_iL xs)) (.cons (.lst (.of (Y _ _ hb)) (dp_iL ys)) (.cons (.lst (.of (Y _ _ hc)) (dp_iL zs)) (.cons .non .nil)))), .lst (.of upd_same) (.cons (.lst (.of (n _ _ (e4 _ _ (e3 _ _ k1)))) (dp_iL xs)) (.cons (.lst (.of (Y _ _ hs)) (dp_iL ys)) (.cons (.lst (.of (n _ _ k4)) (dp_iL zs)) (.cons .non .nil)))), sh, sh, ?_⟩
    rw [show PyData.eqv (.list [.list (xs.map PyData.int), .list (ys.map PyData.int), .list (zs.map PyData.int), .none]) (.list [.list (xs.map PyData.int), .list (ys.map PyData.int), .list (zs.map PyData.int), .none]) = true by simp [PyData.eqv, PyData.eqvAll, eqv_all]]
    exact q _ (X.trans n)⟩
end
/-! ### the four known answers -/
def S5 : List Int := [0, 1, 2, 4, 5]
theorem s5_pl : Pl 3 S5 := ⟨by decide, by decide, by decide, by decide⟩
theorem s5_p1 : Part S5 [0, 2, 4] := ⟨by decide, by decide, by decide⟩
theorem s5_p2 : Part S5 [0, 1, 2] := ⟨by decide, by decide, by decide⟩
theorem s5_p3 : Part S5 [0, 1] := ⟨by decide, by decide, by decide⟩
theorem s5_c1 : clo 3 3 S5 [0, 2, 4] = [0, 2, 4] := by decide +kernel
theorem s5_c2 : clo 3 3 S5 [0, 1, 2] = S5 := by decide +kernel
theorem s5_b1 : Bits 3 3 [0, 1] 4 = 2 := by decide +kernel
theorem s5_b2 : Bits 3 3 [0, 1] 1 = 3 := by decide +kernel
theorem s5_row {row : List Int} (h : First 3 3 S5 (unk 3 3 [0, 1] 4) row) : row = [0, 0, 2, 4, 4] := by
  have hk : unk 3 3 [0, 1] 4 = [(0, 0), (1, 0), (4, 4)] := by
    unfold unk
    rw [s5_b1]; rfl
  rw [hk] at h
  obtain ⟨f, hf, er⟩ := h.code
  have hg : Fit 3 3 [(0, 0), (1, 0), (4, 4)] [0, -1, 1] := ⟨by decide, by decide⟩
  have f0 := hf.2 (0, 0) (by decide)
  have f1 := hf.2 (1, 0) (by decide)
  have f4 := hf.2 (4, 4) (by decide)
  have vals : ev f 0 % 8 = 0 ∧ ev f 1 % 8 = 0 ∧ 2 ≤ ev f 2 % 8 ∧ ev f 4 % 8 = 4 ∧ ev f 5 % 8 = 4 := by
    have hl := hf.1
    match f, hl with
    | [], _ => simp only [ev] at *; omega
    | [a], _ => simp only [ev] at *; omega
    | [a, b], _ => simp only [ev] at *; omega
    | [a, b, c], _ => simp only [ev] at *; omega
    | _ :: _ :: _ :: _ :: _, hl => simp at hl
  obtain ⟨v0, v1, v2, v4, v5⟩ := vals
  have fin : rowOf 3 S5 [0, -1, 1] = [0, 0, 2, 4, 4] := by decide
  rcases h.least f [0, -1, 1] hf er hg with e | ⟨k, _, a, hk, hlt⟩
  · rw [er, e, fin]
  · exfalso
    have ha : a ∈ S5 := List.mem_of_getElem? hk
    have h8 : ((2 : Int) ^ 3) = 8 := by decide
    rw [h8] at hlt
    have e0 : ev [0, -1, 1] 0 % 8 = 0 := by decide
    have e1 : ev [0, -1, 1] 1 % 8 = 0 := by decide
    have e2 : ev [0, -1, 1] 2 % 8 = 2 := by decide
    have e4 : ev [0, -1, 1] 4 % 8 = 4 := by decide
    have e5 : ev [0, -1, 1] 5 % 8 = 4 := by decide
    unfold S5 at ha
    simp only [List.mem_cons, List.not_mem_nil, or_false] at ha
    rcases ha with rfl | rfl | rfl | rfl | rfl <;> omega
theorem t9_pl : Pl 64 [3, 9] := ⟨by decide, by decide, by decide, by decide⟩
theorem t9_p : Part [3, 9] [] := ⟨fun x hx => (List.not_mem_nil hx).elim, .nil, by decide⟩
theorem t9_c : clo 64 0 [3, 9] [] = [3, 9] := by decide +kernel
/-! ### the law -/
def sp_law (K : PySem.W.Frag) : Sp := fun vs H Q _ => ∃ (a : Addr) (ns : List Int), vs = [.ref a] ∧ SqL K H a (iL ns) ∧ ns.length ≤ 63 ∧ ∀ H', Q (.bl true) H'
theorem sc_law : FnScope ["_law_script", "_law_index", "_law_spots_here", "_law_told"] ["_law_script"] (defScope sLaw) := ⟨rfl, rfl, rfl, by decide +kernel, rfl, by decide +kernel, by decide +kernel⟩
theorem ok_law {P : Program} {w : World} {K : PySem.W.Frag} {mg : Str → Option Value} {base : Heap} {f : Addr} {fd : FuncData} (T : Txt K mg) (F : FnP K "law" sLaw f fd) : FnG P w K mg base 10 f fd ["_law_script"] (sp_law K) := by
  refine fnG_of F sc_law (fun vs H Q E h => ?_) (fun cdv A outer s H vs Q E hgd hr h => ?_)
  · obtain ⟨a, ns, rfl, hs, hl, k⟩ := h
    rfl
  · have hr : Room 9 _ := hr
    have h_closure := has_closure (P := P) (w := w) (base := base) T
    have h_untold := has_untold (P := P) (w := w) (base := base) T
    have h_law_great_right := has_law_great_right (P := P) (w := w) (base := base) T
    have h_law_generator := has_law_generator (P := P) (w := w) (base := base) T
    have h_law_small_right := has_law_small_right (P := P) (w := w) (base := base) T
    obtain ⟨a, ns, rfl, hs, hl, k⟩ := h
    refine ⟨(tSeq (tFor (iRng1 (tCons (tC _) tNil)) (gName 1) (tIfS (tNot (tB (tCall _ [] E0 (tCons (tCall _ [] E0 (tCons (tVar 0) (tCons (tVar 1) tNil))) tNil)))) (tRet (tC _)) tNext))
      (tSeq (tIfS (tNot (tB (tCall _ [] E0 (tCons (tCall _ [] E0 (tCons (tVar 0) (tCons (tC _) tNil))) tNil)))) (tRet (tC _)) tNext)
      (tSeq (tAsg (tLst (tCons (tC _) (tCons (tC _) (tCons (tC _) (tCons (tC _) (tCons (tC _) tNil)))))) (gName 2))
      (tSeq (tAsg (tLst (tCons (tCall _ [] E0 (tCons (tC _) (tCons (tVar 2) (tCons (tC _) (tCons (tLst (tCons (tC _) (tCons (tC _) (tCons (tC _) tNil)))) tNil))))) (tCons (tCall _ [] E0 (tCons (tC _) (tCons (tVar 2) (tCons (tC _) (tCons (tLst (tCons (tC _) (tCons (tC _) (tCons (tC _) tNil)))) tNil))))) (tCons (tCall _ [] E0 (tCons (tC _) (tCons (tVar 2) (tCons (tC _) (tCons (tLst (tCons (tC _) (tCons (tC _) tNil))) (tCons (tC _) tNil)))))) (tCons (tCall _ [] E0 (tCons (tC _) (tCons (tVar 2) (tCons (tC _) (tCons (tLst (tCons (tC _) (tCons (tC _) tNil))) (tCons (tC _) tNil)))))) tNil))))) (gName 3))
      (tRet (tAndV (tOp (rEqD K) (tVar 3) (tLst (tCons (tLst (tCons (tC _) (tCons (tC _) (tCons (tC _) tNil)))) (tCons (tVar 2) (tCons (tLst (tCons (tC _) (tCons (tC _) (tCons (tC _) (tCons (tC _) (tCons (tC _) tNil)))))) (tCons (tC _) tNil)))))) (tOp (rEqD K) (tCall _ [] E0 (tCons (tC _) (tCons (tLst (tCons (tC _) (tCons (tC _) tNil))) (tCons (tC _) (tCons (tLst tNil) tNil))))) (tLst (tCons (tC _) (tCons (tC _) tNil)))))))))), PSs.nox (pss_cons (ps_for PassesOwn.never (by rfl) (pi_range1 (by rfl) T.z_range (pa_cons pe_int pa_nil)) (pg_name (i := 1) sc_law.nd rfl (Or.inl rfl)) (pss_one (ps_if (pt_not (pt_val (pe_hasG h_law_small_right hgd (hr.mono (by decide)) (pa_cons (pe_has h_law_generator (hr.mono (by decide)) (pa_cons (pv 0) (pa_cons (pv 1) pa_nil))) pa_nil)))) (pss_one (ps_ret pe_bl)) pss_nil)))
    (pss_cons (ps_if (pt_not (pt_val (pe_hasG h_law_great_right hgd (hr.mono (by decide)) (pa_cons (pe_has h_law_generator (hr.mono (by decide)) (pa_cons (pv 0) (pa_cons pe_int pa_nil))) pa_nil)))) (pss_one (ps_ret pe_bl)) pss_nil)
    (pss_cons (ps_set (i := 2) sc_law.nd rfl (Or.inl rfl) (pe_lst (pa_cons pe_int (pa_cons pe_int (pa_cons pe_int (pa_cons pe_int (pa_cons pe_int pa_nil)))))))
    (pss_cons (ps_set (i := 3) sc_law.nd rfl (Or.inl rfl) (pe_lst (pa_cons (pe_has h_closure (hr.mono (by decide)) (pa_cons pe_int (pa_cons (pv 2) (pa_cons pe_int (pa_cons (pe_lst (pa_cons pe_int (pa_cons pe_int (pa_cons pe_int pa_nil)))) pa_nil))))) (pa_cons (pe_has h_closure (hr.mono (by decide)) (pa_cons pe_int (pa_cons (pv 2) (pa_cons pe_int (pa_cons (pe_lst (pa_cons pe_int (pa_cons pe_int (pa_cons pe_int pa_nil)))) pa_nil))))) (pa_cons (pe_has h_untold (hr.mono (by decide)) (pa_cons pe_int (pa_cons (pv 2) (pa_cons pe_int (pa_cons (pe_lst (pa_cons pe_int (pa_cons pe_int pa_nil))) (pa_cons pe_int pa_nil)))))) (pa_cons (pe_has h_untold (hr.mono (by decide)) (pa_cons pe_int (pa_cons (pv 2) (pa_cons pe_int (pa_cons (pe_lst (pa_cons pe_int (pa_cons pe_int pa_nil))) (pa_cons pe_int pa_nil)))))) pa_nil))))))
    (pss_one (ps_ret (pe_and (pe_cmpR (op_eqD hr.units) (pv 3) (pe_lst (pa_cons (pe_lst (pa_cons pe_int (pa_cons pe_int (pa_cons pe_int pa_nil)))) (pa_cons (pv 2) (pa_cons (pe_lst (pa_cons pe_int (pa_cons pe_int (pa_cons pe_int (pa_cons pe_int (pa_cons pe_int pa_nil)))))) (pa_cons pe_non pa_nil))))) (nomark _)) (pe_one (pe_cmpR (op_eqD hr.units) (pe_has h_closure (hr.mono (by decide)) (pa_cons pe_int (pa_cons (pe_lst (pa_cons pe_int (pa_cons pe_int pa_nil))) (pa_cons pe_int (pa_cons (pe_lst pa_nil) pa_nil))))) (pe_lst (pa_cons pe_int (pa_cons pe_int pa_nil))) (nomark _)))))))))), ?_⟩
    refine q_forR1 (n := 3) (ea_cons ev_c ea_nil) ⟨by decide, by decide⟩ (fun i σ' H' => ∃ y1, σ' = [some (.ref a), y1, none, none] ∧ Ex H H') (fun H1 e1 => ⟨none, rfl, e1⟩) ?_ ?_
    · rintro i σ' H1 hi ⟨y1, rfl, e1⟩
      exact s_when (b := false) (et_not (a := true) (et_B (ev_small (ea_cons (ev_var rfl) (ea_cons (ev_var rfl) ea_nil)) (ex_l e1 hs) hl (by omega)))) (fun h => by cases h) fun _ H2 e2 => ⟨_, rfl, e1.trans e2⟩
    rintro σ' H1 ⟨y1, rfl, e1⟩
    refine q_when (b := false) (et_not (a := true) (et_B (ev_great (i := 3) (ea_cons (ev_var rfl) (ea_cons ev_c ea_nil)) (ex_l e1 hs) hl (by decide)))) (fun h => by cases h) fun _ H2 e2 => ?_
    refine q_asgL (xs := iL S5) (el_lst (ea_cons ev_c (ea_cons ev_c (ea_cons ev_c (ea_cons ev_c (ea_cons ev_c ea_nil))))) (by show 5 ≤ 100000; decide)) fun ps H3 hps e3 ks => ?_
    refine q_lst4 (xs := iL [0, 2, 4]) (ys := iL S5) (zs := iL [0, 0, 2, 4, 4]) (v := .non)
      (el_is (el_closL (w := 3) (m := 3) (P := [0, 2, 4]) ev_c (ev_var rfl) ev_c (el_lst (vs := iL [0, 2, 4]) (ea_cons ev_c (ea_cons ev_c (ea_cons ev_c ea_nil))) (by show 3 ≤ 100000; decide)) (by decide) (by decide) ks s5_pl s5_p1) (by rw [s5_c1]))
      (el_is (el_closL (w := 3) (m := 3) (P := [0, 1, 2]) ev_c (ev_var rfl) ev_c (el_lst (vs := iL [0, 1, 2]) (ea_cons ev_c (ea_cons ev_c (ea_cons ev_c ea_nil))) (by show 3 ≤ 100000; decide)) (by decide) (by decide) ks s5_pl s5_p2) (by rw [s5_c2]))
      (el_untL (w := 3) (m := 3) (P := [0, 1]) (p := 4) ev_c (ev_var rfl) ev_c (el_lst (vs := iL [0, 1]) (ea_cons ev_c (ea_cons ev_c ea_nil)) (by show 2 ≤ 100000; decide)) ev_c (by decide) (by decide) ks s5_pl (by decide) s5_p3 (by decide) (by rw [s5_b1]; decide) (fun row' hF => s5_row hF))
      (ev_untL (w := 3) (m := 3) (P := [0, 1]) (p := 1) ev_c (ev_var rfl) ev_c (el_lst (vs := iL [0, 1]) (ea_cons ev_c (ea_cons ev_c ea_nil)) (by show 2 ≤ 100000; decide)) ev_c (by decide) (by decide) ks s5_pl (by decide) s5_p3 (by decide) s5_b2) fun pt a1 a2 a3 H4 e4 kt k1 k2 k3 => ?_
    have ks4 := e4 _ _ ks
    refine s_ret (v := .bl true) (ev_andV (a := true) (b := true) (ev_eq4 (xs := [0, 2, 4]) (ys := S5) (zs := [0, 0, 2, 4, 4]) (ev_var rfl) kt k1 k2 k3 (el_lst (vs := iL [0, 2, 4]) (ea_cons ev_c (ea_cons ev_c (ea_cons ev_c ea_nil))) (by show 3 ≤ 100000; decide)) (ev_var rfl) ks4 (el_lst (vs := iL [0, 0, 2, 4, 4]) (ea_cons ev_c (ea_cons ev_c (ea_cons ev_c (ea_cons ev_c (ea_cons ev_c ea_nil))))) (by show 5 ≤ 100000; decide))) (fun _ => ?_)) fun H5 _ => k H5
    exact ev_is (ev_opLL (xs := iL [3, 9]) (ys := iL [3, 9]) (el_is (el_closLL (w := 64) (m := 0) (S := [3, 9]) (P := []) ev_c (el_lst (vs := iL [3, 9]) (ea_cons ev_c (ea_cons ev_c ea_nil)) (by show 2 ≤ 100000; decide)) ev_c el_nil (by decide) (by decide) t9_pl t9_p) (by rw [t9_c])) (el_lst (vs := iL [3, 9]) (ea_cons ev_c (ea_cons ev_c ea_nil)) (by show 2 ≤ 100000; decide)) fun p q H6 hp hq e6 => rv_eqL hp hq) (by simp)

end Ap


namespace Ap
open PySem PySem.Spec PyProof.Rows L2
def d_is_whole : He.DefD := ⟨("is_whole", none), "is_whole", "is_whole", defArgs sIsWhole, defBody sIsWhole, defScope sIsWhole, [], []⟩
def d_is_between : He.DefD := ⟨("is_between", none), "is_between", "is_between", defArgs sIsBetween, defBody sIsBetween, defScope sIsBetween, [], []⟩
def d_check_number : He.DefD := ⟨("check_number", none), "check_number", "check_number", defArgs sCheckNumber, defBody sCheckNumber, defScope sCheckNumber, [], []⟩
def d_power_of_two : He.DefD := ⟨("power_of_two", none), "power_of_two", "power_of_two", defArgs sPowerOfTwo, defBody sPowerOfTwo, defScope sPowerOfTwo, [], []⟩
def d_twos : He.DefD := ⟨("twos", none), "twos", "twos", defArgs sTwos, defBody sTwos, defScope sTwos, [], []⟩
def d_good_row : He.DefD := ⟨("good_row", none), "good_row", "good_row", defArgs sGoodRow, defBody sGoodRow, defScope sGoodRow, [], []⟩
def d_is_width : He.DefD := ⟨("is_width", none), "is_width", "is_width", defArgs sIsWidth, defBody sIsWidth, defScope sIsWidth, [], []⟩
def d_check_width : He.DefD := ⟨("check_width", none), "check_width", "check_width", defArgs sCheckWidth, defBody sCheckWidth, defScope sCheckWidth, [], []⟩
def d_is_of_width : He.DefD := ⟨("is_of_width", none), "is_of_width", "is_of_width", defArgs sIsOfWidth, defBody sIsOfWidth, defScope sIsOfWidth, [], []⟩
def d_rises : He.DefD := ⟨("rises", none), "rises", "rises", defArgs sRises, defBody sRises, defScope sRises, [], []⟩
def d_are_places : He.DefD := ⟨("are_places", none), "are_places", "are_places", defArgs sArePlaces, defBody sArePlaces, defScope sArePlaces, [], []⟩
def d_check_places : He.DefD := ⟨("check_places", none), "check_places", "check_places", defArgs sCheckPlaces, defBody sCheckPlaces, defScope sCheckPlaces, [], []⟩
def d_are_words : He.DefD := ⟨("are_words", none), "are_words", "are_words", defArgs sAreWords, defBody sAreWords, defScope sAreWords, [], []⟩
def d_check_words : He.DefD := ⟨("check_words", none), "check_words", "check_words", defArgs sCheckWords, defBody sCheckWords, defScope sCheckWords, [], []⟩
def d_is_known_item : He.DefD := ⟨("is_known_item", none), "is_known_item", "is_known_item", defArgs sIsKnownItem, defBody sIsKnownItem, defScope sIsKnownItem, [], []⟩
def d_are_known : He.DefD := ⟨("are_known", none), "are_known", "are_known", defArgs sAreKnown, defBody sAreKnown, defScope sAreKnown, [], []⟩
def d_check_known : He.DefD := ⟨("check_known", none), "check_known", "check_known", defArgs sCheckKnown, defBody sCheckKnown, defScope sCheckKnown, [], []⟩
def d_check_code : He.DefD := ⟨("check_code", none), "check_code", "check_code", defArgs sCheckCode, defBody sCheckCode, defScope sCheckCode, [], []⟩
def d_amount : He.DefD := ⟨("amount", none), "amount", "amount", defArgs sAmount, defBody sAmount, defScope sAmount, [], []⟩
def d_bits_at : He.DefD := ⟨("bits_at", none), "bits_at", "bits_at", defArgs sBitsAt, defBody sBitsAt, defScope sBitsAt, [], []⟩
def d_word_of : He.DefD := ⟨("word_of", none), "word_of", "word_of", defArgs sWordOf, defBody sWordOf, defScope sWordOf, [], []⟩
def d_inverse : He.DefD := ⟨("inverse", none), "inverse", "inverse", defArgs sInverse, defBody sInverse, defScope sInverse, [], []⟩
def d_item_of : He.DefD := ⟨("item_of", none), "item_of", "item_of", defArgs sItemOf, defBody sItemOf, defScope sItemOf, [], []⟩
def d_based : He.DefD := ⟨("based", none), "based", "based", defArgs sBased, defBody sBased, defScope sBased, [], []⟩
def d_is_fit : He.DefD := ⟨("is_fit", none), "is_fit", "is_fit", defArgs sIsFit, defBody sIsFit, defScope sIsFit, [], []⟩
def d_many_fit : He.DefD := ⟨("many_fit", none), "many_fit", "many_fit", defArgs sManyFit, defBody sManyFit, defScope sManyFit, [], []⟩
def d_fits : He.DefD := ⟨("fits", none), "fits", "fits", defArgs sFits, defBody sFits, defScope sFits, [], []⟩
def d_word_possible : He.DefD := ⟨("word_possible", none), "word_possible", "word_possible", defArgs sWordPossible, defBody sWordPossible, defScope sWordPossible, [], []⟩
def d_numbered : He.DefD := ⟨("numbered", none), "numbered", "numbered", defArgs sNumbered, defBody sNumbered, defScope sNumbered, [], []⟩
def d_how_many_ahead : He.DefD := ⟨("how_many_ahead", none), "how_many_ahead", "how_many_ahead", defArgs sHowManyAhead, defBody sHowManyAhead, defScope sHowManyAhead, [], []⟩
def d_check_part : He.DefD := ⟨("check_part", none), "check_part", "check_part", defArgs sCheckPart, defBody sCheckPart, defScope sCheckPart, [], []⟩
def d_check_place : He.DefD := ⟨("check_place", none), "check_place", "check_place", defArgs sCheckPlace, defBody sCheckPlace, defScope sCheckPlace, [], []⟩
def d_bits_list : He.DefD := ⟨("bits_list", none), "bits_list", "bits_list", defArgs sBitsList, defBody sBitsList, defScope sBitsList, [], []⟩
def d_told_bits : He.DefD := ⟨("told_bits", none), "told_bits", "told_bits", defArgs sToldBits, defBody sToldBits, defScope sToldBits, [], []⟩
def d_bits_told : He.DefD := ⟨("bits_told", none), "bits_told", "bits_told", defArgs sBitsTold, defBody sBitsTold, defScope sBitsTold, [], []⟩
def d_closure : He.DefD := ⟨("closure", none), "closure", "closure", defArgs sClosure, defBody sClosure, defScope sClosure, [], []⟩
def d_untold : He.DefD := ⟨("untold", none), "untold", "untold", defArgs sUntold, defBody sUntold, defScope sUntold, [], []⟩
def d_law_hash : He.DefD := ⟨("_law_hash", none), "_law_hash", "_law_hash", defArgs sLawHash, defBody sLawHash, defScope sLawHash, [], []⟩
def d_law_random : He.DefD := ⟨("_law_random", none), "_law_random", "_law_random", defArgs sLawRandom, defBody sLawRandom, defScope sLawRandom, [], []⟩
def d_law_cell : He.DefD := ⟨("_law_cell", none), "_law_cell", "_law_cell", defArgs sLawCell, defBody sLawCell, defScope sLawCell, [], []⟩
def d_law_generator : He.DefD := ⟨("_law_generator", none), "_law_generator", "_law_generator", defArgs sLawGenerator, defBody sLawGenerator, defScope sLawGenerator, [], []⟩
def d_law_twos : He.DefD := ⟨("_law_twos", none), "_law_twos", "_law_twos", defArgs sLawTwos, defBody sLawTwos, defScope sLawTwos, [], []⟩
def d_law_spots : He.DefD := ⟨("_law_spots", none), "_law_spots", "_law_spots", defArgs sLawSpots, defBody sLawSpots, defScope sLawSpots, [], []⟩
def d_law_order : He.DefD := ⟨("_law_order", none), "_law_order", "_law_order", defArgs sLawOrder, defBody sLawOrder, defScope sLawOrder, [], []⟩
def d_law_amount : He.DefD := ⟨("_law_amount", none), "_law_amount", "_law_amount", defArgs sLawAmount, defBody sLawAmount, defScope sLawAmount, [], []⟩
def d_law_power : He.DefD := ⟨("_law_power", none), "_law_power", "_law_power", defArgs sLawPower, defBody sLawPower, defScope sLawPower, [], []⟩
def d_law_some : He.DefD := ⟨("_law_some", none), "_law_some", "_law_some", defArgs sLawSome, defBody sLawSome, defScope sLawSome, [], []⟩
def d_law_all : He.DefD := ⟨("_law_all", none), "_law_all", "_law_all", defArgs sLawAll, defBody sLawAll, defScope sLawAll, [], []⟩
def d_law_fitting : He.DefD := ⟨("_law_fitting", none), "_law_fitting", "_law_fitting", defArgs sLawFitting, defBody sLawFitting, defScope sLawFitting, [], []⟩
def d_law_small : He.DefD := ⟨("_law_small", none), "_law_small", "_law_small", defArgs sLawSmall, defBody sLawSmall, defScope sLawSmall, [], []⟩
def d_law_untold_due : He.DefD := ⟨("_law_untold_due", none), "_law_untold_due", "_law_untold_due", defArgs sLawUntoldDue, defBody sLawUntoldDue, defScope sLawUntoldDue, [], []⟩
def d_law_small_right : He.DefD := ⟨("_law_small_right", none), "_law_small_right", "_law_small_right", defArgs sLawSmallRight, defBody sLawSmallRight, defScope sLawSmallRight, [], []⟩
def d_law_great_right : He.DefD := ⟨("_law_great_right", none), "_law_great_right", "_law_great_right", defArgs sLawGreatRight, defBody sLawGreatRight, defScope sLawGreatRight, [], []⟩
def d_law : He.DefD := ⟨("law", none), "law", "law", defArgs sLaw, defBody sLaw, defScope sLaw, [], []⟩
def fnA : List He.DefD := [d_is_whole, d_is_between, d_check_number, d_power_of_two, d_twos, d_good_row, d_is_width, d_check_width, d_is_of_width, d_rises, d_are_places, d_check_places, d_are_words, d_check_words, d_is_known_item, d_are_known, d_check_known, d_check_code, d_amount, d_bits_at, d_word_of, d_inverse, d_item_of, d_based, d_is_fit, d_many_fit, d_fits, d_word_possible, d_numbered, d_how_many_ahead]
def fnB : List He.DefD := [d_check_part, d_check_place, d_bits_list, d_told_bits, d_bits_told, d_closure, d_untold, d_law_hash, d_law_random, d_law_cell, d_law_generator, d_law_twos, d_law_spots, d_law_order, d_law_amount, d_law_power, d_law_some, d_law_all, d_law_fitting, d_law_small, d_law_untold_due, d_law_small_right, d_law_great_right, d_law]
def fn : List He.DefD := fnA ++ fnB
def faA : List He.Fa := [.glo "is_whole", .glo "is_between", .glo "check_number", .glo "power_of_two", .glo "twos", .glo "good_row", .glo "is_width", .glo "check_width", .glo "is_of_width", .glo "rises", .glo "are_places", .glo "check_places", .glo "are_words", .glo "check_words", .glo "is_known_item", .glo "are_known", .glo "check_known", .glo "check_code", .glo "amount", .glo "bits_at", .glo "word_of", .glo "inverse", .glo "item_of", .glo "based", .glo "is_fit", .glo "many_fit", .glo "fits", .glo "word_possible", .glo "numbered", .glo "how_many_ahead"]
def faB : List He.Fa := [.glo "check_part", .glo "check_place", .glo "bits_list", .glo "told_bits", .glo "bits_told", .glo "closure", .glo "untold", .glo "_law_hash", .glo "_law_random", .glo "_law_cell", .glo "_law_generator", .glo "_law_twos", .glo "_law_spots", .glo "_law_order", .glo "_law_amount", .glo "_law_power", .glo "_law_some", .glo "_law_all", .glo "_law_fitting", .glo "_law_small", .glo "_law_untold_due", .glo "_law_small_right", .glo "_law_great_right", .glo "law"]
def faC : List He.Fa := [.free "isinstance", .free "int", .free "bool", .free "list", .free "tuple", .free "len", .free "range", .free "zip", .free "sum", .free "max", .free "min", .free "dict", .free "enumerate", .free "sorted", .free "repr", .int "MOST_WIDTH" 64]
def fa : List He.Fa := faA ++ faB ++ faC
abbrev R : PySem.W.OpenRow := PySem.W.OpenLaw.row PySem.Challenge.rw_anyplaces_k31_whole_closures
abbrev hk : PySem.W.Hook := He.hookD 4 fa fn
def ob (s : PySem.W.SharedT) : He.AlD := He.obsDG 4 fa fn (HandSHeadRun.getT s)
theorem ob_eq (s : PySem.W.SharedT) : ob s = hk.obs s.abs := He.obsDG_eq (HandSHeadRun.getT_eq s)
def lnA : List Str := [("CodeError" : Str), ("InvalidNumber" : Str), ("InvalidWidth" : Str), ("InvalidWords" : Str), ("InvalidPlaces" : Str), ("InvalidKnown" : Str), ("Unfit" : Str), ("MOST_WIDTH" : Str), ("is_whole" : Str), ("is_between" : Str), ("check_number" : Str), ("power_of_two" : Str), ("twos" : Str), ("good_row" : Str), ("is_width" : Str), ("check_width" : Str), ("is_of_width" : Str), ("rises" : Str), ("are_places" : Str), ("check_places" : Str), ("are_words" : Str), ("check_words" : Str), ("is_known_item" : Str), ("are_known" : Str), ("check_known" : Str), ("check_code" : Str), ("amount" : Str), ("bits_at" : Str), ("word_of" : Str), ("inverse" : Str), ("item_of" : Str), ("based" : Str), ("is_fit" : Str), ("many_fit" : Str), ("fits" : Str)]
def lnB : List Str := [("word_possible" : Str), ("numbered" : Str), ("how_many_ahead" : Str), ("check_part" : Str), ("check_place" : Str), ("bits_list" : Str), ("told_bits" : Str), ("bits_told" : Str), ("closure" : Str), ("untold" : Str), ("_law_hash" : Str), ("_law_random" : Str), ("_law_cell" : Str), ("_law_generator" : Str), ("_law_twos" : Str), ("_law_spots" : Str), ("_law_order" : Str), ("_law_amount" : Str), ("_law_power" : Str), ("_law_some" : Str), ("_law_all" : Str), ("_law_fitting" : Str), ("_law_small" : Str), ("_law_pairs" : Str), ("_law_untold_due" : Str), ("_law_small_right" : Str), ("_law_great_right" : Str)]
def loose : List Str := lnA ++ lnB
theorem run (w : World) : HandSHeadRun.RunEq R (PySem.W.view R.prog [68]) hk ob 6000 loose w := by
  intro os
  kernel_rfl
theorem txt_of {K : PySem.W.Frag} {h : Heap} {mg : Str → Option Value} (X : K.In h) (G : h.Ns mainGlobals mg) (c : He.SaysD fa fn K) : Txt K mg where
  dIsWhole := c.def_ 0 (d := d_is_whole) rfl
  dIsBetween := c.def_ 1 (d := d_is_between) rfl
  dCheckNumber := c.def_ 2 (d := d_check_number) rfl
  dPowerOfTwo := c.def_ 3 (d := d_power_of_two) rfl
  dTwos := c.def_ 4 (d := d_twos) rfl
  dGoodRow := c.def_ 5 (d := d_good_row) rfl
  dIsWidth := c.def_ 6 (d := d_is_width) rfl
  dCheckWidth := c.def_ 7 (d := d_check_width) rfl
  dIsOfWidth := c.def_ 8 (d := d_is_of_width) rfl
  dRises := c.def_ 9 (d := d_rises) rfl
  dArePlaces := c.def_ 10 (d := d_are_places) rfl
  dCheckPlaces := c.def_ 11 (d := d_check_places) rfl
  dAreWords := c.def_ 12 (d := d_are_words) rfl
  dCheckWords := c.def_ 13 (d := d_check_words) rfl
  dIsKnownItem := c.def_ 14 (d := d_is_known_item) rfl
  dAreKnown := c.def_ 15 (d := d_are_known) rfl
  dCheckKnown := c.def_ 16 (d := d_check_known) rfl
  dCheckCode := c.def_ 17 (d := d_check_code) rfl
  dAmount := c.def_ 18 (d := d_amount) rfl
  dBitsAt := c.def_ 19 (d := d_bits_at) rfl
  dWordOf := c.def_ 20 (d := d_word_of) rfl
  dInverse := c.def_ 21 (d := d_inverse) rfl
  dItemOf := c.def_ 22 (d := d_item_of) rfl
  dBased := c.def_ 23 (d := d_based) rfl
  dIsFit := c.def_ 24 (d := d_is_fit) rfl
  dManyFit := c.def_ 25 (d := d_many_fit) rfl
  dFits := c.def_ 26 (d := d_fits) rfl
  dWordPossible := c.def_ 27 (d := d_word_possible) rfl
  dNumbered := c.def_ 28 (d := d_numbered) rfl
  dHowManyAhead := c.def_ 29 (d := d_how_many_ahead) rfl
  dCheckPart := c.def_ 30 (d := d_check_part) rfl
  dCheckPlace := c.def_ 31 (d := d_check_place) rfl
  dBitsList := c.def_ 32 (d := d_bits_list) rfl
  dToldBits := c.def_ 33 (d := d_told_bits) rfl
  dBitsTold := c.def_ 34 (d := d_bits_told) rfl
  dClosure := c.def_ 35 (d := d_closure) rfl
  dUntold := c.def_ 36 (d := d_untold) rfl
  dLawHash := c.def_ 37 (d := d_law_hash) rfl
  dLawRandom := c.def_ 38 (d := d_law_random) rfl
  dLawCell := c.def_ 39 (d := d_law_cell) rfl
  dLawGenerator := c.def_ 40 (d := d_law_generator) rfl
  dLawTwos := c.def_ 41 (d := d_law_twos) rfl
  dLawSpots := c.def_ 42 (d := d_law_spots) rfl
  dLawOrder := c.def_ 43 (d := d_law_order) rfl
  dLawAmount := c.def_ 44 (d := d_law_amount) rfl
  dLawPower := c.def_ 45 (d := d_law_power) rfl
  dLawSome := c.def_ 46 (d := d_law_some) rfl
  dLawAll := c.def_ 47 (d := d_law_all) rfl
  dLawFitting := c.def_ 48 (d := d_law_fitting) rfl
  dLawSmall := c.def_ 49 (d := d_law_small) rfl
  dLawUntoldDue := c.def_ 50 (d := d_law_untold_due) rfl
  dLawSmallRight := c.def_ 51 (d := d_law_small_right) rfl
  dLawGreatRight := c.def_ 52 (d := d_law_great_right) rfl
  dLaw := c.def_ 53 (d := d_law) rfl
  gIsWhole := He.glo_ok X G (c.fact 0 (f := .glo "is_whole") rfl)
  gIsBetween := He.glo_ok X G (c.fact 1 (f := .glo "is_between") rfl)
  gCheckNumber := He.glo_ok X G (c.fact 2 (f := .glo "check_number") rfl)
  gPowerOfTwo := He.glo_ok X G (c.fact 3 (f := .glo "power_of_two") rfl)
  gTwos := He.glo_ok X G (c.fact 4 (f := .glo "twos") rfl)
  gGoodRow := He.glo_ok X G (c.fact 5 (f := .glo "good_row") rfl)
  gIsWidth := He.glo_ok X G (c.fact 6 (f := .glo "is_width") rfl)
  gCheckWidth := He.glo_ok X G (c.fact 7 (f := .glo "check_width") rfl)
  gIsOfWidth := He.glo_ok X G (c.fact 8 (f := .glo "is_of_width") rfl)
  gRises := He.glo_ok X G (c.fact 9 (f := .glo "rises") rfl)
  gArePlaces := He.glo_ok X G (c.fact 10 (f := .glo "are_places") rfl)
  gCheckPlaces := He.glo_ok X G (c.fact 11 (f := .glo "check_places") rfl)
  gAreWords := He.glo_ok X G (c.fact 12 (f := .glo "are_words") rfl)
  gCheckWords := He.glo_ok X G (c.fact 13 (f := .glo "check_words") rfl)
  gIsKnownItem := He.glo_ok X G (c.fact 14 (f := .glo "is_known_item") rfl)
  gAreKnown := He.glo_ok X G (c.fact 15 (f := .glo "are_known") rfl)
  gCheckKnown := He.glo_ok X G (c.fact 16 (f := .glo "check_known") rfl)
  gCheckCode := He.glo_ok X G (c.fact 17 (f := .glo "check_code") rfl)
  gAmount := He.glo_ok X G (c.fact 18 (f := .glo "amount") rfl)
  gBitsAt := He.glo_ok X G (c.fact 19 (f := .glo "bits_at") rfl)
  gWordOf := He.glo_ok X G (c.fact 20 (f := .glo "word_of") rfl)
  gInverse := He.glo_ok X G (c.fact 21 (f := .glo "inverse") rfl)
  gItemOf := He.glo_ok X G (c.fact 22 (f := .glo "item_of") rfl)
  gBased := He.glo_ok X G (c.fact 23 (f := .glo "based") rfl)
  gIsFit := He.glo_ok X G (c.fact 24 (f := .glo "is_fit") rfl)
  gManyFit := He.glo_ok X G (c.fact 25 (f := .glo "many_fit") rfl)
  gFits := He.glo_ok X G (c.fact 26 (f := .glo "fits") rfl)
  gWordPossible := He.glo_ok X G (c.fact 27 (f := .glo "word_possible") rfl)
  gNumbered := He.glo_ok X G (c.fact 28 (f := .glo "numbered") rfl)
  gHowManyAhead := He.glo_ok X G (c.fact 29 (f := .glo "how_many_ahead") rfl)
  gCheckPart := He.glo_ok X G (c.fact 30 (f := .glo "check_part") rfl)
  gCheckPlace := He.glo_ok X G (c.fact 31 (f := .glo "check_place") rfl)
  gBitsList := He.glo_ok X G (c.fact 32 (f := .glo "bits_list") rfl)
  gToldBits := He.glo_ok X G (c.fact 33 (f := .glo "told_bits") rfl)
  gBitsTold := He.glo_ok X G (c.fact 34 (f := .glo "bits_told") rfl)
  gClosure := He.glo_ok X G (c.fact 35 (f := .glo "closure") rfl)
  gUntold := He.glo_ok X G (c.fact 36 (f := .glo "untold") rfl)
  gLawHash := He.glo_ok X G (c.fact 37 (f := .glo "_law_hash") rfl)
  gLawRandom := He.glo_ok X G (c.fact 38 (f := .glo "_law_random") rfl)
  gLawCell := He.glo_ok X G (c.fact 39 (f := .glo "_law_cell") rfl)
  gLawGenerator := He.glo_ok X G (c.fact 40 (f := .glo "_law_generator") rfl)
  gLawTwos := He.glo_ok X G (c.fact 41 (f := .glo "_law_twos") rfl)
  gLawSpots := He.glo_ok X G (c.fact 42 (f := .glo "_law_spots") rfl)
  gLawOrder := He.glo_ok X G (c.fact 43 (f := .glo "_law_order") rfl)
  gLawAmount := He.glo_ok X G (c.fact 44 (f := .glo "_law_amount") rfl)
  gLawPower := He.glo_ok X G (c.fact 45 (f := .glo "_law_power") rfl)
  gLawSome := He.glo_ok X G (c.fact 46 (f := .glo "_law_some") rfl)
  gLawAll := He.glo_ok X G (c.fact 47 (f := .glo "_law_all") rfl)
  gLawFitting := He.glo_ok X G (c.fact 48 (f := .glo "_law_fitting") rfl)
  gLawSmall := He.glo_ok X G (c.fact 49 (f := .glo "_law_small") rfl)
  gLawUntoldDue := He.glo_ok X G (c.fact 50 (f := .glo "_law_untold_due") rfl)
  gLawSmallRight := He.glo_ok X G (c.fact 51 (f := .glo "_law_small_right") rfl)
  gLawGreatRight := He.glo_ok X G (c.fact 52 (f := .glo "_law_great_right") rfl)
  gLaw := He.glo_ok X G (c.fact 53 (f := .glo "law") rfl)
  z_isinstance := He.free_ok X G (c.fact 54 (f := .free "isinstance") rfl)
  z_int := He.free_ok X G (c.fact 55 (f := .free "int") rfl)
  z_bool := He.free_ok X G (c.fact 56 (f := .free "bool") rfl)
  z_list := He.free_ok X G (c.fact 57 (f := .free "list") rfl)
  z_tuple := He.free_ok X G (c.fact 58 (f := .free "tuple") rfl)
  z_len := He.free_ok X G (c.fact 59 (f := .free "len") rfl)
  z_range := He.free_ok X G (c.fact 60 (f := .free "range") rfl)
  z_zip := He.free_ok X G (c.fact 61 (f := .free "zip") rfl)
  z_sum := He.free_ok X G (c.fact 62 (f := .free "sum") rfl)
  z_max := He.free_ok X G (c.fact 63 (f := .free "max") rfl)
  z_min := He.free_ok X G (c.fact 64 (f := .free "min") rfl)
  z_dict := He.free_ok X G (c.fact 65 (f := .free "dict") rfl)
  z_enumerate := He.free_ok X G (c.fact 66 (f := .free "enumerate") rfl)
  z_sorted := He.free_ok X G (c.fact 67 (f := .free "sorted") rfl)
  z_repr := He.free_ok X G (c.fact 68 (f := .free "repr") rfl)
  gMost := He.int_ok X G (c.fact 69 (f := .int "MOST_WIDTH" 64) rfl)

end Ap

open PySem PySem.W PySem.Calls PyProof.Rows
theorem PySem.Challenge.cw_anyplaces_k31_whole_closures_holds : PySem.Challenge.rw_anyplaces_k31_whole_closures.Holds := by
  w_on; o_law
  refine HandSHeadRun.head_any (r := OpenLaw.row PySem.Challenge.rw_anyplaces_k31_whole_closures) (q := view (OpenLaw.row PySem.Challenge.rw_anyplaces_k31_whole_closures).prog [68]) (H := Ap.hk) (ob := Ap.ob) (M := 6000) (loose := Ap.loose) (d := HandSHeadRun.topDef (OpenLaw.row PySem.Challenge.rw_anyplaces_k31_whole_closures).prog 68) (kwd := []) Ap.ob_eq
    (by kernel_rfl) (fun s => by kernel_rfl) Ap.run (by kernel_rfl) (by kernel_rfl) (by kernel_rfl) (by rfl) (by first | assumption | decide +kernel) (by decide +kernel) ⟨rfl, rfl, rfl, rfl, rfl, by decide +kernel⟩ ?hw ?hc
  case hw => w_witness2
  case hc =>
    refine Ap.walk_ofG (l := PySem.Challenge.rw_anyplaces_k31_whole_closures) (n := 63) (k := 10) (x := "_law_script") rfl (by decide) (by kernel_rfl) ⟨rfl, by decide, by decide⟩ ?F
    intro w mg fa h Y G hmg0
    obtain ⟨K, KX, c⟩ := Y
    have hmg : mg ("law" : PySem.Str) = some (.ref fa) := by
      have e : (HandSHeadRun.topDef (OpenLaw.row PySem.Challenge.rw_anyplaces_k31_whole_closures).prog 68).name = ("law" : PySem.Str) := by kernel_rfl
      rw [← e]
      exact hmg0
    have T := Ap.txt_of KX G c
    have e := hmg.symm.trans T.gLaw
    cases e
    obtain ⟨fd, F⟩ := T.dLaw
    have b := L2.FunD.bindsA (ps := ["_law_script"]) F fun _ _ _ _ _ _ us hl => match us, hl with | [_], _ => rfl
    exact ⟨K, fd, Ap.sp_law K, KX, fun s v => b s [v] rfl, fun H a ns hl hS => ⟨a, ns, rfl, hS, hl, fun _ => rfl⟩, fun base _ _ => Ap.ok_law T F⟩

